import PyProof.Rows.All
import Wide.All
import OpenK.AllK
import Wide.FinOn
import HandS.Wide
import HandS.Comp
import HandS.ExcCtx
import HandS.ForMost
import HandS.HotCalls
import HandS.Defaults
import HandS.ForExc
import HandS.ExcIs
import HandS.ExcField
import KE.KIsAll
import KE.KTryMore
import HandS.Exc
import KE.KExcSuper
import KE.KSuper
import HandS.ExcInit
import HandS.ExcSuper
import HandS.Nested
import HandS.ClsMeth
import HandS.HeadWalk
import KE.GoesMore
import HandS.Style
import HandS.IsInst
import HandS.TupAny
import KE.KTupSum
import HandS.Conv
import HandS.Walk
import HandS.Zip
import HandS.HeadHook1
import HandS.HeadHook2
import HandS.Words
import HandS.Head0
import HandS.Head1
import HandS.Head2
import HandS.HeadEnd
import PySem.Challenge.RW_nearbydown_k01_near_steps_and_distance
section
set_option Elab.async false
set_option linter.all false
set_option maxRecDepth 100000
/-! NBAir: exceptions that leave list comprehensions. -/
namespace NB
open PySem PySem.Spec PyProof.Rows L2
/-- an exception in the air over the frame Lf -/
def XEl (X : Cx) (Lf : Addr) (W : WX) (u : Value) (s' : Shared) : Prop :=
  ∃ (a : Addr) (B : Heap) (sI : Shared) (pins : List (Addr × Obj)) (σ : L2.St) (H : Hp) (cls : Value) (d : Option Addr),
    u = .ref a ∧ Inv X pins σ H sI ∧ (∀ b o, sI.heap.get? b = some o → b ∉ frs X.stack → B.get? b = some o) ∧ sI.heap.UpToSlots s'.heap ∧
      Sky B X.stack a (L2N.Zn cls d) Lf s'.heap ∧ H a = none ∧ s'.os = sI.os ∧ AllBare s'.gens ∧ W cls d σ H
def Tk (X : Cx) (Lf : Addr) (W : WX) : Prop := ∀ u s', XEl X Lf W u s' → X.xe u s'
theorem tk_def {X : Cx} {W : WX} (t : L2N.Takes X W) : Tk X X.env.locals W := fun u s' x => t u s' x
section
variable {X : Cx} {pins : List (Addr × Obj)} {σ : L2.St} {H : Hp} {s s' : Shared} {W : WX} {Lf : Addr}
theorem XEl.of_call (I : Inv X pins σ H s) {u : Value} (c : L2N.CX X.prog X.w X.stack H s (WE W σ) u s') : XEl X Lf W u s' := by
  have x := L2N.XE.of_call (W := W) I (fun _ _ _ h => h) c
  obtain ⟨a0, B0, H0, cls0, d0, rfl, fl, _⟩ := c
  obtain ⟨a, B, sI, pins', σ', H', cls, d, e, J, nb, up, sky, na, os, ag, w⟩ := x
  cases e
  refine ⟨a0, B, sI, pins', σ', H', cls, d, rfl, J, nb, up, ?_, na, os, ag, w⟩
  obtain ⟨_, _, _, oe, vs, T, oT, ts, he, hz, hd, h1, hnT, hTe, hT, hdT, h3⟩ := fl
  rcases sky with ⟨_, _, _, oe', vs', he', _, hd', h1'⟩ | fl' | ⟨_, _, _, oe', vs', T', oT', ts', he', _, hd', h1', _, _, hT', hdT', h3'⟩
  · rw [he] at he'; cases he'
    rw [hd] at hd'; cases hd'
    rw [h1] at h1'; cases h1'
  · exact .inr (.inl fl')
  · rw [he] at he'; cases he'
    rw [hd] at hd'; cases hd'
    rw [h1] at h1'; cases h1'
    rw [hT] at hT'; cases hT'
    rw [hdT] at hdT'; cases hdT'
    rw [h3] at h3'; cases h3'
theorem passL (tk : Tk X Lf W) (σ : L2.St) : PassesAt (L2N.CX X.prog X.w) X σ (WE W σ) := fun _ _ _ e s' I c => tk e s' (XEl.of_call I c)
end
theorem noteFrame_frame {env env' : Env} (h : env.frame = env'.frame) (x : Value) : noteFrame x env = noteFrame x env' := by
  unfold noteFrame PySem.frameOf
  rw [h]
theorem funFrames_ground {h h' B B' : Heap} (kb : ∀ b o, B'.get? b = some o → B.get? b = some o) : ∀ {l : List Env}, (∀ b ∈ frs l, h'.get? b = h.get? b) → h.FunFrames B l → h'.FunFrames B' l
  | [], _, _ => trivial
  | env :: rest, k, x => by
    obtain ⟨hk, ⟨L, o, hf, hn, ho, hd⟩, hr⟩ := x
    refine ⟨hk, ⟨L, o, hf, ?_, ?_, hd⟩, funFrames_ground kb (fun b hb => k b ?_) hr⟩
    · cases q : B'.get? L with
      | none => rfl
      | some u => rw [kb _ _ q] at hn; cases hn
    · rw [k L (List.mem_filterMap.mpr ⟨env, List.mem_cons_self, hf⟩)]; exact ho
    · obtain ⟨e, he, q⟩ := List.mem_filterMap.mp hb
      exact List.mem_filterMap.mpr ⟨e, List.mem_cons_of_mem _ he, q⟩
/-- what is asked at a comprehension's end; an exception goes on over the same frame -/
def endX (M : Model) (A : Around) (E : Value → Shared → Prop) (use : Option (Value → Sem Unit)) (Q : Value → Shared → Prop) (acc : Value) (ce : Env) (r : Result) (s' : Shared) : Prop := match r with
  | .ok f => compPost M A E use Q acc ce.locals (.ok f) s'
  | .error x => ∃ m, s'.heap.Ns ce.locals m ∧ ∀ h', Heap.SameBut ce.locals s'.heap h' → wpAny M A (passOn "comprehension.variables-let-go" x ce : Sem Value) (fun _ _ => False) E { s' with heap := h' }
theorem comprehension_x {M : Model} {A : Around} {E : Value → Shared → Prop} {s : Shared} {env : Env} {e : Expr} {scope : Scope} {pos : Pos} {newAcc first : Sem Value} {g : Comprehension} {gs : List Comprehension} {cl : List (Str × Addr)} {use : Option (Value → Sem Unit)}
    {Q : Value → Shared → Prop} (hcl : clausesOf e = g :: gs) (hs : ∀ x, foldedSetIterable g.iter env x = pure x) (hclos : closureFor scope env = pure cl)
    (hkind : scope.kind = .function) (hnames : ∀ x ∈ scope.names, x.2 = .local → scope.names.lookup x.1 = some .local)
    (h : wpAny M A first (fun x s₁ => wpAny M A (pyIter x) (fun it s₂ => wpAny M A newAcc (fun acc s₃ =>
      wpAny M A (newFunctionEnv scope env.globals cl [] env.qual none .none (some env)) (fun cenv s₄ =>
        codeAny M A (.compStart e 0 it acc { cenv with scope := relabel scope env }) (endX M A E use Q acc { cenv with scope := relabel scope env }) s₄) E s₃) E s₂) E s₁) E s) :
    wpAny M A (comprehension e scope env pos newAcc false first use) Q E s := by
  unfold comprehension
  rw [hclos, hcl]
  refine wpAny_bind (wpAny_mono h (fun x s₁ h₁ => wpAny_bind (wpAny_standAt (wpAny_bind (wpAny_of_eq (hs x) (wpAny_bind (wpAny_holding (wpAny_mono h₁ (fun it s₂ h₂ =>
    wpAny_standIf (wpAny_bind (wpAny_mono h₂ (fun acc s₃ h₃ => wpAny_bind (wpAny_pure (wpAny_bind (wpAny_mono h₃ (fun cenv s₄ h₄ => ?_) fun _ _ z => z)))) fun _ _ z => z)))
      fun _ _ z => z))))))) fun _ _ z => z)
  dsimp only
  have loc : ∀ x ∈ (scope.names.filter fun x => (x.2 == .local || x.2 == .cell) && x.1 != (".0" : Str)).reverse, x.2 = .local →
      Env.kindOf { cenv with scope := relabel scope env } x.1 = some .local := fun x hx hl => lookup_relabel_local (hnames x (List.mem_filter.mp (List.mem_reverse.mp hx)).1 hl)
  have loc2 : ∀ x ∈ (scope.names.filter fun x => (x.2 == .local || x.2 == .cell) && x.1 != (".0" : Str)).reverse.drop 1 ++ (scope.names.filter fun x => (x.2 == .local || x.2 == .cell) && x.1 != (".0" : Str)).reverse.take 1,
      x.2 = .local → Env.kindOf { cenv with scope := relabel scope env } x.1 = some .local := fun x hx hl => by
    rcases List.mem_append.mp hx with z | z
    · exact loc x (List.mem_of_mem_drop z) hl
    · exact loc x (List.mem_of_mem_take z) hl
  refine wpAny_holding (wpAny_bind (wpAny_attempt (wpAny_holding (wpAny_run (codeAny_mono h₄ fun r s' hr => ?_)))))
  cases r with
  | ok f =>
    cases use with
    | none =>
      obtain ⟨m, hn, hr⟩ := hr
      exact wpAny_bind (wpAny_holding (wpAny_comp_letGo (cenv := { cenv with scope := relabel scope env }) hkind _ s' m loc hn fun h' m' _ z => wpAny_pure (hr h' z)))
    | some u =>
      refine wpAny_bind (wpAny_rule (wpAny_bind (wpAny_holding (wpAny_mono hr (fun _ s'' hr' => ?_) fun _ _ z => z))))
      obtain ⟨m, hn, hr'⟩ := hr'
      exact wpAny_bind (wpAny_comp_letGo (cenv := { cenv with scope := relabel scope env }) hkind _ s'' m loc2 hn fun h' m' _ z => wpAny_pure (hr' h' z))
  | error x =>
    obtain ⟨m, hn, hr'⟩ := hr
    exact wpAny_bind (wpAny_holding (wpAny_comp_letGo (cenv := { cenv with scope := relabel scope env }) hkind _ s' m loc hn fun h' m' _ z => wpAny_mono (hr' h' z) (fun _ _ f => f.elim) fun _ _ y => y))
/-- the block's context -/
abbrev blkX (X : Cx) (s : Shared) (H : Hp) (scope : Scope) (cenv : Env) (fp : List Addr) (xe : Value → Shared → Prop) : Cx := (X.blk s H scope cenv fp).tr [] xe
section
variable {X : Cx} {pins : List (Addr × Obj)} {σ : L2.St} {H H3 : Hp} {s s3 : Shared} {W : WX} {Lf C : Addr} {ce : Env} {fp : List Addr} {scope : Scope} {use : Option (Value → Sem Unit)} {Qf : Value → Shared → Prop} {acc : Value}
/-- an exception in the block's air is taken around it -/
theorem tk_blk (tk : Tk X Lf W) (hst : ∃ e0 o0, X.stack = e0 :: o0 ∧ e0.frame = some Lf) (hce : ce.frame = some Lf) (cL : ce.locals = C) (I3 : Inv X pins σ H3 s3) (hC : s3.heap.objs.size ≤ C) (hfp : ∀ b ∈ fp, FpOk X pins H3 b)
    : Tk (blkX X s3 H3 scope ce fp (notedBy (model X.prog X.w) X.A ce fun e s' => endX (model X.prog X.w) X.A X.xe use Qf acc ce (.error e) s')) Lf (fun cls d _ H => W cls d σ H) := by
  rintro u s' ⟨a, B, sI, pins', σ', H', cls, d, rfl, I, nb, up, sky, na, os, ag, w⟩
  obtain ⟨e0, o0, est, ef⟩ := hst
  have hfr : X.A.frames = some (e0 :: o0) := by rw [← est]; exact I.ok.frames
  have nC : H' C = none := by
    have z : H' ce.locals = none := I.free
    rw [cL] at z; exact z
  have stC : C ∉ frs X.stack := fun hm => by
    obtain ⟨_, o, ho, _⟩ := I.ok.funs.mem hm
    exact absurd (Nat.lt_of_lt_of_le (Heap.lt_size ho) hC) (Nat.lt_irrefl _)
  show wpAny _ _ (noteFrame (.ref a) ce) _ _ _
  rw [noteFrame_frame (env' := e0) (hce.trans ef.symm)]
  have fin : ∀ h1, HandSPX.HeldZ B (e0 :: o0) a (L2N.Zn cls d) Lf h1 → s'.heap.UpToSlots h1 → endX (model X.prog X.w) X.A X.xe use Qf acc ce (.error (.ref a)) { s' with heap := h1 } := fun h1 hh up1 => by
    have J := I.landed nb hh.1 (up.trans up1) (s' := { s' with heap := h1 }) os ag
    obtain ⟨m, hn, _⟩ := J.loc
    have hn : h1.Ns ce.locals m := hn
    refine ⟨m, hn, fun h2 sb => ?_⟩
    rw [cL] at hn sb
    obtain ⟨oC, esC, epC, hC1, hC2, _⟩ := hn
    obtain ⟨k1, k2, k3, oe, vs, T, oT, ts, he, hz, hd, h1', hnT, hTe, hT, hdT, h3⟩ := hh
    have naC : a ≠ C := fun z => by rw [z, hC1] at he; cases he; rw [hC2] at hd; cases hd
    have nTC : T ≠ C := fun z => by rw [z, hC1] at hT; cases hT; rw [hC2] at hdT; cases hdT
    have B2n : (PySem.W.hideAll B [C]).get? C = none := PySem.W.hideAll_none _ (by simp)
    have B2 : ∀ b o, (PySem.W.hideAll B [C]).get? b = some o → b ≠ C ∧ B.get? b = some o := fun b o e => ⟨(fun z => by rw [z, B2n] at e; cases e), PySem.W.of_hideAll _ e⟩
    have none2 : ∀ b, B.get? b = none → (PySem.W.hideAll B [C]).get? b = none := fun b e => by
      cases q : (PySem.W.hideAll B [C]).get? b with
      | none => rfl
      | some o => rw [(B2 b o q).2] at e; cases e
    have tr : HandSPX.TracedZ h2 (PySem.W.hideAll B [C]) a (L2N.Zn cls d) (rawInt Lf) := ⟨oe, vs, T, oT, ts, (sb.2 a naC).trans he, hz, hd, h1', none2 T hnT, hTe, (sb.2 T nTC).trans hT, hdT, h3⟩
    unfold PySem.passOn
    refine wpAny_bind (wpAny_field (s := { s' with heap := h2 }) ((sb.2 a naC).trans he) hd h1' ?_)
    rw [if_neg (show ¬ ((Value.ref T == Value.none) = true) from by simp)]
    have go : wpAny (model X.prog X.w) X.A (setFlight (.ref a) ce.frame) (fun _ s4 => wpAny (model X.prog X.w) X.A (throw (.ref a) : Sem Value) (fun _ _ => False) X.xe s4) X.xe { s' with heap := h2 } := by
      rw [hce]
      refine HandSPX.setFlight_anyZ (s := { s' with heap := h2 }) (base := PySem.W.hideAll B [C]) (l := e0 :: o0) (fun b o e => ?_) (funFrames_ground (fun b o e => (B2 b o e).2) (fun b hb => sb.2 b fun z => stC (by rw [est, ← z]; exact hb)) k3) tr fun h3 q1 q2 q3 q4 => wpAny_throw (tk _ _ ?_)
      · obtain ⟨n1, n2⟩ := B2 b o e
        exact (sb.2 b n1).trans (k1 b o n2)
      · have f := I3.fpOk (H' := H') hC nC
        obtain ⟨f0, f1, f2, f3, f4, f5⟩ := f
        have I7 : Inv X pins σ H' sI := I3.call' (ch := fp) I.os I.base I.hok I.bare fun b hb => ⟨(hfp b hb).2.2.2.1, (hfp b hb).2.1, (hfp b hb).2.2.2.2.1, (hfp b hb).2.2.2.2.2⟩
        refine ⟨a, PySem.W.hideAll B [C], { sI with heap := PySem.W.hideAll sI.heap [C] }, pins, σ, H', cls, d, rfl, I7.turned (t' := sI.toks) (fun b o hb e => PySem.W.hideAll_get _ e (by simpa using hb)) f0 f1 f3 f4 f5, fun b o e hb => ?_, fun b o e hnf => ?_, .inr (.inr ?_), na, os, ag, w⟩
        · have e1 := PySem.W.of_hideAll _ e
          have nb' := nb b o e1 hb
          refine PySem.W.hideAll_get _ nb' fun z => ?_
          have z : b = C := by simpa using z
          subst z
          have := PySem.W.hideAll_none (l := [b]) (h := sI.heap) (b := b) (by simp)
          rw [this] at e; cases e
        · have e1 := PySem.W.of_hideAll _ e
          have nbC : b ≠ C := fun z => by
            subst z
            have := PySem.W.hideAll_none (l := [b]) (h := sI.heap) (b := b) (by simp)
            rw [this] at e; cases e
          obtain ⟨sl1, z1⟩ := (up.trans up1) b o e1 hnf
          obtain ⟨sl2, z2⟩ := q4 b { o with slots := sl1 } ((sb.2 b nbC).trans z1) hnf
          exact ⟨sl2, z2⟩
        · rw [est]
          exact ⟨q1, none2 a k2, q2, q3⟩
    first
      | exact wpAny_bind (wpAny_pure (wpAny_bind go))
      | exact wpAny_bind go
  have sky' : Sky B (e0 :: o0) a (L2N.Zn cls d) Lf s'.heap := by rw [← est]; exact sky
  rcases sky' with ⟨hB, hn, hl, oe, vs, he, hz, hd, h1⟩ | fl | hh
  · exact PXN.look_newZ L2N.Zn.steady hfr hl ef he hB hn hd h1 hz fin
  · exact PXN.looks_onZ L2N.Zn.steady hfr ef fl fin
  · exact HandSPX.againZ ef hh.2.2.2 (fin s'.heap hh (Heap.UpToSlots.refl _))
end
end NB
end
section
set_option Elab.async false
set_option linter.all false
set_option maxRecDepth 100000
/-! NBLc: list comprehensions whose turns may raise. -/
namespace NB
open PySem PySem.Spec PyProof.Rows L2
section
variable {X : Cx} {pins : List (Addr × Obj)} {σ : L2.St} {H : Hp} {s : Shared} {W : WX} {Lf : Addr}
theorem lcx_core {Q : VK} {elt tg iter : Expr} {ifs : List Expr} {scope : Scope} {own : List (Str × Nat)} {pos pos' : Pos} {wi : TI} {g : TG} {tt : TT} {te : TE} {use : Option (Value → Sem Unit)} {Qf : Value → Shared → Prop}
    (hc : X.calm = true) (hN : X.N.Nodup) (tk : Tk X Lf W) (hfr : X.env.frame = some Lf) (hst : ∃ e0 o0, X.stack = e0 :: o0 ∧ e0.frame = some Lf) (I : Inv X pins σ H s) (hi : PI X tg iter wi) (ok : BlkOk X.N X.env.scope scope own)
    (hg : ∀ (s : Shared) (H : Hp) (C : Addr) (cl : List (Str × Addr)) (fp : List Addr) xe, Tk (blkX X s H scope (compEnvC scope cl C X.env) fp xe) Lf (fun cls d _ H => W cls d σ H) → PG (blkX X s H scope (compEnvC scope cl C X.env) fp xe) tg g)
    (ht : ∀ (s : Shared) (H : Hp) (C : Addr) (cl : List (Str × Addr)) (fp : List Addr) xe, Tk (blkX X s H scope (compEnvC scope cl C X.env) fp xe) Lf (fun cls d _ H => W cls d σ H) → PTs (blkX X s H scope (compEnvC scope cl C X.env) fp xe) ifs tt)
    (he : ∀ (s : Shared) (H : Hp) (C : Addr) (cl : List (Str × Addr)) (fp : List Addr) xe, Tk (blkX X s H scope (compEnvC scope cl C X.env) fp xe) Lf (fun cls d _ H => W cls d σ H) → PE (blkX X s H scope (compEnvC scope cl C X.env) fp xe) elt te)
    (hs : ∀ x, foldedSetIterable iter X.env x = pure x) (h : tLc wi g tt te (own.map (·.2)) σ H Q)
    (hRR : ∀ D C s' m H', Inv X pins σ H' s' → Q (.ref D) H' → s'.heap.Ns C m → FpOk X pins H' C → compPost (model X.prog X.w) X.A X.xe use Qf (.ref D) C (.ok .next) s') :
    wpAny (model X.prog X.w) X.A (comprehension (.ListComp elt [⟨tg, iter, ifs, 0⟩] scope pos) scope X.env pos' (newList []) false (eval iter X.env) use) Qf X.xe s := by
  have hfree : ∀ y ∈ scope.names, y.2 = .free → ∃ c, X.env.cells.lookup y.1 = some c := fun y hy e => by
    rcases ok.free y hy e with k | k
    · exact I.ok.has _ (.inl k)
    · exact I.ok.has _ (.inr k)
  refine comprehension_x (use := use) rfl hs (closure_ok hfree) ok.kind (fun y hy e => by rw [ok.uniq y hy, e])
    (thn (hi.run pins s σ H _ I h) fun xv s1 hx => thn hx fun itv s2 h2 => ?_)
  obtain ⟨it, fp, tn, J, H2, e, I2, T, st2, f2, q⟩ := h2
  subst e
  refine wpAny_newObj_type (newEnv_comp ?_) (by show 0 ≤ sizeLine; decide)
  generalize hD : s2.heap.objs.size = D
  have hDn : H2 D = none := I2.hok.fresh (Nat.le_of_eq hD)
  obtain ⟨Wt, ⟨m0, w0⟩, turn⟩ := q D hDn
  generalize hs3 : ({ s2 with heap := s2.heap.push { cls := .type "list", data := .seq ([] : List Value).toArray } } : Shared) = s3
  have I3 : Inv X pins σ (upd H2 D (.lst [])) s3 := by
    rw [← hs3]
    refine I2.laid (t' := s2.toks) (fun b o e => Heap.get?_push_of_some _ e) (Nat.le_of_eq hD) ⟨Nat.zero_le _, [], 0, .nil, ?_⟩
    rw [← hD]
    exact Heap.get?_push_size _ rfl
  have h3 : s3.heap = s2.heap.push { cls := .type "list", data := .seq ([] : List Value).toArray } := by rw [← hs3]
  have sz : ∀ b ∈ fp, b < s2.heap.objs.size := fun b hb => by
    obtain ⟨o, e, _⟩ := T.obj _ _ st2 b hb
    exact Heap.lt_size e
  have f3 : ∀ b ∈ fp, FpOk X pins (upd H2 D (.lst [])) b ∧ b < s3.heap.objs.size := fun b hb => by
    have hlt := sz b hb
    refine ⟨⟨?_, (f2 b hb).2⟩, by rw [h3, Heap.size_push]; exact Nat.lt_succ_of_lt hlt⟩
    rw [upd_ne (by rw [← hD]; exact Nat.ne_of_lt hlt)]
    exact (f2 b hb).1
  have st3 : tn 0 s3.heap := T.keep _ _ _ st2 fun b _ o e => by rw [h3]; exact Heap.get?_push_of_some _ e
  have I4 := block_start I3 ok hN f3
  have pg := hg s3 (upd H2 D (.lst [])) s3.heap.objs.size (cellsFrom (s3.heap.objs.size + 1) scope.names (cloFrom X.env.cells scope.names [])) fp
  have pt := ht s3 (upd H2 D (.lst [])) s3.heap.objs.size (cellsFrom (s3.heap.objs.size + 1) scope.names (cloFrom X.env.cells scope.names [])) fp
  have pe := he s3 (upd H2 D (.lst [])) s3.heap.objs.size (cellsFrom (s3.heap.objs.size + 1) scope.names (cloFrom X.env.cells scope.names [])) fp
  show codeAny _ _ (.compStart (.ListComp elt [⟨tg, iter, ifs, 0⟩] scope pos) 0 (.ref it) (.ref D) (compEnvC scope (cellsFrom (s3.heap.objs.size + 1) scope.names (cloFrom X.env.cells scope.names [])) s3.heap.objs.size X.env)) (endX (model X.prog X.w) X.A X.xe use Qf (.ref D) (compEnvC scope (cellsFrom (s3.heap.objs.size + 1) scope.names (cloFrom X.env.cells scope.names [])) s3.heap.objs.size X.env)) { s3 with heap := pushCells (s3.heap.push { cls := .type "dict", data := .dict #[] }) scope.names }
  have nfp : ∀ b ∈ fp, (upd H2 D (.lst [])) b = none := fun b hb => (f3 b hb).1.1
  have fr : (compEnvC scope (cellsFrom (s3.heap.objs.size + 1) scope.names (cloFrom X.env.cells scope.names [])) s3.heap.objs.size X.env).frame = some Lf := hfr
  generalize hce : compEnvC scope (cellsFrom (s3.heap.objs.size + 1) scope.names (cloFrom X.env.cells scope.names [])) s3.heap.objs.size X.env = ce at I4 pg pt pe fr ⊢
  have cL : ce.locals = s3.heap.objs.size := by subst hce; rfl
  generalize hH3 : upd H2 D (.lst []) = H3 at I3 I4 pg pt pe w0 nfp f3
  generalize hs4 : ({ s3 with heap := pushCells (s3.heap.push { cls := .type "dict", data := .dict #[] }) scope.names } : Shared) = s4 at I4 ⊢
  have st4 : tn 0 s4.heap := T.keep _ _ _ st3 fun b _ o e => by rw [← hs4]; exact pushCells_keeps _ _ _ _ (Heap.get?_push_of_some _ e)
  have tkB := tk_blk (use := use) (Qf := Qf) (acc := Value.ref D) (scope := scope) tk hst fr cL I3 (Nat.le_refl _) (fun b hb => (f3 b hb).1)
  have pg := pg _ tkB
  have pt := pt _ tkB
  have pe := pe _ tkB
  have I4 := I4.toTry (notedBy (model X.prog X.w) X.A ce fun e s' => endX (model X.prog X.w) X.A X.xe use Qf (.ref D) ce (.error e) s')
  generalize hXB : blkX X s3 H3 scope ce fp (notedBy (model X.prog X.w) X.A ce fun e s' => endX (model X.prog X.w) X.A X.xe use Qf (.ref D) ce (.error e) s') = XB at tkB pg pt pe
  have bp : XB.prog = X.prog := by subst hXB; rfl
  have bw : XB.w = X.w := by subst hXB; rfl
  have bk : XB.K = X.K := by subst hXB; rfl
  have bA : XB.A = X.A := by subst hXB; rfl
  have be : XB.env = ce := by subst hXB; rfl
  have bx : XB.xe = notedBy (model X.prog X.w) X.A ce fun e s' => endX (model X.prog X.w) X.A X.xe use Qf (.ref D) ce (.error e) s' := by subst hXB; rfl
  have bc : XB.calm = true := by subst hXB; exact hc
  have I4 : Inv XB [] (wipe σ (own.map (·.2))) H3 s4 := by subst hXB; exact I4
  have bex : XB.ex = fp := by subst hXB; rfl
  have bpn : XB.pn = [] := by subst hXB; rfl
  have stat : ∀ {σ' : L2.St} {H' : Hp} {s' : Shared}, Inv XB [] σ' H' s' → (∀ b ∈ fp, H' b = none) → ∀ b ∈ fp, FpOk XB [] H' b := fun {σ' H' s'} I' hn b hb =>
    have hb' : b ∈ XB.ex := by rw [bex]; exact hb
    ⟨hn b hb, (I'.ok.exf b hb').1, I'.ok.exfs b hb', .inl hb', fun x c e => (I'.ok.exf b hb').2 x c e, fun p hp => by rw [bpn] at hp; exact absurd hp (by simp)⟩
  have back : ∀ {σ' : L2.St} {H' : Hp} {s' : Shared}, Inv XB [] σ' H' s' → Inv X pins σ H' s' ∧ H' s3.heap.objs.size = none ∧ ∃ m, s'.heap.Ns s3.heap.objs.size m := fun {σ' H' s'} I' => by
    subst hXB
    refine ⟨I3.call' (ch := fp) I'.os I'.base I'.hok I'.bare fun b hb => ⟨(f3 b hb).1.2.2.2.1, (f3 b hb).1.2.1, (f3 b hb).1.2.2.2.2.1, (f3 b hb).1.2.2.2.2.2⟩, ?_, ?_⟩
    · have z : H' ce.locals = none := I'.free
      rw [cL] at z
      exact z
    · obtain ⟨m, hn, _⟩ := I'.loc
      have hn : s'.heap.Ns ce.locals m := hn
      rw [cL] at hn
      exact ⟨m, hn⟩
  have loop : codeAny (model X.prog X.w) X.A (.compLoop (.ListComp elt [⟨tg, iter, ifs, 0⟩] scope pos) 0 (.ref it) (.ref D) ce) (endX (model X.prog X.w) X.A X.xe use Qf (.ref D) ce) s4 := by
    have run_g := pg.run
    have run_t := pt.run
    have run_e := pe.run
    rw [bp, bw, bA, be, bx] at run_g run_t run_e
    refine compLoop_any (fun n s' => ∃ i H', Inv XB [] (wipe σ (own.map (·.2))) H' s' ∧ tn i s'.heap ∧ (∀ b ∈ fp, H' b = none) ∧ Wt i n H') ?_ m0 ⟨0, H3, I4, st4, nfp, w0⟩
    rintro n s5 ⟨i, H5, I5, st5, n5, w5⟩
    rcases turn i n H5 w5 with ⟨stop, qq⟩ | ⟨go, Nx, hNx, step⟩
    · have td := T.done XB bp bw bk bc i [] s5 _ H5 (fun _ _ => False) I5 (stat I5 n5) st5 stop
      rw [bA] at td
      refine thnF td fun r s6 ⟨hr, I6⟩ => ?_
      subst hr
      obtain ⟨I7, nC, m, hn⟩ := back I6
      have := hRR D s3.heap.objs.size s6 m H5 I7 qq hn (I3.fpOk (Nat.le_refl _) nC)
      show compPost _ _ _ _ _ _ ce.locals _ _
      rw [cL]
      exact this
    · have ti := T.item XB bp bw bk bc i [] s5 _ H5 (fun _ _ => False) I5 (stat I5 n5) st5 go
      rw [bA] at ti
      refine thnF ti fun r s6 ⟨u, hr, h6⟩ => ?_
      subst hr
      refine thnF h6 fun _ s7 ⟨x, H7, I7, r7, y7, st7, n7⟩ => ?_
      have I7' := I7.pinned (stat I7 n7) (T.obj _ _ st7)
      refine thn (run_g _ s7 _ H7 x u _ I7' r7 (step x H7 y7)) fun _ s8 ⟨σ8, H8, I8, hw8, q8⟩ => ?_
      refine thn (run_t _ s8 σ8 H8 _ I8 q8) fun b s9 ⟨H9, I9, q9⟩ => ?_
      have fin : ∀ {s' : Shared} {H' : Hp}, Inv XB ([] ++ pinsAt fp s7.heap) σ8 H' s' → Nx H' → ∃ m, m < n ∧ ∃ i H', Inv XB [] (wipe σ (own.map (·.2))) H' s' ∧ tn i s'.heap ∧ (∀ b ∈ fp, H' b = none) ∧ Wt i m H' := fun {s' H'} I' nx => by
        obtain ⟨m', hm, w'⟩ := hNx H' nx
        have pin' : ∀ b ∈ fp, ∀ o, s7.heap.get? b = some o → s'.heap.get? b = some o ∧ H' b = none := fun b hb o e =>
          let z := I'.pin (b, o) (List.mem_append_right _ (List.mem_append_right _ (mem_pinsAt hb e)))
          ⟨z.1, z.2.1⟩
        have hl : (wipe σ (own.map (·.2))).length = σ8.length := by rw [← hw8, wipe_length]
        refine ⟨m', hm, i + 1, H', (I'.unpinned (pins := [])).weak hl (fun j v e => ?_), T.keep _ _ _ st7 fun b hb o e => (pin' b hb o e).1, fun b hb => ?_, w'⟩
        · rw [← hw8] at e
          exact (wipe_some e).1
        · obtain ⟨o, e, _⟩ := T.obj _ _ st7 b hb
          exact (pin' b hb o e).2
      cases b with
      | false =>
        simp only [Bool.false_eq_true, if_false] at q9 ⊢
        exact fin I9 q9
      | true =>
        simp only [if_true] at q9 ⊢
        refine thn (run_e _ s9 σ8 H9 _ I9 q9) fun z s10 ⟨yv, H10, I10, r10, acc, hD10, hz10, nx⟩ => ?_
        have ap := app_ok (E := notedBy (model X.prog X.w) X.A ce fun e s' => endX (model X.prog X.w) X.A X.xe use Qf (.ref D) ce (.error e) s') (Q := fun _ s5 => ∃ m, m < n ∧ ∃ i H', Inv XB [] (wipe σ (own.map (·.2))) H' s5 ∧ tn i s5.heap ∧ (∀ b ∈ fp, H' b = none) ∧ Wt i m H') (X := XB) I10 hD10 hz10 r10 fun s11 I11 => fin I11 nx
        rw [bp, bw, bA] at ap
        exact ap
  exact codeAny_compStart_list loop (T.self X.A 0 _ _ _ st4 loop)
/-- as a value -/
theorem pe_lcx {elt tg iter : Expr} {ifs : List Expr} {scope : Scope} {own : List (Str × Nat)} {pos : Pos} {wi : TI} {g : TG} {te : L2.St → TE} (hc : X.calm = true) (hN : X.N.Nodup) (tk : Tk X Lf W) (hfr : X.env.frame = some Lf) (hst : ∃ e0 o0, X.stack = e0 :: o0 ∧ e0.frame = some Lf) (hi : PI X tg iter wi) (ok : BlkOk X.N X.env.scope scope own)
    {tt : L2.St → TT} (hg : ∀ (s : Shared) (H : Hp) (C : Addr) (cl : List (Str × Addr)) (fp : List Addr) xe σ, Tk (blkX X s H scope (compEnvC scope cl C X.env) fp xe) Lf (fun cls d _ H => W cls d σ H) → PG (blkX X s H scope (compEnvC scope cl C X.env) fp xe) tg g)
    (ht : ∀ (s : Shared) (H : Hp) (C : Addr) (cl : List (Str × Addr)) (fp : List Addr) xe σ, Tk (blkX X s H scope (compEnvC scope cl C X.env) fp xe) Lf (fun cls d _ H => W cls d σ H) → PTs (blkX X s H scope (compEnvC scope cl C X.env) fp xe) ifs (tt σ))
    (he : ∀ (s : Shared) (H : Hp) (C : Addr) (cl : List (Str × Addr)) (fp : List Addr) xe σ, Tk (blkX X s H scope (compEnvC scope cl C X.env) fp xe) Lf (fun cls d _ H => W cls d σ H) → PE (blkX X s H scope (compEnvC scope cl C X.env) fp xe) elt (te σ))
    (hs : ∀ x, foldedSetIterable iter X.env x = pure x) :
    PE X (.ListComp elt [⟨tg, iter, ifs, 0⟩] scope pos) (fun σ H Q => tLc wi g (tt σ) (te σ) (own.map (·.2)) σ H Q) := by
  refine ⟨fun pins s σ H Q I h => ?_⟩
  rw [eval_ListComp]
  refine lcx_core hc hN tk hfr hst I hi ok (fun s H C cl fp xe => hg s H C cl fp xe σ) (fun s H C cl fp xe => ht s H C cl fp xe σ) (fun s H C cl fp xe => he s H C cl fp xe σ) hs h fun D C s' m H' I' q hn f => ⟨m, hn, fun h'' sb => ?_⟩
  obtain ⟨f0, f1, f2, f3, f4, f5⟩ := f
  exact ⟨.ref D, H', I'.turned (t' := s'.toks) (fun b o hb e => (sb.2 b hb).trans e) f0 f1 f3 f4 f5, rfl, q⟩
/-- name = [..] on one line, the name a local -/
theorem ps_setLcx {i : Nat} {y : Str} {py : Pos} {elt tg iter : Expr} {ifs : List Expr} {scope : Scope} {own : List (Str × Nat)} {pos spos : Pos} {wi : TI} {g : TG} {te : L2.St → TE} (hc : X.calm = true) (hN : X.N.Nodup) (tk : Tk X Lf W) (hfr : X.env.frame = some Lf) (hst : ∃ e0 o0, X.stack = e0 :: o0 ∧ e0.frame = some Lf) (hy : X.N[i]? = some y) (hyl : X.env.scope.names.lookup y = some .local)
    (hsw : swapsWith (.ListComp elt [⟨tg, iter, ifs, 0⟩] scope pos) (some (.Name y py)) spos.line X.env = pure true) (hi : PI X tg iter wi) (ok : BlkOk X.N X.env.scope scope own)
    {tt : L2.St → TT} (hg : ∀ (s : Shared) (H : Hp) (C : Addr) (cl : List (Str × Addr)) (fp : List Addr) xe σ, Tk (blkX X s H scope (compEnvC scope cl C X.env) fp xe) Lf (fun cls d _ H => W cls d σ H) → PG (blkX X s H scope (compEnvC scope cl C X.env) fp xe) tg g)
    (ht : ∀ (s : Shared) (H : Hp) (C : Addr) (cl : List (Str × Addr)) (fp : List Addr) xe σ, Tk (blkX X s H scope (compEnvC scope cl C X.env) fp xe) Lf (fun cls d _ H => W cls d σ H) → PTs (blkX X s H scope (compEnvC scope cl C X.env) fp xe) ifs (tt σ))
    (he : ∀ (s : Shared) (H : Hp) (C : Addr) (cl : List (Str × Addr)) (fp : List Addr) xe σ, Tk (blkX X s H scope (compEnvC scope cl C X.env) fp xe) Lf (fun cls d _ H => W cls d σ H) → PE (blkX X s H scope (compEnvC scope cl C X.env) fp xe) elt (te σ))
    (hs : ∀ x, foldedSetIterable iter X.env x = pure x) :
    PS X (.Assign [.Name y py] (.ListComp elt [⟨tg, iter, ifs, 0⟩] scope pos) spos) (tAsg (fun σ H Q => tLc wi g (tt σ) (te σ) (own.map (·.2)) σ H Q) (gName i)) := by
  refine ⟨fun pins s σ H D I h => ?_⟩
  rw [exec_Assign_Name_used _ _ _ _ hsw]
  refine wpAny_bind (wpAny_standAt (wpAny_bind ?_))
  show wpAny _ X.A (do let _ ← comprehension (.ListComp elt [⟨tg, iter, ifs, 0⟩] scope pos) scope X.env (firstIterPos [⟨tg, iter, ifs, 0⟩] pos) (newList []) false (eval iter X.env) (some (assign (.Name y py) X.env))) _ _ s
  have h : tLc wi g (tt σ) (te σ) (own.map (·.2)) σ H (fun x H1 => gName i x σ H1 D.nx) := h
  refine wpAny_bind (thn (lcx_core (Qf := fun _ s' => SP X pins D .next s') hc hN tk hfr hst I hi ok (fun s H C cl fp xe => hg s H C cl fp xe σ) (fun s H C cl fp xe => ht s H C cl fp xe σ) (fun s H C cl fp xe => he s H C cl fp xe σ) hs h fun L C s' m H' I' q hn f => ?_) fun _ s' hq => wpAny_pure (wpAny_pure hq))
  show wpAny _ _ (assign (.Name y py) X.env (.ref L)) _ _ _
  refine wpAny_assign_Name (store_ok2 (v := V.ref L) I' hN hy (.inl hyl) rfl (fun s2 I2 ⟨a, sb, ha⟩ => ?_) (.inr hyl))
  obtain ⟨f0, f1, f2, f3, f4, f5⟩ := f
  have haC : C ≠ a := by
    rcases ha with z | z
    · rw [z]; exact f1
    · exact fun e => f4 y a z e.symm
  refine ⟨m, hn.sameBut sb haC, fun h3 sb3 => ?_⟩
  exact ⟨_, H', I2.turned (t' := s2.toks) (fun b o hb e => (sb3.2 b hb).trans e) f0 f1 f3 f4 f5, q⟩
end
end NB
end
section
set_option Elab.async false
set_option linter.all false
set_option maxRecDepth 100000
/-! NBHot: defs called within an except suite, the handled error known. -/
namespace NB
open PySem PySem.Spec PyProof.Rows L2 L2H
/-- p is the error at x.1, its class at x.2.1, its dict at x.2.2 -/
structure PinX (x : Addr × Addr × Addr) (p : Addr × Obj) : Prop where
  a : p.1 = x.1
  cls : p.2.cls = .ref x.2.1
  dict : p.2.dict = some x.2.2
  data : ∃ vs, p.2.data = .fields vs
structure FnX (P : Program) (w : World) (K : PySem.W.Frag) (mg : Str → Option Value) (base : Heap) (CX : CXT) (k : Nat) (f : Addr) (fd : FuncData) (ps : List Str) (x : Addr × Addr × Addr) (sp : Sp) : Prop where
  len : ∀ vs H Q E, sp vs H Q E → vs.length = ps.length
  run : ∀ (A : Around) (outer : List Env) (s : Shared) (H : Hp) (args : Args) (us : List Value) (vs : List V) (Q : VK) (E : XK) (p : Addr × Obj), PinX x p → RoomH k A → Hot1 A p → PinOk outer H s p → Env0 P w K mg base A outer s H → BindsTo s fd args (ps.zip us) → Vals vs us → sp vs H Q E →
    codeAny (model P w) A (.call (.ref f) args) (CR CX outer P w H s Q E) s
theorem fn_ofX {CX : CXT} {P : Program} {w : World} {K : PySem.W.Frag} {mg : Str → Option Value} {base : Heap} {k : Nat} {f : Addr} {name qual : Str} {params : Arguments} {body : List Stmt} {scope : Scope} {dvs : List V} {kws : List (Str × V)} {fd : FuncData}
    {N ps : List Str} {x : Addr × Addr × Addr} {sp : Sp} (Fd : FunD K name qual params body scope dvs kws f fd) (S : FnScope N ps scope)
    (len : ∀ vs H Q E, sp vs H Q E → vs.length = ps.length)
    (hbody : ∀ (cdv : Value) (A : Around) (outer : List Env) (s : Shared) (H : Hp) (vs : List V) (Q : VK) (E : XK) (p : Addr × Obj), PinX x p → Hot1 A p → RoomH k (A.deeper (envOfC qual scope s.heap.objs.size f cdv)) → sp vs H Q E →
      ∃ t, PSs (cxH CX P w K mg base N qual scope f cdv A outer s H E p) body t ∧ t { nx := fun _ H' => Q .non H', rt := Q } (L2.start N vs) H) :
    FnX P w K mg base CX (k + 1) f fd ps x sp := by
  obtain ⟨oc, od, dV, kV, doc, pm, an, cdv, ct, osl, rfl, lk, hcd, _, _⟩ := Fd.ex
  refine ⟨len, fun A outer s H args us vs Q E p px hr hot hpin e0 hb r hsp => ?_⟩
  have hl := len _ _ _ _ hsp
  have KX : K.In s.heap := e0.mod.kin.keeps fun b o e => (e0.bs b o e).1
  have lim : s.heap.NoLimit := e0.mod.nolimit.keeps fun b o e => (e0.bs b o e).1
  have hkind : ∀ y ∈ ps.zip us, scope.names.lookup y.1 = some .local ∨ (scope.names.lookup y.1 = some .cell ∧ ((cellsFrom (s.heap.objs.size + 1) scope.names []).lookup y.1).isSome = true) := fun ⟨n, v⟩ hy => by
    rcases S.par n (List.of_mem_zip hy).1 with q | q
    · exact .inl q
    · exact .inr ⟨q, PySem.W.cellsFrom_some _ _ _ (.inl q)⟩
  refine codeAny_call_function hr.depth (KX _ _ lk) rfl S.co S.gen rfl (PySem.W.codeRec_of KX hcd) (hb _ _ _ _ ?_)
  refine wpAny_newFunctionEnv_cells S.kind hkind fun env he s1 y => ?_
  subst he
  refine ⟨lim.keeps y.toInCall.keep, codeAny_func ?_⟩
  obtain ⟨t, ht, hq⟩ := hbody cdv A outer s H vs Q E p px hot (hr.deeper _) hsp
  have I : Inv (cxH CX P w K mg base N qual scope f cdv A outer s H E p) [] (L2.start N vs) H s1 := inv_startH S hpin e0 hl r y
  refine wpAny_mono (ht.run [] s1 (L2.start N vs) H _ I hq) (fun fl s' hs => ?_) fun e s' hs => hs
  have fin : ∀ {σ' : L2.St} {H' : Hp} {v : V} {u : Value}, Inv (cxH CX P w K mg base N qual scope f cdv A outer s H E p) [] σ' H' s' → RelV v u → Q v H' → CE outer P w H s Q u s' :=
    fun {σ' H' v u} J rv q => ⟨v, H', J.os, J.bare, J.base, J.hok, rv, q⟩
  cases fl with
  | ret u => obtain ⟨v, σ', H', J, rv, q⟩ := hs; exact fin J rv q
  | next => obtain ⟨σ', H', J, q⟩ := hs; exact fin (v := V.non) (u := Value.none) J rfl q
  | brk => obtain ⟨_, _, _, q⟩ := hs; exact False.elim q
  | cont => obtain ⟨_, _, _, q⟩ := hs; exact False.elim q
section
variable {X : Cx} {CX : CXT} {k : Nat} {f : Addr} {fd : FuncData} {ps : List Str} {sp : Sp} {E : L2.St → XK} {x : Addr × Addr × Addr} {y : Str} {q pos : Pos} {e : Expr} {es : List Expr} {t : TA} {p : Addr × Obj}
/-- a call where the error p is handled -/
theorem pe_callX (F : FnX X.prog X.w X.K X.mg X.base CX k f fd ps x sp) (px : PinX x p) (hr : RoomH k X.A) (hot : Hot1 X.A p) (hp : p ∈ X.pn) (hg : Gl X y) (hm : X.mg y = some (.ref f)) (hk : PySem.W.keepIn X.K (.ref f) = true) (hb : Binds X.K fd ps []) (hx : ∀ σ, PassesAt CX X σ (E σ))
    (ha : PA X (e :: es) t) (hdb : (y == ("__debug__" : Str)) = false) (he : starEach (e :: es) X.env = (false, eval e X.env) :: starEach es X.env) (hpl : (backTo pos (starEach es X.env)).any (·.1) = false) :
    PE X (.Call (.Name y q) (e :: es) [] pos) (tCallS sp E t) := by
  refine ⟨fun pins s σ H Q I h => ?_⟩
  refine wpAny_Call_Name_kw (ld_glob I hg hm ?_ hdb)
  refine PySem.W.callWith_K (h₀ := X.base) I.ok.mod.kin hk (thn (ha.run pos pins s σ H _ I h) fun us s1 ⟨vs, H1, I1, r, q⟩ => ⟨I1.kIn, ?_⟩) he hpl
  have hl : us.length = ps.length := by rw [← r.length]; exact F.len _ _ _ _ q
  have b := hb s1 us I1.kIn (by rw [List.append_nil]; exact hl)
  rw [List.append_nil] at b
  have P1 := I1.pin p (List.mem_append_left _ hp)
  have hpin : PinOk X.stack H1 s1 p := ⟨P1.1, P1.2.1, fun hm => (List.mem_cons.mp (I1.stkSub p.1 hm)).elim P1.2.2.1 P1.2.2.2.1, P1.2.2.2.2⟩
  refine wpAny_call (codeAny_mono (F.run X.A X.stack s1 H1 ⟨us, []⟩ us vs Q (E σ) p px hr hot hpin I1.env0 b r q) fun r s' hq => ?_)
  cases r with
  | error e => exact hx σ pins H1 s1 e s' I1 hq
  | ok fl =>
    cases fl with
    | ret u => exact I1.after hq
    | next => exact False.elim hq
    | brk => exact False.elim hq
    | cont => exact False.elim hq
/-- a field of a pinned error -/
theorem pe_xfX {C dd : Addr} {te : TE} {n : Str} (T : XfC X.K C) (hno : PySem.W.findIn X.K (.ref C) n = some none) (hp : p ∈ X.pn) (px : PinX (p.1, C, dd) p) (he : PE X e te) (hb : attributeBase e n X.env (eval e X.env) = eval e X.env) :
    PE X (.Attribute e n pos) (fun σ H Q => te σ H fun x H1 => x = .ref p.1 ∧ ∃ (fs : List (Str × V)) (v : V), H1 dd = some (.xd fs) ∧ fs.lookup n = some v ∧ Q v H1) := by
  refine ⟨fun pins s σ H Q I h => ?_⟩
  refine attr_of hb (thn (he.run pins s σ H _ I h) fun u s1 hh => ?_)
  obtain ⟨x, H1, I1, rx, ex, fs, v, ea, l, q⟩ := hh
  subst ex
  obtain rfl : u = Value.ref p.1 := rx
  obtain ⟨ha, _⟩ := I1.pin p (List.mem_append_left _ hp)
  obtain ⟨vs, hd⟩ := px.data
  have hx : ObjOk X.prog X.w H1 s1.heap dd (.xd fs) := I1.hok dd _ ea
  obtain ⟨mA, hns, hr⟩ := hx
  obtain ⟨od, ho, hl⟩ := lookIn_ns hns
  obtain ⟨u, hu, ru⟩ := RelO.some_of (v := v) (o := mA n) (by rw [← l]; exact hr n)
  have J : PySem.W.InstAt s1.heap p.1 p.2 C (some od) := ⟨ha, px.cls, by unfold PySem.W.notCls; rw [hd] <;> rfl, by rw [px.dict]; exact ho⟩
  exact HandSPX.exc_get I1.kIn J T.ga T.gg T.exC (PySem.W.findObj_own T.hdC hno rfl (by rw [hl, hu])) (handed_of ru) ⟨v, H1, I1.tok _, ru, q⟩
end
end NB
end
section
set_option Elab.async false
set_option linter.all false
set_option maxRecDepth 100000
set_option maxHeartbeats 4000000
/-! NBIsx: isinstance of a handled error that has fields. -/
namespace NB
open PySem PySem.Spec PySem.Calls PyProof.Rows PySem.W
section
variable {prog : Program} {w : World} {A : Around} {E : Value → Shared → Prop} {s : Shared} {K : Frag} {x D : Addr} {ox od : Obj}
theorem find_dataS {C : Addr} {name : Str} {a g : Value} (hc : (clsIn K C).isSome = true) (ha : findIn K (.ref C) name = some (some a)) (hg : specialIn K a "__get__" = some (some g)) (ht : takesIn K a = some true) : findObj K C (some od) name = some (.bind g a) := by
  obtain ⟨cd, hc⟩ := Option.isSome_iff_exists.mp hc
  unfold findObj
  rw [hc, Option.bind_some, ha, Option.bind_some]
  simp [hg, ht]
theorem class_attrS {Q : Option Value → Shared → Prop} (hga : findIn K (.ref D) "__getattribute__" = some (some (.builtin "BaseException.__getattribute__"))) (hgt : findIn K (.ref D) "__getattr__" = some none) (hsub : subIn K (.ref D) (.type "BaseException") = some true)
    (hdct : hasDictIn K D = true) (ha : findIn K (.ref D) "__class__" = some (some (.builtin "object.__class__")))
    (hn : specialIn K (.builtin "object.__class__") "__get__" = some (some (.builtin "getset_descriptor.__get__"))) (htk : takesIn K (.builtin "object.__class__") = some true) (hm : mroIn K D (.type "object") = some true)
    (X : K.In s.heap) (I : InstAt s.heap x ox D (some od)) (h : Q (some (.ref D)) { s with toks := s.toks + 1 }) : wpAny (model prog w) A (getAttr? (.ref x) "__class__") Q E s := by
  have hf : findObj K D (some od) "__class__" = some (.bind (.builtin "getset_descriptor.__get__") (.builtin "object.__class__")) := find_dataS (by obtain ⟨cd, hc, _⟩ := any_some hdct; rw [hc]; rfl) ha hn htk
  obtain ⟨hp, g, d, t, os⟩ := s
  have L0 := I.type (M := model prog w)
  have L1 := looks_findIn (M := model prog w) X hga
  have L2 := looks_findIn (M := model prog w) X hgt
  have L3 := looks_find (M := model prog w) X I hf
  have sub : Looks (model prog w) hp (isInstance (.ref x) (.type "BaseException")) true := L0.andThen (looks_subIn X hsub)
  have hx0 : (false && onTheHeap (Value.builtin "BaseException.__getattribute__")) = false := rfl
  have hx2 : (Value.builtin "BaseException.__getattribute__" == Value.builtin "object.__getattribute__") = false := by decide +kernel
  have hx1 : (onTheHeap (Value.ref D) && Value.builtin "BaseException.__getattribute__" == Value.builtin "object.__getattribute__") = false := by rw [hx2]; rfl
  unfold getAttr? getAttrBy? getAttrBy
  refine wpAny_bind (wpAny_mkText (wpAny_bind (wpAny_attempt (wpAny_holding (wpAny_bind (L0.at (wpAny_bind (L1.at ?_))))))))
  show wpAny _ _ (if (onTheHeap (Value.ref D) && Value.builtin "BaseException.__getattribute__" == Value.builtin "object.__getattribute__") = true then _ else _) _ _ _
  rw [hx1, if_neg Bool.false_ne_true]
  unfold getAttrByItsOwn hookBefore
  refine wpAny_bind ?_
  rw [if_pos (show onTheHeap (Value.ref D) = true from rfl)]
  refine L2.at ?_
  refine wpAny_bind (wpAny_attempt (wpAny_holding ?_))
  unfold callGetattribute
  rw [hx0, if_neg Bool.false_ne_true]
  unfold boundAndCalled
  rw [PySem.F.excAttr_ValueError.ga.bind (.ref x)]
  refine wpAny_bind (wpAny_pure ?_)
  show wpAny _ _ (call (.builtin "BaseException.__getattribute__") [.ref x, .str "__class__" t]) _ _ _
  refine wpAny_call (codeAny_call_builtin PySem.F.excAttr_ValueError.ga.plain PySem.F.entry_bexc_ga ?_)
  refine @check_slot (model prog w) _ _ ⟨hp, g, d, t + 1, os⟩ "BaseException.__getattribute__" "BaseException" "__getattribute__" (.ref x) [.str "__class__" t] [] _ (by decide +kernel) (by decide +kernel) sub (PySem.F.args_bexc_ga (.ref x) (.str "__class__" t)) ?_
  unfold Builtin.«object.__getattribute__»
  refine wpAny_bind (wpAny_of_eq (a := ((Value.ref x : Value), [Value.str "__class__" t])) (by first | rfl | (simp only [slotArgs]; rfl)) ?_)
  refine wpAny_bind (wpAny_pure (wpAny_bind (L0.at (wpAny_bind (L3.at ?_)))))
  show wpAny _ _ (holding [Value.builtin "object.__class__"] (call (.builtin "getset_descriptor.__get__") [.builtin "object.__class__", .ref x, .ref D]) >>= ret) _ _ _
  refine wpAny_bind (wpAny_holding (wpAny_call (class_get (s := ⟨hp, g, d, t + 1, os⟩) (ox := ox) (od := some od) X I hm ?_)))
  refine wpAny_pure ?_
  show wpAny _ _ (handedOut (.ref D)) _ _ _
  rw [handedOut_of (v := .ref D) rfl]
  first
    | exact wpAny_pure (wpAny_pure h)
    | exact wpAny_pure h
    | exact wpAny_pure (wpAny_bind (wpAny_pure (wpAny_pure h)))
theorem kit_excS (hga : findIn K (.ref D) "__getattribute__" = some (some (.builtin "BaseException.__getattribute__"))) (hgt : findIn K (.ref D) "__getattr__" = some none) (hsub : subIn K (.ref D) (.type "BaseException") = some true) (hdct : hasDictIn K D = true) (ha : findIn K (.ref D) "__class__" = some (some (.builtin "object.__class__")))
    (hn : specialIn K (.builtin "object.__class__") "__get__" = some (some (.builtin "getset_descriptor.__get__"))) (htk : takesIn K (.builtin "object.__class__") = some true) (hm : mroIn K D (.type "object") = some true) :
    KitX K (.ref x) (.ref D) (fun h => InstAt h x ox D (some od)) where
  ty := fun _ _ _ I => I.type
  it := fun _ _ X _ => by
    obtain ⟨cdD, hcD, _⟩ := any_some hdct
    unfold clsIn at hcD
    split at hcD
    · rename_i c' d' cd' sl' ho
      intro A' Q' E' s' k q
      unfold isType loadHead
      exact wpAny_bind (wpAny_loadPart (k _ _ (X _ _ ho)) (wpAny_pure q))
    · cases hcD
  ne := fun h tp dd its n sl X htp => by
    obtain ⟨cdD, hcD, _⟩ := any_some hdct
    refine Bool.eq_false_iff.mpr fun q => ?_
    have e : D = tp := Value.ref.inj (beq_iff_eq.mp q)
    subst e
    unfold clsIn at hcD
    split at hcD
    · rename_i c' d' cd' sl' ho
      have z := (X _ _ ho).symm.trans htp
      cases z
    · cases hcD
  ca := fun X I k => class_attrS hga hgt hsub hdct ha hn htk hm X I k
end
end NB
namespace NB
open PySem PySem.Spec PyProof.Rows L2
/-- isinstance(e, c) of a pinned error -/
theorem call_isX {X : Cx} {D dd : Addr} {p : Addr × Obj} (C : ExcC X.K D) (hp : p ∈ X.pn) (px : PinX (p.1, D, dd) p) : CallR X (.builtin "isinstance") (fun xs H Q => (∃ fv, H dd = some (.xd fv)) ∧ rIsE X.K D p.1 xs H Q) := by
  intro pins s σ H xs us Q I r h
  obtain ⟨⟨fv, hfv⟩, c, cv, b, rfl, hcv, e, q⟩ := h
  cases r with
  | cons rx rr =>
    cases rr with
    | cons rt rr =>
      cases rr
      cases rx
      have ec := hcv _ rt
      subst ec
      obtain ⟨hget, _⟩ := I.pin p (List.mem_append.mpr (.inl hp))
      obtain ⟨vs, hv⟩ := px.data
      have hx : ObjOk X.prog X.w H s.heap dd (.xd fv) := I.hok dd _ hfv
      obtain ⟨mA, hns, hr⟩ := hx
      obtain ⟨od, hod, _⟩ := lookIn_ns hns
      have J : PySem.W.InstAt s.heap p.1 p.2 D (some od) := ⟨hget, px.cls, by unfold PySem.W.notCls; rw [hv] <;> rfl, by rw [px.dict]; exact hod⟩
      exact PySem.W.kia_one (kit_excS C.hg C.hk C.hs C.hd C.ha C.hn C.ht C.hm) I.kIn J e (fun z => nomatch z) fun tk => ⟨.bl b, H, I.kept (t' := tk) fun _ _ z => z, rfl, q⟩
end NB
end
section
set_option Elab.async false
set_option linter.all false
set_option maxRecDepth 100000
set_option maxHeartbeats 4000000
/-! NBMake: making an own error whose __init__ calls the base's by super(). -/
namespace NB
open PySem PySem.Spec PySem.Calls PyProof.Rows PySem.W L2 NdefX
section
variable {prog : Program} {w : World} {A : Around} {E : Value → Shared → Prop} {h : Heap} {g : Array GenState} {d : Drawn} {t : Nat} {os : OsState}
variable {nm q : Str} {C N : Addr} {bs bm : List Value} {hdct : Bool} {sn : List Str} {sub : List Value} {ab : Bool} {col : Option Bool} {dd : Option Addr} {k0 k1 k2 k3 k5 : Option Value}
abbrev vw (x : Addr) : Obj := kxs_mw "ValueError.__init__" x
/-- the bound ValueError.__init__, called -/
theorem call_vw {u e t0 : Addr} {rest : List Value} {Q : Value → Shared → Prop}
    (hC : h.get? C = some (excClassObj nm q C N bs bm hdct sn sub ab col dd k0 k1 k2 k3 k5 "ValueError.__new__")) (he : h.get? e = some (HandSPX.excO C t0)) (hu : h.get? u = some (vw e)) (hrest : rest.length ≤ sizeLine)
    (hq : ∀ h' t1, (∀ b o, b ≠ e → h.get? b = some o → h'.get? b = some o) → h'.get? e = some (HandSPX.excO C t1) → Q .none ⟨h', g, d, t, os⟩) :
    wpAny (model prog w) A (call (.ref u) rest) Q E ⟨h, g, d, t, os⟩ := by
  refine wpAny_call (codeAny_of_tree ?_)
  show wpAny _ A.in1 (callAny (.ref u) ⟨rest, []⟩) _ _ _
  simp only [callAny]
  refine wpAny_bind (wpAny_load hu ?_)
  simp only [vw, kxs_mw, show (Value.type "method-wrapper" == Value.type "method" || Value.type "method-wrapper" == Value.type "builtin_function_or_method" || Value.type "method-wrapper" == Value.type "method-wrapper") = true by decide, if_true]
  refine W.KFB.if_so (by decide) ?_
  refine wpAny_bind (ESX.check_bound F.excBase_ValueError hC he rfl ?_)
  refine wpAny_bind (wpAny_pure (wpAny_pure ?_))
  refine ⟨Code.quiet_builtin _ (by decide +kernel), codeAny_builtin F.excBase_ValueError.initEntry ?_⟩
  rw [Around.under_plainId F.excBase_ValueError.init.plain _]
  wp_walk
  refine hq _ h.objs.size (fun b o hb ho => ?_) ?_
  · rw [Heap.get?_update_other _ _ (Ne.symm hb)]
    exact Heap.get?_push_of_some _ ho
  · rw [Heap.get?_update_self _ (Heap.get?_push_of_some _ he) rfl]
    rfl
end
/-- what the written part says of a class whose __init__ is so -/
structure SupC (K : Frag) (C D : Addr) : Prop where
  opq : nsIn K cStatics "thirdparty.any" = some none
  self : mroIn K C (.ref D) = some true
  meth : ks_superIn K C D "__init__" = some (some (.builtin "ValueError.__init__"))
  subV : subIn K (.ref C) (.type "ValueError") = some true
  cls : ∃ cd, clsIn K D = some cd
section
variable {X : Cx} {pins : List (Addr × Obj)} {σ : L2.St} {H : Hp} {s : Shared} {a C D f cda cc : Addr} {E : Value → Shared → Prop} {y : Str} {kk : Nat} {py p0 p1 p2 p4 p5 : Pos} {body : List Stmt} {fd : FuncData} {ar : Arg} {vs : Array Value} {file : Str} {tf : Tok} {oc ccl cl : Value} {od cdd cld : Option Addr} {osl ccs csl : Array (Option Value)} {i : Nat}
/-- super().__init__('..') -/
theorem super_step (I : Inv X pins σ H s) (hks : X.env.kindOf "super" = some .globalImplicit) (hkc : X.env.kindOf "__class__" = some .free) (hfu : X.env.func = some f) (hf : X.K.lookup f = some ⟨oc, od, .func fd, osl⟩)
    (hp : (fd.params.posonlyargs ++ fd.params.args).head? = some ar) (hco : X.env.code = .ref cda) (hcc : X.K.lookup cda = some ⟨ccl, cdd, .fields vs, ccs⟩) (hvs : vs[2]? = some (.str file tf)) (hfile : ((X.prog.main.file : Str) == file) = true)
    (htop : (X.prog.main.scope.names.lookup ("super" : Str)).isSome = false) (hmg : X.mg "super" = none) (hcell : X.env.cells.lookup ("__class__" : Str) = some cc) (hcv : X.K.lookup cc = some ⟨cl, cld, .cell (some (.ref D)), csl⟩)
    (hka : X.env.kindOf ar.arg = some .local) (hN : X.N[i]? = some ar.arg) (hσ : σ[i]? = some (some (.ref a))) (ea : H a = some (exo a C none)) (T : OexC X.K C) (Sp : SupC X.K C D) (hi : interactive X.env = false) (hline : (p2.endLine == p4.line) = true) :
    _root_.PySem.wpAt (model X.prog X.w) X.A (.func body X.env) (exec (.Expr (.Call (.Attribute (.Call (.Name "super" p0) [] [] p1) "__init__" p2) [.Constant (.str y) kk py] [] p4) p5) X.env) (fun fl s' => fl = .next ∧ Inv X pins σ H s') E s := by
  have kin := I.kIn
  obtain ⟨cdD, hD⟩ := Sp.cls
  obtain ⟨nm, q, N, bs, bm, sn, sub, ab, col, dd, k0, k1, k2, k3, k5, hC, hbm⟩ := T.cls
  obtain ⟨t1, ho⟩ := exo_at I.hok ea
  obtain ⟨m, hns, hlook⟩ := I.loc
  have hself : m ar.arg = some (.ref a) := by
    obtain ⟨u, ru, l⟩ := hlook i ar.arg _ hN hσ (.inl hka)
    have ru : u = Value.ref a := ru
    subst ru
    rcases l with ⟨_, l⟩ | ⟨l, _⟩
    · exact l
    · rw [hka] at l
      rcases l with l | l <;> cases l
  obtain ⟨oD, hD1, hD2⟩ : ∃ oD, s.heap.get? D = some oD ∧ oD.data = .cls cdD := by
    have hD' := hD
    unfold clsIn at hD'
    split at hD'
    · rename_i c d cd' sl ho
      cases hD'
      exact ⟨_, kin _ _ ho, rfl⟩
    · cases hD'
  obtain ⟨mb, hb1, hb2⟩ := I.mod.blt
  have hcl : clsIn X.K C = some { name := nm, bases := bs, mro := .ref C :: bm, ns := N, qualname := q, hasDict := true, slotNames := sn, subclasses := sub, abstract := ab, collection := col, hasDel := false } := by unfold clsIn; rw [hC] <;> rfl
  obtain ⟨hh, gs, dr, tk, os⟩ := s
  have J0 : InstAt hh a _ C none := ⟨ho, rfl, rfl, trivial⟩
  refine ks_wpAt_Expr_any (hi := hi) ?_
  have he : eval (.Call (.Attribute (.Call (.Name "super" p0) [] [] p1) "__init__" p2) [.Constant (.str y) kk py] [] p4) X.env = (do
      let ov ← attributeBase (.Call (.Name "super" p0) [] [] p1) "__init__" X.env (eval (.Call (.Name "super" p0) [] [] p1) X.env)
      standAt p2.atName
      let (f, first) ← holding [ov] (getMethod ov "__init__" (plainOf (.Call (.Name "super" p0) [] [] p1) X.env))
      callWith p4 f first (backTo p4 (starEach [.Constant (.str y) kk py] X.env)) []) := by
    rw [arm_eval_Call]
    have hm : ∀ ov, methodCall (.Call (.Name "super" p0) [] [] p1) "__init__" p2 p4 X.env ov (([Expr.Constant (.str y) kk py] : List Expr).length + ([] : List Keyword).length) (backTo p4 (starEach [.Constant (.str y) kk py] X.env)) (backToKw p4 (keywordEach [] X.env)) = _ := fun ov => mcall_line rfl hline
    simp only [hm]
    rfl
  refine ks_wpAt_MethodCall (he := he) ?_
  refine (ks_wpAt_super_base hks hkc (by decide) hfu (kin _ _ hf) rfl hp hco (kin _ _ hcc) rfl hvs hfile htop ?_)
  refine ks_loadName_global I.ok.kind hks (loadGlobal_builtin (by rw [I.ok.glob]; exact I.mod.glob.keeps I.bk) hmg (by rw [I.ok.blt]; exact hb1.keeps I.bk) ((hb2 _ (by decide)).trans (by rfl : bootBuiltins "super" = some (.type "super"))) ⟨rfl, ?_⟩)
  refine wpAny_loadName_free I.ok.kind hkc hcell ⟨_, kin _ _ hcv, rfl⟩ ?_
  refine wpAny_loadName_local I.ok.kind hka hns hself ?_
  refine ks_wpAny_isType_cls hD1 hD2 ⟨rfl, ?_⟩
  refine ks_wpAny_call_super hD1 hD2 ho rfl (fun c e => nomatch e) (looks_mroIn kin Sp.self) (fun h1 e1 k1 => ?_)
  have I1 := ClX.pin_new (t' := tk) I k1 (Nat.le_refl _) e1 (fun v z => nomatch z)
  have J1 : InstAt h1 a _ C none := ⟨k1 _ _ ho, rfl, rfl, trivial⟩
  refine kxs_getMethod (l₀ := .ref C :: bm) kxs_ValueError e1 (looks_opaque I1.kIn Sp.opq) ?_ rfl I1.kIn ?_ (J1.type.andThen (looks_subIn I1.kIn Sp.subV)) (ks_ne I1.kIn J1 hcl) (by decide) ?_
  · exact fun A Q E s k q => wpAny_bind ((looks_clsIn I1.kIn hcl) A _ E s k (wpAny_pure q))
  · have z := Sp.meth
    unfold ks_superIn at z
    rw [hcl] at z
    exact z
  have I2 := ClX.pin_new (t' := tk + 1) I1 (h' := h1.push (vw a)) (o := vw a) (fun b u z => Heap.get?_push_of_some _ z) (Nat.le_refl _) (Heap.get?_push_size _ rfl) (fun v z => nomatch z)
  refine kxs_callWith (i := "ValueError.__init__") (x := a) (by rfl) (evalArgs_plain ?_)
  have ha : PA X [.Constant (.str y) kk py] (tCons (tC (.str y)) tNil) := pa_cons pe_str pa_nil
  refine thn (ha.run p4 _ _ σ H (fun vs H1 => vs = [V.str y] ∧ H = H1) I2 ⟨rfl, rfl⟩) fun us s3 hh3 => ?_
  obtain ⟨vs3, H3, I3, r3, ev, eH⟩ := hh3
  subst ev eH
  obtain ⟨h3, g3, d3, t3, os3⟩ := s3
  obtain ⟨t4, ho3⟩ := exo_at I3.hok ea
  refine ⟨ClX.pin_at I3, ?_⟩
  have hus : us.length = 1 := r3.length.symm
  refine call_vw (I3.kIn _ _ hC) ho3 (ClX.pin_at I3) (by show us.length ≤ sizeLine; rw [hus, sizeLine_eq]; omega) (fun h' t2 k hx => ?_)
  have J := I3.write (t' := t3) (x := a) (e := a) (o := exo a C none) (by rw [ea]; exact True.intro) (.inl rfl) k ⟨_, hx⟩ (exo_ok hx)
  have eu : upd H a (exo a C none) = H := by
    funext b
    by_cases hb : b = a
    · rw [hb, upd_same, ea]
    · rw [upd_ne hb]
  rw [eu] at J
  exact ⟨rfl, ClX.unpin (ClX.unpin J)⟩
end
end NB
end
section
set_option Elab.async false
set_option linter.all false
set_option maxRecDepth 100000
set_option maxHeartbeats 4000000
/-! NBMake2: such an __init__ as a def; the making. -/
namespace NB
open PySem PySem.Spec PySem.Calls PyProof.Rows PySem.W L2 NdefX
/-- the first statement of such an __init__ -/
def supSt (y : Str) (kk : Nat) (py p0 p1 p2 p4 p5 : Pos) : Stmt := .Expr (.Call (.Attribute (.Call (.Name "super" p0) [] [] p1) "__init__" p2) [.Constant (.str y) kk py] [] p4) p5
/-- what the written part says of such an __init__ at f: F its words, cc its cell, C the class -/
structure IniC (K : Frag) (prog : Program) (C f cc : Addr) (F : NF) (fd : FuncData) : Prop where
  at_ : ∃ oc od doc pm ctv osl, fd = F.fd doc pm ctv ∧ K.lookup f = some ⟨oc, od, .func fd, osl⟩
  code : codeIn K (.ref F.c) F.qual = true
  cl : F.cl = [(("__class__" : Str), cc)]
  cell : ∃ oc od osl, K.lookup cc = some ⟨oc, od, .cell (some (.ref C)), osl⟩
  file : ∃ oc od osl vs fl tf, K.lookup F.c = some ⟨oc, od, .fields vs, osl⟩ ∧ vs[2]? = some (.str fl tf) ∧ ((prog.main.file : Str) == fl) = true
  top : (prog.main.scope.names.lookup ("super" : Str)).isSome = false
section
variable {CX : CXT} {P : Program} {w : World} {K : Frag} {mg : Str → Option Value} {base : Heap} {N : List Str} {p0n : Str} {psr : List Str} {F : NF} {f C cc : Addr} {k : Nat} {sp : Sp} {fd : FuncData} {y : Str} {kk : Nat} {py p0 p1 p2 p4 p5 : Pos} {rest : List Stmt}
/-- such an __init__ by what stands behind its first statement -/
theorem fn_init (Ic : IniC K P C f cc F fd) (T : OexC K C) (Sp : SupC K C C) (S : NScope N (p0n :: psr) ["__class__"] F.scope) (hb : F.body = supSt y kk py p0 p1 p2 p4 p5 :: rest) (hline : (p2.endLine == p4.line) = true)
    (hself : ∃ ar, (F.params.posonlyargs ++ F.params.args).head? = some ar ∧ ar.arg = p0n) (hks : F.scope.names.lookup ("super" : Str) = some .globalImplicit) (hmg : mg "super" = none)
    (len : ∀ vs H Q E, sp vs H Q E → vs.length = (p0n :: psr).length)
    (hrest : ∀ (A : Around) (outer : List Env) (s : Shared) (H : Hp) (vs : List V) (Q : VK) (E : XK), Room k (A.deeper (envF F f s.heap.objs.size)) → sp vs H Q E → (∃ a r, vs = .ref a :: r ∧ H a = some (exo a C none)) ∧
      ∃ t, PSs (ncx CX P w K mg base N F f A outer s H E) rest t ∧ t { nx := fun _ H' => Q .non H', rt := Q } (startF N vs [none]) H) :
    FnOk P w K mg base CX (k + 1) f fd (p0n :: psr) sp := by
  obtain ⟨oc, od, doc, pm, ctv, osl, hfd, lk⟩ := Ic.at_
  obtain ⟨cl1, cl2, cl3, lkc⟩ := Ic.cell
  obtain ⟨fl1, fl2, fl3, fvs, file, tf, lkf, hvs, hfile⟩ := Ic.file
  obtain ⟨ar, har, har2⟩ := hself
  subst har2
  refine ⟨len, fun A outer s H args us vs Q E hr e0 hbd r hsp => ?_⟩
  have hl := len _ _ _ _ hsp
  have KB : K.In base := e0.mod.kin
  have KX : K.In s.heap := KB.keeps fun b o e => (e0.bs b o e).1
  have lim : s.heap.NoLimit := e0.mod.nolimit.keeps fun b o e => (e0.bs b o e).1
  have hcl : ∀ {z c}, F.cl.lookup z = some c → z = "__class__" ∧ c = cc := fun {z c} e => by
    rw [Ic.cl] at e
    by_cases hz : z = "__class__"
    · subst hz
      simp [List.lookup] at e
      exact ⟨rfl, e.symm⟩
    · have hz' : (z == ("__class__" : Str)) = false := by simpa using hz
      simp [List.lookup, hz'] at e
  have hcl1 : F.cl.lookup ("__class__" : Str) = some cc := by rw [Ic.cl]; simp [List.lookup]
  have CA : CellsAt F.cl ["__class__"] [none] s.heap H := ⟨rfl, fun z c e => by
      obtain ⟨_, rfl⟩ := hcl e
      exact ⟨(e0.bs _ _ (KB _ _ lkc)).2, _, _, KX _ _ lkc, rfl⟩, fun x y c e1 e2 => by
      rw [(hcl e1).1, (hcl e2).1], fun i z e => by
      cases i with
      | zero =>
        simp at e
        subst e
        exact ⟨cc, hcl1, fun v hv => by simp at hv⟩
      | succ i => simp at e⟩
  obtain ⟨⟨a, vr, hvr, ea⟩, t, ht, hq⟩ := hrest A outer s H vs Q E (hr.deeper _) hsp
  have hfb : fd.body = .stmts F.body := by rw [hfd]
  have hsc : fd.scope = F.scope := by rw [hfd]
  refine ks_codeAny_call_defAt (fd := fd) (body := F.body) (binds := (ar.arg :: psr).zip us) hr.depth (KX _ _ lk) rfl lim (by rw [hfd]; exact codeRec_of KX Ic.code) hfb hbd (by rw [hsc]; exact S.nocell) (fun x hx => by
      rw [hsc]; exact S.par _ (List.of_mem_zip hx).1) (fun h₁ hns hk₁ => ?_) (by rw [hsc]; exact S.co) (by rw [hsc]; exact S.gen) (by rw [hsc]; exact S.kind)
  have henv : callEnv fd s.heap.objs.size f = envF F f s.heap.objs.size := by rw [hfd]; rfl
  rw [henv]
  have I : Inv (ncx CX P w K mg base N F f A outer s H E) [] (startF N vs [none]) H { s with heap := h₁, toks := s.toks + ((ar.arg :: psr).zip us).length } := inv_startN S hr.hd e0 hl r CA hns hk₁
  have fin : ∀ {σ' : L2.St} {H' : Hp} {v : V} {u : Value} {s' : Shared}, Inv (ncx CX P w K mg base N F f A outer s H E) [] σ' H' s' → L2.RelV v u → Q v H' → CE outer P w H s Q u s' :=
    fun {σ' H' v u s'} J rv q => ⟨v, H', J.os, J.bare, J.base, J.hok, rv, q⟩
  have hN0 : N[0]? = some ar.arg := by
    have q := congrArg (fun l : List Str => l[0]?) S.pre
    simp only [List.length_cons, List.cons_append, List.getElem?_cons_zero] at q
    rw [List.getElem?_take_of_lt (by omega)] at q
    exact q
  have hs0 : (startF N vs [none])[0]? = some (some (.ref a)) := by
    subst hvr
    rfl
  rw [hb]
  have hbb : F.body = supSt y kk py p0 p1 p2 p4 p5 :: rest := hb
  refine ks_wpAt_execs_cons ?_
  refine ks_wpAt_mono (super_step (X := ncx CX P w K mg base N F f A outer s H E) (f := f) (cda := F.c) (cc := cc) (D := C) (C := C) (fd := fd) (i := 0) (a := a) (body := supSt y kk py p0 p1 p2 p4 p5 :: rest) I hks (S.frk _ (by simp)) rfl lk (by rw [hfd]; exact har) rfl lkf hvs hfile Ic.top hmg hcl1 lkc
    (S.par _ (by simp)) hN0 hs0 ea T Sp (by show (F.scope.kind == .module && _) = false; rw [S.kind]; rfl) hline) (fun fl s' hfl => ?_) (fun e s' he => he)
  obtain ⟨rfl, I1⟩ := hfl
  refine wpAt_of_wpAny ?_
  refine wpAny_mono (ht.run [] _ _ H _ I1 hq) (fun fl s' hs => ?_) fun e s' hs => hs
  cases fl with
  | ret u =>
    obtain ⟨v, σ', H', J, rv, q⟩ := hs
    exact fin J rv q
  | next =>
    obtain ⟨σ', H', J, q⟩ := hs
    exact fin (v := V.non) (u := Value.none) J rfl q
  | brk =>
    obtain ⟨_, _, _, q⟩ := hs
    exact False.elim q
  | cont =>
    obtain ⟨_, _, _, q⟩ := hs
    exact False.elim q
end
section
variable {X : Cx} {x : Str} {e : Expr} {es : List Expr} {ta : TA} {p pos : Pos} {C fI : Addr} {k : Nat} {fd : FuncData} {ps : List Str} {sp : Sp}
/-- C(e, ..), C's own __init__ keeping sp -/
theorem pmkN_oex {CX : CXT} (T : OexC X.K C) (iC : PySem.W.findIn X.K (.ref C) "__init__" = some (some (.ref fI))) (tI : PySem.W.typeIn X.K (.ref fI) = some (.type "function"))
    (F1 : FnOk X.prog X.w X.K X.mg X.base CX k fI fd ps sp) (hr : Room (k + 1) X.A) (hb : Binds X.K fd ps []) (hx : Passes CX X (fun _ _ _ => False)) (hg : Gl X x) (hm : X.mg x = some (.ref C)) (ha : PA X (e :: es) ta)
    (hdb : (x == ("__debug__" : Str)) = false) (he : starEach (e :: es) X.env = (false, eval e X.env) :: starEach es X.env) (hpl : (backTo pos (starEach es X.env)).any (·.1) = false) :
    L2N.PMk X (.Call (.Name x p) (e :: es) [] pos) (tMkO C sp [] ta) := by
  intro pins s σ H Q I h
  obtain ⟨nm, q, N, bs, bm, sn, sub, ab, col, dd, k0, k1, k2, k3, k5, hC, hbm⟩ := T.cls
  refine wpAny_Call_Name_kw (ld_glob I hg hm ?_ hdb)
  refine PySem.W.callWith_K (h₀ := X.base) I.ok.mod.kin T.kC (thn (ha.run pos pins s σ H _ I h) fun us s1 ⟨vs, H1, I1, r1, hz, q1⟩ => ⟨I1.kIn, ?_⟩) he hpl
  show wpAny _ _ (call (.ref C) us) _ _ _
  obtain ⟨hp, g, dr, tk, os⟩ := s1
  have hsz : hp.objs.size ≤ hp.objs.size + 1 := Nat.le_succ _
  have hn : H1 (hp.objs.size + 1) = none := I1.hok.fresh hsz
  have hq := q1 (hp.objs.size + 1) hn
  rw [List.append_nil] at hq
  have kk : ∀ b o, hp.get? b = some o → ((hp.push (PySem.W.kdv_tup us)).push (PySem.HandSPX.excO C hp.objs.size)).get? b = some o := fun b o e => Heap.get?_push_of_some _ (Heap.get?_push_of_some _ e)
  have hget : ((hp.push (PySem.W.kdv_tup us)).push (PySem.HandSPX.excO C hp.objs.size)).get? (hp.objs.size + 1) = some (PySem.HandSPX.excO C hp.objs.size) := by heap_get
  have I2 : Inv X pins σ (upd H1 (hp.objs.size + 1) (exo (hp.objs.size + 1) C none)) ⟨(hp.push (PySem.W.kdv_tup us)).push (PySem.HandSPX.excO C hp.objs.size), g, dr, tk, os⟩ :=
    I1.laid (t' := tk) (a := hp.objs.size + 1) (o := exo (hp.objs.size + 1) C none) (h' := (hp.push (PySem.W.kdv_tup us)).push (PySem.HandSPX.excO C hp.objs.size)) kk hsz (exo_ok hget)
  have r2 : Vals (V.ref (hp.objs.size + 1) :: vs) (Value.ref (hp.objs.size + 1) :: us) := .cons rfl r1
  have hl : (Value.ref (hp.objs.size + 1) :: us ++ []).length = ps.length := by
    have e := r2.length
    rw [F1.len _ _ _ _ hq] at e
    rw [List.append_nil]
    exact e.symm
  have hus : us.length ≤ sizeLine := by
    rw [← Paired.length r1, sizeLine_eq]
    omega
  have b2 := hb _ (Value.ref (hp.objs.size + 1) :: us) I2.kIn hl
  rw [List.append_nil] at b2
  refine wpAny_call (PySem.HandSPX.call_own PySem.F.excBase_ValueError (fun Y => PySem.HandSPX.refsVE_contains Y bm hbm) (I1.kIn _ _ hC) (PySem.W.looks_findIn I1.kIn iC) (fun self => PySem.W.bind_fn I1.kIn self tI) hus
    (codeAny_mono (F1.run _ X.stack _ _ ⟨Value.ref (hp.objs.size + 1) :: us, []⟩ (Value.ref (hp.objs.size + 1) :: us) _ _ (fun _ _ _ => False) (hr.make C us []) (I2.env0.make C us []) b2 r2 hq) fun r s' hq' => ?_))
  cases r with
  | error er => exact hx pins σ _ _ er s' I2 hq'
  | ok fl =>
    cases fl with
    | ret u =>
      obtain ⟨v, H2, os2, bare2, un2, hok2, rv, ev, d, fs, ea, ed, hd1, q2⟩ := hq'
      subst ev
      obtain ⟨h2, g2, d2, t2, os'⟩ := s'
      obtain ⟨t0, G, J, kG, ge, hoe, na⟩ := mk_end0 (d2 := d2) (t2 := t2) I1 hsz kk un2 hok2 os2 bare2 ea ed hd1
      exact ⟨rv, hp.objs.size + 1, _, _, ⟨G, g2, d2, t2, os'⟩, _, .ref C, some d, rfl, J, kG, ge, hoe, ⟨rfl, rfl, fun vs hv => by cases hv; rfl⟩, rfl, rfl, na, rfl, bare2, raises_own T.exC T.tyC, q2⟩
    | next => exact False.elim hq'
    | brk => exact False.elim hq'
    | cont => exact False.elim hq'
end
/-! ### one field -/
/-- super().__init__('..'); self.f = f -/
def sp1 (C : Addr) (f : Str) : Sp := fun vs H Q _ => ∃ a u, vs = [.ref a, u] ∧ H a = some (exo a C none) ∧ ∀ dx, H dx = none → dx ≠ a → Q .non (upd (upd H dx (exd dx [(f, u)])) a (exo a C (some dx)))
structure Ini1 (K : Frag) (prog : Program) (C fI cc : Addr) (F : NF) (fd : FuncData) (f : Str) : Prop where
  ini : IniC K prog C fI cc F fd
  oex : OexC K C
  sup : SupC K C C
  scope : NScope ["self", f, "__class__"] ["self", f] ["__class__"] F.scope
  body : ∃ y kk py p0 p1 p2 p4 p5 p6 p7 p8 p9, (p2.endLine == p4.line) = true ∧ F.body = supSt y kk py p0 p1 p2 p4 p5 :: [.Assign [.Attribute (.Name "self" p6) f p7] (.Name f p8) p9]
  self : ∃ ar, (F.params.posonlyargs ++ F.params.args).head? = some ar ∧ ar.arg = "self"
  ks : F.scope.names.lookup ("super" : Str) = some .globalImplicit
  fno : findIn K (.ref C) f = some none
  iC : findIn K (.ref C) "__init__" = some (some (.ref fI))
  tI : typeIn K (.ref fI) = some (.type "function")
  bd : Binds K fd ["self", f] []
  f1 : (f == ("__debug__" : Str)) = false
  f2 : (f == ("__classdict__" : Str)) = false
section
variable {P : Program} {w : World} {K : Frag} {mg : Str → Option Value} {base : Heap} {C fI cc : Addr} {F : NF} {fd : FuncData} {f : Str} {k : Nat}
theorem fn_ini1 {CX : CXT} (Ic : Ini1 K P C fI cc F fd f) (hmg : mg "super" = none) : FnOk P w K mg base CX (k + 1) fI fd ["self", f] (sp1 C f) := by
  obtain ⟨y, kk, py, p0, p1, p2, p4, p5, p6, p7, p8, p9, hln, hb⟩ := Ic.body
  refine fn_init Ic.ini Ic.oex Ic.sup Ic.scope hb hln Ic.self Ic.ks hmg (fun vs H Q E h => by obtain ⟨a, u, rfl, _⟩ := h; rfl) fun A outer s H vs Q E hr h => ?_
  obtain ⟨a, u, rfl, ea, q⟩ := h
  refine ⟨⟨a, _, rfl, ea⟩, _, pss_one (ps_ost (pe_var (i := 0) rfl (.inl (Ic.scope.par _ (by simp)))) (pe_var (i := 1) rfl (.inl (Ic.scope.par _ (by simp))) Ic.f1 Ic.f2)), ?_⟩
  refine ⟨u, rfl, .ref a, rfl, a, C, rfl, Ic.oex, Ic.fno, .inl ⟨ea, fun dx n ne => q dx n ne⟩⟩
end
end NB
end
section
set_option linter.all false
namespace NB
open PySem PySem.Spec
theorem zip_look' {P : List Str} {us : List Value} (nd : P.Nodup) (hl : us.length = P.length) : ∀ i (hi : i < P.length), (P.zip us).lookup P[i] = some (us[i]'(by omega)) := by
  induction P generalizing us with
  | nil => intro i hi; simp at hi
  | cons p P ih =>
    cases us with
    | nil => simp at hl
    | cons u us =>
      intro i hi
      cases i with
      | zero => simp
      | succ i =>
        have h1 := (List.nodup_cons.mp nd).1
        have : (P[i]'(by simpa using hi) == p) = false := by
          rw [beq_eq_false_iff_ne]
          intro e
          exact h1 (e ▸ List.getElem_mem _)
        simp only [List.zip_cons_cons, List.getElem_cons_succ, List.lookup_cons, this]
        exact ih (List.nodup_cons.mp nd).2 (by simpa using hl) i (by simpa using hi)
theorem zip_fm {P : List Str} {us : List Value} (nd : P.Nodup) (hl : us.length = P.length) : P.filterMap (fun n => ((P.zip us).lookup n).map (fun v => (n, v))) = P.zip us := by
  have key : ∀ (Q : List Str) (ws : List Value), Q.length = ws.length → (∀ i (h : i < Q.length) (h2 : i < ws.length), (P.zip us).lookup Q[i] = some ws[i]) → Q.filterMap (fun n => ((P.zip us).lookup n).map (fun v => (n, v))) = Q.zip ws := by
    intro Q
    induction Q with
    | nil => intro ws h _; simp
    | cons q Q ih =>
      intro ws h h2
      cases ws with
      | nil => simp at h
      | cons w ws =>
        have e := h2 0 (by simp) (by simp)
        simp only [List.getElem_cons_zero] at e
        rw [List.filterMap_cons, e]
        simp only [Option.map_some, List.zip_cons_cons, List.cons.injEq, true_and]
        exact ih ws (by simpa using h) fun i a b => h2 (i + 1) (by simp; omega) (by simp; omega)
  exact key P us hl.symm fun i a b => zip_look' nd hl i a
theorem zip_miss {P : List Str} {us : List Value} (nd : P.Nodup) (hl : us.length = P.length) : P.filter (fun n => ((P.zip us).lookup n).isNone) = [] := by
  rw [List.filter_eq_nil_iff]
  intro n hn
  obtain ⟨i, hi, rfl⟩ := List.mem_iff_getElem.mp hn
  rw [zip_look' nd hl i hi]
  simp
theorem bind_plain {fd : FuncData} {as : List Arg} (hp : fd.params = ⟨[], as, none, [], [], none, []⟩) (hd : fd.defaults = .none) (nd : (as.map (·.arg)).Nodup) {us : List Value} (hl : us.length = (as.map (·.arg)).length) :
    bindArgs fd ⟨us, []⟩ = pure ((as.map (·.arg)).zip us) := by
  unfold bindArgs
  have hs : seqItems? Value.none = pure none := rfl
  simp only [hp, hd, hs]
  simp only [List.map_nil, List.nil_append, pure_bind]
  generalize as.map (fun x => x.arg) = P at *
  have hm := zip_miss nd hl
  have hf := zip_fm nd hl
  simp [hl, hm, hf]
end NB
end
section
set_option linter.all false
set_option maxRecDepth 100000
/-! NBZip3: zip of three lists is walked. -/
namespace L2
open PySem PySem.Spec PyProof.Rows
/-- the lists at a, b and c as they stand at each turn, the items in new tuples -/
def Itz3 (K : PySem.W.Frag) (a b c : Addr) : It :=
  ⟨fun i H => ∃ (xs ys zs : List V) (x y z : V), SqL K H a xs ∧ SqL K H b ys ∧ SqL K H c zs ∧ xs[i]? = some x ∧ ys[i]? = some y ∧ zs[i]? = some z,
    fun i H v H' => ∃ T x y z, v = .ref T ∧ H T = none ∧ H' = upd H T (.tup [x, y, z]) ∧ (∀ xs, SqL K H a xs → xs[i]? = some x) ∧ (∀ ys, SqL K H b ys → ys[i]? = some y) ∧ ∀ zs, SqL K H c zs → zs[i]? = some z,
    fun i H => ∃ xs ys zs : List V, SqL K H a xs ∧ SqL K H b ys ∧ SqL K H c zs ∧ i = min xs.length (min ys.length zs.length)⟩
theorem turn_zip3 {P : Program} {w : World} {K : PySem.W.Frag} {elts : List Expr} {kk : Nat} {tpos : Pos} {a b c z TI TO i1 i2 i3 : Addr} (D : ZipSep3 z TI TO i1 i2 i3 [i1, a] [i2, b] [i3, c]) (n1 : a ≠ i1) (n2 : b ≠ i2) (n3 : c ≠ i3) :
    Turn P w K (.Tuple elts kk tpos) (Itz3 K a b c) [z, TI, TO, i1, i2, i3] z (fun i h => IsZip h z TI TO .none ∧ IsTupOf3 h TI (.ref i1) (.ref i2) (.ref i3) ∧ (∃ x y u, IsTupOf3 h TO x y u) ∧ h.IsListIter i1 a i ∧ h.IsListIter i2 b i ∧ h.IsListIter i3 c i) where
  mem := by simp
  obj := fun i h st d hd => by
    obtain ⟨hz, hTI, ⟨x, y, u, hTO⟩, ⟨o1, e1, _, d1⟩, ⟨o2, e2, _, d2⟩, ⟨o3, e3, _, d3⟩⟩ := st
    have e' : d = z ∨ d = TI ∨ d = TO ∨ d = i1 ∨ d = i2 ∨ d = i3 := by simpa using hd
    rcases e' with q | q | q | q | q | q
    · rw [q]; exact ⟨_, hz, fun v q => nomatch q⟩
    · rw [q]; exact ⟨_, hTI, fun v q => nomatch q⟩
    · rw [q]; exact ⟨_, hTO, fun v q => nomatch q⟩
    · rw [q]; exact ⟨o1, e1, fun v q => by rw [d1] at q; cases q⟩
    · rw [q]; exact ⟨o2, e2, fun v q => by rw [d2] at q; cases q⟩
    · rw [q]; exact ⟨o3, e3, fun v q => by rw [d3] at q; cases q⟩
  keep := fun i h h' st k => by
    obtain ⟨hz, hTI, ⟨x, y, u, hTO⟩, h1, h2, h3⟩ := st
    exact ⟨k z (by simp) _ hz, k TI (by simp) _ hTI, ⟨x, y, u, k TO (by simp) _ hTO⟩, h1.at fun o q => k i1 (by simp) o q, h2.at fun o q => k i2 (by simp) o q, h3.at fun o q => k i3 (by simp) o q⟩
  item := by
    intro X hP hw hK hc i pins s σ H E I hf st hg
    subst hP hw hK
    obtain ⟨hz, hTI, ⟨x0, y0, u0, hTO⟩, h1, h2, h3⟩ := st
    obtain ⟨xs, ys, zs, x, y, zz, hqx, hqy, hqz, hx, hy, hzz⟩ := hg
    obtain ⟨its, rv, p, _⟩ := I.list hqx
    obtain ⟨its2, rv2, p2, _⟩ := I.list hqy
    obtain ⟨its3, rv3, p3, _⟩ := I.list hqz
    obtain ⟨u, hu, ru⟩ := rv.get hx
    obtain ⟨u2, hu2, ru2⟩ := rv2.get hy
    obtain ⟨u3, hu3, ru3⟩ := rv3.get hzz
    have hzl : z < s.heap.objs.size := Heap.lt_size hz
    have lt1 : i < its.toArray.size := by simpa using (List.getElem?_eq_some_iff.mp hu).1
    have lt2 : i < its2.toArray.size := by simpa using (List.getElem?_eq_some_iff.mp hu2).1
    have lt3 : i < its3.toArray.size := by simpa using (List.getElem?_eq_some_iff.mp hu3).1
    refine wpAny_pyNext_zipD3_item D (Draws.list (prog := X.prog) (w := X.w) (A := X.A.in1) (I.ok.hd hc) i1 a n1 its.toArray) (Draws.list (prog := X.prog) (w := X.w) (A := X.A.in1) (I.ok.hd hc) i2 b n2 its2.toArray) (Draws.list (prog := X.prog) (w := X.w) (A := X.A.in1) (I.ok.hd hc) i3 c n3 its3.toArray) hz hTI hTO ⟨h1, p.isList⟩ ⟨h2, p2.isList⟩ ⟨h3, p3.isList⟩ lt1 lt2 lt3
      fun v1 v2 v3 h' tk g1 g2 g3 z' TO' h1' h2' h3' hT hsz hk => ?_
    have e1 : v1 = u := by
      have : its[i]? = some v1 := by simpa using g1
      rw [this] at hu; cases hu; rfl
    have e2 : v2 = u2 := by
      have : its2[i]? = some v2 := by simpa using g2
      rw [this] at hu2; cases hu2; rfl
    have e3 : v3 = u3 := by
      have : its3[i]? = some v3 := by simpa using g3
      rw [this] at hu3; cases hu3; rfl
    subst e1 e2 e3
    refine ⟨_, rfl, wpAny_letOwnedTupleGo_zip (s := { s with heap := h', toks := tk }) z' fun h'' z'' sb => ?_⟩
    have hT2 : h''.get? s.heap.objs.size = some { cls := .type "tuple", data := .seq #[v1, v2, v3] } := (sb.2 _ (Nat.ne_of_gt hzl)).trans hT
    have new : ObjOk X.prog X.w (upd H s.heap.objs.size (.tup [x, y, zz])) h'' s.heap.objs.size (.tup [x, y, zz]) :=
      ⟨by show 3 ≤ sizeLine; decide, [v1, v2, v3], .cons ru (.cons ru2 (.cons ru3 .nil)), ⟨_, hT2, rfl, _, rfl⟩⟩
    have I1 : Inv X pins σ (upd H s.heap.objs.size (.tup [x, y, zz])) { s with heap := h'', toks := tk } :=
      I.turnedNew (t' := tk) (ch := [z, TI, TO, i1, i2, i3]) (fun c o hb q => (sb.2 c (fun q' => hb (by simp [q']))).trans (hk c o (fun q' => hb (by simp [q'])) (fun q' => hb (by simp [q'])) (fun q' => hb (by simp [q'])) (fun q' => hb (by simp [q'])) (fun q' => hb (by simp [q'])) q)) hf (Nat.le_refl _) new
    refine ⟨.ref s.heap.objs.size, _, I1, rfl, ⟨_, x, y, zz, rfl, I.hok.fresh (Nat.le_refl _), rfl, fun l hl => by rw [I.list_inj hl hqx]; exact hx, fun l hl => by rw [I.list_inj hl hqy]; exact hy, fun l hl => by rw [I.list_inj hl hqz]; exact hzz⟩, ⟨z'', ?_, ⟨v1, v2, v3, ?_⟩, ?_, ?_, ?_⟩, fun d hcm => ?_⟩
    · exact (sb.2 _ D.TIz).trans (hk _ _ D.TIz D.TITO D.TIi1 D.TIi2 D.TIi3 hTI)
    · exact (sb.2 _ D.TOz).trans TO'
    · exact h1'.1.at fun o q => (sb.2 _ D.zi1.symm).trans q
    · exact h2'.1.at fun o q => (sb.2 _ D.zi2.symm).trans q
    · exact h3'.1.at fun o q => (sb.2 _ D.zi3.symm).trans q
    · have hlt : d < s.heap.objs.size := by
        have e' : d = z ∨ d = TI ∨ d = TO ∨ d = i1 ∨ d = i2 ∨ d = i3 := by simpa using hcm
        rcases e' with q | q | q | q | q | q
        · rw [q]; exact hzl
        · rw [q]; exact Heap.lt_size hTI
        · rw [q]; exact Heap.lt_size hTO
        · rw [q]; obtain ⟨_, e1, _⟩ := h1; exact Heap.lt_size e1
        · rw [q]; obtain ⟨_, e2, _⟩ := h2; exact Heap.lt_size e2
        · rw [q]; obtain ⟨_, e3, _⟩ := h3; exact Heap.lt_size e3
      rw [upd_ne (Nat.ne_of_lt hlt)]
      exact (hf d hcm).1
  done := by
    intro X hP hw hK hc i pins s σ H E I hf st hg
    subst hP hw hK
    obtain ⟨hz, hTI, ⟨x0, y0, u0, hTO⟩, h1, h2, h3⟩ := st
    obtain ⟨xs, ys, zs, hqx, hqy, hqz, hend⟩ := hg
    obtain ⟨its, rv, p, _⟩ := I.list hqx
    obtain ⟨its2, rv2, p2, _⟩ := I.list hqy
    obtain ⟨its3, rv3, p3, _⟩ := I.list hqz
    have l1 : its.toArray.size = xs.length := by simp [rv.length]
    have l2 : its2.toArray.size = ys.length := by simp [rv2.length]
    have l3 : its3.toArray.size = zs.length := by simp [rv3.length]
    exact wpAny_pyNext_zipD3_end D (Draws.list (prog := X.prog) (w := X.w) (A := X.A.in1) (I.ok.hd hc) i1 a n1 its.toArray) (Draws.list (prog := X.prog) (w := X.w) (A := X.A.in1) (I.ok.hd hc) i2 b n2 its2.toArray) (Draws.list (prog := X.prog) (w := X.w) (A := X.A.in1) (I.ok.hd hc) i3 c n3 its3.toArray) hz hTI hTO ⟨h1, p.isList⟩ ⟨h2, p2.isList⟩ ⟨h3, p3.isList⟩
      (by omega) (by omega) (by omega) (by omega) fun h' tk hk => ⟨rfl, I.turnedL (t' := tk) (ch := [z, TI, TO, i1, i2, i3]) (fun c o hb q =>
      hk c o (fun q' => hb (by simp [q'])) (fun q' => hb (by simp [q'])) (fun q' => hb (by simp [q'])) (fun q' => hb (by simp [q'])) (fun q' => hb (by simp [q'])) q) hf⟩
  self := fun A i s Q E st h => wpAny_pyIter_zip st.1 h
theorem zip3_sep (n a b c : Addr) (la : a < n) (lb : b < n) (lc : c < n) : ZipSep3 (n + 5) (n + 3) (n + 4) n (n + 1) (n + 2) [n, a] [n + 1, b] [n + 2, c] := by
  refine ⟨?_, ?_, ?_, ?_, ?_, ?_, ?_, ?_, ?_, ?_, ?_, ?_, ?_, ?_, ?_, ?_, ?_, ?_, ?_, ?_, ?_⟩ <;> first | exact List.mem_cons_self .. | (simp only [Addr, List.mem_cons, List.not_mem_nil, or_false, not_or, ne_eq] at *; omega)
def rZip3 (K : PySem.W.Frag) : List V → Hp → (L2.It → Hp → Prop) → Prop := fun vs H1 R => ∃ a b c xs ys zs, vs = [.ref a, .ref b, .ref c] ∧ SqL K H1 a xs ∧ SqL K H1 b ys ∧ SqL K H1 c zs ∧ ∀ J : L2.It,
  (∀ i H, i < min xs.length (min ys.length zs.length) → SqL K H a xs → SqL K H b ys → SqL K H c zs → J.go i H) →
  (∀ H, SqL K H a xs → SqL K H b ys → SqL K H c zs → J.stop (min xs.length (min ys.length zs.length)) H) →
  (∀ i H v H', SqL K H a xs → SqL K H b ys → SqL K H c zs → J.yld i H v H' → ∃ T x y z, v = .ref T ∧ H T = none ∧ H' = upd H T (.tup [x, y, z]) ∧ xs[i]? = some x ∧ ys[i]? = some y ∧ zs[i]? = some z) → R J H1
theorem pi_zip3 {X : Cx} {e e2 e3 : Expr} {ta : TA} {p pos tpos : Pos} {elts : List Expr} {kk : Nat} (hg : Gl X "zip") (hm : X.mg "zip" = none) (ha : PA X [e, e2, e3] ta)
    (hs : starEach [e, e2, e3] X.env = (false, eval e X.env) :: starEach [e2, e3] X.env) (hpl : (backTo pos (starEach [e2, e3] X.env)).any (·.1) = false) :
    PI X (.Tuple elts kk tpos) (.Call (.Name "zip" p) [e, e2, e3] [] pos) (fun σ H R => ta σ H fun vs H1 => rZip3 X.K vs H1 R) := by
  refine ⟨fun pins s σ H R I h => ?_⟩
  refine Call_ (ld_blt I hg hm PyProof.Rows.boot_zip (PyProof.Rows.callWith_type1 (thn (ha.run pos pins s σ H _ I h) fun us s1 ⟨vs, H1, I1, r1, q1⟩ => ?_) hs hpl))
  obtain ⟨a, b, c, xs, ys, zs, ex, hqx, hqy, hqz, q0⟩ := q1
  subst ex
  have q := q0 (Itz3 X.K a b c) (fun i H hi k1 k2 k3 => by
      have l1 : i < xs.length := by omega
      have l2 : i < ys.length := by omega
      have l3 : i < zs.length := by omega
      exact ⟨xs, ys, zs, xs[i], ys[i], zs[i], k1, k2, k3, by simp [l1], by simp [l2], by simp [l3]⟩) (fun H k1 k2 k3 => ⟨xs, ys, zs, k1, k2, k3, rfl⟩) fun i H v H' k1 k2 k3 ⟨T, x, y, z, g1, g2, g3, g4, g5, g6⟩ => ⟨T, x, y, z, g1, g2, g3, g4 _ k1, g5 _ k2, g6 _ k3⟩
  cases r1 with
  | cons r rr =>
    cases rr with
    | cons r' rr =>
      cases rr with
      | cons r'' rr =>
        cases rr
        cases r
        cases r'
        cases r''
        obtain ⟨its, rv, p1, _⟩ := I1.list hqx
        obtain ⟨its2, rv2, p2, _⟩ := I1.list hqy
        obtain ⟨its3, rv3, p3, _⟩ := I1.list hqz
        have la : a < s1.heap.objs.size := p1.lt
        have lb : b < s1.heap.objs.size := p2.lt
        have lc : c < s1.heap.objs.size := p3.lt
        refine zip_begins3 (begins_list a its.toArray) (begins_list b its2.toArray) (begins_list c its3.toArray) p1.isList p2.isList p3.isList fun h' hz hTI hTO h1 h2 h3 hsz hk => wpAny_pyIter_zip hz ?_
        have I2 : Inv X pins σ H1 { s1 with heap := h' } := I1.kept (t' := s1.toks) hk
        refine ⟨s1.heap.objs.size + 5, [s1.heap.objs.size + 5, s1.heap.objs.size + 3, s1.heap.objs.size + 4, s1.heap.objs.size, s1.heap.objs.size + 1, s1.heap.objs.size + 2], _, _, H1, rfl, I2, turn_zip3 (zip3_sep s1.heap.objs.size a b c la lb lc) (Nat.ne_of_lt la) (Nat.ne_of_lt (Nat.lt_of_lt_of_le lb (Nat.le_add_right _ _))) (Nat.ne_of_lt (Nat.lt_of_lt_of_le lc (Nat.le_add_right _ _))), ⟨hz, hTI, ⟨_, _, _, hTO⟩, ⟨_, h1, rfl, rfl⟩, ⟨_, h2, rfl, rfl⟩, ⟨_, h3, rfl, rfl⟩⟩, fun d hcm => ?_, q⟩
        have e' : d = s1.heap.objs.size + 5 ∨ d = s1.heap.objs.size + 3 ∨ d = s1.heap.objs.size + 4 ∨ d = s1.heap.objs.size ∨ d = s1.heap.objs.size + 1 ∨ d = s1.heap.objs.size + 2 := by simpa using hcm
        have hle : s1.heap.objs.size ≤ d := by
          rcases e' with z | z | z | z | z | z
          · rw [z]; exact Nat.le_add_right _ _
          · rw [z]; exact Nat.le_add_right _ _
          · rw [z]; exact Nat.le_add_right _ _
          · rw [z]; exact Nat.le_refl _
          · rw [z]; exact Nat.le_add_right _ _
          · rw [z]; exact Nat.le_add_right _ _
        exact I1.fpOk hle (I1.hok.fresh hle)
end L2
end
section
set_option linter.all false
/-! NBCore: pure values, owned trees, the small language, its evaluator (plain Lean, no program in sight). -/
namespace NB
open PySem

/-- pure data -/
inductive P where
  | non | bl (b : Bool) | int (i : Int) | str (s : Str)
  | tup (xs : List P) | lst (xs : List P)
  | exc (c : Nat) (fs : List P)
  | scr (ns : List Int)

/-- a value while it is handled: frozen data, or nodes that nobody else names -/
inductive D where
  | val (p : P) | tup (ds : List D) | lst (ds : List D)

mutual
def D.p : D → P
  | .val p => p
  | .tup ds => .tup (D.ps ds)
  | .lst ds => .lst (D.ps ds)
def D.ps : List D → List P
  | [] => []
  | d :: ds => d.p :: D.ps ds
end

def P.flat : P → Bool
  | .non | .bl _ | .int _ | .str _ => true
  | _ => false
mutual
/-- no frozen node within -/
def D.clean : D → Bool
  | .val p => p.flat
  | .tup ds => D.cleans ds
  | .lst ds => D.cleans ds
def D.cleans : List D → Bool
  | [] => true
  | d :: ds => d.clean && D.cleans ds
end
def D.isVal : D → Bool
  | .val _ => true
  | _ => false
/-- the items are frozen -/
def D.shallow : D → Bool
  | .val _ => true
  | .tup ds => ds.all D.isVal
  | .lst ds => ds.all D.isVal

/-- a name's slot: unknown, a value, a list that is being walked -/
inductive Sl where
  | no | ow (d : D) | lk (ps : List P)
abbrev Env := List Sl

/-- a result: a value, an exception of the c-th class with its fields, no rule -/
inductive R (α : Type) where
  | ok (a : α) | exc (c : Nat) (fs : List P) | stuck
def R.bind {α β : Type} : R α → (α → R β) → R β
  | .ok a, f => f a
  | .exc c fs, _ => .exc c fs
  | .stuck, _ => .stuck
instance : Monad R where
  pure := R.ok
  bind := R.bind
@[simp] theorem R.ok_bind {α β : Type} (a : α) (f : α → R β) : (R.ok a >>= f) = f a := (rfl)
@[simp] theorem R.exc_bind {α β : Type} (c : Nat) (fs : List P) (f : α → R β) : ((R.exc c fs : R α) >>= f) = R.exc c fs := (rfl)
@[simp] theorem R.stuck_bind {α β : Type} (f : α → R β) : ((R.stuck : R α) >>= f) = R.stuck := (rfl)
@[simp] theorem R.pure_eq {α : Type} (a : α) : (pure a : R α) = R.ok a := (rfl)
def R.of {α : Type} : Option α → R α
  | some a => .ok a
  | none => .stuck

/-! ### slots -/
def fz1 : Sl → Sl
  | .ow d => .ow (.val d.p)
  | s => s
def fz (ε : Env) (i : Nat) : Env := match ε[i]? with
  | some s => ε.set i (fz1 s)
  | none => ε
/-- all slots frozen -/
def fzAll (ε : Env) : Env := ε.map fz1
/-- an operand: a temporary, or a name that is looked at when the operation is done -/
inductive Arg where
  | tm (d : D) | nm (i : Nat)
/-- what an operation sees of an operand -/
def view1 (ε : Env) : Arg → R (P × Env)
  | .tm d => .ok (d.p, ε)
  | .nm i => match ε[i]? with
    | some (.ow d) => if d.shallow then .ok (d.p, ε) else .ok (d.p, fz ε i)
    | some (.lk ps) => .ok (.lst ps, ε)
    | _ => .stuck
def views : List Arg → Env → R (List P × Env)
  | [], ε => .ok ([], ε)
  | a :: as, ε => do
    let (p, ε1) ← view1 ε a
    let (ps, ε2) ← views as ε1
    pure (p :: ps, ε2)
/-- the result may be an operand itself -/
def fzArgs : List Arg → Env → Env
  | [], ε => ε
  | .tm _ :: as, ε => fzArgs as ε
  | .nm i :: as, ε => fzArgs as (fz ε i)

/-! ### operations on pure data -/
inductive BOp where
  | add | sub | mul | fdiv | mod | pow
  deriving DecidableEq
inductive COp where
  | eq | ne | lt | le | gt | ge | is | isnot | isin | notin
  deriving DecidableEq
/-- the longest list that the rules are used for -/
def cap : Nat := 1000000
def newL (ps : List P) : R (D × Bool) := if ps.length ≤ cap then .ok (.lst (ps.map .val), false) else .stuck
def newT (ps : List P) : R (D × Bool) := if ps.length ≤ cap then .ok (.tup (ps.map .val), false) else .stuck
def flatR (p : P) : R (D × Bool) := .ok (.val p, false)
def binop : BOp → P → P → R (D × Bool)
  | .add, .int i, .int j => flatR (.int (i + j))
  | .sub, .int i, .int j => flatR (.int (i - j))
  | .mul, .int i, .int j => if i.natAbs.log2 + j.natAbs.log2 < 1000000 then flatR (.int (i * j)) else .stuck
  | .fdiv, .int i, .int j => if 0 < j ∧ j.natAbs.log2 < 9000 then flatR (.int (i / j)) else .stuck
  | .mod, .int i, .int j => if 0 < j then flatR (.int (i % j)) else .stuck
  | .pow, .int i, .int j => if 0 ≤ j ∧ j ≤ 1000 ∧ i.natAbs < 2 ^ 64 then flatR (.int (i ^ j.toNat)) else .stuck
  | .add, .lst xs, .lst ys => newL (xs ++ ys)
  | .add, .tup xs, .tup ys => if xs.length + ys.length ≤ cap then (if xs.isEmpty then .ok (.val (.tup ys), true) else if ys.isEmpty then .ok (.val (.tup xs), true) else newT (xs ++ ys)) else .stuck
  | .mul, .lst xs, .int k => if -(2 ^ 63) ≤ k ∧ k < 2 ^ 63 ∧ xs.length * k.toNat ≤ cap then newL (List.replicate k.toNat xs).flatten else .stuck
  | _, _, _ => .stuck
def negop : P → R (D × Bool)
  | .int i => flatR (.int (-i))
  | _ => .stuck
mutual
/-- Python's == -/
def P.eqv : P → P → Bool
  | .non, .non => true
  | .bl a, .bl b => a == b
  | .bl a, .int j => (if a then 1 else 0) == j
  | .int i, .bl b => i == (if b then 1 else 0)
  | .int i, .int j => i == j
  | .str x, .str y => x == y
  | .lst xs, .lst ys => P.eqvs xs ys
  | .tup xs, .tup ys => P.eqvs xs ys
  | _, _ => false
def P.eqvs : List P → List P → Bool
  | [], [] => true
  | x :: xs, y :: ys => P.eqv x y && P.eqvs xs ys
  | _, _ => false
end
mutual
/-- == of it has a rule -/
def P.cmpOk : Nat → P → Bool
  | 0, _ => false
  | _ + 1, .non => true
  | _ + 1, .bl _ => true
  | _ + 1, .int _ => true
  | _ + 1, .str x => PyData.strOk x
  | n + 1, .lst xs => P.cmpOks n xs
  | n + 1, .tup xs => P.cmpOks n xs
  | _ + 1, _ => false
def P.cmpOks : Nat → List P → Bool
  | _, [] => true
  | n, x :: xs => P.cmpOk n x && P.cmpOks n xs
end
def cmpop : COp → P → P → R Bool
  | .eq, p, q => if P.cmpOk 20 p && P.cmpOk 20 q then .ok (P.eqv p q) else .stuck
  | .ne, p, q => if P.cmpOk 20 p && P.cmpOk 20 q then .ok (!P.eqv p q) else .stuck
  | .lt, .int i, .int j => .ok (decide (i < j))
  | .le, .int i, .int j => .ok (decide (i ≤ j))
  | .gt, .int i, .int j => .ok (decide (i > j))
  | .ge, .int i, .int j => .ok (decide (i ≥ j))
  | .is, p, .non => match p with
    | .non => .ok true
    | _ => .ok false
  | .isnot, p, .non => match p with
    | .non => .ok false
    | _ => .ok true
  | .is, p, .bl b => match p with
    | .bl a => .ok (decide (a = b))
    | _ => .ok false
  | _, _, _ => .stuck
/-- of two whole numbers, in a chain -/
def cmpI : COp → Int → Int → R Bool
  | .lt, i, j => .ok (decide (i < j))
  | .le, i, j => .ok (decide (i ≤ j))
  | .gt, i, j => .ok (decide (i > j))
  | .ge, i, j => .ok (decide (i ≥ j))
  | _, _, _ => .stuck
def cmpR (o : COp) (p q : P) : R (D × Bool) := cmpop o p q >>= fun k => flatR (.bl k)
/-- built-in functions -/
inductive BI where
  | len | abs | int_ | max_ | min_ | sum_ | list_ | tuple_ | range2
  deriving DecidableEq
def ints? : List P → Option (List Int)
  | [] => some []
  | .int i :: ps => (ints? ps).map (i :: ·)
  | _ :: _ => none
def maxI : List Int → Int
  | [] => 0
  | [x] => x
  | x :: xs => max x (maxI xs)
def minI : List Int → Int
  | [] => 0
  | [x] => x
  | x :: xs => min x (minI xs)
def rangeP (lo hi : Int) : List P := (List.range (hi - lo).toNat).map fun (k : Nat) => P.int (lo + (k : Int))
def bltn : BI → List P → R (D × Bool)
  | .len, [.lst xs] => flatR (.int xs.length)
  | .len, [.tup xs] => flatR (.int xs.length)
  | .abs, [.int i] => flatR (.int (if i < 0 then -i else i))
  | .int_, [.int i] => flatR (.int i)
  | .max_, [.int i, .int j] => flatR (.int (if j > i then j else i))
  | .min_, [.int i, .int j] => flatR (.int (if j < i then j else i))
  | .sum_, [.lst xs] => match ints? xs with
    | some ns => flatR (.int ns.sum)
    | none => .stuck
  | .sum_, [.tup xs] => match ints? xs with
    | some ns => flatR (.int ns.sum)
    | none => .stuck
  | .max_, [.lst xs] => match ints? xs with
    | some (n :: ns) => flatR (.int (maxI (n :: ns)))
    | _ => .stuck
  | .min_, [.lst xs] => match ints? xs with
    | some (n :: ns) => flatR (.int (minI (n :: ns)))
    | _ => .stuck
  | .list_, [.lst xs] => newL xs
  | .list_, [.tup xs] => newL xs
  | .tuple_, [.lst xs] => newT xs
  | .tuple_, [.tup xs] => .ok (.val (.tup xs), true)
  | .range2, [.int lo, .int hi] => if -(2 ^ 62) ≤ lo ∧ lo < 2 ^ 62 ∧ -(2 ^ 62) ≤ hi ∧ hi < 2 ^ 62 then newL (rangeP lo hi) else .stuck
  | _, _ => .stuck
/-- a place counted from either end -/
abbrev ixP : Nat → Int → Option Nat := L2.ixN
def index : P → P → R P
  | .lst xs, .int i => R.of ((ixP xs.length i).bind fun j => xs[j]?)
  | .tup xs, .int i => R.of ((ixP xs.length i).bind fun j => xs[j]?)
  | _, _ => .stuck
/-- a slice -/
def cutP {α : Type} (xs : List α) (lo hi : Option Int) : List α := (xs.drop (HT.sIx xs.length 0 lo)).take (HT.sIx xs.length xs.length hi - HT.sIx xs.length 0 lo)
def slice : P → Option Int → Option Int → R (D × Bool)
  | .lst xs, lo, hi => newL (cutP xs lo hi)
  | .scr ns, lo, hi => newL (cutP (ns.map P.int) lo hi)
  | .tup xs, lo, hi => if HT.sIx xs.length 0 lo = 0 ∧ HT.sIx xs.length xs.length hi = xs.length then .ok (.val (.tup xs), true) else newT (cutP xs lo hi)
  | _, _, _ => .stuck
def optI : P → R Int
  | .int i => .ok i
  | _ => .stuck
/-- classes in isinstance -/
inductive Cl where
  | int_ | bool_ | str_ | list_ | tuple_ | own (c : Nat)
  deriving DecidableEq
/-- is the value of the class; own classes are asked of errors alone: sub c d: c is d or below it -/
def isiOne (sub : Nat → Nat → Bool) : P → Cl → Option Bool
  | .exc c _, .own d => some (sub c d)
  | .exc _ _, _ => none
  | .scr _, _ => none
  | _, .own _ => none
  | .int _, .int_ => some true
  | .bl _, .int_ => some true
  | .bl _, .bool_ => some true
  | .str _, .str_ => some true
  | .lst _, .list_ => some true
  | .tup _, .tuple_ => some true
  | _, _ => some false
def isiAny (sub : Nat → Nat → Bool) (p : P) : List Cl → Option Bool
  | [] => some false
  | c :: cs => match isiOne sub p c with
    | some true => some true
    | some false => isiAny sub p cs
    | none => none

/-! ### the language -/
inductive Mth where
  | append | extend | pop0 | popAt
  deriving DecidableEq
/-- a target -/
inductive Pt where
  | nm (i : Nat) | tup (is : List Nat)
def Pt.idx : Pt → List Nat
  | .nm i => [i]
  | .tup is => is
mutual
inductive X where
  | v (i : Nat) | c (p : P)
  | bin (o : BOp) (a b : X) | neg (a : X) | notv (a : X)
  | cmp (o : COp) (a b : X) | cmp2 (o o' : COp) (a b c : X)
  | and_ (a b : X) | or_ (a b : X) | ife (t a b : X)
  | tup (xs : XL) | lst (xs : XL)
  | ix (a i : X) | sl (a : X) (lo hi : XO)
  | call (f : Nat) (xs : XL)
  | bi (b : BI) (xs : XL)
  | isi (a : X) (cs : List Cl)
  | attr (a : X) (f : Str)
  | lc (g : Pt) (own : List Nat) (it : It) (ifs : XO) (e : X)
  | lc2 (g : Pt) (own : List Nat) (it : It) (g1 : Pt) (i1 : Nat) (ifs : XO) (e : X)
  | meth (m : Mth) (i : Nat) (xs : XL)
  | methP (m : Mth) (i : Nat) (path : List Int) (c : List P)
  | hold (e : X)
inductive XL where
  | nil | cons (x : X) (xs : XL)
inductive XO where
  | none | some (x : X)
/-- what a loop walks -/
inductive It where
  | rng (a b : X) | seq (a : X) | zip (xs : XL) | enum (a : X)
end

/-! ### the evaluator -/
/-- what is known of the text: below or equal (classes), the fields of a class's errors, whether a def changes its first argument -/
structure Tab where
  sub : Nat → Nat → Bool
  flds : Nat → List Str
  muts : Nat → Bool
/-- an operand: a name stands for itself -/
def argOf (e : X) (ε : Env) (r : R (D × Env)) : R (Arg × Env) := match e with
  | .v i => match ε[i]? with
    | some (.ow _) => .ok (.nm i, ε)
    | some (.lk _) => .ok (.nm i, ε)
    | _ => .stuck
  | _ => r >>= fun (d, ε1) => .ok (.tm d, ε1)
/-- a target's store -/
def setSl (ε : Env) (i : Nat) (d : D) : Env := ε.set i (.ow d)
def setMany (ε : Env) : List Nat → List D → R Env
  | [], [] => .ok ε
  | i :: is, d :: ds => setMany (setSl ε i d) is ds
  | _, _ => .stuck
def assign (ε : Env) : Pt → D → R Env
  | .nm i, d => .ok (setSl ε i d)
  | .tup is, .val (.tup ps) => setMany ε is (ps.map .val)
  | .tup is, .tup ds => setMany ε is ds
  | .tup _, _ => .stuck
def wipeE (ε : Env) : List Nat → Env
  | [] => ε
  | i :: is => (wipeE ε is).set i .no
/-- the block's own slots get back what they held -/
def unwipe (ε0 ε : Env) : List Nat → Env
  | [] => ε
  | i :: is => match ε0[i]? with
    | some s => (unwipe ε0 ε is).set i s
    | none => unwipe ε0 ε is
/-- the argument of a call: what the callee is given -/
def borrow (ε : Env) : Arg → R P
  | .tm d => .ok d.p
  | .nm i => match ε[i]? with
    | some (.ow d) => .ok d.p
    | some (.lk ps) => .ok (.lst ps)
    | _ => .stuck
def borrows (ε : Env) : List Arg → R (List P)
  | [] => .ok []
  | a :: as => do
    let p ← borrow ε a
    let ps ← borrows ε as
    .ok (p :: ps)
def Arg.isNm (i : Nat) : Arg → Bool
  | .nm j => i == j
  | .tm _ => false
/-- no operand is a list that is being walked -/
def lkFree (ε : Env) (as : List Arg) : Bool := as.all fun a => match a with
  | .nm i => (match ε[i]? with | some (.lk _) => false | _ => true)
  | .tm _ => true
/-- what a call does: ds0 the trees that are handed over, rest the operands that are lent -/
def coreE (φ : List D → R (D × List D)) (ds0 : List D) (rest : List Arg) (ε : Env) : R (D × List D × Env) := do
  let ps ← borrows ε rest
  match φ (ds0 ++ ps.map .val) with
  | .ok (d, out) => if d.clean && D.cleans out then .ok (d, out, ε) else if lkFree ε rest then .ok (d, out, fzArgs rest ε) else .stuck
  | .exc c fs => if lkFree ε rest || fs.all P.flat then .exc c fs else .stuck
  | .stuck => .stuck
/-- a call; mu: the def may change its first argument, a name's list -/
def callE (mu : Bool) (φ : List D → R (D × List D)) (as : List Arg) (ε : Env) : R (D × Env) := match mu with
  | false => coreE φ [] as ε >>= fun (d, _, ε1) => .ok (d, ε1)
  | true => match as with
    | .nm i :: rest => match ε[i]? with
      | some (.ow d0) => coreE φ [d0] rest (ε.set i .no) >>= fun (d, out, ε1) => match out with
        | [d1] => .ok (d, setSl ε1 i d1)
        | _ => .stuck
      | _ => .stuck
    | _ => .stuck
/-- an operation's result -/
def done (as : List Arg) (ε : Env) (r : R (D × Bool)) : R (D × Env) := r >>= fun (d, al) => .ok (d, if al then fzArgs as ε else ε)
/-- a list within a tree -/
def atPath (f : List D → R (D × List D)) : List Int → D → R (D × D)
  | [], .lst ds => f ds >>= fun (d, ds') => .ok (d, .lst ds')
  | [], _ => .stuck
  | i :: is, .lst ds => do
    let k ← R.of (ixP ds.length i)
    let d0 ← R.of ds[k]?
    let (d, d1) ← atPath f is d0
    pure (d, .lst (ds.set k d1))
  | i :: is, .tup ds => do
    let k ← R.of (ixP ds.length i)
    let d0 ← R.of ds[k]?
    let (d, d1) ← atPath f is d0
    pure (d, .tup (ds.set k d1))
  | _ :: _, .val _ => .stuck
/-- a list's methods: the receiver's items, the arguments: the answer, the items behind -/
def methD : Mth → List D → List D → R (D × List D)
  | .append, ds, [d] => if ds.length < cap then .ok (.val .non, ds ++ [d]) else .stuck
  | .extend, ds, [d] => match d.p with
    | .lst ps => if ds.length + ps.length ≤ cap then .ok (.val .non, ds ++ ps.map .val) else .stuck
    | _ => .stuck
  | .pop0, ds, [] => match ds[ds.length - 1]? with
    | some d => .ok (d, ds.dropLast)
    | none => .stuck
  | .popAt, ds, [.val (.int i)] => if -(2 ^ 63) ≤ i ∧ i < 2 ^ 63 then (match ixP ds.length i with
    | some k => (match ds[k]? with
      | some d => .ok (d, ds.eraseIdx k)
      | none => .stuck)
    | none => .stuck) else .stuck
  | _, _, _ => .stuck
def intsD : List P → R (List Int)
  | [] => .ok []
  | .int i :: ps => intsD ps >>= fun is => .ok (i :: is)
  | _ :: _ => .stuck
/-- what a loop walks: the items one by one, the name that is locked -/
def itemsOf : P → R (List P)
  | .lst xs => .ok xs
  | .tup xs => .ok xs
  | _ => .stuck
def zip2 (xs ys : List P) : List P := (xs.zip ys).map fun xy => P.tup [xy.1, xy.2]
def zip3 (xs ys zs : List P) : List P := (xs.zip (ys.zip zs)).map fun xyz => P.tup [xyz.1, xyz.2.1, xyz.2.2]
def enumP : Nat → List P → List P
  | _, [] => []
  | k, p :: ps => .tup [.int k, p] :: enumP (k + 1) ps
/-- sequences of one kind, side by side -/
def zipItems : List P → R (List P)
  | [.lst xs, .lst ys] => .ok (zip2 xs ys)
  | [.tup xs, .tup ys] => .ok (zip2 xs ys)
  | [.lst xs, .lst ys, .lst zs] => .ok (zip3 xs ys zs)
  | _ => .stuck
/-- what is walked: its value, the slots ahead of the lock, the slots behind it -/
def lockV (ε : Env) : Arg → R (P × Env × Env)
  | .tm d => .ok (d.p, ε, ε)
  | .nm i => match ε[i]? with
    | some (.ow (.lst ds)) => if ds.all D.isVal then .ok (.lst (D.ps ds), ε, ε.set i (.lk (D.ps ds))) else .ok (.lst (D.ps ds), fz ε i, fz ε i)
    | some (.ow d) => .ok (d.p, fz ε i, fz ε i)
    | some (.lk ps) => .ok (.lst ps, ε, ε)
    | _ => .stuck
def locksV : List Arg → Env → R (List P × List (Arg × Env) × Env)
  | [], ε => .ok ([], [], ε)
  | a :: as, ε => do
    let (p, ε1, ε2) ← lockV ε a
    let (ps, us, ε3) ← locksV as ε2
    .ok (p :: ps, (a, ε1) :: us, ε3)
/-- and let go, if it was locked here: ε0 as it stood ahead -/
def unlock1 (ε0 ε : Env) : Arg → Env
  | .nm i => match ε0[i]?, ε[i]? with
    | some (.ow (.lst ds)), some (.lk _) => ε.set i (.ow (.lst ds))
    | _, _ => ε
  | .tm _ => ε
def unlocks : List (Arg × Env) → Env → Env
  | [], ε => ε
  | (a, ε0) :: us, ε => unlock1 ε0 (unlocks us ε) a
/-- a comprehension's turns -/
def lcLoop (g : Pt) (own : List Nat) (body : Env → R (Option D × Env)) : List P → Env → R (List D × Env)
  | [], ε => .ok ([], ε)
  | p :: ps, ε => do
    let ε1 ← assign ε g (.val p)
    let (o, ε2) ← body ε1
    let (ds, ε3) ← lcLoop g own body ps (wipeE ε2 own)
    pure (match o with | some d => (d :: ds, ε3) | none => (ds, ε3))
def lcLoop2 (g : Pt) (own : List Nat) (body : Env → R (List D × Env)) : List P → Env → R (List D × Env)
  | [], ε => .ok ([], ε)
  | p :: ps, ε => do
    let ε1 ← assign ε g (.val p)
    let (d1, ε2) ← body ε1
    let (ds, ε3) ← lcLoop2 g own body ps (wipeE ε2 own)
    pure (d1 ++ ds, ε3)
/-- a truth value -/
def tst (r : R (D × Env)) : R (Bool × Env) := r >>= fun (d, ε1) => match d with
  | .val (.bl k) => .ok (k, ε1)
  | _ => .stuck
section
variable (tb : Tab) (Φ : Nat → List D → R (D × List D))
mutual
def ev : X → Env → R (D × Env)
  | .v i, ε => match ε[i]? with
    | some (.ow d) => .ok (.val d.p, fz ε i)
    | _ => .stuck
  | .c p, ε => .ok (.val p, ε)
  | .bin o a b, ε => do
    let (x, ε1) ← argOf a ε (ev a ε)
    let (y, ε2) ← argOf b ε1 (ev b ε1)
    let (p, ε3) ← view1 ε2 x
    let (q, ε4) ← view1 ε3 y
    done [x, y] ε4 (binop o p q)
  | .neg a, ε => do
    let (x, ε1) ← argOf a ε (ev a ε)
    let (p, ε2) ← view1 ε1 x
    done [x] ε2 (negop p)
  | .notv a, ε => do
    let (d, ε1) ← ev a ε
    match d with
    | .val (.bl b) => .ok (.val (.bl (!b)), ε1)
    | _ => .stuck
  | .cmp o a b, ε => do
    let (x, ε1) ← argOf a ε (ev a ε)
    let (y, ε2) ← argOf b ε1 (ev b ε1)
    let (p, ε3) ← view1 ε2 x
    let (q, ε4) ← view1 ε3 y
    done [x, y] ε4 (cmpR o p q)
  | .cmp2 o o' a b c, ε => do
    let (x, ε1) ← argOf a ε (ev a ε)
    let (y, ε2) ← argOf b ε1 (ev b ε1)
    let (p, ε3) ← view1 ε2 x
    let (q, ε4) ← view1 ε3 y
    match p, q with
    | .int i, .int j => do
      let k ← cmpI o i j
      if k then do
        let (z, ε5) ← argOf c ε4 (ev c ε4)
        let (r, ε6) ← view1 ε5 z
        match r with
        | .int l => do
          let k' ← cmpI o' j l
          .ok (.val (.bl k'), ε6)
        | _ => .stuck
      else .ok (.val (.bl false), ε4)
    | _, _ => .stuck
  | .and_ a b, ε => do
    let (d, ε1) ← ev a ε
    match d with
    | .val (.bl k) => if k then ev b ε1 else .ok (.val (.bl false), ε1)
    | _ => .stuck
  | .or_ a b, ε => do
    let (d, ε1) ← ev a ε
    match d with
    | .val (.bl k) => if k then .ok (.val (.bl true), ε1) else ev b ε1
    | _ => .stuck
  | .ife t a b, ε => do
    let (k, ε1) ← tst (ev t ε)
    if k then ev a ε1 else ev b ε1
  | .tup xs, ε => do
    let (ds, ε1) ← evs xs ε
    if ds.length ≤ cap then .ok (.tup ds, ε1) else .stuck
  | .lst xs, ε => do
    let (ds, ε1) ← evs xs ε
    if ds.length ≤ cap then .ok (.lst ds, ε1) else .stuck
  | .ix a i, ε => do
    let (x, ε1) ← argOf a ε (ev a ε)
    let (y, ε2) ← argOf i ε1 (ev i ε1)
    let (p, ε3) ← view1 ε2 x
    let (q, ε4) ← view1 ε3 y
    done [x, y] ε4 (index p q >>= flatR)
  | .sl a lo hi, ε => do
    let (x, ε1) ← argOf a ε (ev a ε)
    let (l, ε2) ← evo lo ε1
    let (h, ε3) ← evo hi ε2
    let (p, ε4) ← view1 ε3 x
    done [x] ε4 (slice p l h)
  | .call f xs, ε => do
    let (as, ε1) ← eargs xs ε
    callE (tb.muts f) (Φ f) as ε1
  | .bi b xs, ε => do
    let (as, ε1) ← eargs xs ε
    let (ps, ε2) ← views as ε1
    done as ε2 (bltn b ps)
  | .isi a cs, ε => do
    let (x, ε1) ← argOf a ε (ev a ε)
    let (p, ε2) ← view1 ε1 x
    let k ← R.of (isiAny tb.sub p cs)
    pure (.val (.bl k), ε2)
  | .attr a f, ε => do
    let (x, ε1) ← argOf a ε (ev a ε)
    let (p, ε2) ← view1 ε1 x
    match p with
    | .exc c fs => do
      let r ← R.of ((((tb.flds c).zip fs).lookup f))
      pure (.val r, ε2)
    | _ => .stuck
  | .lc g own it ifs e, ε => do
    let (ps, us, ε1) ← eit it ε
    if ps.length ≤ cap then do
      let (ds, ε2) ← lcLoop g own (fun ε => do
        let (k, ε3) ← eif ifs ε
        if k then do
          let (d, ε4) ← ev e ε3
          pure (some d, ε4)
        else pure (none, ε3)) ps (wipeE ε1 own)
      .ok (.lst ds, unlocks us (unwipe ε1 ε2 own))
    else .stuck
  | .lc2 g own it g1 i1 ifs e, ε => do
    let (ps, us, ε1) ← eit it ε
    match lcLoop2 g own (fun ε => match ε[i1]? with
      | some (.lk ps1) => lcLoop g1 g1.idx (fun ε => do
        let (k, ε5) ← eif ifs ε
        if k then do
          let (d, ε6) ← ev e ε5
          pure (some d, ε6)
        else pure (none, ε5)) ps1 (wipeE ε g1.idx)
      | _ => .stuck) ps (wipeE ε1 own) with
    | .ok (ds, ε2) => if ds.length ≤ cap then .ok (.lst ds, unlocks us (unwipe ε1 ε2 own)) else .stuck
    | _ => .stuck
  | .meth m i xs, ε => match ε[i]? with
    | some (.ow (.lst _)) => do
      let (ds, ε2) ← evs xs ε
      match ε2[i]? with
      | some (.ow (.lst items)) => do
        let (r, items') ← methD m items ds
        .ok (r, setSl ε2 i (.lst items'))
      | _ => .stuck
    | _ => .stuck
  | .methP m i path c, ε => match ε[i]? with
    | some (.ow d) => do
      let (r, d') ← atPath (fun items => methD m items (c.map .val)) path d
      .ok (r, setSl ε i d')
    | _ => .stuck
  | .hold e, ε => match ev e (fzAll ε) with
    | .ok (d, _) => if d.clean then .ok (d, ε) else ev e ε
    | .exc c fs => .exc c fs
    | .stuck => .stuck
termination_by structural x => x
def evs : XL → Env → R (List D × Env)
  | .nil, ε => .ok ([], ε)
  | .cons x xs, ε => do
    let (d, ε1) ← ev x ε
    let (ds, ε2) ← evs xs ε1
    pure (d :: ds, ε2)
termination_by structural x => x
def eargs : XL → Env → R (List Arg × Env)
  | .nil, ε => .ok ([], ε)
  | .cons x xs, ε => do
    let (a, ε1) ← argOf x ε (ev x ε)
    let (as, ε2) ← eargs xs ε1
    pure (a :: as, ε2)
termination_by structural x => x
def evo : XO → Env → R (Option Int × Env)
  | .none, ε => .ok (none, ε)
  | .some x, ε => do
    let (d, ε1) ← ev x ε
    match d with
    | .val (.int i) => pure (some i, ε1)
    | _ => .stuck
termination_by structural x => x
def eif : XO → Env → R (Bool × Env)
  | .none, ε => .ok (true, ε)
  | .some x, ε => tst (ev x ε)
termination_by structural x => x
def eit : It → Env → R (List P × List (Arg × Env) × Env)
  | .rng a b, ε => do
    let (d, ε1) ← ev a ε
    let (d', ε2) ← ev b ε1
    match d, d' with
    | .val (.int lo), .val (.int hi) => if -(2 ^ 62) ≤ lo ∧ lo < 2 ^ 62 ∧ -(2 ^ 62) ≤ hi ∧ hi < 2 ^ 62 then pure (rangeP lo hi, [], ε2) else .stuck
    | _, _ => .stuck
  | .seq a, ε => do
    let (x, ε1) ← argOf a ε (ev a ε)
    let (p, ε2, ε3) ← lockV ε1 x
    let ps ← itemsOf p
    pure (ps, [(x, ε2)], ε3)
  | .zip xs, ε => do
    let (as, ε1) ← eargs xs ε
    let (ps, us, ε2) ← locksV as ε1
    let ts ← zipItems ps
    pure (ts, us, ε2)
  | .enum a, ε => do
    let (x, ε1) ← argOf a ε (ev a ε)
    let (p, ε2, ε3) ← lockV ε1 x
    match p with
    | .lst ps => .ok (enumP 0 ps, [(x, ε2)], ε3)
    | _ => .stuck
termination_by structural x => x
end
/-- a test -/
def et (x : X) (ε : Env) : R (Bool × Env) := tst (ev tb Φ x ε)
end
/-! ### statements -/
inductive Fl where
  | nx | rt (d : D) | bk | ct
inductive RS where
  | ok (f : Fl) (ε : Env) | exc (c : Nat) (fs : List P) (ε : Env) | stuck
mutual
inductive S where
  | asg (g : Pt) (e : X)
  | aug (i : Nat) (o : BOp) (e : X)
  | setix (i : Nat) (k : X) (e : X)
  | augix (i : Nat) (k : X) (o : BOp) (e : X)
  | ex (e : X)
  | ret (e : X) | retN
  | iff (t : X) (a b : SS)
  | for_ (g : Pt) (it : It) (body : SS)
  | wh (t : X) (body : SS)
  | bk | ct | pass
  | raise (c : Nat) (xs : XL)
  | try_ (body : SS) (c : Nat) (i : Nat) (h : SS)
inductive SS where
  | nil | cons (s : S) (ss : SS)
end
mutual
/-- no error within -/
def P.ne : P → Bool
  | .exc _ _ => false
  | .tup ps => P.nes ps
  | .lst ps => P.nes ps
  | _ => true
def P.nes : List P → Bool
  | [] => true
  | p :: ps => p.ne && P.nes ps
end
def Sl.ne : Sl → Bool
  | .no => true
  | .ow d => d.p.ne
  | .lk ps => P.nes ps
def Fl.ne : Fl → Bool
  | .rt d => d.p.ne
  | _ => true
/-- what is sure where an exception left -/
def vo1 : Sl → Sl
  | .ow (.val p) => .ow (.val p)
  | _ => .no
def vo (ε : Env) : Env := ε.map vo1
def lift {α : Type} (ε : Env) (r : R α) (f : α → RS) : RS := match r with
  | .ok a => f a
  | .exc c fs => .exc c fs (vo ε)
  | .stuck => .stuck
def RS.next (r : RS) (f : Env → RS) : RS := match r with
  | .ok .nx ε => f ε
  | r => r
/-- a returned name is handed on as it is -/
def moved (e : X) (ε : Env) (r : R (D × Env)) : R (D × Env) := match e with
  | .v i => match ε[i]? with
    | some (.ow d) => .ok (d, ε.set i .no)
    | _ => .stuck
  | _ => r
def forLoop (g : Pt) (body : Env → RS) : List P → Env → RS
  | [], ε => .ok .nx ε
  | p :: ps, ε => lift ε (assign ε g (.val p)) fun ε1 => match body ε1 with
    | .ok .nx ε2 => forLoop g body ps ε2
    | .ok .ct ε2 => forLoop g body ps ε2
    | .ok .bk ε2 => .ok .nx ε2
    | r => r
def whLoop (test : Env → R (Bool × Env)) (body : Env → RS) : Nat → Env → RS
  | 0, _ => .stuck
  | n + 1, ε => lift ε (test ε) fun (k, ε1) => if k then (match body ε1 with
    | .ok .nx ε2 => whLoop test body n ε2
    | .ok .ct ε2 => whLoop test body n ε2
    | .ok .bk ε2 => .ok .nx ε2
    | r => r) else .ok .nx ε1
def RS.after (r : RS) (f : Env → Env) : RS := match r with
  | .ok .nx ε => .ok .nx (f ε)
  | .ok (.rt d) ε => .ok (.rt d) (f ε)
  | .exc c fs ε => .exc c fs ε
  | _ => .stuck
section
variable (tb : Tab) (Φ : Nat → List D → R (D × List D)) (mkx : Nat → List P → R (List P)) (fuel : Nat)
/-- the items of a returned display -/
def evm : XL → Env → R (List D × Env)
  | .nil, ε => .ok ([], ε)
  | .cons x xs, ε => do
    let (d, ε1) ← moved x ε (ev tb Φ x ε)
    let (ds, ε2) ← evm xs ε1
    pure (d :: ds, ε2)
def evr (e : X) (ε : Env) : R (D × Env) := match e with
  | .tup xs => do
    let (ds, ε1) ← evm tb Φ xs ε
    if ds.length ≤ cap then .ok (.tup ds, ε1) else .stuck
  | e => moved e ε (ev tb Φ e ε)
mutual
def es : S → Env → RS
  | .asg g e, ε => lift ε (ev tb Φ e ε) fun (d, ε1) => lift ε1 (assign ε1 g d) fun ε2 => .ok .nx ε2
  | .aug i o e, ε => match ε[i]? with
    | some (.ow _) => lift ε (ev tb Φ e ε) fun (d, ε1) => (match ε1[i]?, d with
      | some (.ow (.val (.int a))), .val (.int b) => (match binop o (.int a) (.int b) with
        | .ok (r, _) => .ok .nx (setSl ε1 i r)
        | _ => .stuck)
      | _, _ => .stuck)
    | _ => .stuck
  | .setix i k e, ε => lift ε (ev tb Φ e ε) fun (d, ε1) => (match ε1[i]? with
    | some (.ow _) => lift ε1 (ev tb Φ k ε1) fun (kd, ε3) => (match kd, ε3[i]? with
      | .val (.int k), some (.ow (.lst items)) => (match ixP items.length k with
        | some j => .ok .nx (setSl ε3 i (.lst (items.set j d)))
        | none => .stuck)
      | _, _ => .stuck)
    | _ => .stuck)
  | .augix i k o e, ε => match ε[i]? with
    | some (.ow _) => lift ε (ev tb Φ k ε) fun (kd, ε2) => (match kd, ε2[i]? with
      | .val (.int k), some (.ow (.lst items)) => (match (ixP items.length k).bind fun j => items[j]? with
        | some (.val (.int a)) => lift ε2 (ev tb Φ e ε2) fun (d, ε3) => (match d, ε3[i]? with
          | .val (.int b), some (.ow (.lst items3)) => (match ixP items3.length k, binop o (.int a) (.int b) with
            | some j3, .ok (r, _) => .ok .nx (setSl ε3 i (.lst (items3.set j3 r)))
            | _, _ => .stuck)
          | _, _ => .stuck)
        | _ => .stuck)
      | _, _ => .stuck)
    | _ => .stuck
  | .ex e, ε => lift ε (ev tb Φ e ε) fun (_, ε1) => .ok .nx ε1
  | .ret e, ε => lift ε (evr tb Φ e ε) fun (d, ε1) => .ok (.rt d) ε1
  | .retN, ε => .ok (.rt (.val .non)) ε
  | .iff t a b, ε => lift ε (et tb Φ t ε) fun (k, ε1) => if k then ess a ε1 else ess b ε1
  | .for_ g it body, ε => lift ε (eit tb Φ it ε) fun (ps, us, ε1) => (forLoop g (fun ε => ess body ε) ps ε1).after (unlocks us)
  | .wh t body, ε => whLoop (et tb Φ t) (fun ε => ess body ε) fuel ε
  | .bk, ε => .ok .bk ε
  | .ct, ε => .ok .ct ε
  | .pass, ε => .ok .nx ε
  | .raise c xs, ε => lift ε (do
      let (ds, _) ← evs tb Φ xs ε
      mkx c (D.ps ds)) fun fs => .exc c fs (vo ε)
  | .try_ body c i h, ε => match ess body ε with
    | .exc c' fs ε1 => if tb.sub c' c then (match ess h (ε1.set i (.ow (.val (.exc c' fs)))) with
      | .ok f ε2 => if f.ne && (ε2.set i .no).all Sl.ne then .ok f (ε2.set i .no) else .stuck
      | _ => .stuck) else .exc c' fs ε1
    | r => r
def ess : SS → Env → RS
  | .nil, ε => .ok .nx ε
  | .cons s ss, ε => (es s ε).next fun ε1 => ess ss ε1
end
end
/-! ### defs -/
structure Fn where
  /-- all names, parameters -/
  n : Nat
  ps : Nat
  body : SS
def outs (mu : Bool) (ε : Env) : R (List D) := match mu with
  | false => .ok []
  | true => match ε with
    | .ow d :: _ => .ok [d]
    | _ => .stuck
def runFn (tb : Tab) (Φ : Nat → List D → R (D × List D)) (mkx : Nat → List P → R (List P)) (fuel : Nat) (mu : Bool) (F : Fn) (ds : List D) : R (D × List D) :=
  if ds.length = F.ps then
    match ess tb Φ mkx fuel F.body (ds.map Sl.ow ++ List.replicate (F.n - F.ps) Sl.no) with
    | .ok (.rt d) ε => outs mu ε >>= fun out => .ok (d, out)
    | .ok .nx ε => outs mu ε >>= fun out => .ok (.val .non, out)
    | .exc c fs _ => .exc c fs
    | _ => .stuck
  else .stuck
/-- k calls, one within another -/
def run (tb : Tab) (mkx : Nat → List P → R (List P)) (fuel : Nat) (fns : Nat → Option Fn) : Nat → Nat → List D → R (D × List D)
  | 0, _, _ => .stuck
  | k + 1, f, ds => match fns f with
    | some F => runFn tb (run tb mkx fuel fns k) mkx fuel (tb.muts f) F ds
    | none => .stuck
end NB
end
section
set_option linter.all false
/-! NBRep: what the values stand for in the heap; the state's relation; freezing, framing. -/
namespace NB
open PySem PySem.Spec PyProof.Rows L2
abbrev St := L2.St

/-- what stands for all: the written part, the errors' classes, the error that is handled (its address, its class's, its dict's) -/
structure Wd where
  K : PySem.W.Frag
  ca : Nat → Addr
  fl : Nat → List Str
  xn : Option (Addr × Addr × Addr)

section
variable (w : Wd)
mutual
def Rp (F : Hp) : V → P → Prop
  | v, .non => v = .non
  | v, .bl b => v = .bl b
  | v, .int i => v = .int i
  | v, .str s => v = .str s
  | v, .tup ps => ∃ a xs, v = .ref a ∧ F a = some (.tup xs) ∧ Rps F xs ps
  | v, .lst ps => ∃ a xs, v = .ref a ∧ F a = some (.lst xs) ∧ Rps F xs ps
  | v, .exc c fs => ∃ a d fv vs, v = .ref a ∧ w.xn = some (a, w.ca c, d) ∧ F d = some (.xd fv) ∧ (w.fl c).map (fun f => fv.lookup f) = vs.map some ∧ Rps F vs fs
  | v, .scr ns => ∃ a, v = .ref a ∧ SqL w.K F a (ns.map V.int)
def Rps (F : Hp) : List V → List P → Prop
  | vs, [] => vs = []
  | vs, p :: ps => ∃ v vr, vs = v :: vr ∧ Rp F v p ∧ Rps F vr ps
end
mutual
/-- S: where the nodes lie that nobody else names -/
def RpD (F H : Hp) : V → D → (Addr → Prop) → Prop
  | v, .val p, _ => Rp w F v p
  | v, .tup ds, S => ∃ a xs T, v = .ref a ∧ H a = some (.tup xs) ∧ S a ∧ ¬ T a ∧ (∀ b, T b → S b) ∧ RpDs F H xs ds T
  | v, .lst ds, S => ∃ a xs T, v = .ref a ∧ H a = some (.lst xs) ∧ S a ∧ ¬ T a ∧ (∀ b, T b → S b) ∧ RpDs F H xs ds T
def RpDs (F H : Hp) : List V → List D → (Addr → Prop) → Prop
  | vs, [], _ => vs = []
  | vs, d :: ds, S => ∃ v vr T U, vs = v :: vr ∧ RpD F H v d T ∧ RpDs F H vr ds U ∧ (∀ b, T b → S b) ∧ (∀ b, U b → S b) ∧ ∀ b, T b → U b → False
end
end

section
variable {w : Wd} {F F' H H' : Hp}
mutual
theorem Rp.mono (h : Same F F') : ∀ (p : P) (v : V), Rp w F v p → Rp w F' v p
  | .non, _, r => by simpa only [Rp] using r
  | .bl _, _, r => by simpa only [Rp] using r
  | .int _, _, r => by simpa only [Rp] using r
  | .str _, _, r => by simpa only [Rp] using r
  | .tup ps, v, r => by
    simp only [Rp] at r ⊢
    obtain ⟨a, xs, e, h1, h2⟩ := r
    exact ⟨a, xs, e, h _ _ h1, Rps.mono h ps xs h2⟩
  | .lst ps, v, r => by
    simp only [Rp] at r ⊢
    obtain ⟨a, xs, e, h1, h2⟩ := r
    exact ⟨a, xs, e, h _ _ h1, Rps.mono h ps xs h2⟩
  | .exc c fs, v, r => by
    simp only [Rp] at r ⊢
    obtain ⟨a, d, fv, vs, e, h1, h2, h3, h4⟩ := r
    exact ⟨a, d, fv, vs, e, h1, h _ _ h2, h3, Rps.mono h fs vs h4⟩
  | .scr ns, v, r => by
    simp only [Rp] at r ⊢
    obtain ⟨a, e, h1⟩ := r
    exact ⟨a, e, h.seq h1⟩
theorem Rps.mono (h : Same F F') : ∀ (ps : List P) (vs : List V), Rps w F vs ps → Rps w F' vs ps
  | [], _, r => by simpa only [Rps] using r
  | p :: ps, vs, r => by
    simp only [Rps] at r ⊢
    obtain ⟨v, vr, e, h1, h2⟩ := r
    exact ⟨v, vr, e, Rp.mono h p v h1, Rps.mono h ps vr h2⟩
end
theorem Rps.len : ∀ {ps : List P} {vs : List V}, Rps w F vs ps → vs.length = ps.length
  | [], _, r => by simp only [Rps] at r; simp [r]
  | p :: ps, vs, r => by
    simp only [Rps] at r
    obtain ⟨v, vr, rfl, _, h2⟩ := r
    simp [Rps.len h2]
theorem Rps.get : ∀ {ps : List P} {vs : List V} {i : Nat} {p : P}, Rps w F vs ps → ps[i]? = some p → ∃ v, vs[i]? = some v ∧ Rp w F v p
  | [], _, _, _, _, e => by simp at e
  | q :: ps, vs, 0, p, r, e => by
    simp only [Rps] at r
    obtain ⟨v, vr, rfl, h1, _⟩ := r
    simp at e; subst e
    exact ⟨v, rfl, h1⟩
  | q :: ps, vs, i + 1, p, r, e => by
    simp only [Rps] at r
    obtain ⟨v, vr, rfl, _, h2⟩ := r
    obtain ⟨u, e1, e2⟩ := Rps.get (i := i) (p := p) h2 (by simpa using e)
    exact ⟨u, by simpa using e1, e2⟩
theorem Rps.getV : ∀ {ps : List P} {vs : List V} {i : Nat} {v : V}, Rps w F vs ps → vs[i]? = some v → ∃ p, ps[i]? = some p ∧ Rp w F v p
  | [], _, _, _, r, e => by simp only [Rps] at r; subst r; simp at e
  | q :: ps, vs, 0, p, r, e => by
    simp only [Rps] at r
    obtain ⟨v, vr, rfl, h1, _⟩ := r
    simp at e; subst e
    exact ⟨q, rfl, h1⟩
  | q :: ps, vs, i + 1, p, r, e => by
    simp only [Rps] at r
    obtain ⟨v, vr, rfl, _, h2⟩ := r
    obtain ⟨u, e1, e2⟩ := Rps.getV (i := i) h2 (by simpa using e)
    exact ⟨u, by simpa using e1, e2⟩
theorem Rps.app : ∀ {ps qs : List P} {vs us : List V}, Rps w F vs ps → Rps w F us qs → Rps w F (vs ++ us) (ps ++ qs)
  | [], _, _, _, r, s => by simp only [Rps] at r; subst r; simpa using s
  | p :: ps, qs, vs, us, r, s => by
    simp only [Rps] at r
    obtain ⟨v, vr, rfl, h1, h2⟩ := r
    simp only [List.cons_append, Rps]
    exact ⟨v, vr ++ us, rfl, h1, Rps.app h2 s⟩
theorem Rps.take : ∀ {ps : List P} {vs : List V} (n : Nat), Rps w F vs ps → Rps w F (vs.take n) (ps.take n)
  | _, _, 0, _ => by simp [Rps]
  | [], _, n + 1, r => by simp only [Rps] at r; subst r; simp [Rps]
  | p :: ps, vs, n + 1, r => by
    simp only [Rps] at r
    obtain ⟨v, vr, rfl, h1, h2⟩ := r
    simp only [List.take_succ_cons, Rps]
    exact ⟨v, _, rfl, h1, Rps.take n h2⟩
theorem Rps.drop : ∀ {ps : List P} {vs : List V} (n : Nat), Rps w F vs ps → Rps w F (vs.drop n) (ps.drop n)
  | _, _, 0, r => r
  | [], _, n + 1, r => by simp only [Rps] at r; subst r; simp [Rps]
  | p :: ps, vs, n + 1, r => by
    simp only [Rps] at r
    obtain ⟨v, vr, rfl, h1, h2⟩ := r
    simpa using Rps.drop n h2
theorem Rps.rep {ps : List P} {vs : List V} (r : Rps w F vs ps) : ∀ k : Nat, Rps w F (List.replicate k vs).flatten (List.replicate k ps).flatten
  | 0 => by simp [Rps]
  | k + 1 => by
    rw [List.replicate_succ, List.replicate_succ, List.flatten_cons, List.flatten_cons]
    exact Rps.app r (Rps.rep r k)
theorem Rps.ints : ∀ {ps : List P} {vs : List V} {ns : List Int}, Rps w F vs ps → ints? ps = some ns → vs = ns.map V.int
  | [], _, ns, r, e => by
    simp only [Rps] at r; subst r
    simp only [ints?, Option.some.injEq] at e; subst e; rfl
  | .int i :: ps, vs, ns, r, e => by
    simp only [Rps] at r
    obtain ⟨v, vr, rfl, h1, h2⟩ := r
    simp only [ints?, Option.map_eq_some_iff] at e
    obtain ⟨ms, e1, rfl⟩ := e
    simp only [Rp] at h1
    rw [h1, Rps.ints h2 e1, List.map_cons]
  | .non :: ps, vs, ns, r, e => by simp [ints?] at e
  | .bl _ :: ps, vs, ns, r, e => by simp [ints?] at e
  | .str _ :: ps, vs, ns, r, e => by simp [ints?] at e
  | .tup _ :: ps, vs, ns, r, e => by simp [ints?] at e
  | .lst _ :: ps, vs, ns, r, e => by simp [ints?] at e
  | .exc _ _ :: ps, vs, ns, r, e => by simp [ints?] at e
  | .scr _ :: ps, vs, ns, r, e => by simp [ints?] at e
theorem Rps.of_ints : ∀ (ns : List Int), Rps w F (ns.map V.int) (ns.map P.int)
  | [] => by simp [Rps]
  | n :: ns => by
    simp only [List.map_cons, Rps, Rp]
    exact ⟨_, _, rfl, rfl, Rps.of_ints ns⟩
theorem Rp.flat {p : P} {v : V} (h : p.flat = true) (r : Rp w F v p) (F' : Hp) : Rp w F' v p := by
  cases p <;> simp only [P.flat] at h <;> first | exact absurd h Bool.false_ne_true | (simp only [Rp] at r ⊢; exact r)

mutual
/-- trees: the frozen part grows, the nodes stay -/
theorem RpD.mono (hF : Same F F') : ∀ (d : D) (v : V) (S S' : Addr → Prop), RpD w F H v d S → (∀ b, S b → S' b) → (∀ b o, S b → H b = some o → H' b = some o) → RpD w F' H' v d S'
  | .val p, v, S, S', r, _, _ => by
    simp only [RpD] at r ⊢
    exact Rp.mono hF p v r
  | .tup ds, v, S, S', r, hs, hk => by
    simp only [RpD] at r ⊢
    obtain ⟨a, xs, T, e, h1, h2, h3, h4, h5⟩ := r
    exact ⟨a, xs, T, e, hk _ _ h2 h1, hs _ h2, h3, fun b hb => hs b (h4 b hb), RpDs.mono hF ds xs T T h5 (fun _ z => z) fun b o hb => hk b o (h4 b hb)⟩
  | .lst ds, v, S, S', r, hs, hk => by
    simp only [RpD] at r ⊢
    obtain ⟨a, xs, T, e, h1, h2, h3, h4, h5⟩ := r
    exact ⟨a, xs, T, e, hk _ _ h2 h1, hs _ h2, h3, fun b hb => hs b (h4 b hb), RpDs.mono hF ds xs T T h5 (fun _ z => z) fun b o hb => hk b o (h4 b hb)⟩
theorem RpDs.mono (hF : Same F F') : ∀ (ds : List D) (vs : List V) (S S' : Addr → Prop), RpDs w F H vs ds S → (∀ b, S b → S' b) → (∀ b o, S b → H b = some o → H' b = some o) → RpDs w F' H' vs ds S'
  | [], _, _, _, r, _, _ => by simpa only [RpDs] using r
  | d :: ds, vs, S, S', r, hs, hk => by
    simp only [RpDs] at r ⊢
    obtain ⟨v, vr, T, U, e, h1, h2, h3, h4, h5⟩ := r
    exact ⟨v, vr, T, U, e, RpD.mono hF d v T T h1 (fun _ z => z) (fun b o hb => hk b o (h3 b hb)), RpDs.mono hF ds vr U U h2 (fun _ z => z) (fun b o hb => hk b o (h4 b hb)), fun b hb => hs b (h3 b hb), fun b hb => hs b (h4 b hb), h5⟩
end
theorem RpDs.len : ∀ {ds : List D} {vs : List V} {S : Addr → Prop}, RpDs w F H vs ds S → vs.length = ds.length
  | [], _, _, r => by simp only [RpDs] at r; simp [r]
  | d :: ds, vs, S, r => by
    simp only [RpDs] at r
    obtain ⟨v, vr, T, U, rfl, _, h2, _⟩ := r
    simp [RpDs.len h2]
mutual
/-- its nodes are frozen: F' holds them -/
theorem RpD.freeze (hF : Same F F') : ∀ (d : D) (v : V) (S : Addr → Prop), RpD w F H v d S → (∀ b o, S b → H b = some o → F' b = some o) → Rp w F' v d.p
  | .val p, v, S, r, _ => by
    simp only [RpD, D.p] at r ⊢
    exact Rp.mono hF p v r
  | .tup ds, v, S, r, hk => by
    simp only [RpD, D.p, Rp] at r ⊢
    obtain ⟨a, xs, T, e, h1, h2, h3, h4, h5⟩ := r
    exact ⟨a, xs, e, hk _ _ h2 h1, RpDs.freeze hF ds xs T h5 fun b o hb => hk b o (h4 b hb)⟩
  | .lst ds, v, S, r, hk => by
    simp only [RpD, D.p, Rp] at r ⊢
    obtain ⟨a, xs, T, e, h1, h2, h3, h4, h5⟩ := r
    exact ⟨a, xs, e, hk _ _ h2 h1, RpDs.freeze hF ds xs T h5 fun b o hb => hk b o (h4 b hb)⟩
theorem RpDs.freeze (hF : Same F F') : ∀ (ds : List D) (vs : List V) (S : Addr → Prop), RpDs w F H vs ds S → (∀ b o, S b → H b = some o → F' b = some o) → Rps w F' vs (D.ps ds)
  | [], _, _, r, _ => by simpa only [RpDs, D.ps, Rps] using r
  | d :: ds, vs, S, r, hk => by
    simp only [RpDs, D.ps, Rps] at r ⊢
    obtain ⟨v, vr, T, U, e, h1, h2, h3, h4, h5⟩ := r
    exact ⟨v, vr, e, RpD.freeze hF d v T h1 (fun b o hb => hk b o (h3 b hb)), RpDs.freeze hF ds vr U h2 fun b o hb => hk b o (h4 b hb)⟩
end
mutual
/-- without frozen nodes it does not lean on the frozen part -/
theorem RpD.unlean : ∀ (d : D) (v : V) (S : Addr → Prop), d.clean = true → RpD w F H v d S → RpD w F' H v d S
  | .val p, v, S, c, r => by
    simp only [RpD, D.clean] at r c ⊢
    exact r.flat c F'
  | .tup ds, v, S, c, r => by
    simp only [RpD, D.clean] at r c ⊢
    obtain ⟨a, xs, T, e, h1, h2, h3, h4, h5⟩ := r
    exact ⟨a, xs, T, e, h1, h2, h3, h4, RpDs.unlean ds xs T c h5⟩
  | .lst ds, v, S, c, r => by
    simp only [RpD, D.clean] at r c ⊢
    obtain ⟨a, xs, T, e, h1, h2, h3, h4, h5⟩ := r
    exact ⟨a, xs, T, e, h1, h2, h3, h4, RpDs.unlean ds xs T c h5⟩
theorem RpDs.unlean : ∀ (ds : List D) (vs : List V) (S : Addr → Prop), D.cleans ds = true → RpDs w F H vs ds S → RpDs w F' H vs ds S
  | [], _, _, _, r => by simpa only [RpDs] using r
  | d :: ds, vs, S, c, r => by
    simp only [RpDs, D.cleans, Bool.and_eq_true] at r c ⊢
    obtain ⟨v, vr, T, U, e, h1, h2, h3⟩ := r
    exact ⟨v, vr, T, U, e, RpD.unlean d v T c.1 h1, RpDs.unlean ds vr U c.2 h2, h3⟩
end
/-- items that are all frozen -/
theorem RpDs.vals : ∀ {ds : List D} {vs : List V} {S : Addr → Prop}, ds.all D.isVal = true → RpDs w F H vs ds S → Rps w F vs (D.ps ds)
  | [], _, _, _, r => by simpa only [RpDs, D.ps, Rps] using r
  | .val p :: ds, vs, S, h, r => by
    simp only [RpDs, D.ps, Rps, RpD, D.p] at r ⊢
    obtain ⟨v, vr, T, U, e, h1, h2, h3⟩ := r
    simp only [List.all_cons, D.isVal, Bool.true_and] at h
    exact ⟨v, vr, e, h1, RpDs.vals h h2⟩
  | .tup _ :: ds, vs, S, h, r => by simp [D.isVal] at h
  | .lst _ :: ds, vs, S, h, r => by simp [D.isVal] at h
theorem RpDs.of_vals : ∀ {ps : List P} {vs : List V} (S : Addr → Prop), Rps w F vs ps → RpDs w F H vs (ps.map .val) S
  | [], _, _, r => by simpa only [List.map_nil, RpDs, Rps] using r
  | p :: ps, vs, S, r => by
    simp only [List.map_cons, RpDs, Rps, RpD] at r ⊢
    obtain ⟨v, vr, e, h1, h2⟩ := r
    exact ⟨v, vr, fun _ => False, fun _ => False, e, h1, RpDs.of_vals _ h2, fun _ z => z.elim, fun _ z => z.elim, fun _ z => z.elim⟩
theorem D.ps_vals : ∀ ps : List P, D.ps (ps.map .val) = ps
  | [] => rfl
  | p :: ps => by simp only [List.map_cons, D.ps, D.p, D.ps_vals ps]
theorem D.ps_len : ∀ ds : List D, (D.ps ds).length = ds.length
  | [] => rfl
  | d :: ds => by simp [D.ps, D.ps_len ds]
theorem RpDs.app : ∀ {ds es : List D} {vs us : List V} {S T : Addr → Prop}, RpDs w F H vs ds S → RpDs w F H us es T → (∀ b, S b → T b → False) → RpDs w F H (vs ++ us) (ds ++ es) (fun b => S b ∨ T b)
  | [], es, vs, us, S, T, r, s, _ => by
    simp only [RpDs] at r
    subst r
    exact RpDs.mono (fun _ _ z => z) es us T _ s (fun _ z => .inr z) (fun _ _ _ z => z)
  | d :: ds, es, vs, us, S, T, r, s, hd => by
    simp only [RpDs] at r
    obtain ⟨v, vr, S1, S2, rfl, h1, h2, h3, h4, h5⟩ := r
    simp only [List.cons_append, RpDs]
    exact ⟨v, vr ++ us, S1, _, rfl, h1, RpDs.app h2 s (fun b hb ht => hd b (h4 b hb) ht), fun b hb => .inl (h3 b hb), fun b hb => hb.elim (fun z => .inl (h4 b z)) .inr,
      fun b hb hc => hc.elim (fun z => h5 b hb z) fun z => hd b (h3 b hb) z⟩
theorem RpDs.getD : ∀ {ds : List D} {vs : List V} {S : Addr → Prop} {i : Nat} {d : D}, RpDs w F H vs ds S → ds[i]? = some d → ∃ v, vs[i]? = some v ∧ ∃ T, RpD w F H v d T ∧ (∀ b, T b → S b)
  | [], _, _, _, _, _, e => by simp at e
  | q :: ds, vs, S, 0, d, r, e => by
    simp only [RpDs] at r
    obtain ⟨v, vr, T, U, rfl, h1, h2, h3, h4, h5⟩ := r
    simp at e; subst e
    exact ⟨v, rfl, T, h1, h3⟩
  | q :: ds, vs, S, i + 1, d, r, e => by
    simp only [RpDs] at r
    obtain ⟨v, vr, T, U, rfl, h1, h2, h3, h4, h5⟩ := r
    obtain ⟨u, e1, T', e2, e3⟩ := RpDs.getD (i := i) h2 (by simpa using e)
    exact ⟨u, by simpa using e1, T', e2, fun b hb => h4 b (e3 b hb)⟩
end
end NB
end
section
set_option linter.all false
/-! NBState: the state's relation, freezing, framing, operands. -/
namespace NB
open PySem PySem.Spec PyProof.Rows L2
open Classical in
noncomputable def addR (R H : Hp) (T : Addr → Prop) : Hp := fun b => match R b with
  | some o => some o
  | none => if T b then H b else none
section
variable {R H F F' H' R' L : Hp} {T U : Addr → Prop}
theorem addR_in : Same R (addR R H T) := fun b o e => by
  unfold addR
  rw [e]
theorem addR_sub (h : Same R H) : Same (addR R H T) H := fun b o e => by
  unfold addR at e
  cases q : R b with
  | some u => rw [q] at e; rw [← e]; exact h _ _ q
  | none =>
    rw [q] at e
    simp only at e
    split at e
    · exact e
    · cases e
theorem addR_at {b : Addr} {o : HO} (h : Same R H) (t : T b) (e : H b = some o) : addR R H T b = some o := by
  unfold addR
  cases q : R b with
  | some u => rw [h _ _ q] at e; exact e
  | none => simp only; rw [if_pos t]; exact e
theorem addR_none {b : Addr} (e : R b = none) (t : ¬ T b) : addR R H T b = none := by
  unfold addR
  rw [e]
  simp only
  rw [if_neg t]
theorem addR_some {b : Addr} {o : HO} (e : addR R H T b = some o) : R b = some o ∨ (R b = none ∧ T b) := by
  unfold addR at e
  cases q : R b with
  | some u => rw [q] at e; exact .inl e
  | none =>
    rw [q] at e
    simp only at e
    split at e
    · exact .inr ⟨rfl, by assumption⟩
    · cases e
theorem Same.none' (h : Same R R') {b : Addr} (e : R' b = none) : R b = none := by
  cases q : R b with
  | none => rfl
  | some o => rw [h _ _ q] at e; cases e
end

abbrev Own := Nat → Addr → Prop
def SlR (w : Wd) (F L H : Hp) : Sl → Option V → (Addr → Prop) → Prop
  | .no, _, _ => True
  | .ow d, o, S => ∃ v, o = some v ∧ RpD w F H v d S
  | .lk ps, o, _ => ∃ a xs, o = some (.ref a) ∧ L a = some (.lst xs) ∧ Rps w F xs ps
/-- F frozen, R to be kept, L locked, H all; S i: the nodes that slot i alone names -/
structure OK (w : Wd) (F R : Hp) (L : Nat → Hp) (H : Hp) (σ : St) (ε : Env) (S : Own) : Prop where
  fh : Same F H
  rh : Same R H
  lr : ∀ i, Same (L i) R
  lf : ∀ i b o, L i b = some o → F b = none
  lu : ∀ i a b o o', L i a = some o → L i b = some o' → a = b
  len : σ.length = ε.length
  sl : ∀ (i : Nat) s, ε[i]? = some s → SlR w F (L i) H s (σ[i]?.join) (S i)
  dis : ∀ i j a, i ≠ j → S i a → S j a → False
  out : ∀ i a, S i a → F a = none ∧ R a = none ∧ ∃ o, H a = some o
structure Post (F R F' H' : Hp) : Prop where
  ff : Same F F'
  fh : Same F' H'
  rh : Same R H'
  gr : ∀ b o, R b = some o → F b = none → F' b = none
/-- a temporary's nodes -/
def Tmp (F R H : Hp) (S : Own) (T : Addr → Prop) : Prop := ∀ a, T a → F a = none ∧ R a = none ∧ (∃ o, H a = some o) ∧ ∀ i, ¬ S i a

section
variable {w : Wd} {F F' F1 F2 R R1 H H' H1 H2 : Hp} {L : Nat → Hp} {σ : St} {ε ε' : Env} {S S' : Own} {T U : Addr → Prop}
theorem Post.refl (o : OK w F R L H σ ε S) : Post F R F H := ⟨Same.refl _, o.fh, o.rh, fun _ _ _ e => e⟩
theorem Post.comp (a : Post F R F1 H1) (b : Post F1 R1 F2 H2) (h : Same R R1) : Post F R F2 H2 :=
  ⟨a.ff.trans b.ff, b.fh, fun c o e => b.rh c o (h c o e), fun c o e f => b.gr c o (h c o e) (a.gr c o e f)⟩
theorem OK.frame (o : OK w F R L H σ ε S) (h : ∀ i a, S i a → T a → False) : OK w F (addR R H T) L H σ ε S :=
  ⟨o.fh, addR_sub o.rh, fun i => (o.lr i).trans addR_in, o.lf, o.lu, o.len, o.sl, o.dis, fun i a s => ⟨(o.out i a s).1, addR_none (o.out i a s).2.1 (h i a s), (o.out i a s).2.2⟩⟩
theorem OK.unframe (o : OK w F R1 L H σ ε S) (h : Same R R1) (hl : ∀ i, Same (L i) R) : OK w F R L H σ ε S :=
  ⟨o.fh, h.trans o.rh, hl, o.lf, o.lu, o.len, o.sl, o.dis, fun i a s => ⟨(o.out i a s).1, Same.none' h (o.out i a s).2.1, (o.out i a s).2.2⟩⟩
theorem SlR.mono {L : Hp} {s : Sl} {v : Option V} {S : Addr → Prop} (hF : Same F F') (hk : ∀ b o, S b → H b = some o → H' b = some o) (r : SlR w F L H s v S) : SlR w F' L H' s v S := by
  cases s with
  | no => trivial
  | ow d => obtain ⟨v, e, r⟩ := r; exact ⟨v, e, RpD.mono hF d v S S r (fun _ z => z) hk⟩
  | lk ps => obtain ⟨a, xs, e, r1, r2⟩ := r; exact ⟨a, xs, e, r1, Rps.mono hF ps xs r2⟩
/-- temporary nodes are frozen -/
theorem OK.grow (o : OK w F R L H σ ε S) (h : Tmp F R H S T) : OK w (addR F H T) R L H σ ε S ∧ Post F R (addR F H T) H := by
  refine ⟨⟨addR_sub o.fh, o.rh, o.lr, fun i b u e => addR_none (o.lf i b u e) fun t => ?_, o.lu, o.len, fun i s e => (o.sl i s e).mono addR_in (fun _ _ _ z => z), o.dis, fun i a s => ⟨addR_none (o.out i a s).1 fun t => (h a t).2.2.2 i s, (o.out i a s).2⟩⟩,
    addR_in, addR_sub o.fh, o.rh, fun b u e f => addR_none f fun t => ?_⟩
  · have := (h b t).2.1
    rw [o.lr i b u e] at this; cases this
  · have := (h b t).2.1
    rw [e] at this; cases this
theorem OK.alloc (o : OK w F R L H σ ε S) {p : Addr} {u : HO} (hp : H p = none) : OK w F R L (upd H p u) σ ε S ∧ Post F R F (upd H p u) ∧ ∀ i, ¬ S i p := by
  have k : Same H (upd H p u) := fun b x e => by rw [upd_ne (ne_of_none e hp)]; exact e
  exact ⟨⟨o.fh.trans k, o.rh.trans k, o.lr, o.lf, o.lu, o.len, fun i s e => (o.sl i s e).mono (Same.refl _) (fun b x _ z => k b x z), o.dis, fun i a s => ⟨(o.out i a s).1, (o.out i a s).2.1, by
      obtain ⟨x, e⟩ := (o.out i a s).2.2
      exact ⟨x, k _ _ e⟩⟩⟩, ⟨Same.refl _, o.fh.trans k, o.rh.trans k, fun _ _ _ e => e⟩, fun i s => by
    obtain ⟨x, e⟩ := (o.out i p s).2.2
    rw [hp] at e; cases e⟩
theorem Tmp.sub (h : Tmp F R H S T) (hs : ∀ i a, S' i a → S i a) (ht : ∀ a, U a → T a) : Tmp F R H S' U := fun a u => ⟨(h a (ht a u)).1, (h a (ht a u)).2.1, (h a (ht a u)).2.2.1, fun i s => (h a (ht a u)).2.2.2 i (hs i a s)⟩

/-! ### stores to slots -/
theorem getElem?_set_cases {α : Type} {l : List α} {i j : Nat} {x y : α} (h : (l.set i x)[j]? = some y) : (i = j ∧ y = x ∧ j < l.length) ∨ (i ≠ j ∧ l[j]? = some y) := by
  by_cases e : i = j
  · subst e
    left
    by_cases hl : i < l.length
    · rw [List.getElem?_set_self hl] at h; cases h; exact ⟨rfl, rfl, hl⟩
    · rw [List.getElem?_eq_none (by simpa using hl)] at h; cases h
  · rw [List.getElem?_set_ne e] at h
    exact .inr ⟨e, h⟩
/-- slot i gets a temporary -/
theorem OK.store (o : OK w F R L H σ ε S) {i : Nat} {v : V} {d : D} (r : RpD w F H v d T) (t : Tmp F R H S T) : ∃ S', OK w F R L H (σ.set i (some v)) (setSl ε i d) S' := by
  refine ⟨fun j a => if j = i then T a else S j a, o.fh, o.rh, o.lr, o.lf, o.lu, by simp [setSl, o.len], fun j s e => ?_, fun j k a n s1 s2 => ?_, fun j a s => ?_⟩
  · rcases getElem?_set_cases e with ⟨rfl, rfl, hl⟩ | ⟨n, e⟩
    · rw [List.getElem?_set_self (by rw [o.len]; exact hl)]
      simp only [if_pos]
      exact ⟨v, rfl, r⟩
    · rw [List.getElem?_set_ne n, show (fun a => if j = i then T a else S j a) = S j from funext fun a => if_neg (Ne.symm n)]
      exact o.sl j s e
  · by_cases h1 : j = i
    · have h2 : k ≠ i := fun z => n (h1.trans z.symm)
      rw [if_pos h1] at s1
      rw [if_neg h2] at s2
      exact (t a s1).2.2.2 k s2
    · rw [if_neg h1] at s1
      by_cases h2 : k = i
      · rw [if_pos h2] at s2
        exact (t a s2).2.2.2 j s1
      · rw [if_neg h2] at s2
        exact o.dis j k a n s1 s2
  · by_cases h1 : j = i
    · rw [if_pos h1] at s
      exact ⟨(t a s).1, (t a s).2.1, (t a s).2.2.1⟩
    · rw [if_neg h1] at s
      exact o.out j a s
/-- a slot is forgotten -/
theorem OK.forget (o : OK w F R L H σ ε S) (i : Nat) : OK w F R L H σ (ε.set i .no) S := by
  refine ⟨o.fh, o.rh, o.lr, o.lf, o.lu, by simp [o.len], fun j s e => ?_, o.dis, o.out⟩
  rcases getElem?_set_cases e with ⟨rfl, rfl, hl⟩ | ⟨n, e⟩
  · trivial
  · exact o.sl j s e
/-- a slot's value as a temporary; the slot is unknown then -/
theorem OK.take (o : OK w F R L H σ ε S) {i : Nat} {d : D} (h : ε[i]? = some (.ow d)) : ∃ v S', σ[i]? = some (some v) ∧ RpD w F H v d (S i) ∧ OK w F R L H σ (ε.set i .no) S' ∧ Tmp F R H S' (S i) ∧ (∀ j a, S' j a → S j a) := by
  obtain ⟨v, e, r⟩ := o.sl i _ h
  refine ⟨v, fun j a => j ≠ i ∧ S j a, ?_, r, ⟨o.fh, o.rh, o.lr, o.lf, o.lu, by simp [o.len], fun j s e => ?_, fun j k a n s1 s2 => o.dis j k a n s1.2 s2.2, fun j a s => o.out j a s.2⟩, fun a s => ⟨(o.out i a s).1, (o.out i a s).2.1, (o.out i a s).2.2, fun j z => o.dis j i a z.1 z.2 s⟩, fun j a s => s.2⟩
  · cases q : σ[i]? with
    | none => rw [q] at e; cases e
    | some x => rw [q] at e; simp at e; rw [e]
  · rcases getElem?_set_cases e with ⟨rfl, rfl, hl⟩ | ⟨n, e⟩
    · trivial
    · have := o.sl j s e
      cases s with
      | no => trivial
      | ow d =>
        obtain ⟨v, e1, r1⟩ := this
        exact ⟨v, e1, RpD.mono (Same.refl _) d v _ _ r1 (fun b hb => ⟨Ne.symm n, hb⟩) (fun _ _ _ z => z)⟩
      | lk ps => exact this
/-- and back -/
theorem OK.put (o : OK w F R L H σ ε S) {i : Nat} {v : V} {d : D} (hi : σ[i]? = some (some v)) (r : RpD w F H v d T) (t : Tmp F R H S T) : ∃ S', OK w F R L H σ (setSl ε i d) S' := by
  obtain ⟨S', o'⟩ := o.store (i := i) r t
  have e : σ.set i (some v) = σ := by
    apply List.ext_getElem?
    intro j
    by_cases h : i = j
    · subst h
      have hl : i < σ.length := (List.getElem?_eq_some_iff.mp hi).1
      rw [List.getElem?_set_self hl, hi]
    · rw [List.getElem?_set_ne h]
  rw [e] at o'
  exact ⟨S', o'⟩
theorem set_no_set (ε : Env) (i : Nat) (s t : Sl) : (ε.set i s).set i t = ε.set i t := List.set_set ..
/-- a slot is frozen -/
theorem OK.fz (o : OK w F R L H σ ε S) (i : Nat) : ∃ F' S', OK w F' R L H σ (NB.fz ε i) S' ∧ Post F R F' H ∧ (∀ j a, S' j a → S j a) ∧ ∀ a, F' a = none ∨ F a = F' a ∨ ∃ i, S i a := by
  unfold NB.fz
  cases h : ε[i]? with
  | none => exact ⟨F, S, o, Post.refl o, fun _ _ z => z, fun a => .inr (.inl rfl)⟩
  | some s =>
    cases s with
    | no =>
      refine ⟨F, S, ?_, Post.refl o, fun _ _ z => z, fun a => .inr (.inl rfl)⟩
      show OK w F R L H σ (ε.set i .no) S
      exact o.forget i
    | lk ps =>
      refine ⟨F, S, ?_, Post.refl o, fun _ _ z => z, fun a => .inr (.inl rfl)⟩
      show OK w F R L H σ (ε.set i (.lk ps)) S
      have : ε.set i (.lk ps) = ε := by
        apply List.ext_getElem?
        intro j
        by_cases hj : i = j
        · subst hj
          rw [List.getElem?_set_self (List.getElem?_eq_some_iff.mp h).1, h]
        · rw [List.getElem?_set_ne hj]
      rw [this]
      exact o
    | ow d =>
      obtain ⟨v, S1, e, r, o1, t, sub⟩ := o.take h
      obtain ⟨o2, p⟩ := o1.grow t
      have r2 : RpD w (addR F H (S i)) H v (.val d.p) (fun _ => False) := by
        simp only [RpD]
        exact RpD.freeze addR_in d v (S i) r fun b x hb hx => addR_at o.fh hb hx
      obtain ⟨S3, o3⟩ := OK.put (T := fun _ => False) o2 (i := i) e r2 (fun a z => z.elim)
      have e3 : setSl (ε.set i .no) i (.val d.p) = ε.set i (fz1 (.ow d)) := by
        unfold setSl fz1
        rw [set_no_set]
      rw [e3] at o3
      -- slots' nodes: within the old ones
      refine ⟨_, fun j a => j ≠ i ∧ S j a, ⟨o3.fh, o3.rh, o3.lr, o3.lf, o3.lu, o3.len, fun j s es => ?_, fun j k a n s1 s2 => o.dis j k a n s1.2 s2.2, fun j a s => ?_⟩, p, fun j a s => s.2, fun a => ?_⟩
      · rcases getElem?_set_cases es with ⟨rfl, rfl, hl⟩ | ⟨n, es⟩
        · refine ⟨v, ?_, ?_⟩
          · rw [e]; rfl
          · simp only [RpD] at r2 ⊢
            exact r2
        · have := o.sl j s es
          cases s with
          | no => trivial
          | ow d =>
            obtain ⟨v, e1, r1⟩ := this
            exact ⟨v, e1, RpD.mono addR_in d v _ _ r1 (fun b hb => ⟨Ne.symm n, hb⟩) (fun _ _ _ z => z)⟩
          | lk ps =>
            obtain ⟨a, xs, e1, r1, r3⟩ := this
            exact ⟨a, xs, e1, r1, Rps.mono addR_in ps xs r3⟩
      · obtain ⟨h1, h2, h3⟩ := o.out j a s.2
        exact ⟨addR_none h1 fun z => o.dis j i a s.1 s.2 z, h2, h3⟩
      · cases q : addR F H (S i) a with
        | none => exact .inl rfl
        | some u =>
          rcases addR_some q with z | ⟨_, z⟩
          · exact .inr (.inl z)
          · exact .inr (.inr ⟨i, z⟩)

/-! ### operands -/
/-- what an operation sees: the node may be one that a name alone holds -/
def RpV (w : Wd) (F H : Hp) : V → P → Prop
  | v, .lst ps => ∃ a xs, v = .ref a ∧ H a = some (.lst xs) ∧ Rps w F xs ps
  | v, .tup ps => ∃ a xs, v = .ref a ∧ H a = some (.tup xs) ∧ Rps w F xs ps
  | v, p => Rp w F v p
theorem RpV.of {v : V} {p : P} (h : Same F H) (r : Rp w F v p) : RpV w F H v p := by
  cases p with
  | lst ps => simp only [Rp] at r; obtain ⟨a, xs, e, h1, h2⟩ := r; exact ⟨a, xs, e, h _ _ h1, h2⟩
  | tup ps => simp only [Rp] at r; obtain ⟨a, xs, e, h1, h2⟩ := r; exact ⟨a, xs, e, h _ _ h1, h2⟩
  | _ => exact r
theorem RpV.mono {v : V} {p : P} (hF : Same F F') (hH : Same H H') (r : RpV w F H v p) : RpV w F' H' v p := by
  cases p with
  | lst ps => obtain ⟨a, xs, e, h1, h2⟩ := r; exact ⟨a, xs, e, hH _ _ h1, Rps.mono hF ps xs h2⟩
  | tup ps => obtain ⟨a, xs, e, h1, h2⟩ := r; exact ⟨a, xs, e, hH _ _ h1, Rps.mono hF ps xs h2⟩
  | non => exact Rp.mono hF _ v r
  | bl => exact Rp.mono hF _ v r
  | int => exact Rp.mono hF _ v r
  | str => exact Rp.mono hF _ v r
  | exc => exact Rp.mono hF _ v r
  | scr => exact Rp.mono hF _ v r
def RpVs (w : Wd) (F H : Hp) : List V → List P → Prop
  | vs, [] => vs = []
  | vs, p :: ps => ∃ v vr, vs = v :: vr ∧ RpV w F H v p ∧ RpVs w F H vr ps
theorem RpVs.mono (hF : Same F F') (hH : Same H H') : ∀ {ps : List P} {vs : List V}, RpVs w F H vs ps → RpVs w F' H' vs ps
  | [], _, r => r
  | p :: ps, vs, r => by
    obtain ⟨v, vr, e, h1, h2⟩ := r
    exact ⟨v, vr, e, h1.mono hF hH, RpVs.mono hF hH h2⟩
def ArgR (w : Wd) (F H : Hp) (σ : St) : Arg → V → (Addr → Prop) → Prop
  | .tm d, v, T => RpD w F H v d T
  | .nm i, v, _ => σ[i]? = some (some v)
def ArgsR (w : Wd) (F H : Hp) (σ : St) : List Arg → List V → (Addr → Prop) → Prop
  | [], vs, _ => vs = []
  | x :: xs, vs, T => ∃ v vr T1 T2, vs = v :: vr ∧ ArgR w F H σ x v T1 ∧ ArgsR w F H σ xs vr T2 ∧ (∀ a, T1 a → T a) ∧ (∀ a, T2 a → T a) ∧ ∀ a, T1 a → T2 a → False
theorem ArgR.mono {x : Arg} {v : V} (hF : Same F F') (hk : ∀ b o, T b → H b = some o → H' b = some o) (r : ArgR w F H σ x v T) : ArgR w F' H' σ x v T := by
  cases x with
  | tm d => exact RpD.mono hF d v T T r (fun _ z => z) hk
  | nm i => exact r
theorem ArgsR.mono (hF : Same F F') : ∀ {xs : List Arg} {vs : List V} {T : Addr → Prop}, (∀ b o, T b → H b = some o → H' b = some o) → ArgsR w F H σ xs vs T → ArgsR w F' H' σ xs vs T
  | [], _, _, _, r => r
  | x :: xs, vs, T, hk, r => by
    obtain ⟨v, vr, T1, T2, e, h1, h2, h3, h4, h5⟩ := r
    exact ⟨v, vr, T1, T2, e, h1.mono hF (fun b o z => hk b o (h3 b z)), ArgsR.mono hF (fun b o z => hk b o (h4 b z)) h2, h3, h4, h5⟩
/-- a tuple that an operation may hand back itself -/
def Al (w : Wd) (F : Hp) (σ : St) (ε : Env) (x : Arg) (v : V) (p : P) : Prop := ∀ ps, p = .tup ps → Rp w F v p ∨ ∃ i d, x = .nm i ∧ ε[i]? = some (.ow d) ∧ d.p = p ∧ σ[i]? = some (some v)
theorem fz_at {i j : Nat} {d : D} (h : ε[i]? = some (.ow d)) : ∃ d', (NB.fz ε j)[i]? = some (.ow d') ∧ d'.p = d.p := by
  unfold NB.fz
  cases q : ε[j]? with
  | none => exact ⟨d, h, rfl⟩
  | some s =>
    by_cases e : j = i
    · subst e
      rw [h] at q
      cases q
      exact ⟨.val d.p, by rw [List.getElem?_set_self (List.getElem?_eq_some_iff.mp h).1]; rfl, rfl⟩
    · exact ⟨d, by rw [List.getElem?_set_ne e]; exact h, rfl⟩
theorem fz_self {i : Nat} {d : D} (h : ε[i]? = some (.ow d)) : (NB.fz ε i)[i]? = some (.ow (.val d.p)) := by
  unfold NB.fz
  rw [h]
  show (ε.set i (fz1 (.ow d)))[i]? = _
  rw [List.getElem?_set_self (List.getElem?_eq_some_iff.mp h).1]
  rfl
theorem view1_at {y : Arg} {q : P} {i : Nat} {d : D} (e : view1 ε y = .ok (q, ε')) (h : ε[i]? = some (.ow d)) : ∃ d', ε'[i]? = some (.ow d') ∧ d'.p = d.p := by
  cases y with
  | tm _ =>
    simp only [view1, NB.R.ok.injEq, Prod.mk.injEq] at e
    obtain ⟨_, rfl⟩ := e
    exact ⟨d, h, rfl⟩
  | nm j =>
    simp only [view1] at e
    split at e
    · split at e
      · simp only [NB.R.ok.injEq, Prod.mk.injEq] at e
        obtain ⟨_, rfl⟩ := e
        exact ⟨d, h, rfl⟩
      · simp only [NB.R.ok.injEq, Prod.mk.injEq] at e
        obtain ⟨_, rfl⟩ := e
        exact fz_at h
    · simp only [NB.R.ok.injEq, Prod.mk.injEq] at e
      obtain ⟨_, rfl⟩ := e
      exact ⟨d, h, rfl⟩
    · cases e
theorem fzArgs_at : ∀ {as : List Arg} {ε : Env} {i : Nat} {d : D}, ε[i]? = some (.ow d) → ∃ d', (fzArgs as ε)[i]? = some (.ow d') ∧ d'.p = d.p
  | [], ε, i, d, h => ⟨d, h, rfl⟩
  | .tm _ :: as, ε, i, d, h => fzArgs_at (as := as) h
  | .nm j :: as, ε, i, d, h => by
    obtain ⟨d1, h1, e1⟩ := fz_at (j := j) h
    obtain ⟨d2, h2, e2⟩ := fzArgs_at (as := as) h1
    exact ⟨d2, h2, e2.trans e1⟩
theorem fzArgs_val : ∀ {as : List Arg} {ε : Env} {i : Nat} {p : P}, ε[i]? = some (.ow (.val p)) → (fzArgs as ε)[i]? = some (.ow (.val p))
  | [], ε, i, p, h => h
  | .tm _ :: as, ε, i, p, h => fzArgs_val (as := as) h
  | .nm j :: as, ε, i, p, h => by
    have h1 : (NB.fz ε j)[i]? = some (.ow (.val p)) := by
      by_cases e : j = i
      · subst e; have := fz_self h; exact this
      · unfold NB.fz
        cases q : ε[j]? with
        | none => exact h
        | some s => show (ε.set j (fz1 s))[i]? = _; rw [List.getElem?_set_ne e]; exact h
    exact fzArgs_val (as := as) h1
theorem fzArgs_nm : ∀ {as : List Arg} {ε : Env} {i : Nat} {d : D}, Arg.nm i ∈ as → ε[i]? = some (.ow d) → (fzArgs as ε)[i]? = some (.ow (.val d.p))
  | .tm _ :: as, ε, i, d, m, h => fzArgs_nm (as := as) (by
      rcases List.mem_cons.mp m with z | z
      · cases z
      · exact z) h
  | .nm j :: as, ε, i, d, m, h => by
    by_cases e : j = i
    · subst e
      exact fzArgs_val (as := as) (fz_self h)
    · have m' : Arg.nm i ∈ as := by
        rcases List.mem_cons.mp m with z | z
        · cases z; exact absurd rfl e
        · exact z
      obtain ⟨d', h1, e1⟩ := fz_at (j := j) h
      have := fzArgs_nm (as := as) m' h1
      show (fzArgs as (NB.fz ε j))[i]? = _
      rw [this, e1]
theorem view1_ok (o : OK w F R L H σ ε S) {x : Arg} {v : V} {p : P} (r : ArgR w F H σ x v T) (t : Tmp F R H S T) (e : view1 ε x = .ok (p, ε')) :
    ∃ F' S', OK w F' R L H σ ε' S' ∧ Post F R F' H ∧ RpV w F' H v p ∧ (∀ j a, S' j a → S j a) ∧ (∀ a, F' a = none ∨ F a = F' a ∨ T a ∨ ∃ i, S i a) ∧ Al w F' σ ε' x v p := by
  cases x with
  | tm d =>
    simp only [view1, NB.R.ok.injEq, Prod.mk.injEq] at e
    obtain ⟨rfl, rfl⟩ := e
    obtain ⟨o2, p2⟩ := o.grow t
    refine ⟨_, S, o2, p2, RpV.of o2.fh (RpD.freeze addR_in d v T r fun b x hb hx => addR_at o.fh hb hx), fun _ _ z => z, fun a => ?_, fun ps _ => .inl (RpD.freeze addR_in d v T r fun b x hb hx => addR_at o.fh hb hx)⟩
    cases q : addR F H T a with
    | none => exact .inl rfl
    | some u =>
      rcases addR_some q with z | ⟨_, z⟩
      · exact .inr (.inl z)
      · exact .inr (.inr (.inl z))
  | nm i =>
    simp only [view1] at e
    cases h : ε[i]? with
    | none => rw [h] at e; cases e
    | some s =>
      rw [h] at e
      cases s with
      | no => cases e
      | lk ps =>
        simp only [NB.R.ok.injEq, Prod.mk.injEq] at e
        obtain ⟨rfl, rfl⟩ := e
        obtain ⟨a, xs, e1, r1, r2⟩ := o.sl i _ h
        rw [show σ[i]? = some (some v) from r] at e1
        simp at e1
        exact ⟨F, S, o, Post.refl o, ⟨a, xs, e1, o.rh _ _ (o.lr _ _ _ r1), r2⟩, fun _ _ z => z, fun a => .inr (.inl rfl), fun ps z => by cases z⟩
      | ow d =>
        obtain ⟨v', e1, r1⟩ := o.sl i _ h
        rw [show σ[i]? = some (some v) from r] at e1
        simp at e1
        subst e1
        simp only at e
        split at e
        · rename_i hs
          simp only [NB.R.ok.injEq, Prod.mk.injEq] at e
          obtain ⟨rfl, rfl⟩ := e
          refine ⟨F, S, o, Post.refl o, ?_, fun _ _ z => z, fun a => .inr (.inl rfl), fun ps _ => .inr ⟨i, d, rfl, h, rfl, r⟩⟩
          cases d with
          | val p => simp only [D.p, RpD] at r1 ⊢; exact RpV.of o.fh r1
          | tup ds =>
            simp only [D.p, RpD, D.shallow] at r1 hs ⊢
            obtain ⟨a, xs, T', e2, h1, h2, h3, h4, h5⟩ := r1
            exact ⟨a, xs, e2, h1, RpDs.vals hs h5⟩
          | lst ds =>
            simp only [D.p, RpD, D.shallow] at r1 hs ⊢
            obtain ⟨a, xs, T', e2, h1, h2, h3, h4, h5⟩ := r1
            exact ⟨a, xs, e2, h1, RpDs.vals hs h5⟩
        · simp only [NB.R.ok.injEq, Prod.mk.injEq] at e
          obtain ⟨rfl, rfl⟩ := e
          obtain ⟨F', S', o', p', s', f'⟩ := o.fz i
          have hz : NB.fz ε i = ε.set i (.ow (.val d.p)) := by unfold NB.fz; rw [h]; rfl
          have q := o'.sl i (.ow (.val d.p)) (by rw [hz, List.getElem?_set_self (List.getElem?_eq_some_iff.mp h).1])
          obtain ⟨v3, e4, r4⟩ := q
          rw [show σ[i]? = some (some v) from r] at e4
          simp at e4
          subst e4
          simp only [RpD] at r4
          refine ⟨F', S', o', p', RpV.of o'.fh r4, s', fun a => ?_, fun ps _ => .inl r4⟩
          rcases f' a with z | z | z
          · exact .inl z
          · exact .inr (.inl z)
          · exact .inr (.inr (.inr z))
theorem views_ok : ∀ {as : List Arg} {vs : List V} {ps : List P} {F : Hp} {ε ε' : Env} {S : Own} {T : Addr → Prop}, OK w F R L H σ ε S → ArgsR w F H σ as vs T → Tmp F R H S T → views as ε = .ok (ps, ε') →
    ∃ F' S', OK w F' R L H σ ε' S' ∧ Post F R F' H ∧ RpVs w F' H vs ps ∧ (∀ j a, S' j a → S j a)
  | [], vs, ps, F, ε, ε', S, T, o, r, t, e => by
    simp only [views, NB.R.ok.injEq, Prod.mk.injEq] at e
    obtain ⟨rfl, rfl⟩ := e
    exact ⟨F, S, o, Post.refl o, r, fun _ _ z => z⟩
  | x :: xs, vs, ps, F, ε, ε', S, T, o, r, t, e => by
    obtain ⟨v, vr, T1, T2, rfl, h1, h2, h3, h4, h5⟩ := r
    simp only [views] at e
    cases q : view1 ε x with
    | exc c fs => rw [q] at e; cases e
    | stuck => rw [q] at e; cases e
    | ok y =>
      obtain ⟨p, ε1⟩ := y
      rw [q] at e
      simp only [NB.R.ok_bind] at e
      obtain ⟨F1, S1, o1, p1, r1, s1, f1, _⟩ := view1_ok o h1 (t.sub (fun _ _ z => z) h3) q
      have t2 : Tmp F1 R H S1 T2 := fun a ha => by
        obtain ⟨x1, x2, x3, x4⟩ := t a (h4 a ha)
        refine ⟨?_, x2, x3, fun i z => x4 i (s1 i a z)⟩
        rcases f1 a with z | z | z | ⟨i, z⟩
        · exact z
        · rw [← z]; exact x1
        · exact (h5 a z ha).elim
        · exact (x4 i z).elim
      cases q2 : views xs ε1 with
      | exc c fs => rw [q2] at e; cases e
      | stuck => rw [q2] at e; cases e
      | ok y =>
        obtain ⟨pr, ε2⟩ := y
        rw [q2] at e
        simp only [NB.R.ok_bind, NB.R.pure_eq, NB.R.ok.injEq, Prod.mk.injEq] at e
        obtain ⟨rfl, rfl⟩ := e
        obtain ⟨F2, S2, o2, p2, r2, s2⟩ := views_ok o1 (h2.mono p1.ff (fun _ _ _ z => z)) t2 q2
        exact ⟨F2, S2, o2, p1.comp p2 (Same.refl _), ⟨v, vr, rfl, r1.mono p2.ff (Same.refl _), r2⟩, fun j a z => s1 j a (s2 j a z)⟩
theorem fzArgs_ok : ∀ (as : List Arg) {F : Hp} {ε : Env} {S : Own}, OK w F R L H σ ε S → ∃ F' S', OK w F' R L H σ (fzArgs as ε) S' ∧ Post F R F' H ∧ ∀ j a, S' j a → S j a
  | [], F, ε, S, o => ⟨F, S, o, Post.refl o, fun _ _ z => z⟩
  | .tm _ :: as, F, ε, S, o => fzArgs_ok as o
  | .nm i :: as, F, ε, S, o => by
    obtain ⟨F1, S1, o1, p1, s1, _⟩ := o.fz i
    obtain ⟨F2, S2, o2, p2, s2⟩ := fzArgs_ok as o1
    exact ⟨F2, S2, o2, p1.comp p2 (Same.refl _), fun j a z => s1 j a (s2 j a z)⟩
end
end NB
end
section
set_option linter.all false
/-! NBSound1: readings by the evaluator; two operands; results. -/
namespace NB
open PySem PySem.Spec PyProof.Rows L2

/-- what is wished of an error of the c-th class -/
def Exq (wd : Wd) (W : WX) (F R : Hp) (σ : St) (c : Nat) (fs : List P) : Prop := ∀ (d : Addr) (fv : List (Str × V)) (vs : List V) (F' H' : Hp), Post F R F' H' → H' d = some (.xd fv) → F' d = none → R d = none →
  (wd.fl c).map (fun f => fv.lookup f) = vs.map some → Rps wd F' vs fs → W (.ref (wd.ca c)) (some d) σ H'
def ResE (wd : Wd) (W : WX) (F R : Hp) (L : Nat → Hp) (σ : St) (Q : VK) : NB.R (D × Env) → Prop
  | .ok (d, ε') => ∀ v F' H' S' T, Post F R F' H' → OK wd F' R L H' σ ε' S' → RpD wd F' H' v d T → Tmp F' R H' S' T → Q v H'
  | .exc c fs => Exq wd W F R σ c fs
  | .stuck => False
def ResT (wd : Wd) (W : WX) (F R : Hp) (L : Nat → Hp) (σ : St) (Q : Bool → Hp → Prop) : NB.R (Bool × Env) → Prop
  | .ok (k, ε') => ∀ F' H' S', Post F R F' H' → OK wd F' R L H' σ ε' S' → Q k H'
  | .exc c fs => Exq wd W F R σ c fs
  | .stuck => False
def ResA (wd : Wd) (W : WX) (F R : Hp) (L : Nat → Hp) (σ : St) (Q : VK) : NB.R (Arg × Env) → Prop
  | .ok (x, ε') => ∀ v F' H' S' T, Post F R F' H' → OK wd F' R L H' σ ε' S' → ArgR wd F' H' σ x v T → Tmp F' R H' S' T → Q v H'
  | .exc c fs => Exq wd W F R σ c fs
  | .stuck => False
def ResAs (wd : Wd) (W : WX) (F R : Hp) (L : Nat → Hp) (σ : St) (Q : List V → Hp → Prop) : NB.R (List Arg × Env) → Prop
  | .ok (xs, ε') => ∀ vs F' H' S' T, Post F R F' H' → OK wd F' R L H' σ ε' S' → ArgsR wd F' H' σ xs vs T → Tmp F' R H' S' T → Q vs H'
  | .exc c fs => Exq wd W F R σ c fs
  | .stuck => False
def ResDs (wd : Wd) (W : WX) (F R : Hp) (L : Nat → Hp) (σ : St) (Q : List V → Hp → Prop) : NB.R (List D × Env) → Prop
  | .ok (ds, ε') => ∀ vs F' H' S' T, Post F R F' H' → OK wd F' R L H' σ ε' S' → RpDs wd F' H' vs ds T → Tmp F' R H' S' T → Q vs H'
  | .exc c fs => Exq wd W F R σ c fs
  | .stuck => False
def tE (wd : Wd) (W : WX) (f : Env → NB.R (D × Env)) : TE := fun σ H Q => ∃ F R L ε S, OK wd F R L H σ ε S ∧ ResE wd W F R L σ Q (f ε)
def tT (wd : Wd) (W : WX) (f : Env → NB.R (Bool × Env)) : TT := fun σ H Q => ∃ F R L ε S, OK wd F R L H σ ε S ∧ ResT wd W F R L σ Q (f ε)
def tArg (wd : Wd) (W : WX) (f : Env → NB.R (Arg × Env)) : TE := fun σ H Q => ∃ F R L ε S, OK wd F R L H σ ε S ∧ ResA wd W F R L σ Q (f ε)
def tArgs (wd : Wd) (W : WX) (f : Env → NB.R (List Arg × Env)) : TA := fun σ H Q => ∃ F R L ε S, OK wd F R L H σ ε S ∧ ResAs wd W F R L σ Q (f ε)
def tDs (wd : Wd) (W : WX) (f : Env → NB.R (List D × Env)) : TA := fun σ H Q => ∃ F R L ε S, OK wd F R L H σ ε S ∧ ResDs wd W F R L σ Q (f ε)

section
variable {wd : Wd} {W : WX} {F F' F1 F2 R R1 H H' H1 H2 : Hp} {L : Nat → Hp} {σ : St} {ε ε' : Env} {S S' : Own} {T U : Addr → Prop} {X : Cx}
theorem Exq.mono {c : Nat} {fs : List P} (h : Exq wd W F R σ c fs) (p : Post F R F1 H1) (hr : Same R R1) : Exq wd W F1 R1 σ c fs := fun d fv vs F' H' p' e n1 n2 l r =>
  h d fv vs F' H' (p.comp p' hr) e n1 (Same.none' hr n2) l r
theorem ResE.mono {Q : VK} {r : NB.R (D × Env)} (h : ResE wd W F R L σ Q r) (p : Post F R F1 H1) : ResE wd W F1 R L σ Q r := by
  cases r with
  | ok a => exact fun v F' H' S' T p' => h v F' H' S' T (p.comp p' (Same.refl _))
  | exc c fs => exact Exq.mono h p (Same.refl _)
  | stuck => exact h
theorem pe_weak {e : Expr} {t t' : TE} (h : PE X e t) (k : ∀ σ H Q, t' σ H Q → t σ H Q) : PE X e t' := ⟨fun pins s σ H Q I q => h.run pins s σ H Q I (k _ _ _ q)⟩
theorem pt_weak {e : Expr} {t t' : TT} (h : PT X e t) (k : ∀ σ H Q, t' σ H Q → t σ H Q) : PT X e t' := ⟨fun pins s σ H Q I q => h.run pins s σ H Q I (k _ _ _ q)⟩
theorem pw_weak {e : Expr} {t t' : TT} (h : PW X e t) (k : ∀ σ H Q, t' σ H Q → t σ H Q) : PW X e t' := ⟨fun wh pins s σ H Q I q => h.run wh pins s σ H Q I (k _ _ _ q)⟩
theorem pa_weak {es : List Expr} {t t' : TA} (h : PA X es t) (k : ∀ σ H Q, t' σ H Q → t σ H Q) : PA X es t' := ⟨fun pos pins s σ H Q I q => h.run pos pins s σ H Q I (k _ _ _ q)⟩
theorem OpR.or {f : Value → Value → Sem Value} {r r' : R2} (h : OpR X f r) (h' : OpR X f r') : OpR X f (fun x y H Q => r x y H Q ∨ r' x y H Q) := by
  intro pins s σ H x y v u Q I rx ry q
  rcases q with q | q
  · exact h pins s σ H x y v u Q I rx ry q
  · exact h' pins s σ H x y v u Q I rx ry q

/-! ### names -/
theorem name_E {i : Nat} : ∀ σ H Q, tE wd W (fun ε => match ε[i]? with
    | some (.ow d) => .ok (.val d.p, fz ε i)
    | _ => .stuck) σ H Q → tVar i σ H Q := by
  rintro σ H Q ⟨F, R, L, ε, S, o, h⟩
  dsimp only at h
  cases e : ε[i]? with
  | none => rw [e] at h; exact h.elim
  | some s =>
    rw [e] at h
    cases s with
    | no => exact h.elim
    | lk ps => exact h.elim
    | ow d =>
      obtain ⟨v, e1, r1⟩ := o.sl i _ e
      have ev : σ[i]? = some (some v) := by
        cases q : σ[i]? with
        | none => rw [q] at e1; cases e1
        | some x => rw [q] at e1; simp at e1; rw [e1]
      obtain ⟨F', S', o', p', s', f'⟩ := o.fz i
      have hz : NB.fz ε i = ε.set i (.ow (.val d.p)) := by unfold NB.fz; rw [e]; rfl
      obtain ⟨v3, e4, r4⟩ := o'.sl i (.ow (.val d.p)) (by rw [hz, List.getElem?_set_self (List.getElem?_eq_some_iff.mp e).1])
      rw [e1] at e4
      have e5 : v = v3 := by simpa using e4
      subst e5
      refine ⟨v, ev, h v F' H S' (fun _ => False) p' o' ?_ (fun a z => z.elim)⟩
      simp only [RpD] at r4 ⊢
      exact r4
theorem name_A {i : Nat} : ∀ σ H Q, tArg wd W (fun ε => match ε[i]? with
    | some (.ow _) => .ok (.nm i, ε)
    | some (.lk _) => .ok (.nm i, ε)
    | _ => .stuck) σ H Q → tVar i σ H Q := by
  rintro σ H Q ⟨F, R, L, ε, S, o, h⟩
  dsimp only at h
  cases e : ε[i]? with
  | none => rw [e] at h; exact h.elim
  | some s =>
    rw [e] at h
    have key : ∀ v, σ[i]?.join = some v → σ[i]? = some (some v) := fun v e1 => by
      cases q : σ[i]? with
      | none => rw [q] at e1; cases e1
      | some x => rw [q] at e1; simp at e1; rw [e1]
    cases s with
    | no => exact h.elim
    | lk ps =>
      obtain ⟨a, xs, e1, r1, r2⟩ := o.sl i _ e
      exact ⟨_, key _ e1, h _ F H S (fun _ => False) (Post.refl o) o (key _ e1) (fun a z => z.elim)⟩
    | ow d =>
      obtain ⟨v, e1, r1⟩ := o.sl i _ e
      exact ⟨_, key _ e1, h _ F H S (fun _ => False) (Post.refl o) o (key _ e1) (fun a z => z.elim)⟩
/-- another expression than a name as an operand -/
theorem tm_A {f : Env → NB.R (D × Env)} : ∀ σ H Q, tArg wd W (fun ε => f ε >>= fun (d, ε1) => .ok (.tm d, ε1)) σ H Q → tE wd W f σ H Q := by
  rintro σ H Q ⟨F, R, L, ε, S, o, h⟩
  dsimp only at h
  refine ⟨F, R, L, ε, S, o, ?_⟩
  cases e : f ε with
  | ok a => rw [e] at h; exact h
  | exc c fs => rw [e] at h; exact h
  | stuck => rw [e] at h; exact h

/-! ### two operands, then what is done with them -/
theorem twoS {fa fb : Env → NB.R (Arg × Env)} {r : L2.St → R2} {g : Arg → Arg → Env → NB.R (D × Env)}
    (hop : ∀ (F R : Hp) (L : Nat → Hp) (H : Hp) (σ : St) (ε : Env) (S : Own) (x y : Arg) (v u : V) (T : Addr → Prop) (Q : VK), OK wd F R L H σ ε S → ArgsR wd F H σ [x, y] [v, u] T → Tmp F R H S T → ResE wd W F R L σ Q (g x y ε) → r σ v u H Q) :
    ∀ σ H Q, tE wd W (fun ε => fa ε >>= fun (x, ε1) => fb ε1 >>= fun (y, ε2) => g x y ε2) σ H Q → tOp (r σ) (tArg wd W fa) (tArg wd W fb) σ H Q := by
  rintro σ H Q ⟨F, R, L, ε, S, o, h⟩
  dsimp only at h
  refine ⟨F, R, L, ε, S, o, ?_⟩
  cases e : fa ε with
  | stuck => rw [e] at h; exact h
  | exc c fs => rw [e] at h; exact h
  | ok a =>
    obtain ⟨x, ε1⟩ := a
    rw [e] at h
    simp only [NB.R.ok_bind] at h
    intro v F1 H1 S1 T1 p1 o1 r1 t1
    refine ⟨F1, addR R H1 T1, L, ε1, S1, o1.frame (fun i a s t => (t1 a t).2.2.2 i s), ?_⟩
    cases e2 : fb ε1 with
    | stuck => rw [e2] at h; exact h
    | exc c fs => rw [e2] at h; exact Exq.mono h p1 addR_in
    | ok a =>
      obtain ⟨y, ε2⟩ := a
      rw [e2] at h
      simp only [NB.R.ok_bind] at h
      intro u F2 H2 S2 T2 p2 o2 r2 t2
      have o3 := o2.unframe addR_in o1.lr
      have k1 : ∀ b o, T1 b → H1 b = some o → H2 b = some o := fun b o t e => p2.rh b o (addR_at o1.rh t e)
      have at1 : ∀ a, T1 a → ∃ o, addR R H1 T1 a = some o := fun a t => by
        obtain ⟨_, _, ⟨o, e⟩, _⟩ := t1 a t
        exact ⟨o, addR_at o1.rh t e⟩
      have dj : ∀ a, T1 a → T2 a → False := fun a x1 x2 => by
        obtain ⟨o, e⟩ := at1 a x1
        have := (t2 a x2).2.1
        rw [e] at this; cases this
      refine hop F2 R L H2 σ ε2 S2 x y v u (fun a => T1 a ∨ T2 a) Q o3 ⟨v, [u], T1, T2, rfl, r1.mono p2.ff k1, ⟨u, [], T2, fun _ => False, rfl, r2, rfl, fun _ z => z, fun _ z => z.elim, fun _ _ z => z.elim⟩, fun a z => .inl z, fun a z => .inr z, dj⟩ (fun a z => ?_) (h.mono (p1.comp p2 addR_in))
      rcases z with z | z
      · obtain ⟨x1, x2, ⟨u', x3⟩, x4⟩ := t1 a z
        obtain ⟨o, e⟩ := at1 a z
        refine ⟨p2.gr a o e x1, x2, ⟨u', k1 _ _ z x3⟩, fun i s => ?_⟩
        have := (o2.out i a s).2.1
        rw [e] at this; cases this
      · obtain ⟨x1, x2, x3, x4⟩ := t2 a z
        exact ⟨x1, Same.none' addR_in x2, x3, x4⟩
theorem two {fa fb : Env → NB.R (Arg × Env)} {r : R2} {g : Arg → Arg → Env → NB.R (D × Env)}
    (hop : ∀ (F R : Hp) (L : Nat → Hp) (H : Hp) (σ : St) (ε : Env) (S : Own) (x y : Arg) (v u : V) (T : Addr → Prop) (Q : VK), OK wd F R L H σ ε S → ArgsR wd F H σ [x, y] [v, u] T → Tmp F R H S T → ResE wd W F R L σ Q (g x y ε) → r v u H Q) :
    ∀ σ H Q, tE wd W (fun ε => fa ε >>= fun (x, ε1) => fb ε1 >>= fun (y, ε2) => g x y ε2) σ H Q → tOp r (tArg wd W fa) (tArg wd W fb) σ H Q :=
  twoS (r := fun _ => r) hop
/-- one operand -/
theorem one {fa : Env → NB.R (Arg × Env)} {r : V → Hp → VK → Prop} {g : Arg → Env → NB.R (D × Env)}
    (hop : ∀ (F R : Hp) (L : Nat → Hp) (H : Hp) (σ : St) (ε : Env) (S : Own) (x : Arg) (v : V) (T : Addr → Prop) (Q : VK), OK wd F R L H σ ε S → ArgsR wd F H σ [x] [v] T → Tmp F R H S T → ResE wd W F R L σ Q (g x ε) → r v H Q) :
    ∀ σ H Q, tE wd W (fun ε => fa ε >>= fun (x, ε1) => g x ε1) σ H Q → (tArg wd W fa) σ H (fun v H1 => r v H1 Q) := by
  rintro σ H Q ⟨F, R, L, ε, S, o, h⟩
  dsimp only at h
  refine ⟨F, R, L, ε, S, o, ?_⟩
  cases e : fa ε with
  | stuck => rw [e] at h; exact h
  | exc c fs => rw [e] at h; exact h
  | ok a =>
    obtain ⟨x, ε1⟩ := a
    rw [e] at h
    simp only [NB.R.ok_bind] at h
    intro v F1 H1 S1 T1 p1 o1 r1 t1
    exact hop F1 R L H1 σ ε1 S1 x v T1 Q o1 ⟨v, [], T1, fun _ => False, rfl, r1, rfl, fun _ z => z, fun _ z => z.elim, fun _ _ z => z.elim⟩ t1 (h.mono p1)

/-! ### results -/
theorem fin_val {Q : VK} {v : V} {p : P} (o : OK wd F R L H σ ε S) (h : ResE wd W F R L σ Q (.ok (.val p, ε))) (r : Rp wd F v p) : Q v H :=
  h v F H S (fun _ => False) (Post.refl o) o (by simp only [RpD]; exact r) (fun a z => z.elim)
theorem fin_lst {Q : VK} {xs : List V} {ds : List D} {p : Addr} (o : OK wd F R L H σ ε S) (h : ResE wd W F R L σ Q (.ok (.lst ds, ε))) (r : RpDs wd F H xs ds T) (t : Tmp F R H S T) (hp : H p = none) : Q (.ref p) (upd H p (.lst xs)) := by
  obtain ⟨o', p', n⟩ := o.alloc (u := .lst xs) hp
  have k : Same H (upd H p (.lst xs)) := fun b x e => by rw [upd_ne (ne_of_none e hp)]; exact e
  have np : ¬ T p := fun z => by
    obtain ⟨u, e⟩ := (t p z).2.2.1
    rw [hp] at e; cases e
  refine h (.ref p) F _ S (fun a => a = p ∨ T a) p' o' ?_ (fun a z => ?_)
  · simp only [RpD]
    exact ⟨p, xs, T, rfl, upd_same, .inl rfl, np, fun b z => .inr z, RpDs.mono (Same.refl _) ds xs T T r (fun _ z => z) fun b x _ e => k b x e⟩
  · rcases z with rfl | z
    · exact ⟨Same.none' o.fh hp, Same.none' o.rh hp, ⟨_, upd_same⟩, n⟩
    · obtain ⟨x1, x2, ⟨u, x3⟩, x4⟩ := t a z
      exact ⟨x1, x2, ⟨u, k _ _ x3⟩, x4⟩
theorem fin_tup {Q : VK} {xs : List V} {ds : List D} {p : Addr} (o : OK wd F R L H σ ε S) (h : ResE wd W F R L σ Q (.ok (.tup ds, ε))) (r : RpDs wd F H xs ds T) (t : Tmp F R H S T) (hp : H p = none) : Q (.ref p) (upd H p (.tup xs)) := by
  obtain ⟨o', p', n⟩ := o.alloc (u := .tup xs) hp
  have k : Same H (upd H p (.tup xs)) := fun b x e => by rw [upd_ne (ne_of_none e hp)]; exact e
  have np : ¬ T p := fun z => by
    obtain ⟨u, e⟩ := (t p z).2.2.1
    rw [hp] at e; cases e
  refine h (.ref p) F _ S (fun a => a = p ∨ T a) p' o' ?_ (fun a z => ?_)
  · simp only [RpD]
    exact ⟨p, xs, T, rfl, upd_same, .inl rfl, np, fun b z => .inr z, RpDs.mono (Same.refl _) ds xs T T r (fun _ z => z) fun b x _ e => k b x e⟩
  · rcases z with rfl | z
    · exact ⟨Same.none' o.fh hp, Same.none' o.rh hp, ⟨_, upd_same⟩, n⟩
    · obtain ⟨x1, x2, ⟨u, x3⟩, x4⟩ := t a z
      exact ⟨x1, x2, ⟨u, k _ _ x3⟩, x4⟩
theorem noTmp : Tmp F R H S (fun _ => False) := fun _ z => z.elim
theorem cap_line {n : Nat} (h : n ≤ cap) : n ≤ sizeLine := by
  rw [sizeLine_eq]
  unfold cap at h
  omega
theorem fin_newL {Q : VK} {xs : List V} {ps : List P} {p : Addr} (o : OK wd F R L H σ ε S) (h : ResE wd W F R L σ Q (newL ps >>= fun (d, al) => .ok (d, if al then fzArgs as ε else ε))) (r : Rps wd F xs ps) (hp : H p = none) : Q (.ref p) (upd H p (.lst xs)) := by
  unfold newL at h
  split at h
  · exact fin_lst o h (RpDs.of_vals (fun _ => False) r) noTmp hp
  · exact h.elim
theorem newL_len {Q : VK} {as : List Arg} {ps : List P} (h : ResE wd W F R L σ Q (newL ps >>= fun (d, al) => .ok (d, if al then fzArgs as ε else ε))) : ps.length ≤ cap := by
  unfold newL at h
  split at h
  · assumption
  · exact h.elim
theorem fin_newT {Q : VK} {as : List Arg} {xs : List V} {ps : List P} {p : Addr} (o : OK wd F R L H σ ε S) (h : ResE wd W F R L σ Q (newT ps >>= fun (d, al) => .ok (d, if al then fzArgs as ε else ε))) (r : Rps wd F xs ps) (hp : H p = none) : Q (.ref p) (upd H p (.tup xs)) := by
  unfold newT at h
  split at h
  · exact fin_tup o h (RpDs.of_vals (fun _ => False) r) noTmp hp
  · exact h.elim
theorem newT_len {Q : VK} {as : List Arg} {ps : List P} (h : ResE wd W F R L σ Q (newT ps >>= fun (d, al) => .ok (d, if al then fzArgs as ε else ε))) : ps.length ≤ cap := by
  unfold newT at h
  split at h
  · assumption
  · exact h.elim
/-- the operand itself is the answer -/
theorem fin_self {Q : VK} {as : List Arg} {v : V} {p : P} (o : OK wd F R L H σ ε S) (h : ResE wd W F R L σ Q (.ok (.val p, fzArgs as ε))) (r : ∀ F' S', OK wd F' R L H σ (fzArgs as ε) S' → Same F F' → Rp wd F' v p) : Q v H := by
  obtain ⟨F', S', o', p', _⟩ := fzArgs_ok as o
  exact h v F' H S' (fun _ => False) p' o' (by simp only [RpD]; exact r F' S' o' p'.ff) noTmp
end
end NB
end
section
set_option linter.all false
/-! NBSound2: the operations. -/
namespace NB
open PySem PySem.Spec PyProof.Rows L2
section
variable {wd : Wd} {W : WX} {F F' F1 F2 R R1 H H' H1 H2 : Hp} {L : Nat → Hp} {σ : St} {ε ε' : Env} {S S' : Own} {T U : Addr → Prop} {X : Cx} {Q : VK}
theorem view1_exc {x : Arg} {c : Nat} {fs : List P} (e : view1 ε x = .exc c fs) : False := by
  cases x <;> simp only [view1] at e <;> (repeat' (first | (split at e) | cases e))
theorem Al.mono {x : Arg} {v : V} {p : P} {y : Arg} {q : P} (a : Al wd F σ ε x v p) (hF : Same F F') (e : view1 ε y = .ok (q, ε')) : Al wd F' σ ε' x v p := fun ps z => by
  rcases a ps z with h | ⟨i, d, h1, h2, h3, h4⟩
  · exact .inl (Rp.mono hF p v h)
  · obtain ⟨d', h5, h6⟩ := view1_at e h2
    exact .inr ⟨i, d', h1, h5, h6.trans h3, h4⟩
theorem see1 {x : Arg} {v : V} (k : P → Env → NB.R (D × Env)) (o : OK wd F R L H σ ε S) (r : ArgsR wd F H σ [x] [v] T) (t : Tmp F R H S T)
    (h : ResE wd W F R L σ Q (view1 ε x >>= fun (p, ε3) => k p ε3)) :
    ∃ p ε4 F' S', OK wd F' R L H σ ε4 S' ∧ RpV wd F' H v p ∧ Al wd F' σ ε4 x v p ∧ ResE wd W F' R L σ Q (k p ε4) := by
  cases e1 : view1 ε x with
  | stuck => rw [e1] at h; exact h.elim
  | exc c fs => exact (view1_exc e1).elim
  | ok a =>
    obtain ⟨p, ε3⟩ := a
    rw [e1] at h
    simp only [NB.R.ok_bind] at h
    obtain ⟨v1, vr, T1, T2, ev, r1, r2, s1, s2, dj⟩ := r
    cases ev
    obtain ⟨F', S', o', p', rv, _, _, al⟩ := view1_ok o r1 (t.sub (fun _ _ z => z) s1) e1
    exact ⟨p, ε3, F', S', o', rv, al, h.mono p'⟩
theorem see2 {x y : Arg} {v u : V} (k : P → P → Env → NB.R (D × Env)) (o : OK wd F R L H σ ε S) (r : ArgsR wd F H σ [x, y] [v, u] T) (t : Tmp F R H S T)
    (h : ResE wd W F R L σ Q (view1 ε x >>= fun (p, ε3) => view1 ε3 y >>= fun (q, ε4) => k p q ε4)) :
    ∃ p q ε4 F' S', OK wd F' R L H σ ε4 S' ∧ RpV wd F' H v p ∧ RpV wd F' H u q ∧ Al wd F' σ ε4 x v p ∧ Al wd F' σ ε4 y u q ∧ ResE wd W F' R L σ Q (k p q ε4) := by
  cases e1 : view1 ε x with
  | stuck => rw [e1] at h; exact h.elim
  | exc c fs => exact (view1_exc e1).elim
  | ok a =>
    obtain ⟨p, ε3⟩ := a
    rw [e1] at h
    simp only [NB.R.ok_bind] at h
    cases e2 : view1 ε3 y with
    | stuck => rw [e2] at h; exact h.elim
    | exc c fs => exact (view1_exc e2).elim
    | ok a =>
      obtain ⟨q, ε4⟩ := a
      rw [e2] at h
      simp only [NB.R.ok_bind] at h
      obtain ⟨v1, vr, T1, T2, ev, r1, r2, s1, s2, dj⟩ := r
      cases ev
      obtain ⟨F1, S1, o1, p1, rv1, sub1, f1, al1⟩ := view1_ok o r1 (t.sub (fun _ _ z => z) s1) e1
      obtain ⟨v2, vr, T3, T4, ev, r3, r4, s3, s4, dj2⟩ := r2
      cases ev
      have t2 : Tmp F1 R H S1 T3 := fun a ha => by
        obtain ⟨x1, x2, x3, x4⟩ := t a (s2 a (s3 a ha))
        refine ⟨?_, x2, x3, fun i z => x4 i (sub1 i a z)⟩
        rcases f1 a with z | z | z | ⟨i, z⟩
        · exact z
        · rw [← z]; exact x1
        · exact (dj a z (s3 a ha)).elim
        · exact (x4 i z).elim
      obtain ⟨F2, S2, o2, p2, rv2, sub2, f2, al2⟩ := view1_ok o1 (r3.mono p1.ff (fun _ _ _ z => z)) t2 e2
      exact ⟨p, q, ε4, F2, S2, o2, rv1.mono p2.ff (Same.refl _), rv2, al1.mono p2.ff e2, al2, h.mono (p1.comp p2 (Same.refl _))⟩
/-- an operand handed back -/
theorem fin_al {as : List Arg} {x : Arg} {v : V} {ps : List P} (o : OK wd F R L H σ ε S) (h : ResE wd W F R L σ Q (.ok (.val (.tup ps), fzArgs as ε))) (a : Al wd F σ ε x v (.tup ps)) (m : x ∈ as) : Q v H := by
  obtain ⟨F', S', o', p', _⟩ := fzArgs_ok as o
  refine h v F' H S' (fun _ => False) p' o' ?_ (fun _ z => z.elim)
  simp only [RpD]
  rcases a ps rfl with z | ⟨i, d, rfl, h2, h3, h4⟩
  · exact Rp.mono p'.ff _ v z
  · have e := fzArgs_nm m h2
    obtain ⟨v', e1, r1⟩ := o'.sl i _ e
    rw [h4] at e1
    have e2 : v = v' := by simpa using e1
    subst e2
    simp only [RpD] at r1
    rw [h3] at r1
    exact r1

/-! ### binary operators -/
def rBin (K : PySem.W.Frag) : BOp → R2
  | .add => fun x y H Q => (rI0 fun i j => .int (i + j)) x y H Q ∨ rCat x y H Q ∨ rCatA K x y H Q
  | .sub => rI0 fun i j => .int (i - j)
  | .mul => fun x y H Q => (rI CMulW fun i j => .int (i * j)) x y H Q ∨ rRep x y H Q
  | .fdiv => rI CDivW fun i j => .int (i / j)
  | .mod => rI (fun _ j => 0 < j) fun i j => .int (i % j)
  | .pow => rI CPow fun i j => .int (i ^ j.toNat)
def BOp.op : BOp → Operator
  | .add => .Add
  | .sub => .Sub
  | .mul => .Mult
  | .fdiv => .FloorDiv
  | .mod => .Mod
  | .pow => .Pow
theorem op_bin : ∀ o : BOp, OpR X (binaryOp o.op) (rBin X.K o)
  | .add => OpR.or op_add (OpR.or op_cat op_catA)
  | .sub => op_sub
  | .mul => OpR.or op_mulW op_rep
  | .fdiv => op_fdivW
  | .mod => op_mod
  | .pow => op_pow
theorem RpV.int {v : V} {i : Int} (r : RpV wd F H v (.int i)) : v = .int i := by
  have r : Rp wd F v (.int i) := r
  simpa only [Rp] using r
theorem bin_hop (hK : wd.K = X.K) (o : BOp) {x y : Arg} {v u : V} (ok : OK wd F R L H σ ε S) (ra : ArgsR wd F H σ [x, y] [v, u] T) (t : Tmp F R H S T)
    (h : ResE wd W F R L σ Q (view1 ε x >>= fun (p, ε3) => view1 ε3 y >>= fun (q, ε4) => done [x, y] ε4 (binop o p q))) : rBin X.K o v u H Q := by
  obtain ⟨p, q, ε4, F', S', o', rp, rq, ap, aq, h'⟩ := see2 (fun p q ε4 => done [x, y] ε4 (binop o p q)) ok ra t h
  clear ok ra t h
  unfold done at h'
  unfold binop at h'
  split at h'
  · rw [rp.int, rq.int]; exact .inl ⟨_, _, rfl, rfl, fin_val o' h' rfl⟩
  · rw [rp.int, rq.int]; exact ⟨_, _, rfl, rfl, fin_val o' h' rfl⟩
  · rw [rp.int, rq.int]
    split at h'
    · exact .inl ⟨_, _, rfl, rfl, by assumption, fin_val o' h' rfl⟩
    · exact h'.elim
  · rw [rp.int, rq.int]
    split at h'
    · exact ⟨_, _, rfl, rfl, by assumption, fin_val o' h' rfl⟩
    · exact h'.elim
  · rw [rp.int, rq.int]
    split at h'
    · exact ⟨_, _, rfl, rfl, by assumption, fin_val o' h' rfl⟩
    · exact h'.elim
  · rw [rp.int, rq.int]
    split at h'
    · rename_i c
      exact ⟨_, _, rfl, rfl, ⟨c.1, Int.le_trans c.2.1 (by decide), c.2.2⟩, fin_val o' h' rfl⟩
    · exact h'.elim
  · rename_i xs ys
    obtain ⟨a, as, rfl, ha, r1⟩ := rp
    obtain ⟨b, bs, rfl, hb, r2⟩ := rq
    have hl := newL_len h'
    rw [List.length_append] at hl
    exact .inr (.inl ⟨a, b, as, bs, rfl, rfl, ha, hb, cap_line (by rw [r1.len, r2.len]; exact hl), fun p hp => fin_newL o' h' (r1.app r2) hp⟩)
  · rename_i xs ys
    obtain ⟨a, as, rfl, ha, r1⟩ := rp
    obtain ⟨b, bs, rfl, hb, r2⟩ := rq
    split at h'
    · rename_i hz
      have hz' : as.length + bs.length ≤ sizeLine := cap_line (by rw [r1.len, r2.len]; exact hz)
      have e1 : xs = [] ↔ as = [] := by
        have := r1.len
        cases xs <;> cases as <;> simp_all
      have e2 : ys = [] ↔ bs = [] := by
        have := r2.len
        cases ys <;> cases bs <;> simp_all
      refine .inr (.inr ⟨a, b, as, bs, rfl, rfl, .of ha, .of hb, hz', fun z => ?_, fun n z => ?_, fun n m p hp => ?_⟩)
      · have n1 : xs.isEmpty = true := by rw [e1.mpr z]; rfl
        rw [if_pos n1] at h'
        exact fin_al o' h' aq (by simp)
      · have n1 : ¬ xs.isEmpty = true := fun q => n (e1.mp (List.isEmpty_iff.mp q))
        have n2 : ys.isEmpty = true := by rw [e2.mpr z]; rfl
        rw [if_neg n1, if_pos n2] at h'
        exact fin_al o' h' ap (by simp)
      · have n1 : ¬ xs.isEmpty = true := fun q => n (e1.mp (List.isEmpty_iff.mp q))
        have n2 : ¬ ys.isEmpty = true := fun q => m (e2.mp (List.isEmpty_iff.mp q))
        rw [if_neg n1, if_neg n2] at h'
        exact fin_newT o' h' (r1.app r2) hp
    · exact h'.elim
  · rename_i xs k
    obtain ⟨a, as, rfl, ha, r1⟩ := rp
    rw [rq.int]
    split at h'
    · rename_i c
      exact .inr ⟨a, k, as, rfl, rfl, ha, c.1, c.2.1, cap_line (by rw [r1.len]; exact c.2.2), fun p hp => fin_newL o' h' (r1.rep _) hp⟩
    · exact h'.elim
  · exact h'.elim
end
end NB
end
section
set_option linter.all false
/-! NBSound3: comparisons, places, slices, built-in functions, displays. -/
namespace NB
open PySem PySem.Spec PyProof.Rows L2
mutual
def P.pd : P → PyData
  | .non => .none
  | .bl b => .bool b
  | .int i => .int i
  | .str s => .str s
  | .tup ps => .tuple (P.pds ps)
  | .lst ps => .list (P.pds ps)
  | .exc _ _ => .none
  | .scr _ => .none
def P.pds : List P → List PyData
  | [] => []
  | p :: ps => p.pd :: P.pds ps
end
mutual
theorem cmpOk_lay : ∀ (n : Nat) (p : P), P.cmpOk n p = true → p.pd.canLay0 = true ∧ p.pd.depth ≤ n
  | 0, p, h => by simp [P.cmpOk] at h
  | n + 1, .non, _ => ⟨rfl, by simp [P.pd, PyData.depth]⟩
  | n + 1, .bl _, _ => ⟨rfl, by simp [P.pd, PyData.depth]⟩
  | n + 1, .int _, _ => ⟨rfl, by simp [P.pd, PyData.depth]⟩
  | n + 1, .str x, h => ⟨by simpa [P.cmpOk, P.pd, PyData.canLay0] using h, by simp [P.pd, PyData.depth]⟩
  | n + 1, .lst xs, h => by
    have := cmpOks_lay n xs (by simpa [P.cmpOk] using h)
    simp only [P.pd, PyData.canLay0, PyData.depth]
    exact ⟨this.1, Nat.succ_le_succ this.2⟩
  | n + 1, .tup xs, h => by
    have := cmpOks_lay n xs (by simpa [P.cmpOk] using h)
    simp only [P.pd, PyData.canLay0, PyData.depth]
    exact ⟨this.1, Nat.succ_le_succ this.2⟩
  | n + 1, .exc _ _, h => by simp [P.cmpOk] at h
  | n + 1, .scr _, h => by simp [P.cmpOk] at h
theorem cmpOks_lay : ∀ (n : Nat) (ps : List P), P.cmpOks n ps = true → PyData.canLayAll0 (P.pds ps) = true ∧ PyData.depthAll (P.pds ps) ≤ n
  | n, [], _ => ⟨rfl, by simp [P.pds, PyData.depthAll]⟩
  | n, p :: ps, h => by
    simp only [P.cmpOks, Bool.and_eq_true] at h
    have h1 := cmpOk_lay n p h.1
    have h2 := cmpOks_lay n ps h.2
    simp only [P.pds, PyData.canLayAll0, PyData.depthAll, Bool.and_eq_true]
    exact ⟨⟨h1.1, h2.1⟩, Nat.max_le.mpr ⟨h1.2, h2.2⟩⟩
end
theorem cmpOk_shaped {p : P} (h : P.cmpOk 20 p = true) : SeqAt.shaped p.pd = true := by
  obtain ⟨h1, h2⟩ := cmpOk_lay 20 p h
  unfold SeqAt.shaped
  rw [h1, decide_eq_true (Nat.le_trans h2 (by decide))]
  rfl
mutual
theorem eqv_pd : ∀ (n m : Nat) (p q : P), P.cmpOk n p = true → P.cmpOk m q = true → PyData.eqv p.pd q.pd = P.eqv p q
  | n + 1, m + 1, .lst xs, .lst ys, h1, h2 => by
    simp only [P.pd, PyData.eqv, P.eqv]
    exact eqvs_pd n m xs ys (by simpa [P.cmpOk] using h1) (by simpa [P.cmpOk] using h2)
  | n + 1, m + 1, .tup xs, .tup ys, h1, h2 => by
    simp only [P.pd, PyData.eqv, P.eqv]
    exact eqvs_pd n m xs ys (by simpa [P.cmpOk] using h1) (by simpa [P.cmpOk] using h2)
  | 0, _, p, _, h, _ => by simp [P.cmpOk] at h
  | n + 1, 0, _, q, _, h => by simp [P.cmpOk] at h
  | n + 1, m + 1, .exc _ _, _, h, _ => by simp [P.cmpOk] at h
  | n + 1, m + 1, .scr _, _, h, _ => by simp [P.cmpOk] at h
  | n + 1, m + 1, _, .exc _ _, _, h => by simp [P.cmpOk] at h
  | n + 1, m + 1, _, .scr _, _, h => by simp [P.cmpOk] at h
  | n + 1, m + 1, .non, .non, _, _ => rfl
  | n + 1, m + 1, .non, .bl _, _, _ => rfl
  | n + 1, m + 1, .non, .int _, _, _ => rfl
  | n + 1, m + 1, .non, .str _, _, _ => rfl
  | n + 1, m + 1, .non, .lst _, _, _ => rfl
  | n + 1, m + 1, .non, .tup _, _, _ => rfl
  | n + 1, m + 1, .bl _, .non, _, _ => rfl
  | n + 1, m + 1, .bl _, .bl _, _, _ => rfl
  | n + 1, m + 1, .bl _, .int _, _, _ => rfl
  | n + 1, m + 1, .bl _, .str _, _, _ => rfl
  | n + 1, m + 1, .bl _, .lst _, _, _ => rfl
  | n + 1, m + 1, .bl _, .tup _, _, _ => rfl
  | n + 1, m + 1, .int _, .non, _, _ => rfl
  | n + 1, m + 1, .int _, .bl _, _, _ => rfl
  | n + 1, m + 1, .int _, .int _, _, _ => rfl
  | n + 1, m + 1, .int _, .str _, _, _ => rfl
  | n + 1, m + 1, .int _, .lst _, _, _ => rfl
  | n + 1, m + 1, .int _, .tup _, _, _ => rfl
  | n + 1, m + 1, .str _, .non, _, _ => rfl
  | n + 1, m + 1, .str _, .bl _, _, _ => rfl
  | n + 1, m + 1, .str _, .int _, _, _ => rfl
  | n + 1, m + 1, .str _, .str _, _, _ => rfl
  | n + 1, m + 1, .str _, .lst _, _, _ => rfl
  | n + 1, m + 1, .str _, .tup _, _, _ => rfl
  | n + 1, m + 1, .lst _, .non, _, _ => rfl
  | n + 1, m + 1, .lst _, .bl _, _, _ => rfl
  | n + 1, m + 1, .lst _, .int _, _, _ => rfl
  | n + 1, m + 1, .lst _, .str _, _, _ => rfl
  | n + 1, m + 1, .lst _, .tup _, _, _ => rfl
  | n + 1, m + 1, .tup _, .non, _, _ => rfl
  | n + 1, m + 1, .tup _, .bl _, _, _ => rfl
  | n + 1, m + 1, .tup _, .int _, _, _ => rfl
  | n + 1, m + 1, .tup _, .str _, _, _ => rfl
  | n + 1, m + 1, .tup _, .lst _, _, _ => rfl
theorem eqvs_pd : ∀ (n m : Nat) (ps qs : List P), P.cmpOks n ps = true → P.cmpOks m qs = true → PyData.eqvAll (P.pds ps) (P.pds qs) = P.eqvs ps qs
  | n, m, [], [], _, _ => rfl
  | n, m, p :: ps, [], _, _ => rfl
  | n, m, [], q :: qs, _, _ => rfl
  | n, m, p :: ps, q :: qs, h1, h2 => by
    simp only [P.cmpOks, Bool.and_eq_true] at h1 h2
    simp only [P.pds, PyData.eqvAll, P.eqvs, eqv_pd n m p q h1.1 h2.1, eqvs_pd n m ps qs h1.2 h2.2]
end
section
variable {wd : Wd} {W : WX} {F F' F1 F2 R R1 H H' H1 H2 : Hp} {L : Nat → Hp} {σ : St} {ε ε' : Env} {S S' : Own} {T U : Addr → Prop} {X : Cx} {Q : VK} {K : PySem.W.Frag}
mutual
theorem Rp.dp : ∀ (n : Nat) (p : P) (v : V), P.cmpOk n p = true → Rp wd F v p → Dp K F v p.pd
  | n, .non, v, _, r => by simp only [Rp] at r; subst r; exact .non
  | n, .bl _, v, _, r => by simp only [Rp] at r; subst r; exact .bl _
  | n, .int _, v, _, r => by simp only [Rp] at r; subst r; exact .int _
  | n, .str _, v, _, r => by simp only [Rp] at r; subst r; exact .str _
  | 0, .lst ps, v, h, r => by simp [P.cmpOk] at h
  | 0, .tup ps, v, h, r => by simp [P.cmpOk] at h
  | n + 1, .lst ps, v, h, r => by
    simp only [Rp] at r
    obtain ⟨a, xs, rfl, h1, h2⟩ := r
    exact .lst (.of h1) (Rps.dp n ps xs (by simpa [P.cmpOk] using h) h2)
  | n + 1, .tup ps, v, h, r => by
    simp only [Rp] at r
    obtain ⟨a, xs, rfl, h1, h2⟩ := r
    exact .tup (.of h1) (Rps.dp n ps xs (by simpa [P.cmpOk] using h) h2)
  | 0, .exc _ _, v, h, r => by simp [P.cmpOk] at h
  | n + 1, .exc _ _, v, h, r => by simp [P.cmpOk] at h
  | 0, .scr _, v, h, r => by simp [P.cmpOk] at h
  | n + 1, .scr _, v, h, r => by simp [P.cmpOk] at h
theorem Rps.dp : ∀ (n : Nat) (ps : List P) (vs : List V), P.cmpOks n ps = true → Rps wd F vs ps → DpAll K F vs (P.pds ps)
  | n, [], vs, _, r => by simp only [Rps] at r; subst r; exact .nil
  | n, p :: ps, vs, h, r => by
    simp only [P.cmpOks, Bool.and_eq_true] at h
    simp only [Rps] at r
    obtain ⟨v, vr, rfl, h1, h2⟩ := r
    exact .cons (Rp.dp n p v h.1 h1) (Rps.dp n ps vr h.2 h2)
end
mutual
theorem Dp.same (h : Same F F') : ∀ {v : V} {d : PyData}, Dp K F v d → Dp K F' v d
  | _, _, .non => .non
  | _, _, .bl b => .bl b
  | _, _, .int i => .int i
  | _, _, .str s => .str s
  | _, _, .lst a b => .lst (h.seq a) (DpAll.same h b)
  | _, _, .tup a b => .tup (by
      rcases a with (a | ⟨o, a⟩) | a
      · exact .inl (.inl (h _ _ a))
      · exact .inl (.inr ⟨o, h _ _ a⟩)
      · exact .inr a) (DpAll.same h b)
theorem DpAll.same (h : Same F F') : ∀ {vs : List V} {ds : List PyData}, DpAll K F vs ds → DpAll K F' vs ds
  | _, _, .nil => .nil
  | _, _, .cons a b => .cons (Dp.same h a) (DpAll.same h b)
end
theorem RpV.dp {n : Nat} {p : P} {v : V} (hF : Same F H) (h : P.cmpOk n p = true) (r : RpV wd F H v p) : Dp K H v p.pd := by
  have lift : ∀ {vs : List V} {ds : List PyData}, DpAll K F vs ds → DpAll K H vs ds := fun d => DpAll.same hF d
  cases p with
  | lst ps =>
    obtain ⟨a, xs, rfl, h1, h2⟩ := r
    cases n with
    | zero => simp [P.cmpOk] at h
    | succ n => exact .lst (.of h1) (lift (Rps.dp n ps xs (by simpa [P.cmpOk] using h) h2))
  | tup ps =>
    obtain ⟨a, xs, rfl, h1, h2⟩ := r
    cases n with
    | zero => simp [P.cmpOk] at h
    | succ n => exact .tup (.of h1) (lift (Rps.dp n ps xs (by simpa [P.cmpOk] using h) h2))
  | _ => exact Dp.same hF (Rp.dp (wd := wd) n _ v h r)

/-! ### is -/
def rIsBX : R2 := fun x y H Q => ∃ b : Bool, y = .bl b ∧ Q (.bl (decide (x = .bl b))) H
theorem op_isBX : OpR X (compareOp .Is) rIsBX := by
  intro pins s σ H x y v u Q I rx ry h
  obtain ⟨b, rfl, q⟩ := h
  cases (show u = Value.bool b from ry)
  have key : ∀ v : Value, plainIs v (.bool b) = true → v ≠ .bool b → x ≠ .bl b → wpAny (model X.prog X.w) X.A (compareOp .Is v (.bool b)) (EP X pins σ Q) X.xe s := fun v h1 h2 h3 =>
    wpAny_is_other h1 h2 ⟨.bl false, H, I, rfl, by rw [decide_eq_false h3] at q; exact q⟩
  cases x with
  | bl a =>
    cases (show v = Value.bool a from rx)
    by_cases e : a = b
    · subst e
      exact wpAny_is_self rfl ⟨.bl true, H, I, rfl, by simpa using q⟩
    · exact key _ rfl (fun z => e (Value.bool.inj z)) (fun z => e (V.bl.inj z))
  | non => cases (show v = Value.none from rx); exact key _ rfl (fun z => nomatch z) (fun z => nomatch z)
  | int i => obtain ⟨t, rfl⟩ := (show ∃ t, v = Value.int i t from rx); exact key _ rfl (fun z => nomatch z) (fun z => nomatch z)
  | str i => obtain ⟨t, rfl⟩ := (show ∃ t, v = Value.str i t from rx); exact key _ rfl (fun z => nomatch z) (fun z => nomatch z)
  | byt i => obtain ⟨t, rfl⟩ := (show ∃ t, v = Value.bytes i t from rx); exact key _ rfl (fun z => nomatch z) (fun z => nomatch z)
  | flt i => obtain ⟨t, rfl⟩ := (show ∃ t, v = Value.float i t from rx); exact key _ rfl (fun z => nomatch z) (fun z => nomatch z)
  | ref i => cases (show v = Value.ref i from rx); exact key _ rfl (fun z => nomatch z) (fun z => nomatch z)
  | ty i => cases (show v = Value.type i from rx); exact key _ rfl (fun z => nomatch z) (fun z => nomatch z)
def COp.op : COp → CmpOp
  | .eq => .Eq
  | .ne => .NotEq
  | .lt => .Lt
  | .le => .LtE
  | .gt => .Gt
  | .ge => .GtE
  | .is => .Is
  | .isnot => .IsNot
  | .isin => .In
  | .notin => .NotIn
def rCmp (K : PySem.W.Frag) : COp → R2
  | .eq => rEqD K
  | .ne => rNeD K
  | .lt => rI0 fun i j => .bl (decide (i < j))
  | .le => rI0 fun i j => .bl (decide (i ≤ j))
  | .gt => rI0 fun i j => .bl (decide (i > j))
  | .ge => rI0 fun i j => .bl (decide (i ≥ j))
  | .is => fun x y H Q => (y = .non ∧ Q (.bl (decide (x = .non))) H) ∨ rIsBX x y H Q
  | .isnot => fun x y H Q => y = .non ∧ Q (.bl (!decide (x = .non))) H
  | .isin => fun _ _ _ _ => False
  | .notin => fun _ _ _ _ => False
theorem op_cmp (hu : X.A.units + 64 < cLine) : ∀ o : COp, OpR X (compareOp o.op) (rCmp X.K o)
  | .eq => op_eqD hu
  | .ne => op_neD hu
  | .lt => op_lt
  | .le => op_le
  | .gt => op_gt
  | .ge => op_ge
  | .is => OpR.or op_isN op_isBX
  | .isnot => op_notN
  | .isin => fun _ _ _ _ _ _ _ _ _ _ _ _ h => h.elim
  | .notin => fun _ _ _ _ _ _ _ _ _ _ _ _ h => h.elim
theorem RpV.non {v : V} (r : RpV wd F H v .non) : v = .non := by
  have r : Rp wd F v .non := r
  simpa only [Rp] using r
theorem RpV.bl {v : V} {b : Bool} (r : RpV wd F H v (.bl b)) : v = .bl b := by
  have r : Rp wd F v (.bl b) := r
  simpa only [Rp] using r
theorem RpV.isNon {v : V} {p : P} (r : RpV wd F H v p) (n : p ≠ .non) : v ≠ .non := by
  rintro rfl
  cases p with
  | non => exact n rfl
  | bl b => have := r.bl; cases this
  | int i => have := r.int; cases this
  | str s => have r : Rp wd F _ (.str s) := r; simp only [Rp] at r; cases r
  | lst ps => obtain ⟨a, xs, e, _⟩ := r; cases e
  | tup ps => obtain ⟨a, xs, e, _⟩ := r; cases e
  | exc c fs => have r : Rp wd F _ (.exc c fs) := r; simp only [Rp] at r; obtain ⟨a, d, fv, vs, e, _⟩ := r; cases e
  | scr ns => have r : Rp wd F _ (.scr ns) := r; simp only [Rp] at r; obtain ⟨a, e, _⟩ := r; cases e
theorem RpV.isBl {v : V} {p : P} {b : Bool} (r : RpV wd F H v p) (n : p ≠ .bl b) : v ≠ .bl b := by
  rintro rfl
  cases p with
  | non => have := r.non; cases this
  | bl c => have := r.bl; cases this; exact n rfl
  | int i => have := r.int; cases this
  | str s => have r : Rp wd F _ (.str s) := r; simp only [Rp] at r; cases r
  | lst ps => obtain ⟨a, xs, e, _⟩ := r; cases e
  | tup ps => obtain ⟨a, xs, e, _⟩ := r; cases e
  | exc c fs => have r : Rp wd F _ (.exc c fs) := r; simp only [Rp] at r; obtain ⟨a, d, fv, vs, e, _⟩ := r; cases e
  | scr ns => have r : Rp wd F _ (.scr ns) := r; simp only [Rp] at r; obtain ⟨a, e, _⟩ := r; cases e
theorem cmp_fin (o' : OK wd F R L H σ ε S) {o : COp} {p q : P} {as : List Arg} {v u : V} (rp : RpV wd F H v p) (rq : RpV wd F H u q) (h : ResE wd W F R L σ Q (done as ε (cmpR o p q))) : rCmp K o v u H Q := by
  have kI : ∀ (f : Int → Int → Bool), (∀ i j, p = .int i → q = .int j → ResE wd W F R L σ Q (.ok (.val (.bl (f i j)), ε))) → (∃ i j, p = .int i ∧ q = .int j) → (rI0 fun i j => .bl (f i j)) v u H Q := fun f h1 ⟨i, j, e1, e2⟩ => by
    have h2 := h1 i j e1 e2
    subst e1 e2
    rw [rp.int, rq.int]
    exact ⟨_, _, rfl, rfl, fin_val o' h2 rfl⟩
  cases o with
  | eq =>
    simp only [done, cmpR, cmpop] at h
    split at h
    · rename_i c
      simp only [Bool.and_eq_true] at c
      refine ⟨p.pd, q.pd, rp.dp o'.fh c.1, rq.dp o'.fh c.2, cmpOk_shaped c.1, cmpOk_shaped c.2, ?_⟩
      rw [eqv_pd 20 20 p q c.1 c.2]
      exact fin_val o' h rfl
    · exact h.elim
  | ne =>
    simp only [done, cmpR, cmpop] at h
    split at h
    · rename_i c
      simp only [Bool.and_eq_true] at c
      refine ⟨p.pd, q.pd, rp.dp o'.fh c.1, rq.dp o'.fh c.2, cmpOk_shaped c.1, cmpOk_shaped c.2, ?_⟩
      rw [eqv_pd 20 20 p q c.1 c.2]
      exact fin_val o' h rfl
    · exact h.elim
  | lt => cases p <;> cases q <;> first | exact h.elim | exact kI (fun i j => decide (i < j)) (fun i j e1 e2 => by cases e1; cases e2; exact h) ⟨_, _, rfl, rfl⟩
  | le => cases p <;> cases q <;> first | exact h.elim | exact kI (fun i j => decide (i ≤ j)) (fun i j e1 e2 => by cases e1; cases e2; exact h) ⟨_, _, rfl, rfl⟩
  | gt => cases p <;> cases q <;> first | exact h.elim | exact kI (fun i j => decide (i > j)) (fun i j e1 e2 => by cases e1; cases e2; exact h) ⟨_, _, rfl, rfl⟩
  | ge => cases p <;> cases q <;> first | exact h.elim | exact kI (fun i j => decide (i ≥ j)) (fun i j e1 e2 => by cases e1; cases e2; exact h) ⟨_, _, rfl, rfl⟩
  | is =>
    cases q with
    | non =>
      rw [rq.non]
      refine .inl ⟨rfl, ?_⟩
      cases p with
      | non => rw [rp.non]; exact fin_val o' h rfl
      | _ => rw [decide_eq_false (rp.isNon fun z => nomatch z)]; exact fin_val o' h rfl
    | bl b =>
      rw [rq.bl]
      refine .inr ⟨_, rfl, ?_⟩
      cases p with
      | bl a =>
        rw [rp.bl]
        have e2 : (decide (V.bl a = V.bl b)) = decide (a = b) := by
          by_cases z : a = b
          · rw [z]; simp
          · rw [decide_eq_false z, decide_eq_false (fun y => z (V.bl.inj y))]
        rw [e2]
        exact fin_val o' h rfl
      | _ => rw [decide_eq_false (rp.isBl fun z => nomatch z)]; exact fin_val o' h rfl
    | _ => exact h.elim
  | isnot =>
    cases q with
    | non =>
      rw [rq.non]
      refine ⟨rfl, ?_⟩
      cases p with
      | non => rw [rp.non]; exact fin_val o' h rfl
      | _ => rw [decide_eq_false (rp.isNon fun z => nomatch z)]; exact fin_val o' h rfl
    | _ => exact h.elim
  | isin => exact h.elim
  | notin => exact h.elim
theorem cmp_hop (o : COp) {x y : Arg} {v u : V} (ok : OK wd F R L H σ ε S) (ra : ArgsR wd F H σ [x, y] [v, u] T) (t : Tmp F R H S T)
    (h : ResE wd W F R L σ Q (view1 ε x >>= fun (p, ε3) => view1 ε3 y >>= fun (q, ε4) => done [x, y] ε4 (cmpR o p q))) : rCmp X.K o v u H Q := by
  obtain ⟨p, q, ε4, F', S', o', rp, rq, ap, aq, h'⟩ := see2 (fun p q ε4 => done [x, y] ε4 (cmpR o p q)) ok ra t h
  exact cmp_fin o' rp rq h'
end
end NB
end
section
set_option linter.all false
/-! NBSound4: lists of operands, places, slices, built-in functions, displays. -/
namespace NB
open PySem PySem.Spec PyProof.Rows L2
section
variable {wd : Wd} {W : WX} {F F' F1 F2 R R1 H H' H1 H2 : Hp} {L : Nat → Hp} {σ : St} {ε ε' : Env} {S S' : Own} {T U : Addr → Prop} {X : Cx} {Q : VK} {K : PySem.W.Frag}
/-! ### lists of operands -/
theorem ResAs.mono {Q : List V → Hp → Prop} {r : NB.R (List Arg × Env)} (h : ResAs wd W F R L σ Q r) (p : Post F R F1 H1) : ResAs wd W F1 R L σ Q r := by
  cases r with
  | ok a => exact fun v F' H' S' T p' => h v F' H' S' T (p.comp p' (Same.refl _))
  | exc c fs => exact Exq.mono h p (Same.refl _)
  | stuck => exact h
theorem ResDs.mono {Q : List V → Hp → Prop} {r : NB.R (List D × Env)} (h : ResDs wd W F R L σ Q r) (p : Post F R F1 H1) : ResDs wd W F1 R L σ Q r := by
  cases r with
  | ok a => exact fun v F' H' S' T p' => h v F' H' S' T (p.comp p' (Same.refl _))
  | exc c fs => exact Exq.mono h p (Same.refl _)
  | stuck => exact h
/-- a temporary and what came behind it -/
theorem joinTmp (t1 : Tmp F1 R H1 S T) (rh : Same R H1) (p2 : Post F1 (addR R H1 T) F2 H2) (out2 : ∀ i a, S' i a → addR R H1 T a = none) (t2 : Tmp F2 (addR R H1 T) H2 S' U) :
    (∀ b o, T b → H1 b = some o → H2 b = some o) ∧ (∀ a, T a → U a → False) ∧ Tmp F2 R H2 S' (fun a => T a ∨ U a) := by
  have at1 : ∀ a, T a → ∃ o, addR R H1 T a = some o := fun a t => by
    obtain ⟨_, _, ⟨o, e⟩, _⟩ := t1 a t
    exact ⟨o, addR_at rh t e⟩
  have k1 : ∀ b o, T b → H1 b = some o → H2 b = some o := fun b o t e => p2.rh b o (addR_at rh t e)
  refine ⟨k1, fun a x1 x2 => ?_, fun a z => ?_⟩
  · obtain ⟨o, e⟩ := at1 a x1
    have := (t2 a x2).2.1
    rw [e] at this; cases this
  · rcases z with z | z
    · obtain ⟨x1, x2, ⟨u', x3⟩, x4⟩ := t1 a z
      obtain ⟨o, e⟩ := at1 a z
      refine ⟨p2.gr a o e x1, x2, ⟨u', k1 _ _ z x3⟩, fun i s => ?_⟩
      have := out2 i a s
      rw [e] at this; cases this
    · obtain ⟨x1, x2, x3, x4⟩ := t2 a z
      exact ⟨x1, Same.none' addR_in x2, x3, x4⟩
theorem args_nil : ∀ σ H Q, tArgs wd W (fun ε => .ok ([], ε)) σ H Q → tNil σ H Q := by
  rintro σ H Q ⟨F, R, L, ε, S, o, h⟩
  exact h [] F H S (fun _ => False) (Post.refl o) o rfl noTmp
theorem ds_nil : ∀ σ H Q, tDs wd W (fun ε => .ok ([], ε)) σ H Q → tNil σ H Q := by
  rintro σ H Q ⟨F, R, L, ε, S, o, h⟩
  exact h [] F H S (fun _ => False) (Post.refl o) o (by simp [RpDs]) noTmp
theorem args_cons {f : Env → NB.R (Arg × Env)} {g : Env → NB.R (List Arg × Env)} : ∀ σ H Q, tArgs wd W (fun ε => f ε >>= fun (a, ε1) => g ε1 >>= fun (as, ε2) => pure (a :: as, ε2)) σ H Q → tCons (tArg wd W f) (tArgs wd W g) σ H Q := by
  rintro σ H Q ⟨F, R, L, ε, S, o, h⟩
  dsimp only at h
  refine ⟨F, R, L, ε, S, o, ?_⟩
  cases e : f ε with
  | stuck => rw [e] at h; exact h
  | exc c fs => rw [e] at h; exact h
  | ok a =>
    obtain ⟨x, ε1⟩ := a
    rw [e] at h
    simp only [NB.R.ok_bind] at h
    intro v F1 H1 S1 T1 p1 o1 r1 t1
    refine ⟨F1, addR R H1 T1, L, ε1, S1, o1.frame (fun i a s t => (t1 a t).2.2.2 i s), ?_⟩
    cases e2 : g ε1 with
    | stuck => rw [e2] at h; exact h
    | exc c fs => rw [e2] at h; exact Exq.mono h p1 addR_in
    | ok a =>
      obtain ⟨ys, ε2⟩ := a
      rw [e2] at h
      simp only [NB.R.ok_bind, NB.R.pure_eq] at h
      intro vs F2 H2 S2 T2 p2 o2 r2 t2
      obtain ⟨k1, dj, t3⟩ := joinTmp t1 o1.rh p2 (fun i a s => (o2.out i a s).2.1) t2
      exact h (v :: vs) F2 H2 S2 _ (p1.comp p2 addR_in) (o2.unframe addR_in o1.lr) ⟨v, vs, T1, T2, rfl, r1.mono p2.ff k1, r2, fun a z => .inl z, fun a z => .inr z, dj⟩ t3
theorem ds_cons {f : Env → NB.R (D × Env)} {g : Env → NB.R (List D × Env)} : ∀ σ H Q, tDs wd W (fun ε => f ε >>= fun (a, ε1) => g ε1 >>= fun (as, ε2) => pure (a :: as, ε2)) σ H Q → tCons (tE wd W f) (tDs wd W g) σ H Q := by
  rintro σ H Q ⟨F, R, L, ε, S, o, h⟩
  dsimp only at h
  refine ⟨F, R, L, ε, S, o, ?_⟩
  cases e : f ε with
  | stuck => rw [e] at h; exact h
  | exc c fs => rw [e] at h; exact h
  | ok a =>
    obtain ⟨x, ε1⟩ := a
    rw [e] at h
    simp only [NB.R.ok_bind] at h
    intro v F1 H1 S1 T1 p1 o1 r1 t1
    refine ⟨F1, addR R H1 T1, L, ε1, S1, o1.frame (fun i a s t => (t1 a t).2.2.2 i s), ?_⟩
    cases e2 : g ε1 with
    | stuck => rw [e2] at h; exact h
    | exc c fs => rw [e2] at h; exact Exq.mono h p1 addR_in
    | ok a =>
      obtain ⟨ys, ε2⟩ := a
      rw [e2] at h
      simp only [NB.R.ok_bind, NB.R.pure_eq] at h
      intro vs F2 H2 S2 T2 p2 o2 r2 t2
      obtain ⟨k1, dj, t3⟩ := joinTmp t1 o1.rh p2 (fun i a s => (o2.out i a s).2.1) t2
      refine h (v :: vs) F2 H2 S2 _ (p1.comp p2 addR_in) (o2.unframe addR_in o1.lr) ?_ t3
      simp only [RpDs]
      exact ⟨v, vs, T1, T2, rfl, RpD.mono p2.ff x v T1 T1 r1 (fun _ z => z) k1, r2, fun a z => .inl z, fun a z => .inr z, dj⟩
/-- operands, then what is done with them -/
theorem many {fa : Env → NB.R (List Arg × Env)} {r : List V → Hp → VK → Prop} {g : List Arg → Env → NB.R (D × Env)}
    (hop : ∀ (F R : Hp) (L : Nat → Hp) (H : Hp) (σ : St) (ε : Env) (S : Own) (as : List Arg) (vs : List V) (T : Addr → Prop) (Q : VK), OK wd F R L H σ ε S → ArgsR wd F H σ as vs T → Tmp F R H S T → ResE wd W F R L σ Q (g as ε) → r vs H Q) :
    ∀ σ H Q, tE wd W (fun ε => fa ε >>= fun (as, ε1) => g as ε1) σ H Q → tCB r (tArgs wd W fa) σ H Q := by
  rintro σ H Q ⟨F, R, L, ε, S, o, h⟩
  dsimp only at h
  refine ⟨F, R, L, ε, S, o, ?_⟩
  cases e : fa ε with
  | stuck => rw [e] at h; exact h
  | exc c fs => rw [e] at h; exact h
  | ok a =>
    obtain ⟨x, ε1⟩ := a
    rw [e] at h
    simp only [NB.R.ok_bind] at h
    intro v F1 H1 S1 T1 p1 o1 r1 t1
    exact hop F1 R L H1 σ ε1 S1 x v T1 Q o1 r1 t1 (h.mono p1)
theorem views_exc : ∀ {as : List Arg} {ε : Env} {c : Nat} {fs : List P}, views as ε = .exc c fs → False
  | [], ε, c, fs, e => by simp [views] at e
  | a :: as, ε, c, fs, e => by
    simp only [views] at e
    cases e1 : view1 ε a with
    | stuck => rw [e1] at e; cases e
    | exc c fs => exact view1_exc e1
    | ok b =>
      obtain ⟨p, ε1⟩ := b
      rw [e1] at e
      simp only [NB.R.ok_bind] at e
      cases e2 : views as ε1 with
      | stuck => rw [e2] at e; cases e
      | exc c fs => exact views_exc e2
      | ok b => rw [e2] at e; cases e
theorem see {as : List Arg} {vs : List V} (k : List P → Env → NB.R (D × Env)) (o : OK wd F R L H σ ε S) (r : ArgsR wd F H σ as vs T) (t : Tmp F R H S T)
    (h : ResE wd W F R L σ Q (views as ε >>= fun (ps, ε3) => k ps ε3)) :
    ∃ ps ε4 F' S', OK wd F' R L H σ ε4 S' ∧ RpVs wd F' H vs ps ∧ (∀ x v p, as = [x] → vs = [v] → ps = [p] → Al wd F' σ ε4 x v p) ∧ ResE wd W F' R L σ Q (k ps ε4) := by
  cases e1 : views as ε with
  | stuck => rw [e1] at h; exact h.elim
  | exc c fs => exact (views_exc e1).elim
  | ok a =>
    obtain ⟨ps, ε3⟩ := a
    rw [e1] at h
    simp only [NB.R.ok_bind] at h
    by_cases one : ∃ x, as = [x]
    · obtain ⟨x, rfl⟩ := one
      simp only [views] at e1
      cases e2 : view1 ε x with
      | stuck => rw [e2] at e1; cases e1
      | exc c fs => rw [e2] at e1; cases e1
      | ok b =>
        obtain ⟨p, ε1⟩ := b
        rw [e2] at e1
        simp only [NB.R.ok_bind, NB.R.pure_eq, NB.R.ok.injEq, Prod.mk.injEq] at e1
        obtain ⟨rfl, rfl⟩ := e1
        obtain ⟨v1, vr, T1, T2, rfl, r1, r2, s1, s2, dj⟩ := r
        have r2 : vr = [] := r2
        subst r2
        obtain ⟨F', S', o', p', rv, _, _, al⟩ := view1_ok o r1 (t.sub (fun _ _ z => z) s1) e2
        refine ⟨[p], ε1, F', S', o', ⟨v1, [], rfl, rv, rfl⟩, fun x' v' p'' ex ev ep => ?_, h.mono p'⟩
        cases ex
        cases ev
        cases ep
        exact al
    · obtain ⟨F', S', o', p', rv, _⟩ := views_ok o r t e1
      exact ⟨ps, ε3, F', S', o', rv, fun x v p ex _ _ => absurd ⟨x, ex⟩ one, h.mono p'⟩

/-! ### places -/
theorem ix_hop {x y : Arg} {v u : V} (ok : OK wd F R L H σ ε S) (ra : ArgsR wd F H σ [x, y] [v, u] T) (t : Tmp F R H S T)
    (h : ResE wd W F R L σ Q (view1 ε x >>= fun (p, ε3) => view1 ε3 y >>= fun (q, ε4) => done [x, y] ε4 (index p q >>= flatR))) : rIx K v u H Q := by
  obtain ⟨p, q, ε4, F', S', o', rp, rq, ap, aq, h'⟩ := see2 (fun p q ε4 => done [x, y] ε4 (index p q >>= flatR)) ok ra t h
  clear ok ra t h
  have seq : ∀ {ps : List P} {xs : List V} {i : Int}, Rps wd F' xs ps → ResE wd W F' R L σ Q (done [x, y] ε4 (NB.R.of ((ixP ps.length i).bind fun j => ps[j]?) >>= flatR)) → ∃ w, atI xs i = some w ∧ Q w H := fun {ps xs i} r h => by
    cases e : (ixP ps.length i).bind fun j => ps[j]? with
    | none => rw [e] at h; exact h.elim
    | some p =>
      rw [e] at h
      have h : ResE wd W F' R L σ Q (.ok (.val p, ε4)) := h
      obtain ⟨j, e1, e2⟩ := Option.bind_eq_some_iff.mp e
      obtain ⟨w, e3, r3⟩ := r.get e2
      refine ⟨w, ?_, fin_val o' h r3⟩
      unfold atI
      rw [r.len, show ixN ps.length i = some j from e1]
      exact e3
  cases p with
  | lst ps =>
    cases q with
    | int i =>
      obtain ⟨a, xs, rfl, ha, r⟩ := rp
      rw [rq.int]
      obtain ⟨w, e, q⟩ := seq r h'
      exact .inl ⟨a, xs, i, w, rfl, rfl, .of ha, e, q⟩
    | _ => exact h'.elim
  | tup ps =>
    cases q with
    | int i =>
      obtain ⟨a, xs, rfl, ha, r⟩ := rp
      rw [rq.int]
      obtain ⟨w, e, q⟩ := seq r h'
      exact .inr (.inl ⟨a, xs, i, w, rfl, rfl, .of ha, e, q⟩)
    | _ => exact h'.elim
  | _ => exact h'.elim

/-! ### slices -/
theorem Rps.cut {ps : List P} {xs : List V} (r : Rps wd F xs ps) (lo hi : Option Int) : Rps wd F (L2.cutV xs lo hi) (cutP ps lo hi) := by
  unfold L2.cutV cutP
  rw [r.len]
  exact Rps.take _ (Rps.drop _ r)
def rSl (K : PySem.W.Frag) : V → Option Int → Option Int → Hp → VK → Prop := fun x lo hi H Q => rSlL K x lo hi H Q ∨ rSlA K x lo hi H Q
theorem sl_any : L2.SlR X (rSl X.K) := L2.SlR.or sl_list sl_tupA
def tO (wd : Wd) (W : WX) (f : Env → NB.R (Option Int × Env)) : TO := fun σ H Q => ∃ F R L ε S, OK wd F R L H σ ε S ∧ match f ε with
  | .ok (k, ε') => ∀ F' H' S', Post F R F' H' → OK wd F' R L H' σ ε' S' → Q k H'
  | .exc c fs => Exq wd W F R σ c fs
  | .stuck => False
theorem o_none : ∀ σ H Q, tO wd W (fun ε => .ok (none, ε)) σ H Q → tNoPart σ H Q := by
  rintro σ H Q ⟨F, R, L, ε, S, o, h⟩
  exact h F H S (Post.refl o) o
theorem o_some {f : Env → NB.R (D × Env)} : ∀ σ H Q, tO wd W (fun ε => f ε >>= fun (d, ε1) => match d with
    | .val (.int i) => pure (some i, ε1)
    | _ => .stuck) σ H Q → tPart (tE wd W f) σ H Q := by
  rintro σ H Q ⟨F, R, L, ε, S, o, h⟩
  dsimp only at h
  refine ⟨F, R, L, ε, S, o, ?_⟩
  cases e : f ε with
  | stuck => rw [e] at h; exact h
  | exc c fs => rw [e] at h; exact h
  | ok a =>
    obtain ⟨d, ε1⟩ := a
    rw [e] at h
    simp only [NB.R.ok_bind] at h
    intro v F1 H1 S1 T1 p1 o1 r1 t1
    cases d with
    | tup _ => exact h.elim
    | lst _ => exact h.elim
    | val p =>
      cases p with
      | int i =>
        simp only [RpD, Rp] at r1
        exact ⟨i, r1, h F1 H1 S1 p1 o1⟩
      | _ => exact h.elim
theorem sl_hop {x : Arg} {v : V} {lo hi : Option Int} (ok : OK wd F R L H σ ε S) (ra : ArgsR wd F H σ [x] [v] T) (t : Tmp F R H S T)
    (h : ResE wd W F R L σ Q (view1 ε x >>= fun (p, ε4) => done [x] ε4 (slice p lo hi))) (hK : wd.K = K) : rSl K v lo hi H Q := by
  obtain ⟨p, ε4, F', S', o', rp, ap, h'⟩ := see1 (fun p ε4 => done [x] ε4 (slice p lo hi)) ok ra t h
  clear ok ra t h
  cases p with
  | lst ps =>
    obtain ⟨a, xs, rfl, ha, r⟩ := rp
    exact .inl ⟨a, xs, rfl, .of ha, fun p hp => fin_newL o' h' (r.cut lo hi) hp⟩
  | scr ns =>
    have rp : Rp wd F' v (.scr ns) := rp
    simp only [Rp] at rp
    obtain ⟨a, rfl, ha⟩ := rp
    refine .inl ⟨a, ns.map V.int, rfl, by rw [← hK]; exact o'.fh.seq ha, fun p hp => fin_newL o' h' ?_ hp⟩
    exact Rps.cut (Rps.of_ints ns) lo hi
  | tup ps =>
    obtain ⟨a, xs, rfl, ha, r⟩ := rp
    simp only [done, slice] at h'
    refine .inr ⟨a, xs, rfl, .of ha, fun c => ?_, fun c p hp => ?_⟩
    · rw [r.len] at c
      rw [if_pos c] at h'
      exact fin_al o' h' ap (by simp)
    · rw [r.len] at c
      rw [if_neg c] at h'
      exact fin_newT o' h' (r.cut lo hi) hp
  | _ => exact h'.elim
theorem sl3 {fa : Env → NB.R (Arg × Env)} {fl fh : Env → NB.R (Option Int × Env)} (hK : wd.K = K) : ∀ σ H Q, tE wd W (fun ε => fa ε >>= fun (x, ε1) => fl ε1 >>= fun (l, ε2) => fh ε2 >>= fun (h, ε3) => view1 ε3 x >>= fun (p, ε4) => done [x] ε4 (slice p l h)) σ H Q →
    tSl (rSl K) (tArg wd W fa) (tO wd W fl) (tO wd W fh) σ H Q := by
  rintro σ H Q ⟨F, R, L, ε, S, o, h⟩
  dsimp only at h
  refine ⟨F, R, L, ε, S, o, ?_⟩
  cases e : fa ε with
  | stuck => rw [e] at h; exact h
  | exc c fs => rw [e] at h; exact h
  | ok a =>
    obtain ⟨x, ε1⟩ := a
    rw [e] at h
    simp only [NB.R.ok_bind] at h
    intro v F1 H1 S1 T1 p1 o1 r1 t1
    refine ⟨F1, addR R H1 T1, L, ε1, S1, o1.frame (fun i a s t => (t1 a t).2.2.2 i s), ?_⟩
    cases e2 : fl ε1 with
    | stuck => rw [e2] at h; exact h
    | exc c fs => rw [e2] at h; exact Exq.mono h p1 addR_in
    | ok a =>
      obtain ⟨l, ε2⟩ := a
      rw [e2] at h
      simp only [NB.R.ok_bind] at h
      intro F2 H2 S2 p2 o2
      refine ⟨F2, addR R H1 T1, L, ε2, S2, o2, ?_⟩
      cases e3 : fh ε2 with
      | stuck => rw [e3] at h; exact h
      | exc c fs => rw [e3] at h; exact Exq.mono h (p1.comp p2 addR_in) addR_in
      | ok a =>
        obtain ⟨u, ε3⟩ := a
        rw [e3] at h
        simp only [NB.R.ok_bind] at h
        intro F3 H3 S3 p3 o3
        have p23 := p2.comp p3 (Same.refl _)
        obtain ⟨k1, dj, t3⟩ := joinTmp (U := fun _ => False) t1 o1.rh p23 (fun i a s => (o3.out i a s).2.1) noTmp
        exact sl_hop (o3.unframe addR_in o1.lr) ⟨v, [], T1, fun _ => False, rfl, r1.mono p23.ff k1, rfl, fun _ z => z, fun _ z => z.elim, fun _ _ z => z.elim⟩ (t3.sub (fun _ _ z => z) fun a z => .inl z) (h.mono (p1.comp p23 addR_in)) hK

/-! ### displays -/
theorem lst_fin {f : Env → NB.R (List D × Env)} : ∀ σ H Q, tE wd W (fun ε => f ε >>= fun (ds, ε1) => if ds.length ≤ cap then .ok (.lst ds, ε1) else .stuck) σ H Q → tLst (tDs wd W f) σ H Q := by
  rintro σ H Q ⟨F, R, L, ε, S, o, h⟩
  dsimp only at h
  refine ⟨F, R, L, ε, S, o, ?_⟩
  cases e : f ε with
  | stuck => rw [e] at h; exact h
  | exc c fs => rw [e] at h; exact h
  | ok a =>
    obtain ⟨ds, ε1⟩ := a
    rw [e] at h
    simp only [NB.R.ok_bind] at h
    intro vs F1 H1 S1 T1 p1 o1 r1 t1
    split at h
    · rename_i hl
      exact ⟨cap_line (by rw [r1.len]; exact hl), fun p hp => fin_lst o1 (h.mono p1) r1 t1 hp⟩
    · exact h.elim
theorem tup_fin {f : Env → NB.R (List D × Env)} : ∀ σ H Q, tE wd W (fun ε => f ε >>= fun (ds, ε1) => if ds.length ≤ cap then .ok (.tup ds, ε1) else .stuck) σ H Q → tTup (tDs wd W f) σ H Q := by
  rintro σ H Q ⟨F, R, L, ε, S, o, h⟩
  dsimp only at h
  refine ⟨F, R, L, ε, S, o, ?_⟩
  cases e : f ε with
  | stuck => rw [e] at h; exact h
  | exc c fs => rw [e] at h; exact h
  | ok a =>
    obtain ⟨ds, ε1⟩ := a
    rw [e] at h
    simp only [NB.R.ok_bind] at h
    intro vs F1 H1 S1 T1 p1 o1 r1 t1
    split at h
    · rename_i hl
      exact ⟨cap_line (by rw [r1.len]; exact hl), fun p hp => fin_tup o1 (h.mono p1) r1 t1 hp⟩
    · exact h.elim

/-! ### built-in functions -/
theorem CallR.or {f : Value} {r r' : List V → Hp → VK → Prop} (h : CallR X f r) (h' : CallR X f r') : CallR X f (fun xs H Q => r xs H Q ∨ r' xs H Q) := L2.CallR.or h h'
def rSumT (K : PySem.W.Frag) : List V → Hp → VK → Prop := fun vs H Q => ∃ (a : Addr) (ns : List Int), vs = [V.ref a] ∧ SqT K H a (ns.map V.int) ∧ Q (.int ns.sum) H
theorem cr_sumT (hc : X.calm = true) : CallR X (.builtin "sum") (rSumT X.K) := by
  intro pins s σ H vs us Q I r h
  obtain ⟨a, ns, rfl, hs, q⟩ := h
  obtain rfl := r.ref1
  obtain ⟨its, rv, p, _⟩ := I.tuple hs
  have hi := rv.ints
  obtain ⟨xs, e⟩ := hi.allInts.items
  have hn : numsOf (intItems xs).toList = ns := by rw [← e]; exact hi.numsOf
  rw [nums_intItems] at hn
  rw [e] at p
  refine PySem.W.ktm_sumG (I.ok.hd hc) p fun h' tk t' hk => ?_
  rw [preSum_eq, List.take_of_length_le (by simp), hn]
  exact ⟨.int ns.sum, H, I.kept (t' := tk) hk, ⟨_, rfl⟩, q⟩
def BI.fn : BI → Value
  | .len => .builtin "len"
  | .abs => .builtin "abs"
  | .int_ => .type "int"
  | .max_ => .builtin "max"
  | .min_ => .builtin "min"
  | .sum_ => .builtin "sum"
  | .list_ => .type "list"
  | .tuple_ => .type "tuple"
  | .range2 => .none
def rBI (K : PySem.W.Frag) : BI → List V → Hp → VK → Prop
  | .len => fun xs H Q => ∃ p ys, xs = [.ref p] ∧ (SqL K H p ys ∨ SqT K H p ys) ∧ Q (.int ys.length) H
  | .abs => fun xs H Q => ∃ i, xs = [.int i] ∧ Q (.int (if i < 0 then -i else i)) H
  | .int_ => fun xs H Q => (∃ i, xs = [.int i] ∧ Q (.int i) H) ∨ ∃ k, xs = [.bl k] ∧ Q (.int (if k then 1 else 0)) H
  | .max_ => fun xs H Q => (∃ i j, xs = [.int i, .int j] ∧ Q (.int (if j > i then j else i)) H) ∨ rMax K xs H Q
  | .min_ => fun xs H Q => (∃ i j, xs = [.int i, .int j] ∧ Q (.int (if j < i then j else i)) H) ∨ rMin K xs H Q
  | .sum_ => fun xs H Q => rSum K xs H Q ∨ rSumT K xs H Q
  | .list_ => fun xs H Q => ∃ p ys, xs = [.ref p] ∧ (SqL K H p ys ∨ SqT K H p ys) ∧ ∀ l, H l = none → Q (.ref l) (upd H l (.lst ys))
  | .tuple_ => fun xs H Q => ∃ p ys, xs = [.ref p] ∧ ((SqL K H p ys ∧ ∀ l, H l = none → Q (.ref l) (upd H l (.tup ys))) ∨ (SqT K H p ys ∧ Q (.ref p) H))
  | .range2 => fun _ _ _ => False
theorem call_bi (hc : X.calm = true) : ∀ b : BI, b ≠ .range2 → CallR X b.fn (rBI X.K b)
  | .len, _ => call_len_seq
  | .abs, _ => call_abs
  | .int_, _ => call_int1
  | .max_, _ => CallR.or (call_max2 hc) (cr_max hc)
  | .min_, _ => CallR.or (call_min2 hc) (cr_min hc)
  | .sum_, _ => CallR.or (cr_sum hc) (cr_sumT hc)
  | .list_, _ => call_list_of
  | .tuple_, _ => call_tuple_of
  | .range2, h => absurd rfl h
theorem maxI_le : ∀ {ns : List Int}, ns ≠ [] → ∀ m, m ∈ ns → (∀ y, y ∈ ns → y ≤ m) → m = maxI ns
  | [], h, _, _, _ => absurd rfl h
  | [x], _, m, hm, hy => by simp at hm; rw [hm]; rfl
  | x :: y :: r, _, m, hm, hy => by
    show m = max x (maxI (y :: r))
    have ih := fun m' h1 h2 => maxI_le (ns := y :: r) (by simp) m' h1 h2
    have key : ∃ M, M ∈ (y :: r) ∧ (∀ z, z ∈ (y :: r) → z ≤ M) := by
      have : ∀ l : List Int, l ≠ [] → ∃ M, M ∈ l ∧ ∀ z, z ∈ l → z ≤ M := by
        intro l
        induction l with
        | nil => intro z; exact absurd rfl z
        | cons a l ihl =>
          intro _
          by_cases h : l = []
          · subst h; exact ⟨a, by simp, by simp⟩
          · obtain ⟨M, h1, h2⟩ := ihl h
            by_cases c : M ≤ a
            · exact ⟨a, by simp, fun z hz => by
                rcases List.mem_cons.mp hz with rfl | hz
                · exact Int.le_refl _
                · exact Int.le_trans (h2 z hz) c⟩
            · exact ⟨M, List.mem_cons_of_mem _ h1, fun z hz => by
                rcases List.mem_cons.mp hz with rfl | hz
                · omega
                · exact h2 z hz⟩
      exact this _ (by simp)
    obtain ⟨M, h1, h2⟩ := key
    rw [← ih M h1 h2]
    have a1 := hy x (by simp)
    have a2 := hy M (List.mem_cons_of_mem _ h1)
    rcases List.mem_cons.mp hm with rfl | hm
    · omega
    · have a3 := h2 m hm
      omega
theorem minI_le : ∀ {ns : List Int}, ns ≠ [] → ∀ m, m ∈ ns → (∀ y, y ∈ ns → m ≤ y) → m = minI ns
  | [], h, _, _, _ => absurd rfl h
  | [x], _, m, hm, hy => by simp at hm; rw [hm]; rfl
  | x :: y :: r, _, m, hm, hy => by
    show m = min x (minI (y :: r))
    have ih := fun m' h1 h2 => minI_le (ns := y :: r) (by simp) m' h1 h2
    have key : ∃ M, M ∈ (y :: r) ∧ (∀ z, z ∈ (y :: r) → M ≤ z) := by
      have : ∀ l : List Int, l ≠ [] → ∃ M, M ∈ l ∧ ∀ z, z ∈ l → M ≤ z := by
        intro l
        induction l with
        | nil => intro z; exact absurd rfl z
        | cons a l ihl =>
          intro _
          by_cases h : l = []
          · subst h; exact ⟨a, by simp, by simp⟩
          · obtain ⟨M, h1, h2⟩ := ihl h
            by_cases c : a ≤ M
            · exact ⟨a, by simp, fun z hz => by
                rcases List.mem_cons.mp hz with rfl | hz
                · exact Int.le_refl _
                · exact Int.le_trans c (h2 z hz)⟩
            · exact ⟨M, List.mem_cons_of_mem _ h1, fun z hz => by
                rcases List.mem_cons.mp hz with rfl | hz
                · omega
                · exact h2 z hz⟩
      exact this _ (by simp)
    obtain ⟨M, h1, h2⟩ := key
    rw [← ih M h1 h2]
    have a1 := hy x (by simp)
    have a2 := hy M (List.mem_cons_of_mem _ h1)
    rcases List.mem_cons.mp hm with rfl | hm
    · omega
    · have a3 := h2 m hm
      omega
theorem bi_hop {b : BI} {as : List Arg} {vs : List V} (ok : OK wd F R L H σ ε S) (ra : ArgsR wd F H σ as vs T) (t : Tmp F R H S T) (hb : b ≠ .range2)
    (h : ResE wd W F R L σ Q (views as ε >>= fun (ps, ε4) => done as ε4 (bltn b ps))) : rBI K b vs H Q := by
  obtain ⟨ps, ε4, F', S', o', rp, ap, h'⟩ := see (fun ps ε4 => done as ε4 (bltn b ps)) ok ra t h
  clear h
  have k1 : ∀ {p : P}, ps = [p] → ∃ v, vs = [v] ∧ RpV wd F' H v p := fun {p} e => by
    subst e
    obtain ⟨v, vr, rfl, h1, h2⟩ := rp
    have h2 : vr = [] := h2
    subst h2
    exact ⟨v, rfl, h1⟩
  have k2 : ∀ {p q : P}, ps = [p, q] → ∃ v u, vs = [v, u] ∧ RpV wd F' H v p ∧ RpV wd F' H u q := fun {p q} e => by
    subst e
    obtain ⟨v, vr, rfl, h1, u, ur, rfl, h2, h3⟩ := rp
    have h3 : ur = [] := h3
    subst h3
    exact ⟨v, u, rfl, h1, h2⟩
  unfold done bltn at h'
  split at h'
  · obtain ⟨v, rfl, a, xs, rfl, ha, r⟩ := k1 rfl
    refine ⟨a, xs, rfl, .inl (.of ha), ?_⟩
    rw [r.len]
    exact fin_val o' h' rfl
  · obtain ⟨v, rfl, a, xs, rfl, ha, r⟩ := k1 rfl
    refine ⟨a, xs, rfl, .inr (.of ha), ?_⟩
    rw [r.len]
    exact fin_val o' h' rfl
  · obtain ⟨v, rfl, r⟩ := k1 rfl
    rw [r.int]
    exact ⟨_, rfl, fin_val o' h' rfl⟩
  · obtain ⟨v, rfl, r⟩ := k1 rfl
    rw [r.int]
    exact .inl ⟨_, rfl, fin_val o' h' rfl⟩
  · obtain ⟨v, u, rfl, r, r2⟩ := k2 rfl
    rw [r.int, r2.int]
    exact .inl ⟨_, _, rfl, fin_val o' h' rfl⟩
  · obtain ⟨v, u, rfl, r, r2⟩ := k2 rfl
    rw [r.int, r2.int]
    exact .inl ⟨_, _, rfl, fin_val o' h' rfl⟩
  · obtain ⟨v, rfl, a, xs, rfl, ha, r⟩ := k1 rfl
    split at h'
    · rename_i ns e
      have ex := r.ints e
      subst ex
      exact .inl ⟨a, ns, rfl, .of ha, fin_val o' h' rfl⟩
    · exact h'.elim
  · obtain ⟨v, rfl, a, xs, rfl, ha, r⟩ := k1 rfl
    split at h'
    · rename_i ns e
      have ex := r.ints e
      subst ex
      exact .inr ⟨a, ns, rfl, .of ha, fin_val o' h' rfl⟩
    · exact h'.elim
  · obtain ⟨v, rfl, a, xs, rfl, ha, r⟩ := k1 rfl
    split at h'
    · rename_i n ns e
      have ex := r.ints e
      subst ex
      refine .inr ⟨a, n :: ns, rfl, .of ha, by simp, fun m h1 h2 => ?_⟩
      rw [maxI_le (by simp) m h1 h2]
      exact fin_val o' h' rfl
    · exact h'.elim
  · obtain ⟨v, rfl, a, xs, rfl, ha, r⟩ := k1 rfl
    split at h'
    · rename_i n ns e
      have ex := r.ints e
      subst ex
      refine .inr ⟨a, n :: ns, rfl, .of ha, by simp, fun m h1 h2 => ?_⟩
      rw [minI_le (by simp) m h1 h2]
      exact fin_val o' h' rfl
    · exact h'.elim
  · obtain ⟨v, rfl, a, xs, rfl, ha, r⟩ := k1 rfl
    exact ⟨a, xs, rfl, .inl (.of ha), fun l hl => fin_newL o' h' r hl⟩
  · obtain ⟨v, rfl, a, xs, rfl, ha, r⟩ := k1 rfl
    exact ⟨a, xs, rfl, .inr (.of ha), fun l hl => fin_newL o' h' r hl⟩
  · obtain ⟨v, rfl, a, xs, rfl, ha, r⟩ := k1 rfl
    exact ⟨a, xs, rfl, .inl ⟨.of ha, fun l hl => fin_newT o' h' r hl⟩⟩
  · obtain ⟨v, rfl, a, xs, rfl, ha, r⟩ := k1 rfl
    refine ⟨a, xs, rfl, .inr ⟨.of ha, ?_⟩⟩
    obtain ⟨x, rfl⟩ : ∃ x, as = [x] := by
      cases as with
      | nil => have ra : [V.ref a] = [] := ra; cases ra
      | cons x as =>
        obtain ⟨v, vr, T1, T2, e, _, r2, _⟩ := ra
        cases e
        cases as with
        | nil => exact ⟨x, rfl⟩
        | cons y as => obtain ⟨v, vr, T1, T2, e, _⟩ := r2; cases e
    exact fin_al o' h' (ap x _ _ rfl rfl rfl) (by simp)
  · exact absurd rfl hb
  · exact h'.elim
end
end NB
end
section
set_option linter.all false
/-! NBSound5: tests, branches, chains, holding, isinstance, calls. -/
namespace NB
open PySem PySem.Spec PyProof.Rows L2
section
variable {wd : Wd} {W : WX} {F F' F1 F2 R R1 H H' H1 H2 : Hp} {L : Nat → Hp} {σ : St} {ε ε' : Env} {S S' : Own} {T U : Addr → Prop} {X : Cx} {Q : VK}
theorem ResT.mono {Q : Bool → Hp → Prop} {r : NB.R (Bool × Env)} (h : ResT wd W F R L σ Q r) (p : Post F R F1 H1) : ResT wd W F1 R L σ Q r := by
  cases r with
  | ok a => exact fun F' H' S' p' => h F' H' S' (p.comp p' (Same.refl _))
  | exc c fs => exact Exq.mono h p (Same.refl _)
  | stuck => exact h
theorem bind_EE {f : Env → NB.R (D × Env)} {k : D × Env → NB.R (D × Env)} {Q Q' : VK} (h : ResE wd W F R L σ Q (f ε >>= k))
    (hk : ∀ d ε1 v F' H' S' T, Post F R F' H' → OK wd F' R L H' σ ε1 S' → RpD wd F' H' v d T → Tmp F' R H' S' T → ResE wd W F' R L σ Q (k (d, ε1)) → Q' v H') : ResE wd W F R L σ Q' (f ε) := by
  cases e : f ε with
  | stuck => rw [e] at h; exact h
  | exc c fs => rw [e] at h; exact h
  | ok a =>
    obtain ⟨d, ε1⟩ := a
    rw [e] at h
    simp only [NB.R.ok_bind] at h
    exact fun v F' H' S' T p o r t => hk d ε1 v F' H' S' T p o r t (h.mono p)
theorem bind_ET {f : Env → NB.R (D × Env)} {k : D × Env → NB.R (Bool × Env)} {Q : Bool → Hp → Prop} {Q' : VK} (h : ResT wd W F R L σ Q (f ε >>= k))
    (hk : ∀ d ε1 v F' H' S' T, Post F R F' H' → OK wd F' R L H' σ ε1 S' → RpD wd F' H' v d T → Tmp F' R H' S' T → ResT wd W F' R L σ Q (k (d, ε1)) → Q' v H') : ResE wd W F R L σ Q' (f ε) := by
  cases e : f ε with
  | stuck => rw [e] at h; exact h
  | exc c fs => rw [e] at h; exact h
  | ok a =>
    obtain ⟨d, ε1⟩ := a
    rw [e] at h
    simp only [NB.R.ok_bind] at h
    exact fun v F' H' S' T p o r t => hk d ε1 v F' H' S' T p o r t (h.mono p)
theorem bind_TE {f : Env → NB.R (Bool × Env)} {k : Bool × Env → NB.R (D × Env)} {Q : VK} {Q' : Bool → Hp → Prop} (h : ResE wd W F R L σ Q (f ε >>= k))
    (hk : ∀ d ε1 F' H' S', Post F R F' H' → OK wd F' R L H' σ ε1 S' → ResE wd W F' R L σ Q (k (d, ε1)) → Q' d H') : ResT wd W F R L σ Q' (f ε) := by
  cases e : f ε with
  | stuck => rw [e] at h; exact h
  | exc c fs => rw [e] at h; exact h
  | ok a =>
    obtain ⟨d, ε1⟩ := a
    rw [e] at h
    simp only [NB.R.ok_bind] at h
    exact fun F' H' S' p o => hk d ε1 F' H' S' p o (h.mono p)
theorem bind_TT {f : Env → NB.R (Bool × Env)} {k : Bool × Env → NB.R (Bool × Env)} {Q Q' : Bool → Hp → Prop} (h : ResT wd W F R L σ Q (f ε >>= k))
    (hk : ∀ d ε1 F' H' S', Post F R F' H' → OK wd F' R L H' σ ε1 S' → ResT wd W F' R L σ Q (k (d, ε1)) → Q' d H') : ResT wd W F R L σ Q' (f ε) := by
  cases e : f ε with
  | stuck => rw [e] at h; exact h
  | exc c fs => rw [e] at h; exact h
  | ok a =>
    obtain ⟨d, ε1⟩ := a
    rw [e] at h
    simp only [NB.R.ok_bind] at h
    exact fun F' H' S' p o => hk d ε1 F' H' S' p o (h.mono p)

/-! ### truth values -/
theorem not_E {f : Env → NB.R (D × Env)} : ∀ σ H Q, tE wd W (fun ε => f ε >>= fun (d, ε1) => match d with
    | .val (.bl b) => .ok (.val (.bl (!b)), ε1)
    | _ => .stuck) σ H Q → tNotV (tE wd W f) σ H Q := by
  rintro σ H Q ⟨F, R, L, ε, S, o, h⟩
  dsimp only at h
  refine ⟨F, R, L, ε, S, o, bind_EE h fun d ε1 v F' H' S' T p o' r t h' => ?_⟩
  dsimp only at h'
  split at h'
  · simp only [RpD, Rp] at r
    subst r
    exact ⟨_, rfl, fin_val o' h' rfl⟩
  · exact h'.elim
theorem and_E {f g : Env → NB.R (D × Env)} : ∀ σ H Q, tE wd W (fun ε => f ε >>= fun (d, ε1) => match d with
    | .val (.bl k) => if k then g ε1 else .ok (.val (.bl false), ε1)
    | _ => .stuck) σ H Q → tAndV (tE wd W f) (tE wd W g) σ H Q := by
  rintro σ H Q ⟨F, R, L, ε, S, o, h⟩
  dsimp only at h
  refine ⟨F, R, L, ε, S, o, bind_EE h fun d ε1 v F' H' S' T p o' r t h' => ?_⟩
  dsimp only at h'
  split at h'
  · rename_i k
    simp only [RpD, Rp] at r
    subst r
    refine ⟨_, rfl, ?_⟩
    cases k with
    | true =>
      simp only [if_true] at h' ⊢
      exact ⟨F', R, L, ε1, S', o', h'⟩
    | false =>
      simp only [Bool.false_eq_true, if_false] at h' ⊢
      exact fin_val o' h' rfl
  · exact h'.elim
theorem or_E {f g : Env → NB.R (D × Env)} : ∀ σ H Q, tE wd W (fun ε => f ε >>= fun (d, ε1) => match d with
    | .val (.bl k) => if k then .ok (.val (.bl true), ε1) else g ε1
    | _ => .stuck) σ H Q → tOrV (tE wd W f) (tE wd W g) σ H Q := by
  rintro σ H Q ⟨F, R, L, ε, S, o, h⟩
  dsimp only at h
  refine ⟨F, R, L, ε, S, o, bind_EE h fun d ε1 v F' H' S' T p o' r t h' => ?_⟩
  dsimp only at h'
  split at h'
  · rename_i k
    simp only [RpD, Rp] at r
    subst r
    refine ⟨_, rfl, ?_⟩
    cases k with
    | true =>
      simp only [if_true] at h' ⊢
      exact fin_val o' h' rfl
    | false =>
      simp only [Bool.false_eq_true, if_false] at h' ⊢
      exact ⟨F', R, L, ε1, S', o', h'⟩
  · exact h'.elim
theorem ife_E {t : Env → NB.R (Bool × Env)} {f g : Env → NB.R (D × Env)} : ∀ σ H Q, tE wd W (fun ε => t ε >>= fun (k, ε1) => if k then f ε1 else g ε1) σ H Q → tIf (tT wd W t) (tE wd W f) (tE wd W g) σ H Q := by
  rintro σ H Q ⟨F, R, L, ε, S, o, h⟩
  dsimp only at h
  refine ⟨F, R, L, ε, S, o, bind_TE h fun k ε1 F' H' S' p o' h' => ?_⟩
  dsimp only at h'
  cases k with
  | true =>
    simp only [if_true] at h' ⊢
    exact ⟨F', R, L, ε1, S', o', h'⟩
  | false =>
    simp only [Bool.false_eq_true, if_false] at h' ⊢
    exact ⟨F', R, L, ε1, S', o', h'⟩
theorem not_T {f : Env → NB.R (Bool × Env)} : ∀ σ H Q, tT wd W (fun ε => f ε >>= fun (b, ε1) => pure (!b, ε1)) σ H Q → tNot (tT wd W f) σ H Q := by
  rintro σ H Q ⟨F, R, L, ε, S, o, h⟩
  dsimp only at h
  exact ⟨F, R, L, ε, S, o, bind_TT h fun k ε1 F' H' S' p o' h' => h' F' H' S' (Post.refl o') o'⟩
theorem and_T {f g : Env → NB.R (Bool × Env)} : ∀ σ H Q, tT wd W (fun ε => f ε >>= fun (k, ε1) => if k then g ε1 else pure (false, ε1)) σ H Q → tAnd (tT wd W f) (tT wd W g) σ H Q := by
  rintro σ H Q ⟨F, R, L, ε, S, o, h⟩
  dsimp only at h
  refine ⟨F, R, L, ε, S, o, bind_TT h fun k ε1 F' H' S' p o' h' => ?_⟩
  dsimp only at h'
  cases k with
  | true =>
    simp only [if_true] at h' ⊢
    exact ⟨F', R, L, ε1, S', o', h'⟩
  | false =>
    simp only [Bool.false_eq_true, if_false] at h' ⊢
    exact h' F' H' S' (Post.refl o') o'
theorem or_T {f g : Env → NB.R (Bool × Env)} : ∀ σ H Q, tT wd W (fun ε => f ε >>= fun (k, ε1) => if k then pure (true, ε1) else g ε1) σ H Q → tOr (tT wd W f) (tT wd W g) σ H Q := by
  rintro σ H Q ⟨F, R, L, ε, S, o, h⟩
  dsimp only at h
  refine ⟨F, R, L, ε, S, o, bind_TT h fun k ε1 F' H' S' p o' h' => ?_⟩
  dsimp only at h'
  cases k with
  | true =>
    simp only [if_true] at h' ⊢
    exact h' F' H' S' (Post.refl o') o'
  | false =>
    simp only [Bool.false_eq_true, if_false] at h' ⊢
    exact ⟨F', R, L, ε1, S', o', h'⟩
/-- any other expression as a test -/
theorem val_T {f : Env → NB.R (D × Env)} : ∀ σ H Q, tT wd W (fun ε => f ε >>= fun (d, ε1) => match d with
    | .val (.bl k) => pure (k, ε1)
    | _ => .stuck) σ H Q → tE wd W f σ H (fun x H1 => ∃ c, x = .bl c ∧ Q c H1) := by
  rintro σ H Q ⟨F, R, L, ε, S, o, h⟩
  dsimp only at h
  refine ⟨F, R, L, ε, S, o, bind_ET h fun d ε1 v F' H' S' T p o' r t h' => ?_⟩
  dsimp only at h'
  split at h'
  · simp only [RpD, Rp] at r
    subst r
    exact ⟨_, rfl, h' F' H' S' (Post.refl o') o'⟩
  · exact h'.elim

/-! ### held -/
theorem fzAll_at {i : Nat} {s : Sl} (h : (fzAll ε)[i]? = some s) : ∃ s0, ε[i]? = some s0 ∧ s = fz1 s0 := by
  unfold fzAll at h
  rw [List.getElem?_map] at h
  cases e : ε[i]? with
  | none => rw [e] at h; cases h
  | some s0 => rw [e] at h; cases h; exact ⟨s0, rfl, rfl⟩
/-- all slots' nodes -/
def Own.all (S : Own) : Addr → Prop := fun a => ∃ i, S i a
theorem OK.fzAll (o : OK wd F R L H σ ε S) : OK wd (addR F H S.all) (addR R H S.all) L H σ (NB.fzAll ε) (fun _ _ => False) := by
  refine ⟨addR_sub o.fh, addR_sub o.rh, fun j => (o.lr j).trans addR_in, fun j b u e => addR_none (o.lf j b u e) fun ⟨i, s⟩ => ?_, o.lu, by simp [NB.fzAll, o.len], fun i s e => ?_, fun _ _ _ _ z => z.elim, fun _ _ z => z.elim⟩
  · have := (o.out i b s).2.1
    rw [o.lr j b u e] at this; cases this
  · obtain ⟨s0, e0, rfl⟩ := fzAll_at e
    have q := o.sl i s0 e0
    cases s0 with
    | no => trivial
    | lk ps =>
      obtain ⟨a, xs, e1, r1, r2⟩ := q
      exact ⟨a, xs, e1, r1, Rps.mono addR_in ps xs r2⟩
    | ow d =>
      obtain ⟨v, e1, r1⟩ := q
      refine ⟨v, e1, ?_⟩
      simp only [RpD]
      exact RpD.freeze addR_in d v (S i) r1 fun b x hb hx => addR_at o.fh ⟨i, hb⟩ hx
/-- back from a state in which all was frozen -/
theorem OK.back (o : OK wd F R L H σ ε S) (hF : Same F H') (hR : Same (addR R H S.all) H') : OK wd F R L H' σ ε S := by
  have keep : ∀ i b u, S i b → H b = some u → H' b = some u := fun i b u s e => hR b u (addR_at o.rh ⟨i, s⟩ e)
  exact ⟨hF, fun b u e => hR b u (addR_in b u e), o.lr, o.lf, o.lu, o.len, fun i s e => (o.sl i s e).mono (Same.refl _) fun b u s e => keep i b u s e, o.dis, fun i a s => by
    obtain ⟨h1, h2, u, h3⟩ := o.out i a s
    exact ⟨h1, h2, u, keep i a u s h3⟩⟩
theorem OK.hold (o : OK wd F R L H σ ε S) {F' : Hp} (p : Post (addR F H S.all) (addR R H S.all) F' H') : OK wd F R L H' σ ε S ∧ Post F R F H' :=
  ⟨o.back (addR_in.trans (p.ff.trans p.fh)) p.rh, Same.refl _, addR_in.trans (p.ff.trans p.fh), addR_in.trans p.rh, fun _ _ _ e => e⟩
theorem Exq.up {c : Nat} {fs : List P} (h : Exq wd W F R σ c fs) (hF : Same F F1) (hR : Same R R1) (hn : ∀ b u, R b = some u → F b = none → F1 b = none) : Exq wd W F1 R1 σ c fs := fun d fv vs F' H' p e n1 n2 l r =>
  h d fv vs F' H' ⟨hF.trans p.ff, p.fh, hR.trans p.rh, fun b u e f => p.gr b u (hR b u e) (hn b u e f)⟩ e n1 (Same.none' hR n2) l r
theorem OK.grR (o : OK wd F R L H σ ε S) : ∀ b u, R b = some u → F b = none → addR F H S.all b = none := fun b u e f => addR_none f fun ⟨i, s⟩ => by
  have := (o.out i b s).2.1
  rw [e] at this; cases this
theorem hold_E {f : Env → NB.R (D × Env)} : ∀ σ H Q, tE wd W (fun ε => match f (fzAll ε) with
    | .ok (d, _) => if d.clean then .ok (d, ε) else f ε
    | .exc c fs => .exc c fs
    | .stuck => .stuck) σ H Q → tE wd W f σ H Q := by
  rintro σ H Q ⟨F, R, L, ε, S, o, h⟩
  dsimp only at h
  cases e : f (fzAll ε) with
  | stuck => rw [e] at h; exact h.elim
  | exc c fs =>
    rw [e] at h
    refine ⟨_, _, L, fzAll ε, _, o.fzAll, ?_⟩
    rw [e]
    exact Exq.up h addR_in addR_in o.grR
  | ok a =>
    obtain ⟨d, ε1⟩ := a
    rw [e] at h
    dsimp only at h
    split at h
    · rename_i hc
      refine ⟨_, _, L, fzAll ε, _, o.fzAll, ?_⟩
      rw [e]
      intro v F' H' S' T p o' r t
      obtain ⟨ob, pb⟩ := o.hold p
      refine h v F H' S T pb ob (RpD.unlean d v T hc r) fun a ha => ?_
      obtain ⟨x1, x2, x3, x4⟩ := t a ha
      refine ⟨Same.none' (addR_in.trans p.ff) x1, Same.none' addR_in x2, x3, fun i s => ?_⟩
      obtain ⟨_, _, u, e3⟩ := o.out i a s
      have := addR_at o.rh ⟨i, s⟩ e3 (T := S.all)
      rw [x2] at this; cases this
    · exact ⟨F, R, L, ε, S, o, h⟩
theorem hold_T {f : Env → NB.R (Bool × Env)} : ∀ σ H Q, tT wd W (fun ε => match f (fzAll ε) with
    | .ok (k, _) => .ok (k, ε)
    | .exc c fs => .exc c fs
    | .stuck => .stuck) σ H Q → tT wd W f σ H Q := by
  rintro σ H Q ⟨F, R, L, ε, S, o, h⟩
  dsimp only at h
  cases e : f (fzAll ε) with
  | stuck => rw [e] at h; exact h.elim
  | exc c fs =>
    rw [e] at h
    refine ⟨_, _, L, fzAll ε, _, o.fzAll, ?_⟩
    rw [e]
    exact Exq.up h addR_in addR_in o.grR
  | ok a =>
    obtain ⟨d, ε1⟩ := a
    rw [e] at h
    dsimp only at h
    refine ⟨_, _, L, fzAll ε, _, o.fzAll, ?_⟩
    rw [e]
    intro F' H' S' p o'
    obtain ⟨ob, pb⟩ := o.hold p
    exact h F H' S pb ob
end
end NB
end
section
set_option linter.all false
/-! NBSound6: calls. -/
namespace NB
open PySem PySem.Spec PyProof.Rows L2
def OwnT (F R H : Hp) (T : Addr → Prop) : Prop := ∀ a, T a → F a = none ∧ R a = none ∧ ∃ o, H a = some o
/-- what a caller wishes, by the callee's answer -/
def ResC (wd : Wd) (mu : Bool) (vs : List V) (F R : Hp) (Q : VK) (E : XK) : NB.R (D × List D) → Prop
  | .ok (d, out) => ∀ v F' H' T T1, Post F R F' H' → RpD wd F' H' v d T → OwnT F' R H' T → OwnT F' R H' T1 → (∀ a, T a → T1 a → False) → (mu = true → ∃ v0 d1, vs.head? = some v0 ∧ out = [d1] ∧ RpD wd F' H' v0 d1 T1) → Q v H'
  | .exc c fs => ∀ (d : Addr) (fv : List (Str × V)) (us : List V) (F' H' : Hp), Post F R F' H' → H' d = some (.xd fv) → F' d = none → R d = none → (wd.fl c).map (fun f => fv.lookup f) = us.map some → Rps wd F' us fs → E (.ref (wd.ca c)) (some d) H'
  | .stuck => False
/-- a def's promise -/
def spF (wd : Wd) (mu : Bool) (φ : List D → NB.R (D × List D)) : Sp := fun vs H Q E => ∃ F R ds T, Same F H ∧ Same R H ∧ RpDs wd F H vs ds T ∧ OwnT F R H T ∧ ResC wd mu vs F R Q E (φ ds)
section
variable {wd : Wd} {W : WX} {F F' F1 F2 R R1 H H' H1 H2 : Hp} {L : Nat → Hp} {σ : St} {ε ε' : Env} {S S' : Own} {T U T0 : Addr → Prop} {X : Cx} {Q : VK} {E : XK}
/-- what is lent, frozen -/
theorem borrows_ok (o : OK wd F R L H σ ε S) : ∀ {as : List Arg} {vs : List V} {ps : List P} {T : Addr → Prop}, ArgsR wd F H σ as vs T → borrows ε as = .ok ps →
    Rps wd (addR F H fun a => S.all a ∨ T a ∨ ∃ i u, L i a = some u) vs ps
  | [], vs, ps, T, r, e => by
    have r : vs = [] := r
    simp only [borrows, NB.R.ok.injEq] at e
    subst e r
    rfl
  | x :: as, vs, ps, T, r, e => by
    obtain ⟨v, vr, T1, T2, rfl, h1, h2, h3, h4, h5⟩ := r
    simp only [borrows] at e
    cases q : borrow ε x with
    | exc c fs => rw [q] at e; cases e
    | stuck => rw [q] at e; cases e
    | ok p =>
      rw [q] at e
      simp only [NB.R.ok_bind] at e
      cases q2 : borrows ε as with
      | exc c fs => rw [q2] at e; cases e
      | stuck => rw [q2] at e; cases e
      | ok pr =>
        rw [q2] at e
        simp only [NB.R.ok_bind, NB.R.ok.injEq] at e
        subst e
        have up : Same (addR F H fun a => S.all a ∨ T2 a ∨ ∃ i u, L i a = some u) (addR F H fun a => S.all a ∨ T a ∨ ∃ i u, L i a = some u) := fun b u z => by
          rcases addR_some z with w | ⟨w1, w2⟩
          · exact addR_in b u w
          · have hb := addR_sub o.fh b u z
            exact addR_at o.fh (w2.imp id fun y => y.imp (h4 b) id) hb
        refine ⟨v, vr, rfl, ?_, Rps.mono up _ _ (borrows_ok o h2 q2)⟩
        cases x with
        | tm d =>
          simp only [borrow, NB.R.ok.injEq] at q
          subst q
          exact RpD.freeze addR_in d v T1 h1 fun b x hb hx => addR_at o.fh (.inr (.inl (h3 b hb))) hx
        | nm i =>
          simp only [borrow] at q
          split at q
          · rename_i d he
            simp only [NB.R.ok.injEq] at q
            subst q
            obtain ⟨v', e1, r1⟩ := o.sl i _ he
            rw [show σ[i]? = some (some v) from h1] at e1
            have e2 : v = v' := by simpa using e1
            subst e2
            exact RpD.freeze addR_in d v (S i) r1 fun b x hb hx => addR_at o.fh (.inl ⟨i, hb⟩) hx
          · rename_i ps' he
            simp only [NB.R.ok.injEq] at q
            subst q
            obtain ⟨a, xs, e1, r1, r2⟩ := o.sl i _ he
            rw [show σ[i]? = some (some v) from h1] at e1
            have e2 : v = .ref a := by simpa using e1
            subst e2
            simp only [Rp]
            exact ⟨a, xs, rfl, addR_at o.fh (.inr (.inr ⟨_, _, r1⟩)) (o.rh _ _ (o.lr _ _ _ r1)), Rps.mono addR_in ps' xs r2⟩
          · cases q
theorem Rps.flat : ∀ {ps : List P} {vs : List V} {F F' : Hp}, ps.all P.flat = true → Rps wd F vs ps → Rps wd F' vs ps
  | [], vs, F, F', _, r => r
  | p :: ps, vs, F, F', h, r => by
    simp only [Rps] at r ⊢
    obtain ⟨v, vr, e, h1, h2⟩ := r
    simp only [List.all_cons, Bool.and_eq_true] at h
    refine ⟨v, vr, e, ?_, Rps.flat h.2 h2⟩
    cases p <;> first | (simp only [Rp] at h1 ⊢; exact h1) | (have := h.1; simp [P.flat] at this)
/-- a slot gets its value back; which nodes are whose -/
theorem OK.putS (o : OK wd F R L H σ ε S) {i : Nat} {v : V} {d : D} (hi : σ[i]? = some (some v)) (r : RpD wd F H v d T) (t : Tmp F R H S T) : ∃ S', OK wd F R L H σ (setSl ε i d) S' ∧ ∀ j a, S' j a → S j a ∨ T a := by
  refine ⟨fun j a => if j = i then T a else S j a, ?_, fun j a s => ?_⟩
  · obtain ⟨S', o'⟩ := o.put hi r t
    refine ⟨o.fh, o.rh, o.lr, o.lf, o.lu, o'.len, fun j s e => ?_, fun j k a n s1 s2 => ?_, fun j a s => ?_⟩
    · rcases getElem?_set_cases e with ⟨rfl, rfl, hl⟩ | ⟨n, e⟩
      · rw [hi]
        simp only [if_pos]
        exact ⟨v, rfl, r⟩
      · rw [show (fun a => if j = i then T a else S j a) = S j from funext fun a => if_neg (Ne.symm n)]
        exact o.sl j s e
    · by_cases h1 : j = i
      · have h2 : k ≠ i := fun z => n (h1.trans z.symm)
        rw [if_pos h1] at s1
        rw [if_neg h2] at s2
        exact (t a s1).2.2.2 k s2
      · rw [if_neg h1] at s1
        by_cases h2 : k = i
        · rw [if_pos h2] at s2
          exact (t a s2).2.2.2 j s1
        · rw [if_neg h2] at s2
          exact o.dis j k a n s1 s2
    · by_cases h1 : j = i
      · rw [if_pos h1] at s
        exact ⟨(t a s).1, (t a s).2.1, (t a s).2.2.1⟩
      · rw [if_neg h1] at s
        exact o.out j a s
  · by_cases h1 : j = i
    · have s : if j = i then T a else S j a := s
      rw [if_pos h1] at s; exact .inr s
    · have s : if j = i then T a else S j a := s
      rw [if_neg h1] at s; exact .inl s
theorem borrows_exc : ∀ {as : List Arg} {ε : Env} {c : Nat} {fs : List P}, borrows ε as = .exc c fs → False
  | [], _, _, _, e => by cases e
  | x :: as, ε, c, fs, e => by
    simp only [borrows] at e
    cases q : borrow ε x with
    | exc c' fs' =>
      cases x with
      | tm d => cases q
      | nm i =>
        simp only [borrow] at q
        split at q <;> cases q
    | stuck => rw [q] at e; cases e
    | ok p =>
      rw [q] at e
      simp only [NB.R.ok_bind] at e
      cases q2 : borrows ε as with
      | exc c' fs' => exact borrows_exc q2
      | stuck => rw [q2] at e; cases e
      | ok pr => rw [q2] at e; cases e
/-- what is lent, when all its names are frozen already -/
theorem lent_ok (o : OK wd F R L H σ ε S) : ∀ {as : List Arg} {vs : List V} {ps : List P} {T : Addr → Prop} {ε0 : Env}, ArgsR wd F H σ as vs T → borrows ε0 as = .ok ps → lkFree ε0 as = true → (∀ i d, .nm i ∈ as → ε0[i]? = some (.ow d) → ε[i]? = some (.ow (.val d.p))) →
    Rps wd (addR F H T) vs ps
  | [], vs, ps, T, ε0, r, e, _, _ => by
    have r : vs = [] := r
    simp only [borrows, NB.R.ok.injEq] at e
    subst e r
    rfl
  | x :: as, vs, ps, T, ε0, r, e, lf, hz => by
    obtain ⟨v, vr, T1, T2, rfl, h1, h2, h3, h4, h5⟩ := r
    simp only [borrows] at e
    simp only [lkFree, List.all_cons, Bool.and_eq_true] at lf
    cases q : borrow ε0 x with
    | exc c fs => rw [q] at e; cases e
    | stuck => rw [q] at e; cases e
    | ok p =>
      rw [q] at e
      simp only [NB.R.ok_bind] at e
      cases q2 : borrows ε0 as with
      | exc c fs => rw [q2] at e; cases e
      | stuck => rw [q2] at e; cases e
      | ok pr =>
        rw [q2] at e
        simp only [NB.R.ok_bind, NB.R.ok.injEq] at e
        subst e
        have up : Same (addR F H T2) (addR F H T) := fun b u z => by
          rcases addR_some z with w | ⟨w1, w2⟩
          · exact addR_in b u w
          · exact addR_at o.fh (h4 b w2) (addR_sub o.fh b u z)
        refine ⟨v, vr, rfl, ?_, Rps.mono up _ _ (lent_ok o h2 q2 lf.2 fun i d m => hz i d (List.mem_cons_of_mem _ m))⟩
        cases x with
        | tm d =>
          simp only [borrow, NB.R.ok.injEq] at q
          subst q
          exact RpD.freeze addR_in d v T1 h1 fun b x hb hx => addR_at o.fh (h3 b hb) hx
        | nm i =>
          simp only [borrow] at q
          split at q
          · rename_i d he
            simp only [NB.R.ok.injEq] at q
            subst q
            obtain ⟨v', e1, r1⟩ := o.sl i _ (hz i d (by simp) he)
            rw [show σ[i]? = some (some v) from h1] at e1
            have e2 : v = v' := by simpa using e1
            subst e2
            simp only [RpD] at r1
            exact Rp.mono addR_in _ v r1
          · rename_i ps' he
            have l1 := lf.1
            dsimp only at l1
            rw [he] at l1
            cases l1
          · cases q
theorem fzArgs_out : ∀ (as : List Arg) {F : Hp} {ε : Env} {S : Own}, OK wd F R L H σ ε S → ∃ F' S', OK wd F' R L H σ (fzArgs as ε) S' ∧ Post F R F' H ∧ (∀ j a, S' j a → S j a) ∧ ∀ a, F' a = none ∨ F a = F' a ∨ ∃ i, S i a
  | [], F, ε, S, o => ⟨F, S, o, Post.refl o, fun _ _ z => z, fun _ => .inr (.inl rfl)⟩
  | .tm _ :: as, F, ε, S, o => fzArgs_out as o
  | .nm i :: as, F, ε, S, o => by
    obtain ⟨F1, S1, o1, p1, s1, f1⟩ := o.fz i
    obtain ⟨F2, S2, o2, p2, s2, f2⟩ := fzArgs_out as o1
    refine ⟨F2, S2, o2, p1.comp p2 (Same.refl _), fun j a z => s1 j a (s2 j a z), fun a => ?_⟩
    rcases f2 a with z | z | ⟨j, z⟩
    · exact .inl z
    · rcases f1 a with w | w | w
      · exact .inl (z ▸ w)
      · exact .inr (.inl (w.trans z))
      · exact .inr (.inr w)
    · exact .inr (.inr ⟨j, s1 j a z⟩)
theorem core_ok {mu : Bool} {φ : List D → NB.R (D × List D)} {ds0 : List D} {vs0 vs : List V} {rest : List Arg} (o : OK wd F R L H σ ε S) (r0 : RpDs wd F H vs0 ds0 T0) (t0 : Tmp F R H S T0) (ra : ArgsR wd F H σ rest vs T) (t : Tmp F R H S T) (dj : ∀ a, T0 a → T a → False)
    (h : match coreE φ ds0 rest ε with
      | .ok (d, out, ε') => ∀ v F' H' S' T' T1, Post F R F' H' → OK wd F' R L H' σ ε' S' → RpD wd F' H' v d T' → Tmp F' R H' S' T' → Tmp F' R H' S' T1 → (∀ a, T' a → T1 a → False) → (mu = true → ∃ v0 d1, (vs0 ++ vs).head? = some v0 ∧ out = [d1] ∧ RpD wd F' H' v0 d1 T1) → Q v H'
      | .exc c fs => Exq wd W F R σ c fs
      | .stuck => False) : spF wd mu φ (vs0 ++ vs) H Q (WE W σ) := by
  unfold coreE at h
  cases e1 : borrows ε rest with
  | stuck => rw [e1] at h; exact h.elim
  | exc c fs => exact (borrows_exc e1).elim
  | ok ps =>
    rw [e1] at h
    simp only [NB.R.ok_bind] at h
    have lnk : ∀ i b u, L i b = some u → F b = none ∧ R b = some u := fun i b u e => ⟨o.lf i b u e, o.lr i b u e⟩
    -- all is frozen for the call
    have allF : ∀ (k : ResC wd mu (vs0 ++ vs) (addR F H fun a => S.all a ∨ T a ∨ ∃ i u, L i a = some u) (addR R H S.all) Q (WE W σ) (φ (ds0 ++ ps.map .val))), spF wd mu φ (vs0 ++ vs) H Q (WE W σ) := fun k => by
      refine ⟨_, _, ds0 ++ ps.map .val, T0, addR_sub o.fh, addR_sub o.rh, ?_, fun a ha => ⟨addR_none (t0 a ha).1 fun z => ?_, addR_none (t0 a ha).2.1 fun ⟨i, s⟩ => (t0 a ha).2.2.2 i s, (t0 a ha).2.2.1⟩, k⟩
      · have q := RpDs.app (S := T0) (T := fun _ => False) (RpDs.mono (F' := addR F H fun a => S.all a ∨ T a ∨ ∃ i u, L i a = some u) (H' := H) addR_in ds0 vs0 T0 T0 r0 (fun _ z => z) fun _ _ _ z => z) (RpDs.of_vals (fun _ => False) (borrows_ok o ra e1)) (fun _ _ z => z)
        exact RpDs.mono (Same.refl _) _ _ _ _ q (fun b z => z.elim id False.elim) fun _ _ _ z => z
      · rcases z with ⟨i, s⟩ | z | ⟨i, u, z⟩
        · exact (t0 a ha).2.2.2 i s
        · exact dj a ha z
        · have := (t0 a ha).2.1
          rw [(lnk i a u z).2] at this; cases this
    -- the names that are lent are frozen for good
    have someF : ∀ (lf : lkFree ε rest = true) (k : ∀ F1 S1, OK wd F1 R L H σ (fzArgs rest ε) S1 → Post F R F1 H → (∀ j a, S1 j a → S j a) → ResC wd mu (vs0 ++ vs) (addR F1 H T) (addR R H S1.all) Q (WE W σ) (φ (ds0 ++ ps.map .val))), spF wd mu φ (vs0 ++ vs) H Q (WE W σ) := fun lf k => by
      obtain ⟨F1, S1, o1, p1, s1, f1⟩ := fzArgs_out rest o
      refine ⟨_, _, ds0 ++ ps.map .val, T0, addR_sub o1.fh, addR_sub o1.rh, ?_, fun a ha => ⟨addR_none ?_ fun z => dj a ha z, addR_none (t0 a ha).2.1 fun ⟨i, s⟩ => (t0 a ha).2.2.2 i (s1 i a s), (t0 a ha).2.2.1⟩, k F1 S1 o1 p1 s1⟩
      · have q := RpDs.app (S := T0) (T := fun _ => False) (RpDs.mono (F' := addR F1 H T) (H' := H) (p1.ff.trans addR_in) ds0 vs0 T0 T0 r0 (fun _ z => z) fun _ _ _ z => z)
          (RpDs.of_vals (fun _ => False) (lent_ok o1 (ε0 := ε) (ra.mono p1.ff fun _ _ _ z => z) e1 lf fun i d m e => fzArgs_nm m e)) (fun _ _ z => z)
        exact RpDs.mono (Same.refl _) _ _ _ _ q (fun b z => z.elim id False.elim) fun _ _ _ z => z
      · rcases f1 a with z | z | ⟨i, z⟩
        · exact z
        · rw [← z]; exact (t0 a ha).1
        · exact absurd z ((t0 a ha).2.2.2 i)
    have cleanT : ∀ {F' H' : Hp} {T' : Addr → Prop}, Post (addR F H fun a => S.all a ∨ T a ∨ ∃ i u, L i a = some u) (addR R H S.all) F' H' → OwnT F' (addR R H S.all) H' T' → Tmp F R H' S T' := fun {F' H' T'} p ot a ha => by
      obtain ⟨x1, x2, x3⟩ := ot a ha
      refine ⟨Same.none' (addR_in.trans p.ff) x1, Same.none' addR_in x2, x3, fun i s => ?_⟩
      obtain ⟨_, _, u, e3⟩ := o.out i a s
      have := addR_at o.rh ⟨i, s⟩ e3 (T := S.all)
      rw [x2] at this; cases this
    cases e2 : φ (ds0 ++ ps.map .val) with
    | stuck => rw [e2] at h; exact h.elim
    | exc c fs =>
      rw [e2] at h
      dsimp only at h
      by_cases lf : lkFree ε rest = true
      · rw [lf] at h
        simp only [Bool.true_or, if_true] at h
        refine someF lf fun F1 S1 o1 p1 s1 => ?_
        rw [e2]
        refine Exq.up (Exq.mono h p1 (Same.refl _)) addR_in addR_in fun b u e f => addR_none f fun z => ?_
        have := (t b z).2.1
        rw [e] at this; cases this
      · have lf : lkFree ε rest = false := by simpa using lf
        rw [lf] at h
        simp only [Bool.false_or] at h
        by_cases fl : fs.all P.flat = true
        · rw [if_pos fl] at h
          refine allF ?_
          rw [e2]
          intro d fv us F' H' p ed nd nr l r
          have hF : Same F F' := addR_in.trans p.ff
          exact h d fv us F H' ⟨Same.refl _, hF.trans p.fh, addR_in.trans p.rh, fun _ _ _ z => z⟩ ed (Same.none' hF nd) (Same.none' addR_in nr) l (Rps.flat fl r)
        · rw [if_neg fl] at h
          exact h.elim
    | ok a =>
      obtain ⟨d, out⟩ := a
      rw [e2] at h
      dsimp only at h
      by_cases hc : (d.clean && D.cleans out) = true
      · rw [if_pos hc] at h
        dsimp only at h
        simp only [Bool.and_eq_true] at hc
        refine allF ?_
        rw [e2]
        intro v F' H' T' T1 p r ot ot1 dj1 hm
        have ob := o.back (H' := H') (addR_in.trans (p.ff.trans p.fh)) p.rh
        refine h v F H' S T' T1 ⟨Same.refl _, ob.fh, ob.rh, fun _ _ _ z => z⟩ ob (RpD.unlean d v T' hc.1 r) (cleanT p ot) (cleanT p ot1) dj1 fun m => ?_
        obtain ⟨v0, d1, g1, g2, g3⟩ := hm m
        refine ⟨v0, d1, g1, g2, RpD.unlean d1 v0 T1 ?_ g3⟩
        have := hc.2
        rw [g2] at this
        simpa [D.cleans] using this
      · rw [if_neg hc] at h
        by_cases lf : lkFree ε rest = true
        · rw [if_pos lf] at h
          dsimp only at h
          refine someF lf fun F1 S1 o1 p1 s1 => ?_
          rw [e2]
          intro v F' H' T' T1 p r ot ot1 dj1 hm
          have nF : ∀ i a, S1 i a → F' a = none := fun i a s => by
            obtain ⟨h1, h2, u, h3⟩ := o1.out i a s
            refine p.gr a u (addR_at o1.rh ⟨i, s⟩ h3) (addR_none h1 fun z => ?_)
            exact (t a z).2.2.2 i (s1 i a s)
          have keep : ∀ i b u, S1 i b → H b = some u → H' b = some u := fun i b u s e => p.rh b u (addR_at o1.rh ⟨i, s⟩ e)
          have ob : OK wd F' R L H' σ (fzArgs rest ε) S1 := ⟨p.fh, addR_in.trans p.rh, fun j => (o1.lr j), fun j b u e => p.gr b u (addR_in b u (o1.lr j b u e)) (addR_none (o1.lf j b u e) fun z => by
              have := (t b z).2.1
              rw [o1.lr j b u e] at this; cases this), o1.lu, o1.len,
            fun i s e => (o1.sl i s e).mono (addR_in.trans p.ff) fun b u s e => keep i b u s e, o1.dis, fun i a s => by
              obtain ⟨h1, h2, u, h3⟩ := o1.out i a s
              exact ⟨nF i a s, h2, u, keep i a u s h3⟩⟩
          have tm : ∀ {T' : Addr → Prop}, OwnT F' (addR R H S1.all) H' T' → Tmp F' R H' S1 T' := fun {T'} ot a ha => by
            obtain ⟨x1, x2, x3⟩ := ot a ha
            refine ⟨x1, Same.none' addR_in x2, x3, fun i s => ?_⟩
            obtain ⟨_, _, u, e3⟩ := o1.out i a s
            have := addR_at o1.rh ⟨i, s⟩ e3 (T := S1.all)
            rw [x2] at this; cases this
          refine h v F' H' S1 T' T1 ⟨p1.ff.trans (addR_in.trans p.ff), p.fh, addR_in.trans p.rh, fun b u e f => p.gr b u (addR_in b u e) (addR_none (p1.gr b u e f) fun z => ?_)⟩ ob r (tm ot) (tm ot1) dj1 hm
          have := (t b z).2.1
          rw [e] at this; cases this
        · rw [if_neg lf] at h
          exact h.elim
/-- a def that changes nothing it is given -/
theorem call_F {φ : List D → NB.R (D × List D)} {as : List Arg} {vs : List V} (o : OK wd F R L H σ ε S) (ra : ArgsR wd F H σ as vs T) (t : Tmp F R H S T) (h : ResE wd W F R L σ Q (callE false φ as ε)) : spF wd false φ vs H Q (WE W σ) := by
  refine core_ok (vs0 := []) (ds0 := []) (T0 := fun _ => False) o rfl noTmp ra t (fun _ z => z.elim) ?_
  unfold callE at h
  dsimp only at h
  cases e : coreE φ [] as ε with
  | stuck => rw [e] at h; exact h
  | exc c fs => rw [e] at h; exact h
  | ok a =>
    obtain ⟨d, out, ε1⟩ := a
    rw [e] at h
    exact fun v F' H' S' T' T1 p o' r t1 _ _ _ => h v F' H' S' T' p o' r t1
/-- a def that may change its first argument -/
theorem call_M {φ : List D → NB.R (D × List D)} {as : List Arg} {vs : List V} (o : OK wd F R L H σ ε S) (ra : ArgsR wd F H σ as vs T) (t : Tmp F R H S T) (h : ResE wd W F R L σ Q (callE true φ as ε)) : spF wd true φ vs H Q (WE W σ) := by
  unfold callE at h
  dsimp only at h
  split at h
  · rename_i i rest
    split at h
    · rename_i d0 he
      obtain ⟨v0, S1, e0, r0, o1, t0, s1⟩ := o.take he
      obtain ⟨v, vr, T1, T2, rfl, a1, a2, h3, h4, h5⟩ := ra
      have hv : σ[i]? = some (some v) := a1
      rw [e0] at hv
      cases hv
      have ti : ∀ a, S i a → T2 a → False := fun a x y => (t a (h4 a y)).2.2.2 i x
      refine core_ok (vs0 := [v0]) (ds0 := [d0]) (T0 := S i) o1 (by
        simp only [RpDs]
        exact ⟨v0, [], S i, fun _ => False, rfl, r0, rfl, fun _ z => z, fun _ z => z.elim, fun _ _ z => z⟩) t0 a2 (t.sub s1 h4) ti ?_
      cases e : coreE φ [d0] rest (ε.set i .no) with
      | stuck => rw [e] at h; exact h
      | exc c fs => rw [e] at h; exact h
      | ok a =>
        obtain ⟨d, out, ε1⟩ := a
        rw [e] at h
        simp only [NB.R.ok_bind] at h
        intro u F' H' S' T' T1' p o' r t1 t2 dj hm
        obtain ⟨w0, d1, g1, g2, g3⟩ := hm rfl
        subst g2
        dsimp only at h
        have g1 : v0 = w0 := by simpa using g1
        subst g1
        obtain ⟨S3, o3, s3⟩ := o'.putS e0 g3 t2
        refine h u F' H' S3 T' p o3 r fun a ha => ?_
        obtain ⟨x1, x2, x3, x4⟩ := t1 a ha
        refine ⟨x1, x2, x3, fun j z => ?_⟩
        rcases s3 j a z with z | z
        · exact x4 j z
        · exact dj a ha z
    · exact h.elim
  · exact h.elim
end
end NB
end
section
set_option linter.all false
/-! NBSound7: minus, chains, list(range), isinstance with built-in classes. -/
namespace NB
open PySem PySem.Spec PyProof.Rows L2
section
variable {wd : Wd} {W : WX} {F F' F1 F2 R R1 H H' H1 H2 : Hp} {L : Nat → Hp} {σ : St} {ε ε' : Env} {S S' : Own} {T U T0 : Addr → Prop} {X : Cx} {Q : VK} {E : XK} {K : PySem.W.Frag}
theorem neg_hop {x : Arg} {v : V} (ok : OK wd F R L H σ ε S) (ra : ArgsR wd F H σ [x] [v] T) (t : Tmp F R H S T)
    (h : ResE wd W F R L σ Q (view1 ε x >>= fun (p, ε3) => done [x] ε3 (negop p))) : (rU fun i => .int (-i)) v H Q := by
  obtain ⟨p, ε4, F', S', o', rp, ap, h'⟩ := see1 (fun p ε4 => done [x] ε4 (negop p)) ok ra t h
  clear ok ra t h
  unfold done negop at h'
  split at h'
  · rw [rp.int]; exact ⟨_, rfl, fin_val o' h' rfl⟩
  · exact h'.elim
/-! ### chains of comparisons of whole numbers -/
def rCI : COp → R2
  | .lt => rI0 fun i j => .bl (decide (i < j))
  | .le => rI0 fun i j => .bl (decide (i ≤ j))
  | .gt => rI0 fun i j => .bl (decide (i > j))
  | .ge => rI0 fun i j => .bl (decide (i ≥ j))
  | _ => fun _ _ _ _ => False
theorem op_cI : ∀ o : COp, OpR X (compareOp o.op) (rCI o)
  | .lt => op_lt
  | .le => op_le
  | .gt => op_gt
  | .ge => op_ge
  | .eq => fun _ _ _ _ _ _ _ _ _ _ _ _ h => h.elim
  | .ne => fun _ _ _ _ _ _ _ _ _ _ _ _ h => h.elim
  | .is => fun _ _ _ _ _ _ _ _ _ _ _ _ h => h.elim
  | .isnot => fun _ _ _ _ _ _ _ _ _ _ _ _ h => h.elim
  | .isin => fun _ _ _ _ _ _ _ _ _ _ _ _ h => h.elim
  | .notin => fun _ _ _ _ _ _ _ _ _ _ _ _ h => h.elim
theorem cI_ok {o : COp} {i j : Int} {H : Hp} {Q : VK} (h : match cmpI o i j with
    | .ok k => Q (.bl k) H
    | .exc _ _ => True
    | .stuck => False) : rCI o (.int i) (.int j) H Q := by
  cases o <;> first | exact h.elim | exact ⟨i, j, rfl, rfl, h⟩
theorem cmpI_exc {o : COp} {i j : Int} {c : Nat} {fs : List P} (h : cmpI o i j = .exc c fs) : False := by
  cases o <;> cases h
def chainK (fc : Env → NB.R (Arg × Env)) (o o' : COp) (p q : P) (ε4 : Env) : NB.R (D × Env) := match p, q with
  | .int i, .int j => cmpI o i j >>= fun k => if k then fc ε4 >>= fun (z, ε5) => view1 ε5 z >>= fun (r, ε6) => match r with
      | .int l => cmpI o' j l >>= fun k' => .ok (.val (.bl k'), ε6)
      | _ => .stuck
    else .ok (.val (.bl false), ε4)
  | _, _ => .stuck
theorem chain_E {fa fb fc : Env → NB.R (Arg × Env)} {o o' : COp} : ∀ σ H Q, tE wd W (fun ε => fa ε >>= fun (x, ε1) => fb ε1 >>= fun (y, ε2) => view1 ε2 x >>= fun (p, ε3) => view1 ε3 y >>= fun (q, ε4) => chainK fc o o' p q ε4) σ H Q → tChain (rCI o) (rCI o') (tArg wd W fa) (tArg wd W fb) (tArg wd W fc) σ H Q := by
  intro σ H Q h
  refine twoS (g := fun x y ε2 => view1 ε2 x >>= fun (p, ε3) => view1 ε3 y >>= fun (q, ε4) => chainK fc o o' p q ε4) (r := fun σ x y H Q => rCI o x y H fun z H3 => ∃ k, z = .bl k ∧ (if k = true then tArg wd W fc σ H3 fun w' H4 => rCI o' y w' H4 Q else Q (.bl false) H3))
    (fun F R L H σ ε S x y v u T Q ok ra t h => ?_) σ H Q h
  obtain ⟨p, q, ε4, F', S', o1, rp, rq, ap, aq, h'⟩ := see2 (fun p q ε4 => chainK fc o o' p q ε4) ok ra t h
  clear ok ra t h
  unfold chainK at h'
  split at h'
  · rename_i i j
    rw [rp.int, rq.int]
    refine cI_ok ?_
    cases e : cmpI o i j with
    | stuck => rw [e] at h'; exact h'
    | exc c fs => exact (cmpI_exc e).elim
    | ok k =>
      rw [e] at h'
      simp only [NB.R.ok_bind] at h'
      refine ⟨k, rfl, ?_⟩
      cases k with
      | false =>
        simp only [Bool.false_eq_true, if_false] at h' ⊢
        exact fin_val o1 h' rfl
      | true =>
        simp only [if_true] at h' ⊢
        refine one (g := fun z ε5 => view1 ε5 z >>= fun (r, ε6) => match r with
          | .int l => cmpI o' j l >>= fun k' => .ok (.val (.bl k'), ε6)
          | _ => .stuck) (r := fun w' H4 Q => rCI o' (.int j) w' H4 Q) (fun F R L H σ ε S z w T Q ok ra t h => ?_) σ _ Q ⟨F', R, L, ε4, S', o1, h'⟩
        obtain ⟨r, ε6, F2, S2, o2, rr, ar, h2⟩ := see1 (fun r ε6 => match r with
          | .int l => cmpI o' j l >>= fun k' => .ok (.val (.bl k'), ε6)
          | _ => .stuck) ok ra t h
        split at h2
        · rename_i l
          rw [rr.int]
          refine cI_ok ?_
          cases e2 : cmpI o' j l with
          | stuck => rw [e2] at h2; exact h2
          | exc c fs => trivial
          | ok k' =>
            rw [e2] at h2
            exact fin_val o2 h2 rfl
        · exact h2.elim
  · exact h'.elim
/-! ### list(range(b)) -/
theorem rangeP_rps (lo hi : Int) : Rps wd F (rgV lo hi) (rangeP lo hi) := by
  unfold rgV rangeP
  generalize (hi - lo).toNat = n
  have : ∀ l : List Nat, Rps wd F (l.map fun i => V.int (lo + (i : Nat))) (l.map fun (k : Nat) => P.int (lo + (k : Int))) := by
    intro l
    induction l with
    | nil => rfl
    | cons a l ih => exact ⟨_, _, rfl, rfl, ih⟩
  exact this _
theorem rg_E {fb : Env → NB.R (Arg × Env)} : ∀ σ H Q, tE wd W (fun ε => (fb ε >>= fun (a, ε1) => (.ok ([.tm (.val (.int 0)), a], ε1) : NB.R (List Arg × Env))) >>= fun (as, ε1) => views as ε1 >>= fun (ps, ε2) => done as ε2 (bltn .range2 ps)) σ H Q →
    tLstRg (tRg1 (tArg wd W fb)) σ H Q := by
  rintro σ H Q ⟨F, R, L, ε, S, o, h⟩
  dsimp only at h
  refine ⟨F, R, L, ε, S, o, ?_⟩
  cases e : fb ε with
  | stuck => rw [e] at h; exact h
  | exc c fs => rw [e] at h; exact h
  | ok a =>
    obtain ⟨x, ε1⟩ := a
    rw [e] at h
    simp only [NB.R.ok_bind] at h
    intro v F1 H1 S1 T1 p1 o1 r1 t1
    have ra : ArgsR wd F1 H1 σ [.tm (.val (.int 0)), x] [V.int 0, v] T1 := ⟨.int 0, [v], fun _ => False, T1, rfl, (by simp only [ArgR, RpD, Rp]), ⟨v, [], T1, fun _ => False, rfl, r1, rfl, fun _ z => z, fun _ z => z.elim, fun _ _ z => z⟩, fun _ z => z.elim, fun _ z => z, fun _ z => z.elim⟩
    obtain ⟨ps, ε4, F2, S2, o2, rp, ap, h'⟩ := see (fun ps ε4 => done [.tm (.val (.int 0)), x] ε4 (bltn .range2 ps)) o1 ra t1 (h.mono p1)
    obtain ⟨p, q, rfl, rp1, rp2⟩ : ∃ p q, ps = [p, q] ∧ RpV wd F2 H1 (V.int 0) p ∧ RpV wd F2 H1 v q := by
      cases ps with
      | nil => cases rp
      | cons p ps =>
        obtain ⟨v0, vr, e3, h1, h2⟩ := rp
        cases e3
        cases ps with
        | nil => cases h2
        | cons q ps =>
          obtain ⟨v1, vr1, e4, h3, h4⟩ := h2
          cases e4
          cases ps with
          | nil => exact ⟨p, q, rfl, h1, h3⟩
          | cons r ps => obtain ⟨_, _, e5, _⟩ := h4; cases e5
    have key : ∃ lo hi, p = .int lo ∧ q = .int hi := by
      cases p <;> cases q <;> first | exact ⟨_, _, rfl, rfl⟩ | exact h'.elim
    obtain ⟨lo, hi, rfl, rfl⟩ := key
    have e7 : (V.int 0) = V.int lo := rp1.int
    injection e7 with e7
    subst e7
    have h2 := rp2
    unfold done bltn at h'
    dsimp only at h'
    split at h'
    · rename_i c
      have hl := newL_len h'
      have hl2 : (hi - 0).toNat ≤ 2 ^ 24 := by
        have : (rangeP 0 hi).length = (hi - 0).toNat := by unfold rangeP; simp
        rw [this] at hl
        unfold cap at hl
        omega
      rw [h2.int]
      exact ⟨hi, rfl, ⟨c.1, c.2.1, c.2.2.1, c.2.2.2, hl2⟩, fun q hq => fin_newL o2 h' (rangeP_rps 0 hi) hq⟩
    · exact h'.elim
/-! ### isinstance, built-in classes -/
def Cl.nm : Cl → String
  | .int_ => "int"
  | .bool_ => "bool"
  | .str_ => "str"
  | .list_ => "list"
  | .tuple_ => "tuple"
  | .own _ => ""
def Cl.v (ca : Nat → Addr) : Cl → V
  | .own c => .ref (ca c)
  | k => .ty k.nm
def Cl.val (ca : Nat → Addr) : Cl → Value
  | .own c => .ref (ca c)
  | k => .type k.nm
theorem Cl.rel (ca : Nat → Addr) (k : Cl) : ClsV (k.v ca) (k.val ca) := by
  cases k <;> constructor
theorem Cl.rels (ca : Nat → Addr) : ∀ cs : List Cl, Paired ClsV (cs.map (Cl.v ca)) (cs.map (Cl.val ca))
  | [] => .nil
  | c :: cs => .cons (c.rel ca) (Cl.rels ca cs)
def P.tn : P → String
  | .non => "NoneType"
  | .bl _ => "bool"
  | .int _ => "int"
  | .str _ => "str"
  | .lst _ => "list"
  | .tup _ => "tuple"
  | _ => ""
theorem isi_kit {ca : Nat → Addr} {sub : Nat → Nat → Bool} {p : P} {k : Cl} {b : Bool} (hp : ∀ c fs, p ≠ .exc c fs) (h : isiOne sub p k = some b) : PySem.W.kitOne K (.type p.tn) (k.val ca) = some b := by
  cases p <;> cases k <;> first | (exact absurd rfl (hp _ _)) | (cases h; done) | (cases h; refine kit_ty ?_; dsimp only [P.tn, Cl.nm]; decide +kernel)
theorem isi_kits {ca : Nat → Addr} {sub : Nat → Nat → Bool} {p : P} (hp : ∀ c fs, p ≠ .exc c fs) : ∀ {cs : List Cl} {b : Bool}, isiAny sub p cs = some b → PySem.W.kitAny K (.type p.tn) (cs.map (Cl.val ca)) = some b
  | [], b, h => by
    cases h
    exact kitAny_nil
  | k :: cs, b, h => by
    simp only [isiAny] at h
    cases e : isiOne sub p k with
    | none => rw [e] at h; cases h
    | some r =>
      rw [e] at h
      refine kitAny_cons (isi_kit (ca := ca) hp e) (fun z => ?_) fun z => ?_
      · subst z
        exact isi_kits hp h
      · subst z
        cases h; rfl
theorem isi_ty {p : P} {v : V} (r : RpV wd F H v p) (hp : ∀ c fs, p ≠ .exc c fs) (hs : ∀ ns, p ≠ .scr ns) : TyX K H v (.type p.tn) := by
  cases p with
  | non => rw [r.non]; exact .base .non
  | bl b => rw [r.bl]; exact .base (.bl b)
  | int i => rw [r.int]; exact .base (.int i)
  | str x =>
    have r : Rp wd F v (.str x) := r
    simp only [Rp] at r
    subst r
    exact .base (.str x)
  | tup ps => obtain ⟨a, xs, rfl, h, _⟩ := r; exact .base (.tup h)
  | lst ps => obtain ⟨a, xs, rfl, h, _⟩ := r; exact .base (.lst h)
  | exc c fs => exact absurd rfl (hp c fs)
  | scr ns => exact absurd rfl (hs ns)
end
end NB
end
section
set_option linter.all false
/-! NBSound8: targets, what loops walk. -/
namespace NB
open PySem PySem.Spec PyProof.Rows L2
def tgs : List Nat → TGs
  | [] => gNil
  | i :: is => gCons (gName i) (tgs is)
def tgt (K : PySem.W.Frag) : Pt → TG
  | .nm i => gName i
  | .tup is => gTup K is.length (tgs is)
section
variable {wd : Wd} {W : WX} {F F' F1 F2 R R1 H H' H1 H2 : Hp} {L : Nat → Hp} {σ : St} {ε ε' : Env} {S S' : Own} {T U T0 : Addr → Prop} {X : Cx} {Q : VK} {E : XK} {K : PySem.W.Frag}
theorem OK.storeS (o : OK wd F R L H σ ε S) {i : Nat} {v : V} {d : D} (r : RpD wd F H v d T) (t : Tmp F R H S T) : ∃ S', OK wd F R L H (σ.set i (some v)) (setSl ε i d) S' ∧ ∀ j a, S' j a → S j a ∨ T a := by
  refine ⟨fun j a => if j = i then T a else S j a, ⟨o.fh, o.rh, o.lr, o.lf, o.lu, by simp [setSl, o.len], fun j s e => ?_, fun j k a n s1 s2 => ?_, fun j a s => ?_⟩, fun j a s => ?_⟩
  · rcases getElem?_set_cases e with ⟨rfl, rfl, hl⟩ | ⟨n, e⟩
    · rw [List.getElem?_set_self (by rw [o.len]; exact hl)]
      simp only [if_pos]
      exact ⟨v, rfl, r⟩
    · rw [List.getElem?_set_ne n, show (fun a => if j = i then T a else S j a) = S j from funext fun a => if_neg (Ne.symm n)]
      exact o.sl j s e
  · by_cases h1 : j = i
    · have h2 : k ≠ i := fun z => n (h1.trans z.symm)
      rw [if_pos h1] at s1
      rw [if_neg h2] at s2
      exact (t a s1).2.2.2 k s2
    · rw [if_neg h1] at s1
      by_cases h2 : k = i
      · rw [if_pos h2] at s2
        exact (t a s2).2.2.2 j s1
      · rw [if_neg h2] at s2
        exact o.dis j k a n s1 s2
  · by_cases h1 : j = i
    · rw [if_pos h1] at s
      exact ⟨(t a s).1, (t a s).2.1, (t a s).2.2.1⟩
    · rw [if_neg h1] at s
      exact o.out j a s
  · have s : if j = i then T a else S j a := s
    by_cases h1 : j = i
    · rw [if_pos h1] at s; exact .inr s
    · rw [if_neg h1] at s; exact .inl s
theorem many_ok : ∀ {is : List Nat} {ds : List D} {vs : List V} {σ : St} {ε ε' : Env} {S : Own} {T : Addr → Prop}, OK wd F R L H σ ε S → RpDs wd F H vs ds T → Tmp F R H S T → setMany ε is ds = .ok ε' →
    ∀ {Q : L2.St → Hp → Prop}, (∀ σ' S', OK wd F R L H σ' ε' S' → (∀ j a, S' j a → S j a ∨ T a) → σ'.length = σ.length → (∀ i, i ∉ is → σ'[i]? = σ[i]?) → Q σ' H) → tgs is vs σ H Q ∧ vs.length = is.length
  | [], ds, vs, σ, ε, ε', S, T, o, r, t, e, Q, h => by
    cases ds with
    | cons d ds => cases e
    | nil =>
      have r : vs = [] := r
      subst r
      cases e
      exact ⟨⟨rfl, h σ S o (fun j a z => .inl z) rfl fun _ _ => rfl⟩, rfl⟩
  | i :: is, ds, vs, σ, ε, ε', S, T, o, r, t, e, Q, h => by
    cases ds with
    | nil => cases e
    | cons d ds =>
      simp only [RpDs] at r
      obtain ⟨v, vr, T1, T2, rfl, h1, h2, h3, h4, h5⟩ := r
      obtain ⟨S1, o1, s1⟩ := o.storeS (i := i) h1 (t.sub (fun _ _ z => z) h3)
      have t2 : Tmp F R H S1 T2 := fun a ha => by
        obtain ⟨x1, x2, x3, x4⟩ := t a (h4 a ha)
        refine ⟨x1, x2, x3, fun j z => ?_⟩
        rcases s1 j a z with z | z
        · exact x4 j z
        · exact h5 a z ha
      obtain ⟨k1, k2⟩ := many_ok (ε' := ε') (is := is) o1 h2 t2 e (Q := Q) fun σ' S' o' s' l' k' => h σ' S' o' (fun j a z => (s' j a z).elim (fun y => (s1 j a y).imp id (h3 a)) fun y => .inr (h4 a y)) (by rw [l']; simp) fun k hk => by
        rw [k' k (fun z => hk (List.mem_cons_of_mem _ z)), List.getElem?_set_ne (fun z => hk (by rw [z]; exact List.mem_cons_self))]
      refine ⟨⟨v, vr, rfl, k1⟩, by simp [k2]⟩
theorem assign_ok {g : Pt} {d : D} {v : V} (o : OK wd F R L H σ ε S) (r : RpD wd F H v d T) (t : Tmp F R H S T) (e : assign ε g d = .ok ε')
    {Q : L2.St → Hp → Prop} (h : ∀ σ' S', OK wd F R L H σ' ε' S' → (∀ j a, S' j a → S j a ∨ T a) → σ'.length = σ.length → (∀ i, i ∉ g.idx → σ'[i]? = σ[i]?) → Q σ' H) : tgt K g v σ H Q := by
  cases g with
  | nm i =>
    simp only [assign, NB.R.ok.injEq] at e
    subst e
    obtain ⟨S1, o1, s1⟩ := o.storeS (i := i) r t
    exact h _ S1 o1 s1 (by simp) fun k hk => List.getElem?_set_ne (fun z => hk (by rw [z]; simp [Pt.idx]))
  | tup is =>
    cases d with
    | val p =>
      cases p with
      | tup ps =>
        simp only [RpD, Rp] at r
        obtain ⟨a, xs, rfl, ha, r1⟩ := r
        obtain ⟨k1, k2⟩ := many_ok (T := fun _ => False) o (RpDs.of_vals _ r1) noTmp e (Q := Q) fun σ' S' o' s' l' k' => h σ' S' o' (fun j a z => (s' j a z).imp id False.elim) l' k'
        exact ⟨a, xs, rfl, .of (o.fh _ _ ha), k2, k1⟩
      | _ => cases e
    | tup ds =>
      simp only [RpD] at r
      obtain ⟨a, xs, T1, rfl, ha, h1, h2, h3, r1⟩ := r
      obtain ⟨k1, k2⟩ := many_ok (T := T1) o r1 (t.sub (fun _ _ z => z) h3) e (Q := Q) fun σ' S' o' s' l' k' => h σ' S' o' (fun j a z => (s' j a z).imp id (h3 a)) l' k'
      exact ⟨a, xs, rfl, .of ha, k2, k1⟩
    | lst ds => cases e
theorem assign_exc {g : Pt} {d : D} {c : Nat} {fs : List P} (e : assign ε g d = .exc c fs) : False := by
  have many : ∀ {is : List Nat} {ds : List D} {ε : Env}, setMany ε is ds = .exc c fs → False := by
    intro is
    induction is with
    | nil => intro ds ε e; cases ds <;> cases e
    | cons i is ih =>
      intro ds ε e
      cases ds with
      | nil => cases e
      | cons d ds => exact ih e
  cases g with
  | nm i => cases e
  | tup is =>
    cases d with
    | val p => cases p <;> first | exact many e | cases e
    | tup ds => exact many e
    | lst ds => cases e

theorem RpDs.of_isVal : ∀ {ds : List D} {vs : List V} {S : Addr → Prop}, ds.all D.isVal = true → Rps wd F vs (D.ps ds) → RpDs wd F H vs ds S
  | [], _, _, _, r => by simpa only [RpDs, D.ps, Rps] using r
  | .val p :: ds, vs, S, h, r => by
    simp only [RpDs, D.ps, Rps, RpD, D.p] at r ⊢
    obtain ⟨v, vr, e, h1, h2⟩ := r
    simp only [List.all_cons, D.isVal, Bool.true_and] at h
    exact ⟨v, vr, fun _ => False, fun _ => False, e, h1, RpDs.of_isVal h h2, fun _ z => z.elim, fun _ z => z.elim, fun _ z => z.elim⟩
  | .tup _ :: ds, vs, S, h, r => by simp [D.isVal] at h
  | .lst _ :: ds, vs, S, h, r => by simp [D.isVal] at h

/-! ### locks -/
/-- the lock is let go -/
def Unl (wd : Wd) (F R : Hp) (L : Nat → Hp) (R' : Hp) (L' : Nat → Hp) (f : Env → Env) : Prop :=
  ∀ F2 H2 σ2 ε2 S2, Post F R' F2 H2 → OK wd F2 R' L' H2 σ2 ε2 S2 → ∃ S3, OK wd F2 R L H2 σ2 (f ε2) S3 ∧ ∀ j a, S3 j a → S2 j a ∨ ∃ u, R' a = some u
theorem Unl.id (hr : Same R R1) (hl : ∀ i, Same (L i) R) : Unl wd F R L R1 L fun ε => ε := fun F2 H2 σ2 ε2 S2 _ o => ⟨S2, o.unframe hr hl, fun _ _ z => .inl z⟩
theorem Unl.comp {R2 : Hp} {L1 L2 : Nat → Hp} {f g : Env → Env} (a : Unl wd F R L R1 L1 f) (b : Unl wd F1 R1 L1 R2 L2 g) (hF : Post F R1 F1 H) (hR : Same R1 R2) : Unl wd F1 R L R2 L2 fun ε => f (g ε) := fun F2 H2 σ2 ε2 S2 hs o => by
  obtain ⟨S3, o3, s3⟩ := b F2 H2 σ2 ε2 S2 hs o
  obtain ⟨S4, o4, s4⟩ := a F2 H2 σ2 _ S3 (hF.comp hs hR) o3
  exact ⟨S4, o4, fun j a z => (s4 j a z).elim (s3 j a) fun ⟨u, y⟩ => .inr ⟨u, hR _ _ y⟩⟩
/-- a sequence that stays as it is while it is walked -/
def WalkR (wd : Wd) (F R : Hp) : V → P → Prop
  | v, .lst ps => ∃ a xs, v = .ref a ∧ (F a = some (.lst xs) ∨ R a = some (.lst xs)) ∧ Rps wd F xs ps
  | v, .tup ps => ∃ a xs, v = .ref a ∧ (F a = some (.tup xs) ∨ R a = some (.tup xs)) ∧ Rps wd F xs ps
  | _, _ => True
theorem WalkR.mono {v : V} {p : P} (r : WalkR wd F R v p) (hF : Same F F') (hR : Same R R1) : WalkR wd F' R1 v p := by
  cases p with
  | lst ps => obtain ⟨a, xs, e, h1, h2⟩ := r; exact ⟨a, xs, e, h1.imp (hF _ _) (hR _ _), Rps.mono hF ps xs h2⟩
  | tup ps => obtain ⟨a, xs, e, h1, h2⟩ := r; exact ⟨a, xs, e, h1.imp (hF _ _) (hR _ _), Rps.mono hF ps xs h2⟩
  | _ => trivial
theorem WalkR.ofF {v : V} {p : P} (r : Rp wd F v p) : WalkR wd F R v p := by
  cases p with
  | lst ps => simp only [Rp] at r; obtain ⟨a, xs, e, h1, h2⟩ := r; exact ⟨a, xs, e, .inl h1, h2⟩
  | tup ps => simp only [Rp] at r; obtain ⟨a, xs, e, h1, h2⟩ := r; exact ⟨a, xs, e, .inl h1, h2⟩
  | _ => trivial
/-- a frozen or a named operand -/
def ArgF (wd : Wd) (F : Hp) (σ : St) : Arg → V → Prop
  | .tm d, v => Rp wd F v d.p
  | .nm i, v => σ[i]? = some (some v)
theorem lock_ok (o : OK wd F R L H σ ε S) {x : Arg} {v : V} {p : P} {ε1 ε2 : Env} (r : ArgF wd F σ x v) (e : lockV ε x = .ok (p, ε1, ε2)) :
    ∃ F' R' L' S', OK wd F' R' L' H σ ε2 S' ∧ Post F R F' H ∧ Same R R' ∧ WalkR wd F' R' v p ∧ (∀ j a, S' j a → S j a) ∧ (∀ a u, R' a = some u → R a = some u ∨ ∃ j, S j a) ∧ (∀ a, F' a = none ∨ F a = F' a ∨ ∃ i, S i a) ∧ Unl wd F' R L R' L' (fun ε => unlock1 ε1 ε x) := by
  cases x with
  | tm d =>
    simp only [lockV, NB.R.ok.injEq, Prod.mk.injEq] at e
    obtain ⟨rfl, rfl, rfl⟩ := e
    exact ⟨F, R, L, S, o, Post.refl o, Same.refl _, .ofF r, fun _ _ z => z, fun _ _ z => .inl z, fun a => .inr (.inl rfl), Unl.id (Same.refl _) o.lr⟩
  | nm i =>
    have r : σ[i]? = some (some v) := r
    simp only [lockV] at e
    have frozen : ∀ {d : D}, ε[i]? = some (.ow d) → p = d.p → ∃ F' R' L' S', OK wd F' R' L' H σ (NB.fz ε i) S' ∧ Post F R F' H ∧ Same R R' ∧ WalkR wd F' R' v d.p ∧ (∀ j a, S' j a → S j a) ∧ (∀ a u, R' a = some u → R a = some u ∨ ∃ j, S j a) ∧ (∀ a, F' a = none ∨ F a = F' a ∨ ∃ i, S i a) ∧ Unl wd F' R L R' L' (fun ε' => unlock1 (NB.fz ε i) ε' (.nm i)) := fun {d} he _ => by
      obtain ⟨F', S', o', p', s', f'⟩ := o.fz i
      have hz := fz_self he
      obtain ⟨v2, e2, r2⟩ := o'.sl i _ hz
      rw [r] at e2
      have e2 : v = v2 := by simpa using e2
      subst e2
      simp only [RpD] at r2
      refine ⟨F', R, L, S', o', p', Same.refl _, .ofF r2, s', fun _ _ z => .inl z, f', ?_⟩
      have un : (fun ε' => unlock1 (NB.fz ε i) ε' (.nm i)) = fun ε' => ε' := funext fun ε' => by
        simp only [unlock1]
        rw [hz]
      rw [un]
      exact Unl.id (Same.refl _) o'.lr
    split at e
    · rename_i ds he
      split at e
      · rename_i hv
        simp only [NB.R.ok.injEq, Prod.mk.injEq] at e
        obtain ⟨rfl, rfl, rfl⟩ := e
        obtain ⟨v', S1, e0, r0, o1, t0, s1⟩ := o.take he
        rw [r] at e0
        cases e0
        simp only [RpD] at r0
        obtain ⟨a, xs, T, rfl, ha, hSa, hTa, hTS, r1⟩ := r0
        have rv := RpDs.vals hv r1
        have hRa : R a = none := (o.out i a hSa).2.1
        have hFa : F a = none := (o.out i a hSa).1
        have hat : addR R H (fun b => b = a) a = some (.lst xs) := addR_at o.rh rfl ha
        refine ⟨F, addR R H (fun b => b = a), fun j => if j = i then (fun b => if b = a then some (.lst xs) else none) else L j, fun j b => j ≠ i ∧ S j b, ?_, Post.refl o, addR_in, ⟨a, xs, rfl, .inr hat, rv⟩, fun j b z => z.2, fun b u z => ?_, fun b => .inr (.inl rfl), ?_⟩
        · refine ⟨o.fh, addR_sub o.rh, fun j b u z => ?_, fun j b u z => ?_, fun j b c u u' z1 z2 => ?_, by simp [o.len], fun j s z => ?_, fun j k b n s1 s2 => o.dis j k b n s1.2 s2.2, fun j b s => ?_⟩
          · by_cases hj : j = i
            · simp only [hj, if_true] at z
              split at z
              · rename_i hb
                cases z
                rw [hb]; exact hat
              · cases z
            · simp only [hj, if_false] at z
              exact addR_in b u (o.lr j b u z)
          · by_cases hj : j = i
            · simp only [hj, if_true] at z
              split at z
              · rename_i hb
                rw [hb]; exact hFa
              · cases z
            · simp only [hj, if_false] at z
              exact o.lf j b u z
          · by_cases hj : j = i
            · simp only [hj, if_true] at z1 z2
              split at z1
              · split at z2
                · rename_i h1 h2; rw [h1, h2]
                · cases z2
              · cases z1
            · simp only [hj, if_false] at z1 z2
              exact o.lu j b c u u' z1 z2
          · rcases getElem?_set_cases z with ⟨rfl, rfl, hl⟩ | ⟨n, z⟩
            · refine ⟨a, xs, by rw [r]; rfl, ?_, rv⟩
              simp only [if_true]
            · have hj : j ≠ i := Ne.symm n
              have q := o.sl j s z
              cases s with
              | no => trivial
              | ow d =>
                obtain ⟨w, e1, r2⟩ := q
                exact ⟨w, e1, RpD.mono (Same.refl _) d w _ _ r2 (fun b hb => ⟨hj, hb⟩) (fun _ _ _ z => z)⟩
              | lk ps =>
                obtain ⟨b, ys, e1, r2, r3⟩ := q
                refine ⟨b, ys, e1, ?_, r3⟩
                simp only [hj, if_false]
                exact r2
          · obtain ⟨h1, h2, h3⟩ := o.out j b s.2
            refine ⟨h1, addR_none h2 fun z => ?_, h3⟩
            rw [z] at s
            exact o.dis j i a s.1 s.2 hSa
        · rcases addR_some z with w | ⟨_, w⟩
          · exact .inl w
          · exact .inr ⟨i, by rw [w]; exact hSa⟩
        · intro F2 H2 σ2 ε2 S2 hF o2
          show ∃ S3, OK wd F2 R L H2 σ2 (match ε[i]?, ε2[i]? with
            | some (.ow (.lst ds)), some (.lk _) => ε2.set i (.ow (.lst ds))
            | _, _ => ε2) S3 ∧ _
          rw [he]
          have dropL : ∀ (ε3 : Env) (S3 : Own), ε3.length = ε2.length → (∀ j s, j ≠ i → ε3[j]? = some s → ε2[j]? = some s ∧ ∀ b, S2 j b → S3 j b) → (∀ s, ε3[i]? = some s → SlR wd F2 (L i) H2 s (σ2[i]?.join) (S3 i)) → (∀ j b, S3 j b → S2 j b ∨ (j = i ∧ b = a)) → OK wd F2 R L H2 σ2 ε3 S3 := fun ε3 S3 l3 hk hi' sub => by
            have hF2a : F2 a = none := o2.lf i a (.lst xs) (by simp)
            have nS2 : ∀ j, ¬ S2 j a := fun j z => by
              have := (o2.out j a z).2.1
              rw [hat] at this; cases this
            refine ⟨o2.fh, addR_in.trans o2.rh, o.lr, fun j b u z => ?_, o.lu, o2.len.trans l3.symm, fun j s z => ?_, fun j k b n z1 z2 => ?_, fun j b z => ?_⟩
            · by_cases hj : j = i
              · subst hj
                -- what was locked before at this slot stays apart
                exact hF.gr b u (addR_in b u (o.lr j b u z)) (o.lf j b u z)
              · exact o2.lf j b u (by simp only [hj, if_false]; exact z)
            · by_cases hj : j = i
              · subst hj; exact hi' s z
              · obtain ⟨z1, z2⟩ := hk j s hj z
                have q := o2.sl j s z1
                cases s with
                | no => trivial
                | ow d =>
                  obtain ⟨w, e1, r2⟩ := q
                  exact ⟨w, e1, RpD.mono (Same.refl _) d w _ _ r2 z2 (fun _ _ _ z => z)⟩
                | lk ps =>
                  obtain ⟨b, ys, e1, r2, r3⟩ := q
                  simp only [hj, if_false] at r2
                  exact ⟨b, ys, e1, r2, r3⟩
            · rcases sub j b z1 with y1 | ⟨y1, y2⟩
              · rcases sub k b z2 with w1 | ⟨w1, w2⟩
                · exact o2.dis j k b n y1 w1
                · rw [w2] at y1; exact nS2 j y1
              · rcases sub k b z2 with w1 | ⟨w1, w2⟩
                · rw [y2] at w1; exact nS2 k w1
                · exact n (y1.trans w1.symm)
            · rcases sub j b z with y1 | ⟨y1, y2⟩
              · obtain ⟨h1, h2, h3⟩ := o2.out j b y1
                exact ⟨h1, Same.none' addR_in h2, h3⟩
              · rw [y2]
                exact ⟨hF2a, hRa, _, o2.rh _ _ hat⟩
          cases h2 : ε2[i]? with
          | none =>
            refine ⟨S2, dropL ε2 S2 rfl (fun j s hj z => ⟨z, fun _ y => y⟩) (fun s z => ?_) (fun j b z => .inl z), fun j b z => .inl z⟩
            rw [h2] at z; cases z
          | some s2 =>
            cases s2 with
            | no =>
              refine ⟨S2, dropL ε2 S2 rfl (fun j s hj z => ⟨z, fun _ y => y⟩) (fun s z => ?_) (fun j b z => .inl z), fun j b z => .inl z⟩
              rw [h2] at z; cases z; trivial
            | ow d =>
              refine ⟨S2, dropL ε2 S2 rfl (fun j s hj z => ⟨z, fun _ y => y⟩) (fun s z => ?_) (fun j b z => .inl z), fun j b z => .inl z⟩
              rw [h2] at z; cases z
              exact o2.sl i _ h2
            | lk ps2 =>
              have q := o2.sl i _ h2
              obtain ⟨b, ys, e1, r2, r3⟩ := q
              simp only [if_true] at r2
              have hba : b = a := by
                by_cases hb : b = a
                · exact hb
                · rw [if_neg hb] at r2; cases r2
              subst hba
              rw [if_pos rfl] at r2
              cases r2
              refine ⟨fun j c => if j = i then c = b else S2 j c, dropL _ _ (by simp) (fun j s hj z => ⟨by rwa [List.getElem?_set_ne (Ne.symm hj)] at z, fun c y => by rw [if_neg hj]; exact y⟩) (fun s z => ?_) (fun j c z => ?_), fun j c z => ?_⟩
              · rcases getElem?_set_cases z with ⟨_, rfl, hl⟩ | ⟨n, _⟩
                · refine ⟨.ref b, e1, ?_⟩
                  simp only [RpD, if_true]
                  refine ⟨b, xs, fun _ => False, rfl, o2.rh _ _ hat, rfl, fun y => y, fun _ y => y.elim, ?_⟩
                  have rf : Rps wd F xs (D.ps ds) := rv
                  exact RpDs.of_isVal hv (Rps.mono hF.ff _ _ rf)
                · exact absurd rfl n
              · have z : if j = i then c = b else S2 j c := z
                by_cases hj : j = i
                · rw [if_pos hj] at z; exact .inr ⟨hj, z⟩
                · rw [if_neg hj] at z; exact .inl z
              · have z : if j = i then c = b else S2 j c := z
                by_cases hj : j = i
                · rw [if_pos hj] at z; rw [z]; exact .inr ⟨_, hat⟩
                · rw [if_neg hj] at z; exact .inl z
      · simp only [NB.R.ok.injEq, Prod.mk.injEq] at e
        obtain ⟨rfl, rfl, rfl⟩ := e
        exact frozen (by assumption) rfl
    · rename_i d hnl he
      simp only [NB.R.ok.injEq, Prod.mk.injEq] at e
      obtain ⟨rfl, rfl, rfl⟩ := e
      exact frozen he rfl
    · rename_i ps he
      simp only [NB.R.ok.injEq, Prod.mk.injEq] at e
      obtain ⟨rfl, rfl, rfl⟩ := e
      obtain ⟨a, xs, e1, r1, r2⟩ := o.sl i _ he
      rw [r] at e1
      have e1 : v = .ref a := by simpa using e1
      refine ⟨F, R, L, S, o, Post.refl o, Same.refl _, ⟨a, xs, e1, .inr (o.lr i _ _ r1), r2⟩, fun _ _ z => z, fun _ _ z => .inl z, fun a => .inr (.inl rfl), ?_⟩
      have un : (fun ε' => unlock1 ε ε' (.nm i)) = fun ε' => ε' := funext fun ε' => by
        simp only [unlock1]
        rw [he]
      rw [un]
      exact Unl.id (Same.refl _) o.lr
    · cases e
end
end NB
end
section
set_option linter.all false
/-! NBSound9: iterators, comprehensions. -/
namespace NB
open PySem PySem.Spec PyProof.Rows L2
section
variable {wd : Wd} {W : WX} {F F' F1 F2 R R1 H H' H1 H2 : Hp} {L L' : Nat → Hp} {σ : St} {ε ε' : Env} {S S' : Own} {T U T0 : Addr → Prop} {X : Cx} {Q : VK} {E : XK} {K : PySem.W.Frag}
theorem argF (o : OK wd F R L H σ ε S) {x : Arg} {v : V} (r : ArgR wd F H σ x v T) (t : Tmp F R H S T) : ∃ F', OK wd F' R L H σ ε S ∧ Post F R F' H ∧ ArgF wd F' σ x v := by
  obtain ⟨o2, p2⟩ := o.grow t
  refine ⟨_, o2, p2, ?_⟩
  cases x with
  | tm d => exact RpD.freeze addR_in d v T r fun b x hb hx => addR_at o.fh hb hx
  | nm i => exact r
inductive ArgsF (wd : Wd) (F : Hp) (σ : St) : List Arg → List V → Prop
  | nil : ArgsF wd F σ [] []
  | cons {x : Arg} {v : V} {xs : List Arg} {vs : List V} (h : ArgF wd F σ x v) (t : ArgsF wd F σ xs vs) : ArgsF wd F σ (x :: xs) (v :: vs)
theorem ArgF.mono {x : Arg} {v : V} (h : ArgF wd F σ x v) (hF : Same F F') : ArgF wd F' σ x v := by
  cases x with
  | tm d => exact Rp.mono hF _ v h
  | nm i => exact h
theorem ArgsF.mono {xs : List Arg} {vs : List V} (h : ArgsF wd F σ xs vs) (hF : Same F F') : ArgsF wd F' σ xs vs := by
  induction h with
  | nil => exact .nil
  | cons h t ih => exact .cons (h.mono hF) ih
theorem argsF (o : OK wd F R L H σ ε S) {xs : List Arg} {vs : List V} (r : ArgsR wd F H σ xs vs T) (t : Tmp F R H S T) : ∃ F', OK wd F' R L H σ ε S ∧ Post F R F' H ∧ ArgsF wd F' σ xs vs := by
  obtain ⟨o2, p2⟩ := o.grow t
  refine ⟨_, o2, p2, ?_⟩
  have : ∀ {xs : List Arg} {vs : List V} {T1 : Addr → Prop}, (∀ a, T1 a → T a) → ArgsR wd F H σ xs vs T1 → ArgsF wd (addR F H T) σ xs vs := by
    intro xs
    induction xs with
    | nil => intro vs T1 _ r; have r : vs = [] := r; subst r; exact .nil
    | cons x xs ih =>
      intro vs T1 hs r
      obtain ⟨v, vr, T2, T3, rfl, h1, h2, h3, h4, h5⟩ := r
      refine .cons ?_ (ih (fun a z => hs a (h4 a z)) h2)
      cases x with
      | tm d => exact RpD.freeze addR_in d v T2 h1 fun b x hb hx => addR_at o.fh (hs b (h3 b hb)) hx
      | nm i => exact h1
  exact this (fun _ z => z) r
inductive WalksR (wd : Wd) (F R : Hp) : List V → List P → Prop
  | nil : WalksR wd F R [] []
  | cons {v : V} {p : P} {vs : List V} {ps : List P} (h : WalkR wd F R v p) (t : WalksR wd F R vs ps) : WalksR wd F R (v :: vs) (p :: ps)
theorem locks_ok : ∀ {as : List Arg} {vs : List V} {ps : List P} {us : List (Arg × Env)} {F R : Hp} {L : Nat → Hp} {ε ε' : Env} {S : Own}, OK wd F R L H σ ε S → ArgsF wd F σ as vs → locksV as ε = .ok (ps, us, ε') →
    ∃ F' R' L' S', OK wd F' R' L' H σ ε' S' ∧ Post F R F' H ∧ Same R R' ∧ WalksR wd F' R' vs ps ∧ Unl wd F' R L R' L' (unlocks us)
  | [], vs, ps, us, F, R, L, ε, ε', S, o, r, e => by
    cases r
    simp only [locksV, NB.R.ok.injEq, Prod.mk.injEq] at e
    obtain ⟨rfl, rfl, rfl⟩ := e
    exact ⟨F, R, L, S, o, Post.refl o, Same.refl _, .nil, Unl.id (Same.refl _) o.lr⟩
  | x :: as, vs, ps, us, F, R, L, ε, ε', S, o, r, e => by
    cases r with
    | @cons _ v _ vr r1 r2 =>
      simp only [locksV] at e
      cases q : lockV ε x with
      | exc c fs => rw [q] at e; cases e
      | stuck => rw [q] at e; cases e
      | ok y =>
        obtain ⟨p, ε1, ε2⟩ := y
        rw [q] at e
        simp only [NB.R.ok_bind] at e
        obtain ⟨F1, R1, L1, S1, o1, p1, hR1, w1, s1, _, _, u1⟩ := lock_ok o r1 q
        cases q2 : locksV as ε2 with
        | exc c fs => rw [q2] at e; cases e
        | stuck => rw [q2] at e; cases e
        | ok y =>
          obtain ⟨pr, us2, ε3⟩ := y
          rw [q2] at e
          simp only [NB.R.ok_bind, NB.R.ok.injEq, Prod.mk.injEq] at e
          obtain ⟨rfl, rfl, rfl⟩ := e
          obtain ⟨F2, R2, L2, S2, o2, p2, hR2, w2, u2⟩ := locks_ok o1 (r2.mono p1.ff) q2
          exact ⟨F2, R2, L2, S2, o2, p1.comp p2 hR1, hR1.trans hR2, .cons (w1.mono p2.ff hR2) w2, u1.comp u2 p2 hR2⟩
/-! ### what an iterator gives -/
def YI (wd : Wd) (F H : Hp) (x : V) (H' : Hp) (p : P) : Prop := (H' = H ∧ Rp wd F x p) ∨ ∃ T vs qs, x = .ref T ∧ H T = none ∧ H' = upd H T (.tup vs) ∧ p = .tup qs ∧ Rps wd F vs qs
structure ItOK (wd : Wd) (F R : Hp) (J : L2.It) (ps : List P) : Prop where
  goes : ∀ i H, i < ps.length → Same F H → Same R H → J.go i H
  stops : ∀ H, Same F H → Same R H → J.stop ps.length H
  yields : ∀ i H x H' p, ps[i]? = some p → Same F H → Same R H → J.yld i H x H' → YI wd F H x H' p
def tIt (wd : Wd) (W : WX) (f : Env → NB.R (List P × List (Arg × Env) × Env)) : TI := fun σ H Rr => ∃ F R L ε S, OK wd F R L H σ ε S ∧ match f ε with
  | .ok (ps, us, ε1) => ∀ J F' R' L' H' S', Post F R F' H' → Same R R' → OK wd F' R' L' H' σ ε1 S' → ItOK wd F' R' J ps → Unl wd F' R L R' L' (unlocks us) → Rr J H'
  | .exc c fs => Exq wd W F R σ c fs
  | .stuck => False
theorem WalkR.lst {v : V} {ps : List P} (w : WalkR wd F R v (.lst ps)) : ∃ a xs, v = .ref a ∧ Rps wd F xs ps ∧ ∀ H, Same F H → Same R H → H a = some (.lst xs) := by
  obtain ⟨a, xs, e, h1, h2⟩ := w
  exact ⟨a, xs, e, h2, fun H f r => h1.elim (f _ _) (r _ _)⟩
theorem WalkR.tup {v : V} {ps : List P} (w : WalkR wd F R v (.tup ps)) : ∃ a xs, v = .ref a ∧ Rps wd F xs ps ∧ ∀ H, Same F H → Same R H → H a = some (.tup xs) := by
  obtain ⟨a, xs, e, h1, h2⟩ := w
  exact ⟨a, xs, e, h2, fun H f r => h1.elim (f _ _) (r _ _)⟩
theorem it_list {a : Addr} {xs : List V} {ps : List P} (r : Rps wd F xs ps) (h : ∀ H, Same F H → Same R H → H a = some (.lst xs)) : ItOK wd F R (Itl K a) ps := by
  have w := walk_list (K := K) (a := a) (xs := xs)
  refine ⟨fun i H hi f g => w.goes i H (by rw [r.len]; exact hi) (.of (h H f g)), fun H f g => ?_, fun i H x H' p hp f g y => ?_⟩
  · rw [← r.len]; exact w.stops H (.of (h H f g))
  · obtain ⟨v, e, rv⟩ := r.get hp
    obtain ⟨e1, e2⟩ := w.yields i H x H' (List.getElem?_eq_some_iff.mp e).1 (.of (h H f g)) y
    rw [e] at e2; cases e2
    exact .inl ⟨e1, rv⟩
theorem it_tup {a : Addr} {xs : List V} {ps : List P} (r : Rps wd F xs ps) (h : ∀ H, Same F H → Same R H → H a = some (.tup xs)) : ItOK wd F R (Itt K a) ps := by
  have w := walk_tup (K := K) (a := a) (xs := xs)
  refine ⟨fun i H hi f g => w.goes i H (by rw [r.len]; exact hi) (.of (h H f g)), fun H f g => ?_, fun i H x H' p hp f g y => ?_⟩
  · rw [← r.len]; exact w.stops H (.of (h H f g))
  · obtain ⟨v, e, rv⟩ := r.get hp
    obtain ⟨e1, e2⟩ := w.yields i H x H' (List.getElem?_eq_some_iff.mp e).1 (.of (h H f g)) y
    rw [e] at e2; cases e2
    exact .inl ⟨e1, rv⟩
theorem it_rng {lo hi : Int} : ItOK wd F R (Itr lo (hi - lo).toNat) (rangeP lo hi) := by
  have hl : (rangeP lo hi).length = (hi - lo).toNat := by unfold rangeP; simp
  refine ⟨fun i H h _ _ => by rw [hl] at h; exact h, fun H _ _ => by rw [hl]; exact Nat.le_refl _, fun i H x H' p hp _ _ y => ?_⟩
  obtain ⟨e1, e2⟩ := y
  refine .inl ⟨e1, ?_⟩
  unfold rangeP at hp
  rw [List.getElem?_map] at hp
  cases q : (List.range (hi - lo).toNat)[i]? with
  | none => rw [q] at hp; cases hp
  | some k =>
    rw [q] at hp
    have : k = i := by
      have := List.getElem?_eq_some_iff.mp q
      obtain ⟨_, e⟩ := this
      simp at e; exact e.symm
    subst this
    cases hp
    rw [e2]
    rfl
theorem enumP_len : ∀ (k : Nat) (ps : List P), (enumP k ps).length = ps.length
  | _, [] => rfl
  | k, p :: ps => by simp [enumP, enumP_len (k + 1) ps]
theorem enumP_get : ∀ (k : Nat) (ps : List P) (i : Nat), (enumP k ps)[i]? = ps[i]?.map fun p => P.tup [.int ((k + i : Nat) : Int), p]
  | _, [], i => by simp [enumP]
  | k, p :: ps, 0 => by simp [enumP]
  | k, p :: ps, i + 1 => by
    simp only [enumP, List.getElem?_cons_succ]
    rw [enumP_get (k + 1) ps i]
    congr 1
    funext q
    rw [show k + 1 + i = k + (i + 1) by omega]
theorem it_enum {a : Addr} {xs : List V} {ps : List P} (r : Rps wd F xs ps) (h : ∀ H, Same F H → Same R H → H a = some (.lst xs)) : ItOK wd F R (Ite K a) (enumP 0 ps) := by
  have w := walk_enum (K := K) (a := a) (xs := xs)
  refine ⟨fun i H hi f g => w.goes i H (by rw [enumP_len] at hi; rw [r.len]; exact hi) (.of (h H f g)), fun H f g => ?_, fun i H x H' p hp f g y => ?_⟩
  · rw [enumP_len, ← r.len]; exact w.stops H (.of (h H f g))
  · rw [enumP_get] at hp
    cases q : ps[i]? with
    | none => rw [q] at hp; cases hp
    | some p0 =>
      rw [q] at hp
      cases hp
      obtain ⟨v, e, rv⟩ := r.get q
      obtain ⟨T, x1, y1, e1, e2, e3, e4, e5⟩ := w.yields i H x H' (List.getElem?_eq_some_iff.mp e).1 (.of (h H f g)) y
      dsimp only at e4 e5
      rw [e] at e5; cases e5; cases e4
      refine .inr ⟨T, [.int (i : Nat), v], _, e1, e2, e3, rfl, ?_⟩
      exact ⟨_, _, rfl, by simp only [Rp]; simp, ⟨_, _, rfl, rv, rfl⟩⟩
/-- over one sequence -/
def iSeq (K : PySem.W.Frag) (tl : TE) : TI := fun σ H R => tl σ H fun x H1 => ∃ a, x = .ref a ∧ (((∃ xs, SqL K H1 a xs) ∧ R (Itl K a) H1) ∨ ((∃ xs, SqT K H1 a xs) ∧ R (Itt K a) H1))
theorem pi_seq {tg l : Expr} {tl : TE} (hl : PE X l tl) : PI X tg l (iSeq X.K tl) := by
  refine ⟨fun pins s σ H R I h => ?_⟩
  refine thn (hl.run pins s σ H _ I h) fun v s1 ⟨x, H1, I1, r1, q1⟩ => ?_
  obtain ⟨a, e, q1⟩ := q1
  subst e
  cases r1
  rcases q1 with ⟨⟨xs, hq⟩, q⟩ | ⟨⟨xs, hq⟩, q⟩
  · obtain ⟨its, rv, p, hz⟩ := I1.list hq
    refine wpAny_pyIter_list p.isList ?_
    refine ⟨s1.heap.objs.size, [s1.heap.objs.size], _, _, H1, rfl, I1.kept (t' := s1.toks) fun b o e => Heap.get?_push_of_some _ e, turn_list a _, ⟨_, Heap.get?_push_size _ rfl, rfl, rfl⟩, fun b hb => ?_, q⟩
    have e : b = s1.heap.objs.size := by simpa using hb
    subst e
    exact I1.fpOk (Nat.le_refl _) (I1.hok.fresh (Nat.le_refl _))
  · obtain ⟨its, rv, p, hz⟩ := I1.tuple hq
    refine wpAny_pyIter_tuple (show s1.heap.IsTuple a its.toArray from p) ?_
    refine ⟨s1.heap.objs.size, [s1.heap.objs.size], _, _, H1, rfl, I1.kept (t' := s1.toks) fun b o e => Heap.get?_push_of_some _ e, turn_tuple a _, ⟨_, Heap.get?_push_size _ rfl, rfl, rfl⟩, fun b hb => ?_, q⟩
    have e : b = s1.heap.objs.size := by simpa using hb
    subst e
    exact I1.fpOk (Nat.le_refl _) (I1.hok.fresh (Nat.le_refl _))
theorem seq_It {fa : Env → NB.R (Arg × Env)} : ∀ σ H Rr, tIt wd W (fun ε => fa ε >>= fun (x, ε1) => lockV ε1 x >>= fun (p, ε2, ε3) => itemsOf p >>= fun ps => pure (ps, [(x, ε2)], ε3)) σ H Rr → iSeq K (tArg wd W fa) σ H Rr := by
  rintro σ H Rr ⟨F, R, L, ε, S, o, h⟩
  dsimp only at h
  refine ⟨F, R, L, ε, S, o, ?_⟩
  cases e : fa ε with
  | stuck => rw [e] at h; exact h
  | exc c fs => rw [e] at h; exact h
  | ok a =>
    obtain ⟨x, ε1⟩ := a
    rw [e] at h
    simp only [NB.R.ok_bind] at h
    intro v F1 H1 S1 T1 p1 o1 r1 t1
    obtain ⟨F2, o2, p2, rf⟩ := argF o1 r1 t1
    cases e2 : lockV ε1 x with
    | stuck => rw [e2] at h; exact h.elim
    | exc c fs =>
      exfalso
      cases x <;> simp only [lockV] at e2 <;> (repeat' (first | (split at e2) | cases e2))
    | ok b =>
      obtain ⟨p, ε2, ε3⟩ := b
      rw [e2] at h
      simp only [NB.R.ok_bind] at h
      obtain ⟨F3, R3, L3, S3, o3, p3, hR, w, _, _, _, u⟩ := lock_ok o2 rf e2
      have pp := (p1.comp p2 (Same.refl _)).comp p3 (Same.refl _)
      have un : Unl wd F3 R L R3 L3 (unlocks [(x, ε2)]) := u
      cases p with
      | lst ps =>
        obtain ⟨a, xs, rfl, r, g⟩ := w.lst
        exact ⟨a, rfl, .inl ⟨⟨xs, .of (g H1 o3.fh o3.rh)⟩, h _ F3 R3 L3 H1 S3 pp hR o3 (it_list r g) un⟩⟩
      | tup ps =>
        obtain ⟨a, xs, rfl, r, g⟩ := w.tup
        exact ⟨a, rfl, .inr ⟨⟨xs, .of (g H1 o3.fh o3.rh)⟩, h _ F3 R3 L3 H1 S3 pp hR o3 (it_tup r g) un⟩⟩
      | _ => exact h.elim
theorem enum_It {fa : Env → NB.R (Arg × Env)} : ∀ σ H Rr, tIt wd W (fun ε => fa ε >>= fun (x, ε1) => lockV ε1 x >>= fun (p, ε2, ε3) => match p with
    | .lst ps => .ok (enumP 0 ps, [(x, ε2)], ε3)
    | _ => .stuck) σ H Rr → iEnum K (tCons (tArg wd W fa) tNil) σ H Rr := by
  rintro σ H Rr ⟨F, R, L, ε, S, o, h⟩
  dsimp only at h
  refine ⟨F, R, L, ε, S, o, ?_⟩
  cases e : fa ε with
  | stuck => rw [e] at h; exact h
  | exc c fs => rw [e] at h; exact h
  | ok a =>
    obtain ⟨x, ε1⟩ := a
    rw [e] at h
    simp only [NB.R.ok_bind] at h
    intro v F1 H1 S1 T1 p1 o1 r1 t1
    obtain ⟨F2, o2, p2, rf⟩ := argF o1 r1 t1
    cases e2 : lockV ε1 x with
    | stuck => rw [e2] at h; exact h.elim
    | exc c fs =>
      exfalso
      cases x <;> simp only [lockV] at e2 <;> (repeat' (first | (split at e2) | cases e2))
    | ok b =>
      obtain ⟨p, ε2, ε3⟩ := b
      rw [e2] at h
      simp only [NB.R.ok_bind] at h
      obtain ⟨F3, R3, L3, S3, o3, p3, hR, w, _, _, _, u⟩ := lock_ok o2 rf e2
      have pp := (p1.comp p2 (Same.refl _)).comp p3 (Same.refl _)
      have un : Unl wd F3 R L R3 L3 (unlocks [(x, ε2)]) := u
      cases p with
      | lst ps =>
        obtain ⟨a, xs, rfl, r, g⟩ := w.lst
        exact ⟨a, xs, rfl, .of (g H1 o3.fh o3.rh), h _ F3 R3 L3 H1 S3 pp hR o3 (it_enum r g) un⟩
      | _ => exact h.elim
theorem rng_It {fa fb : Env → NB.R (D × Env)} : ∀ σ H Rr, tIt wd W (fun ε => fa ε >>= fun (d, ε1) => fb ε1 >>= fun (d', ε2) => match d, d' with
    | .val (.int lo), .val (.int hi) => if -(2 ^ 62) ≤ lo ∧ lo < 2 ^ 62 ∧ -(2 ^ 62) ≤ hi ∧ hi < 2 ^ 62 then pure (rangeP lo hi, [], ε2) else .stuck
    | _, _ => .stuck) σ H Rr → iRng2 (tCons (tE wd W fa) (tCons (tE wd W fb) tNil)) σ H Rr := by
  rintro σ H Rr ⟨F, R, L, ε, S, o, h⟩
  dsimp only at h
  refine ⟨F, R, L, ε, S, o, ?_⟩
  cases e : fa ε with
  | stuck => rw [e] at h; exact h
  | exc c fs => rw [e] at h; exact h
  | ok a =>
    obtain ⟨d, ε1⟩ := a
    rw [e] at h
    simp only [NB.R.ok_bind] at h
    intro v F1 H1 S1 T1 p1 o1 r1 t1
    refine ⟨F1, R, L, ε1, S1, o1, ?_⟩
    cases e2 : fb ε1 with
    | stuck => rw [e2] at h; exact h
    | exc c fs => rw [e2] at h; exact Exq.mono h p1 (Same.refl _)
    | ok b =>
      obtain ⟨d', ε2⟩ := b
      rw [e2] at h
      simp only [NB.R.ok_bind] at h
      intro u F2 H2 S2 T2 p2 o2 r2 t2
      have key : ∃ lo hi, d = .val (.int lo) ∧ d' = .val (.int hi) := by
        cases d with
        | val p =>
          cases d' with
          | val q => cases p <;> cases q <;> first | exact ⟨_, _, rfl, rfl⟩ | exact h.elim
          | _ => cases p <;> exact h.elim
        | _ => exact h.elim
      obtain ⟨lo, hi, rfl, rfl⟩ := key
      simp only [RpD, Rp] at r1 r2
      subst r1 r2
      dsimp only at h
      by_cases c : -(2 ^ 62) ≤ lo ∧ lo < 2 ^ 62 ∧ -(2 ^ 62) ≤ hi ∧ hi < 2 ^ 62
      · rw [if_pos c] at h
        exact ⟨lo, hi, rfl, c, h _ F2 R L H2 S2 (p1.comp p2 (Same.refl _)) (Same.refl _) o2 it_rng (Unl.id (Same.refl _) o2.lr)⟩
      · rw [if_neg c] at h
        exact h.elim
end
end NB
end
section
set_option linter.all false
/-! NBSound10: list comprehensions. -/
namespace NB
open PySem PySem.Spec PyProof.Rows L2
theorem wipe_get (σ : L2.St) : ∀ (vs : List Nat) (i : Nat), (wipe σ vs)[i]? = if i ∈ vs then (if i < σ.length then some none else none) else σ[i]? := by
  intro vs i
  have h1 : ∀ x, (wipe σ vs)[i]? = some (some x) → σ[i]? = some (some x) ∧ i ∉ vs := fun x h => wipe_some h
  by_cases hm : i ∈ vs
  · rw [if_pos hm]
    by_cases hl : i < σ.length
    · rw [if_pos hl]
      have hl2 : i < (wipe σ vs).length := by rw [wipe_length]; exact hl
      rw [List.getElem?_eq_getElem hl2]
      cases e : (wipe σ vs)[i] with
      | none => rfl
      | some x =>
        have := (h1 x (by rw [List.getElem?_eq_getElem hl2, e])).2
        exact absurd hm this
    · rw [if_neg hl, List.getElem?_eq_none (by rw [wipe_length]; omega)]
  · rw [if_neg hm]
    exact wipe_out hm
theorem wipe_congr {σ σ' : L2.St} {vs : List Nat} (hl : σ'.length = σ.length) (h : ∀ i, i ∉ vs → σ'[i]? = σ[i]?) : wipe σ' vs = wipe σ vs := by
  apply List.ext_getElem?
  intro i
  rw [wipe_get, wipe_get, hl]
  by_cases hm : i ∈ vs
  · rw [if_pos hm, if_pos hm]
  · rw [if_neg hm, if_neg hm, h i hm]
theorem wipeE_len (ε : Env) : ∀ vs : List Nat, (wipeE ε vs).length = ε.length
  | [] => rfl
  | i :: is => by simp [wipeE, wipeE_len ε is]
theorem wipeE_get (ε : Env) : ∀ (vs : List Nat) (i : Nat), (wipeE ε vs)[i]? = if i ∈ vs then (if i < ε.length then some .no else none) else ε[i]?
  | [], i => by simp [wipeE]
  | j :: vs, i => by
    simp only [wipeE]
    by_cases h : j = i
    · subst h
      by_cases hl : j < ε.length
      · rw [List.getElem?_set_self (by rw [wipeE_len]; exact hl), if_pos List.mem_cons_self, if_pos hl]
      · rw [List.getElem?_eq_none (by rw [List.length_set, wipeE_len]; omega), if_pos List.mem_cons_self, if_neg hl]
    · rw [List.getElem?_set_ne h, wipeE_get ε vs i]
      by_cases hm : i ∈ vs
      · rw [if_pos hm, if_pos (List.mem_cons_of_mem _ hm)]
      · rw [if_neg hm, if_neg (by simp [Ne.symm h, hm])]
theorem unwipe_len (ε0 ε : Env) : ∀ vs : List Nat, (unwipe ε0 ε vs).length = ε.length
  | [] => rfl
  | i :: is => by
    simp only [unwipe]
    split <;> simp [unwipe_len ε0 ε is]
theorem unwipe_get (ε0 ε : Env) (hl : ε0.length = ε.length) : ∀ (vs : List Nat) (i : Nat), (unwipe ε0 ε vs)[i]? = if i ∈ vs then ε0[i]? else ε[i]?
  | [], i => by simp [unwipe]
  | j :: vs, i => by
    simp only [unwipe]
    cases e : ε0[j]? with
    | none =>
      dsimp only
      rw [unwipe_get ε0 ε hl vs i]
      by_cases h : j = i
      · subst h
        rw [if_pos List.mem_cons_self]
        by_cases hm : j ∈ vs
        · rw [if_pos hm]
        · rw [if_neg hm, e]
          have : ε0.length ≤ j := by simpa using e
          rw [List.getElem?_eq_none (by omega)]
      · by_cases hm : i ∈ vs
        · rw [if_pos hm, if_pos (List.mem_cons_of_mem _ hm)]
        · rw [if_neg hm, if_neg (by simp [Ne.symm h, hm])]
    | some s =>
      dsimp only
      have hj : j < ε0.length := (List.getElem?_eq_some_iff.mp e).1
      by_cases h : j = i
      · subst h
        rw [List.getElem?_set_self (by rw [unwipe_len]; omega), if_pos List.mem_cons_self, e]
      · rw [List.getElem?_set_ne h, unwipe_get ε0 ε hl vs i]
        by_cases hm : i ∈ vs
        · rw [if_pos hm, if_pos (List.mem_cons_of_mem _ hm)]
        · rw [if_neg hm, if_neg (by simp [Ne.symm h, hm])]
section
variable {wd : Wd} {W : WX} {F F' F1 F2 F3 R R1 R2 H H' H1 H2 H3 : Hp} {L L' : Nat → Hp} {σ : L2.St} {ε ε' ε1 ε3 : Env} {S S' S1 S3 : Own} {T U T0 : Addr → Prop} {X : Cx} {Q : VK} {E : XK} {K : PySem.W.Frag} {own : List Nat}
/-- the nodes of the block's own slots -/
def ownN (S : Own) (own : List Nat) : Addr → Prop := fun a => ∃ i, i ∈ own ∧ S i a
theorem OK.wipe (o : OK wd F R L H σ ε S) (own : List Nat) : OK wd F (addR R H (ownN S own)) L H (L2.wipe σ own) (wipeE ε own) (fun j a => j ∉ own ∧ S j a) := by
  refine ⟨o.fh, addR_sub o.rh, fun j => (o.lr j).trans addR_in, o.lf, o.lu, by rw [wipe_length, wipeE_len, o.len], fun j s e => ?_, fun j k a n s1 s2 => o.dis j k a n s1.2 s2.2, fun j a s => ?_⟩
  · rw [wipeE_get] at e
    rw [wipe_get]
    by_cases hm : j ∈ own
    · rw [if_pos hm] at e
      split at e
      · cases e; trivial
      · cases e
    · rw [if_neg hm] at e ⊢
      have q := o.sl j s e
      cases s with
      | no => trivial
      | lk ps => exact q
      | ow d =>
        obtain ⟨v, e1, r⟩ := q
        exact ⟨v, e1, RpD.mono (Same.refl _) d v _ _ r (fun b hb => ⟨hm, hb⟩) (fun _ _ _ z => z)⟩
  · obtain ⟨h1, h2, h3⟩ := o.out j a s.2
    exact ⟨h1, addR_none h2 fun ⟨i, hi, z⟩ => o.dis i j a (fun y => s.1 (y ▸ hi)) z s.2, h3⟩
theorem OK.wipe' (o : OK wd F R L H σ ε S) (own : List Nat) : OK wd F R L H (L2.wipe σ own) (wipeE ε own) (fun j a => j ∉ own ∧ S j a) :=
  (o.wipe own).unframe addR_in o.lr
theorem OK.unwipe (o1 : OK wd F1 R L H1 σ ε1 S1) (o3 : OK wd F3 (addR R H1 (ownN S1 own)) L H3 (L2.wipe σ own) ε3 S3) (p : Post F1 (addR R H1 (ownN S1 own)) F3 H3) :
    ∃ S4, OK wd F3 R L H3 σ (NB.unwipe ε1 ε3 own) S4 ∧ ∀ j a, S4 j a → S3 j a ∨ ∃ u, addR R H1 (ownN S1 own) a = some u := by
  have hl : ε1.length = ε3.length := by rw [← o1.len, ← o3.len, wipe_length]
  have at1 : ∀ j a, j ∈ own → S1 j a → ∃ u, addR R H1 (ownN S1 own) a = some u ∧ H1 a = some u := fun j a hj s => by
    obtain ⟨_, _, u, e⟩ := o1.out j a s
    exact ⟨u, addR_at o1.rh ⟨j, hj, s⟩ e, e⟩
  refine ⟨fun j a => (j ∈ own ∧ S1 j a) ∨ (j ∉ own ∧ S3 j a), ⟨o3.fh, addR_in.trans o3.rh, o1.lr, o3.lf, o3.lu, by rw [unwipe_len, o1.len, hl], fun j s e => ?_, fun j k a n s1 s2 => ?_, fun j a s => ?_⟩, fun j a s => ?_⟩
  · rw [unwipe_get ε1 ε3 hl] at e
    by_cases hm : j ∈ own
    · rw [if_pos hm] at e
      have q := o1.sl j s e
      cases s with
      | no => trivial
      | lk ps => obtain ⟨a, xs, e1, r1, r2⟩ := q; exact ⟨a, xs, e1, r1, Rps.mono p.ff ps xs r2⟩
      | ow d =>
        obtain ⟨v, e1, r⟩ := q
        refine ⟨v, e1, RpD.mono p.ff d v _ _ r (fun b hb => .inl ⟨hm, hb⟩) fun b u hb z => ?_⟩
        obtain ⟨u', z1, z2⟩ := at1 j b hm hb
        rw [z] at z2; cases z2
        exact p.rh _ _ z1
    · rw [if_neg hm] at e
      have q := o3.sl j s e
      rw [wipe_get, if_neg hm] at q
      cases s with
      | no => trivial
      | lk ps => exact q
      | ow d =>
        obtain ⟨v, e1, r⟩ := q
        exact ⟨v, e1, RpD.mono (Same.refl _) d v _ _ r (fun b hb => .inr ⟨hm, hb⟩) (fun _ _ _ z => z)⟩
  · rcases s1 with ⟨h1, s1⟩ | ⟨h1, s1⟩
    · rcases s2 with ⟨h2, s2⟩ | ⟨h2, s2⟩
      · exact o1.dis j k a n s1 s2
      · obtain ⟨u, z, _⟩ := at1 j a h1 s1
        have := (o3.out k a s2).2.1
        rw [z] at this; cases this
    · rcases s2 with ⟨h2, s2⟩ | ⟨h2, s2⟩
      · obtain ⟨u, z, _⟩ := at1 k a h2 s2
        have := (o3.out j a s1).2.1
        rw [z] at this; cases this
      · exact o3.dis j k a n s1 s2
  · rcases s with ⟨h1, s⟩ | ⟨h1, s⟩
    · obtain ⟨u, z, _⟩ := at1 j a h1 s
      obtain ⟨x1, x2, x3⟩ := o1.out j a s
      exact ⟨p.gr a u z x1, x2, u, p.rh _ _ z⟩
    · obtain ⟨x1, x2, x3⟩ := o3.out j a s
      exact ⟨x1, Same.none' addR_in x2, x3⟩
  · rcases s with ⟨h1, s⟩ | ⟨h1, s⟩
    · obtain ⟨u, z, _⟩ := at1 j a h1 s
      exact .inr ⟨u, z⟩
    · exact .inl s
theorem Post.weak (p : Post F R1 F' H') (h : Same R R1) : Post F R F' H' := ⟨p.ff, p.fh, h.trans p.rh, fun b u e f => p.gr b u (h b u e) f⟩
theorem OK.write (o : OK wd F R L H σ ε S) {D : Addr} {u : HO} (hF : F D = none) (hR : R D = none) (hS : ∀ i, ¬ S i D) : OK wd F R L (upd H D u) σ ε S := by
  have k : ∀ b x, b ≠ D → H b = some x → upd H D u b = some x := fun b x n e => by rw [upd_ne n]; exact e
  refine ⟨fun b x e => k b x (fun z => by rw [z, hF] at e; cases e) (o.fh b x e), fun b x e => k b x (fun z => by rw [z, hR] at e; cases e) (o.rh b x e), o.lr, o.lf, o.lu, o.len, fun i s e => (o.sl i s e).mono (Same.refl _) fun b x hb e => k b x (fun z => hS i (z ▸ hb)) e, o.dis, fun i a s => ?_⟩
  obtain ⟨h1, h2, x, h3⟩ := o.out i a s
  exact ⟨h1, h2, x, k a x (fun z => hS i (z ▸ s)) h3⟩
/-- a turn's tests and item -/
def lcBody (fi : Env → NB.R (Bool × Env)) (fe : Env → NB.R (D × Env)) : Env → NB.R (Option D × Env) := fun ε => fi ε >>= fun (k, ε3) => if k then fe ε3 >>= fun (d, ε4) => pure (some d, ε4) else pure (none, ε3)
/-- errors as the def around the block wishes them -/
abbrev Wc (W : WX) (σ : L2.St) : WX := fun cls d _ H => W cls d σ H
theorem lc_E {g : Pt} {it : Env → NB.R (List P × List (Arg × Env) × Env)} {fi : Env → NB.R (Bool × Env)} {fe : Env → NB.R (D × Env)} (hg : ∀ i ∈ g.idx, i ∈ own) : ∀ σ H Q, tE wd W (fun ε => it ε >>= fun (ps, us, ε1) => if ps.length ≤ cap then lcLoop g own (lcBody fi fe) ps (wipeE ε1 own) >>= fun (ds, ε2) => .ok (.lst ds, unlocks us (unwipe ε1 ε2 own)) else .stuck) σ H Q →
    tLc (tIt wd W it) (tgt K g) (tT wd (Wc W σ) fi) (tE wd (Wc W σ) fe) own σ H Q := by
  rintro σ H Q ⟨F, R, L, ε, S, o, h⟩
  dsimp only at h
  refine ⟨F, R, L, ε, S, o, ?_⟩
  cases e : it ε with
  | stuck => rw [e] at h; exact h
  | exc c fs => rw [e] at h; exact h
  | ok a =>
    obtain ⟨ps, us, ε1⟩ := a
    rw [e] at h
    simp only [NB.R.ok_bind] at h
    intro J F1 R1 L1 H1 S1 p1 hR o1 hI hU D hD
    by_cases hcap : ps.length ≤ cap
    case neg => rw [if_neg hcap] at h; exact h.elim
    rw [if_pos hcap] at h
    generalize hbody : lcBody fi fe = body at h
    -- the block's frame
    have ow := o1.wipe own
    generalize hR2 : addR R1 H1 (ownN S1 own) = R2 at ow
    have hR12 : Same R1 R2 := by rw [← hR2]; exact addR_in
    -- what is owed from a state of the block
    let Owes : Hp → Env → List NB.D → List P → Prop := fun F2 εk acc rest => match lcLoop g own body rest εk with
      | .ok (ds', ε2') => ∀ F3 H3 S3 accV T, Post F1 R2 F3 H3 → OK wd F3 R2 L1 H3 (L2.wipe σ own) ε2' S3 → RpDs wd F3 H3 accV (acc ++ ds') T → H3 D = some (.lst accV) → F3 D = none → R2 D = none → (∀ j, ¬ S3 j D) → Tmp F3 R2 H3 S3 T → ¬ T D → Q (.ref D) H3
      | .exc c fs => Exq wd W F1 R σ c fs
      | .stuck => False
    have h := h.mono p1
    have D1 : F1 D = none := Same.none' o1.fh hD
    have DR2 : R2 D = none := Same.none' ow.rh hD
    have start : Owes F1 (wipeE ε1 own) [] ps := by
      show match lcLoop g own body ps (wipeE ε1 own) with
        | .ok (ds', ε2') => _
        | .exc c fs => _
        | .stuck => _
      cases q : lcLoop g own body ps (wipeE ε1 own) with
      | stuck => rw [q] at h; exact h
      | exc c fs => rw [q] at h; exact h
      | ok b =>
        obtain ⟨ds', ε2'⟩ := b
        rw [q] at h
        simp only [NB.R.ok_bind] at h
        intro F3 H3 S3 accV T p3 o3 r3 hD3 nF nR nS t3 nT
        rw [← hR2] at o3 p3 nR t3
        obtain ⟨S4, o4, s4⟩ := OK.unwipe o1 o3 p3
        obtain ⟨S5, o5, s5⟩ := hU F3 H3 σ _ S4 (p3.weak addR_in) o4
        have nS5 : ∀ j a, (addR R1 H1 (ownN S1 own) a = none) → (∀ j, ¬ S3 j a) → ¬ S5 j a := fun j a n1 n2 z => by
          rcases s5 j a z with z | ⟨u, z⟩
          · rcases s4 j a z with z | ⟨u, z⟩
            · exact n2 j z
            · rw [n1] at z; cases z
          · rw [Same.none' addR_in n1] at z; cases z
        refine h (.ref D) F3 H3 S5 (fun a => a = D ∨ T a) ⟨p3.ff, p3.fh, hR.trans (addR_in.trans p3.rh), fun b u e f => p3.gr b u (addR_in b u (hR b u e)) f⟩ o5 ?_ fun a ha => ?_
        · simp only [RpD, List.nil_append] at r3 ⊢
          exact ⟨D, accV, T, rfl, hD3, .inl rfl, nT, fun b z => .inr z, r3⟩
        · rcases ha with rfl | ha
          · exact ⟨nF, Same.none' (hR.trans addR_in) nR, ⟨_, hD3⟩, fun i => nS5 i _ nR nS⟩
          · obtain ⟨x1, x2, x3, x4⟩ := t3 a ha
            exact ⟨x1, Same.none' (hR.trans addR_in) x2, x3, fun i => nS5 i a x2 x4⟩
    -- the turns
    refine ⟨fun i m H => m = ps.length - i ∧ i ≤ ps.length ∧ ∃ F2 εk Sk acc accV T, Post F1 R2 F2 H ∧ OK wd F2 R2 L1 H (L2.wipe σ own) εk Sk ∧ RpDs wd F2 H accV acc T ∧ H D = some (.lst accV) ∧ F2 D = none ∧ (∀ j, ¬ Sk j D) ∧ Tmp F2 R2 H Sk T ∧ ¬ T D ∧ accV.length ≤ i ∧ Owes F2 εk acc (ps.drop i),
      ⟨ps.length, by simp, Nat.zero_le _, F1, wipeE ε1 own, _, [], [], fun _ => False, ?_, ow.write D1 DR2 (fun j z => ?_), rfl, upd_same, D1, fun j z => ?_, noTmp, fun z => z, Nat.le_refl _, start⟩, ?_⟩
    · have kk : Same H1 (upd H1 D (.lst [])) := fun b x e => by rw [upd_ne (ne_of_none e hD)]; exact e
      exact ⟨Same.refl _, o1.fh.trans kk, ow.rh.trans kk, fun _ _ _ z => z⟩
    · obtain ⟨u, y⟩ := (ow.out j D z).2.2
      rw [hD] at y; cases y
    · obtain ⟨u, y⟩ := (ow.out j D z).2.2
      rw [hD] at y; cases y
    rintro i m H2 ⟨rfl, hi, F2, εk, Sk, acc, accV, T, p2, o2, r2, hD2, nF, nS, t2, nT, hl, owes⟩
    have sF : Same F1 H2 := p2.ff.trans p2.fh
    have sR : Same R1 H2 := hR12.trans p2.rh
    by_cases hlt : i < ps.length
    case neg =>
      have hi' : i = ps.length := by omega
      subst hi'
      refine .inl ⟨hI.stops H2 sF sR, ?_⟩
      have owes : Owes F2 εk acc [] := by
        have := owes
        rwa [List.drop_length] at this
      exact owes F2 H2 Sk accV T p2 o2 (by rw [List.append_nil]; exact r2) hD2 nF DR2 nS t2 nT
    case pos =>
      refine .inr ⟨hI.goes i H2 hlt sF sR, fun H => ∃ m', m' < ps.length - i ∧ (m' = ps.length - (i + 1) ∧ i + 1 ≤ ps.length ∧ ∃ F2 εk Sk acc accV T, Post F1 R2 F2 H ∧ OK wd F2 R2 L1 H (L2.wipe σ own) εk Sk ∧ RpDs wd F2 H accV acc T ∧ H D = some (.lst accV) ∧ F2 D = none ∧ (∀ j, ¬ Sk j D) ∧ Tmp F2 R2 H Sk T ∧ ¬ T D ∧ accV.length ≤ i + 1 ∧ Owes F2 εk acc (ps.drop (i + 1))), fun H' z => z, fun x H3 y => ?_⟩
      have hp : ps[i]? = some ps[i] := List.getElem?_eq_getElem hlt
      have hdrop : ps.drop i = ps[i] :: ps.drop (i + 1) := List.drop_eq_getElem_cons hlt
      rw [hdrop] at owes
      generalize ps[i] = p at hp owes
      have y := hI.yields i H2 x H3 p hp sF sR y
      -- the item, frozen
      obtain ⟨F3, o3, p3, k3, rx, nF3, t3⟩ : ∃ F3, OK wd F3 R2 L1 H3 (L2.wipe σ own) εk Sk ∧ Post F2 R2 F3 H3 ∧ Same H2 H3 ∧ Rp wd F3 x p ∧ F3 D = none ∧ Tmp F3 R2 H3 Sk T := by
        rcases y with ⟨rfl, rx⟩ | ⟨a, vs, qs, rfl, ha, rfl, rfl, rx⟩
        · exact ⟨F2, o2, Post.refl o2, Same.refl _, Rp.mono p2.ff p x rx, nF, t2⟩
        · have kk : Same H2 (upd H2 a (.tup vs)) := fun b x e => by rw [upd_ne (ne_of_none e ha)]; exact e
          obtain ⟨oa, pa, na⟩ := o2.alloc (u := .tup vs) ha
          have ta : Tmp F2 R2 (upd H2 a (.tup vs)) Sk (fun b => b = a) := fun b z => by
            rw [z]
            exact ⟨Same.none' o2.fh ha, Same.none' o2.rh ha, ⟨_, upd_same⟩, na⟩
          obtain ⟨og, pg⟩ := oa.grow ta
          have aD : D ≠ a := fun z => by rw [z, ha] at hD2; cases hD2
          refine ⟨_, og, pa.comp pg (Same.refl _), kk, ?_, addR_none nF aD, fun b hb => ?_⟩
          · simp only [Rp]
            exact ⟨a, vs, rfl, addR_at oa.fh rfl upd_same, Rps.mono (p2.ff.trans addR_in) qs vs rx⟩
          · obtain ⟨x1, x2, ⟨u, x3⟩, x4⟩ := t2 b hb
            exact ⟨addR_none x1 fun z => (ne_of_none x3 ha) z, x2, ⟨u, kk _ _ x3⟩, x4⟩
      have r3 : RpDs wd F3 H3 accV acc T := RpDs.mono p3.ff acc accV T T r2 (fun _ z => z) fun b u _ z => k3 b u z
      have hD3 : H3 D = some (.lst accV) := k3 _ _ hD2
      have p13 : Post F1 R2 F3 H3 := p2.comp p3 (Same.refl _)
      have owes : match lcLoop g own body (p :: ps.drop (i + 1)) εk with
        | .ok (ds', ε2') => ∀ F3 H3 S3 accV T, Post F1 R2 F3 H3 → OK wd F3 R2 L1 H3 (L2.wipe σ own) ε2' S3 → RpDs wd F3 H3 accV (acc ++ ds') T → H3 D = some (.lst accV) → F3 D = none → R2 D = none → (∀ j, ¬ S3 j D) → Tmp F3 R2 H3 S3 T → ¬ T D → Q (.ref D) H3
        | .exc c fs => Exq wd W F1 R σ c fs
        | .stuck => False := owes
      simp only [lcLoop] at owes
      cases ea : assign εk g (.val p) with
      | stuck => rw [ea] at owes; exact owes.elim
      | exc c fs => exact (assign_exc ea).elim
      | ok ε2 =>
        rw [ea] at owes
        simp only [NB.R.ok_bind] at owes
        refine assign_ok (T := fun _ => False) o3 (by simp only [RpD]; exact rx) noTmp ea fun σ2 S2 o4 s4 l4 k4 => ?_
        have hw : L2.wipe σ2 own = L2.wipe σ own := by
          rw [wipe_congr (σ := L2.wipe σ own) (by rw [l4]) (fun j hj => k4 j fun z => hj (hg j z))]
          refine wipe_congr (wipe_length _ _) fun j hj => wipe_out hj
        refine ⟨hw, ?_⟩
        have nS2 : ∀ j a, ¬ Sk j a → ¬ S2 j a := fun j a n z => (s4 j a z).elim n id
        -- the new list and its items are kept
        have tD : ∀ a, (T a ∨ a = D) → (∃ u, H3 a = some u) ∧ F3 a = none ∧ R2 a = none ∧ ∀ j, ¬ S2 j a := fun a ha => by
          rcases ha with ha | rfl
          · obtain ⟨x1, x2, x3, x4⟩ := t3 a ha
            exact ⟨x3, x1, x2, fun j => nS2 j a (x4 j)⟩
          · exact ⟨⟨_, hD3⟩, nF3, DR2, fun j => nS2 j _ (nS j)⟩
        have o5 := o4.frame (T := fun a => T a ∨ a = D) fun j a s z => (tD a z).2.2.2 j s
        have exq : ∀ {c : Nat} {fs : List P}, Exq wd W F1 R σ c fs → Exq wd (Wc W σ) F3 (addR R2 H3 (fun a => T a ∨ a = D)) σ2 c fs := fun {c fs} q => by
          have q1 : Exq wd W F3 R σ c fs := Exq.mono q (p13.weak (hR.trans hR12)) (Same.refl _)
          exact Exq.up q1 (Same.refl _) (hR.trans (hR12.trans addR_in)) fun _ _ _ z => z
        rw [← hbody] at owes
        rw [show lcBody fi fe ε2 = (fi ε2 >>= fun (k, ε3) => if k then fe ε3 >>= fun (d, ε4) => pure (some d, ε4) else pure (none, ε3)) from rfl] at owes
        rw [hbody] at owes
        refine ⟨F3, _, L1, ε2, S2, o5, ?_⟩
        cases e6 : fi ε2 with
        | stuck => rw [e6] at owes; exact owes.elim
        | exc c fs => rw [e6] at owes; exact exq owes
        | ok kk =>
          obtain ⟨k, ε6⟩ := kk
          rw [e6] at owes
          simp only [NB.R.ok_bind] at owes
          intro F6 H6 S6 p6 o6
          have k6 : ∀ a u, (T a ∨ a = D) → H3 a = some u → H6 a = some u := fun a u ha z => p6.rh a u (addR_at o4.rh ha z)
          cases k with
          | false =>
            simp only [Bool.false_eq_true, if_false] at owes ⊢
            have o7 := (o6.unframe addR_in o4.lr).wipe' own
            rw [hw] at o7
            refine ⟨ps.length - (i + 1), by omega, rfl, hlt, F6, wipeE ε6 own, _, acc, accV, T, p13.comp (p6) addR_in, o7, RpDs.mono p6.ff acc accV T T r3 (fun _ z => z) fun b u hb z => k6 b u (.inl hb) z, k6 _ _ (.inr rfl) hD3, ?_, fun j z => ?_, fun a ha => ?_, nT, Nat.le_succ_of_le hl, ?_⟩
            · exact p6.gr D _ (addR_at o4.rh (.inr rfl) hD3) nF3
            · have := (o6.out j D z.2).2.1
              rw [addR_at o4.rh (.inr rfl) hD3] at this; cases this
            · obtain ⟨⟨u, x1⟩, x2, x3, x4⟩ := tD a (.inl ha)
              have at2 := addR_at o4.rh (T := fun a => T a ∨ a = D) (.inl ha) x1
              refine ⟨p6.gr a u at2 x2, x3, ⟨u, k6 a u (.inl ha) x1⟩, fun j z => ?_⟩
              have := (o6.out j a z.2).2.1
              rw [at2] at this; cases this
            · show match lcLoop g own body (ps.drop (i + 1)) (wipeE ε6 own) with
                | .ok (ds', ε2') => _
                | .exc c fs => _
                | .stuck => _
              simp only [NB.R.pure_eq, NB.R.ok_bind] at owes
              cases q : lcLoop g own body (ps.drop (i + 1)) (wipeE ε6 own) with
              | stuck => rw [q] at owes; exact owes
              | exc c fs => rw [q] at owes; exact owes
              | ok b => obtain ⟨ds', ε2'⟩ := b; rw [q] at owes; exact owes
          | true =>
            simp only [if_true] at owes ⊢
            refine ⟨F6, _, L1, ε6, S6, o6, ?_⟩
            cases e7 : fe ε6 with
            | stuck => rw [e7] at owes; exact owes.elim
            | exc c fs =>
              rw [e7] at owes
              exact Exq.mono (exq owes) p6 (Same.refl _)
            | ok dd =>
              obtain ⟨d, ε7⟩ := dd
              rw [e7] at owes
              simp only [NB.R.ok_bind] at owes
              intro v F7 H7 S7 T7 p7 o7 r7 t7
              have k7 : ∀ a u, (T a ∨ a = D) → H3 a = some u → H7 a = some u := fun a u ha z => p7.rh a u (addR_at o4.rh ha z)
              have hD7 : H7 D = some (.lst accV) := k7 _ _ (.inr rfl) hD3
              refine ⟨accV, hD7, ?_, ?_⟩
              · have := cap_line hcap
                omega
              have pA : Post F3 (addR R2 H3 (fun a => T a ∨ a = D)) F7 H7 := p6.comp p7 (Same.refl _)
              have p17 : Post F1 R2 F7 H7 := p13.comp pA addR_in
              have atD := addR_at o4.rh (T := fun a => T a ∨ a = D) (.inr rfl) hD3
              have nF7 : F7 D = none := pA.gr D _ atD nF3
              have nS7 : ∀ j, ¬ S7 j D := fun j z => by
                have := (o7.out j D z).2.1
                rw [atD] at this; cases this
              have nT7 : ¬ T7 D := fun z => by
                have := (t7 D z).2.1
                rw [atD] at this; cases this
              have o8 := ((o7.unframe addR_in o4.lr).wipe' own)
              rw [hw] at o8
              have o9 := o8.write (D := D) (u := .lst (accV ++ [v])) nF7 DR2 (fun j z => nS7 j z.2)
              have kw : ∀ b u, b ≠ D → H7 b = some u → upd H7 D (.lst (accV ++ [v])) b = some u := fun b u n z => by rw [upd_ne n]; exact z
              have tT : ∀ a, T a → ∃ u, H7 a = some u ∧ F7 a = none ∧ R2 a = none ∧ (∀ j, ¬ S7 j a) ∧ ¬ T7 a := fun a ha => by
                obtain ⟨⟨u, x1⟩, x2, x3, x4⟩ := tD a (.inl ha)
                have at2 := addR_at o4.rh (T := fun a => T a ∨ a = D) (.inl ha) x1
                refine ⟨u, k7 a u (.inl ha) x1, pA.gr a u at2 x2, x3, fun j z => ?_, fun z => ?_⟩
                · have := (o7.out j a z).2.1
                  rw [at2] at this; cases this
                · have := (t7 a z).2.1
                  rw [at2] at this; cases this
              refine ⟨ps.length - (i + 1), by omega, rfl, hlt, F7, wipeE ε7 own, _, acc ++ [d], accV ++ [v], fun a => T a ∨ T7 a, ⟨p17.ff, o9.fh, o9.rh, p17.gr⟩, o9, ?_, upd_same, nF7, fun j z => nS7 j z.2, fun a ha => ?_, fun z => z.elim nT nT7, by simp; omega, ?_⟩
              · refine RpDs.app (RpDs.mono pA.ff acc accV T T r3 (fun _ z => z) fun b u hb z => kw b u (fun y => nT (y ▸ hb)) (k7 b u (.inl hb) z)) ?_ (fun a h1 h2 => (tT a h1).choose_spec.2.2.2.2 h2)
                simp only [RpDs]
                exact ⟨v, [], T7, fun _ => False, rfl, RpD.mono (Same.refl _) d v T7 T7 r7 (fun _ z => z) (fun b u hb z => kw b u (fun y => nT7 (y ▸ hb)) z), rfl, fun _ z => z, fun _ z => z.elim, fun _ _ z => z⟩
              · rcases ha with ha | ha
                · obtain ⟨u, x1, x2, x3, x4, _⟩ := tT a ha
                  exact ⟨x2, x3, ⟨u, kw a u (fun y => nT (y ▸ ha)) x1⟩, fun j z => x4 j z.2⟩
                · obtain ⟨x1, x2, ⟨u, x3⟩, x4⟩ := t7 a ha
                  exact ⟨x1, Same.none' addR_in x2, ⟨u, kw a u (fun y => nT7 (y ▸ ha)) x3⟩, fun j z => x4 j z.2⟩
              · show match lcLoop g own body (ps.drop (i + 1)) (wipeE ε7 own) with
                  | .ok (ds', ε2') => _
                  | .exc c fs => _
                  | .stuck => _
                simp only [NB.R.pure_eq, NB.R.ok_bind] at owes
                cases q : lcLoop g own body (ps.drop (i + 1)) (wipeE ε7 own) with
                | stuck => rw [q] at owes; exact owes
                | exc c fs => rw [q] at owes; exact owes
                | ok b =>
                  obtain ⟨ds', ε2'⟩ := b
                  rw [q] at owes
                  simp only [NB.R.ok_bind] at owes
                  intro F9 H9 S9 accV9 T9 q1 q2 q3
                  exact owes F9 H9 S9 accV9 T9 q1 q2 (by rw [List.append_assoc] at q3; exact q3)
end
end NB
end
section
set_option linter.all false
/-! NBSound11: list comprehensions of two clauses; the second walks a list that is being walked. -/
namespace NB
open PySem PySem.Spec PyProof.Rows L2
section
variable {wd : Wd} {W : WX} {F F' F0 F1 F2 F3 R R1 R2 H H' H1 H2 H3 : Hp} {L L' : Nat → Hp} {σ : L2.St} {ε ε' ε1 ε2 ε3 : Env} {S S' S1 S3 : Own} {T U T0 : Addr → Prop} {X : Cx} {Q : VK} {E : XK} {K : PySem.W.Frag} {own : List Nat} {A : Addr} {acc : List NB.D}
/-- a list is being built at A -/
def Bd (wd : Wd) (F1 R : Hp) (L : Nat → Hp) (A : Addr) (F H : Hp) (σ : L2.St) (ε : Env) (S : Own) (acc : List NB.D) : Prop :=
  Post F1 R F H ∧ OK wd F R L H σ ε S ∧ F A = none ∧ R A = none ∧ (∀ j, ¬ S j A) ∧ ∃ accV T, RpDs wd F H accV acc T ∧ H A = some (.lst accV) ∧ Tmp F R H S T ∧ ¬ T A ∧ accV.length = acc.length
theorem Bd.ok (b : Bd wd F1 R L A F H σ ε S acc) : OK wd F R L H σ ε S := b.2.1
theorem Bd.base (p : Post F1 R F2 H2) (b : Bd wd F2 R L A F H σ ε S acc) : Bd wd F1 R L A F H σ ε S acc := ⟨p.comp b.1 (Same.refl _), b.2⟩
theorem Bd.self (b : Bd wd F1 R L A F H σ ε S acc) : Bd wd F R L A F H σ ε S acc := ⟨Post.refl b.2.1, b.2⟩
theorem Bd.wipe (b : Bd wd F1 R L A F H σ ε S acc) (own : List Nat) : Bd wd F1 R L A F H (L2.wipe σ own) (wipeE ε own) (fun j a => j ∉ own ∧ S j a) acc := by
  obtain ⟨p, o, f, r, s, accV, T, h1, h2, h3, h4, h5⟩ := b
  refine ⟨p, o.wipe' own, f, r, fun j z => s j z.2, accV, T, h1, h2, fun a ha => ?_, h4, h5⟩
  obtain ⟨x1, x2, x3, x4⟩ := h3 a ha
  exact ⟨x1, x2, x3, fun j z => x4 j z.2⟩
theorem Bd.yield {p : P} {x : V} {g : Pt} {QQ : L2.St → Hp → Prop} (b : Bd wd F1 R L A F2 H2 σ ε S acc) (hF : Same F0 F2) (y : YI wd F0 H2 x H3 p) (ea : assign ε g (.val p) = .ok ε2)
    (h : ∀ σ2 F3 S2, Bd wd F1 R L A F3 H3 σ2 ε2 S2 acc → σ2.length = σ.length → (∀ i, i ∉ g.idx → σ2[i]? = σ[i]?) → QQ σ2 H3) : tgt K g x σ H3 QQ := by
  obtain ⟨p2, o2, nF, nR, nS, accV, T, r2, hD2, t2, nT, hl⟩ := b
  obtain ⟨F3, o3, p3, k3, rx, nF3, t3⟩ : ∃ F3, OK wd F3 R L H3 σ ε S ∧ Post F2 R F3 H3 ∧ Same H2 H3 ∧ Rp wd F3 x p ∧ F3 A = none ∧ Tmp F3 R H3 S T := by
    rcases y with ⟨rfl, rx⟩ | ⟨a, vs, qs, rfl, ha, rfl, rfl, rx⟩
    · exact ⟨F2, o2, Post.refl o2, Same.refl _, Rp.mono hF p x rx, nF, t2⟩
    · have kk : Same H2 (upd H2 a (.tup vs)) := fun b x e => by rw [upd_ne (ne_of_none e ha)]; exact e
      obtain ⟨oa, pa, na⟩ := o2.alloc (u := .tup vs) ha
      have ta : Tmp F2 R (upd H2 a (.tup vs)) S (fun b => b = a) := fun b z => by
        rw [z]
        exact ⟨Same.none' o2.fh ha, Same.none' o2.rh ha, ⟨_, upd_same⟩, na⟩
      obtain ⟨og, pg⟩ := oa.grow ta
      have aD : A ≠ a := fun z => by rw [z, ha] at hD2; cases hD2
      refine ⟨_, og, pa.comp pg (Same.refl _), kk, ?_, addR_none nF aD, fun b hb => ?_⟩
      · simp only [Rp]
        exact ⟨a, vs, rfl, addR_at oa.fh rfl upd_same, Rps.mono (hF.trans addR_in) qs vs rx⟩
      · obtain ⟨x1, x2, ⟨u, x3⟩, x4⟩ := t2 b hb
        exact ⟨addR_none x1 fun z => (ne_of_none x3 ha) z, x2, ⟨u, kk _ _ x3⟩, x4⟩
  have r3 : RpDs wd F3 H3 accV acc T := RpDs.mono p3.ff acc accV T T r2 (fun _ z => z) fun b u _ z => k3 b u z
  have hD3 : H3 A = some (.lst accV) := k3 _ _ hD2
  refine assign_ok (T := fun _ => False) o3 (by simp only [RpD]; exact rx) noTmp ea fun σ2 S2 o4 s4 l4 k4 => ?_
  have nS2 : ∀ j a, ¬ S j a → ¬ S2 j a := fun j a n z => (s4 j a z).elim n id
  refine h σ2 F3 S2 ⟨p2.comp p3 (Same.refl _), o4, nF3, nR, fun j => nS2 j _ (nS j), accV, T, r3, hD3, fun a ha => ?_, nT, hl⟩ l4 k4
  obtain ⟨x1, x2, x3, x4⟩ := t3 a ha
  exact ⟨x1, x2, x3, fun j => nS2 j a (x4 j)⟩
theorem Bd.out (b : Bd wd F1 R L A F H σ ε S acc) : ∃ G, Same R G ∧ OK wd F G L H σ ε S ∧
    (∀ F' H' ε' S', Post F G F' H' → OK wd F' G L H' σ ε' S' → Bd wd F1 R L A F' H' σ ε' S' acc) ∧
    (∀ F' H' ε' S' v d T', Post F G F' H' → OK wd F' G L H' σ ε' S' → RpD wd F' H' v d T' → Tmp F' G H' S' T' →
      ∃ accV, H' A = some (.lst accV) ∧ accV.length = acc.length ∧ Bd wd F1 R L A F' (upd H' A (.lst (accV ++ [v]))) σ ε' S' (acc ++ [d])) := by
  obtain ⟨p1, o1, nF, nR, nS, accV, T, r1, hD1, t1, nT, hl⟩ := b
  have tD : ∀ a, (T a ∨ a = A) → (∃ u, H a = some u) ∧ F a = none ∧ R a = none ∧ ∀ j, ¬ S j a := fun a ha => by
    rcases ha with ha | rfl
    · obtain ⟨x1, x2, x3, x4⟩ := t1 a ha
      exact ⟨x3, x1, x2, x4⟩
    · exact ⟨⟨_, hD1⟩, nF, nR, nS⟩
  have og := o1.frame (T := fun a => T a ∨ a = A) fun j a s z => (tD a z).2.2.2 j s
  have inn : ∀ F' H' ε' S', Post F (addR R H (fun a => T a ∨ a = A)) F' H' → OK wd F' (addR R H (fun a => T a ∨ a = A)) L H' σ ε' S' →
      (∀ a u, (T a ∨ a = A) → H a = some u → H' a = some u) ∧ (∀ a, (T a ∨ a = A) → F' a = none ∧ ∀ j, ¬ S' j a) := fun F' H' ε' S' p o => by
    refine ⟨fun a u ha z => p.rh a u (addR_at o1.rh ha z), fun a ha => ?_⟩
    obtain ⟨⟨u, x1⟩, x2, x3, x4⟩ := tD a ha
    have at2 := addR_at o1.rh (T := fun a => T a ∨ a = A) ha x1
    refine ⟨p.gr a u at2 x2, fun j z => ?_⟩
    have := (o.out j a z).2.1
    rw [at2] at this; cases this
  refine ⟨_, addR_in, og, fun F' H' ε' S' p o => ?_, fun F' H' ε' S' v d T' p o r t => ?_⟩
  · obtain ⟨k, m⟩ := inn F' H' ε' S' p o
    refine ⟨p1.comp p addR_in, o.unframe addR_in o1.lr, (m A (.inr rfl)).1, nR, (m A (.inr rfl)).2, accV, T, RpDs.mono p.ff acc accV T T r1 (fun _ z => z) fun b u hb z => k b u (.inl hb) z, k _ _ (.inr rfl) hD1, fun a ha => ?_, nT, hl⟩
    obtain ⟨⟨u, x1⟩, x2, x3, x4⟩ := tD a (.inl ha)
    exact ⟨(m a (.inl ha)).1, x3, ⟨u, k a u (.inl ha) x1⟩, (m a (.inl ha)).2⟩
  · obtain ⟨k, m⟩ := inn F' H' ε' S' p o
    have atD := addR_at o1.rh (T := fun a => T a ∨ a = A) (.inr rfl) hD1
    have nT' : ¬ T' A := fun z => by
      have := (t A z).2.1
      rw [atD] at this; cases this
    have nF' := (m A (.inr rfl)).1
    have nS' := (m A (.inr rfl)).2
    have o9 := (o.unframe (addR_in (R := R)) o1.lr).write (D := A) (u := .lst (accV ++ [v])) nF' nR nS'
    have kw : ∀ b u, b ≠ A → H' b = some u → upd H' A (.lst (accV ++ [v])) b = some u := fun b u n z => by rw [upd_ne n]; exact z
    have pp := p1.comp p (addR_in (R := R))
    have dj : ∀ a, T a → ¬ T' a := fun a ha z => by
      obtain ⟨⟨u, x1⟩, x2, x3, x4⟩ := tD a (.inl ha)
      have at2 := addR_at o1.rh (T := fun a => T a ∨ a = A) (.inl ha) x1
      have := (t a z).2.1
      rw [at2] at this; cases this
    refine ⟨accV, k _ _ (.inr rfl) hD1, hl, ⟨pp.ff, o9.fh, o9.rh, pp.gr⟩, o9, nF', nR, nS', accV ++ [v], fun a => T a ∨ T' a, ?_, upd_same, fun a ha => ?_, fun z => z.elim nT nT', by simp [hl]⟩
    · refine RpDs.app (RpDs.mono p.ff acc accV T T r1 (fun _ z => z) fun b u hb z => kw b u (fun y => nT (y ▸ hb)) (k b u (.inl hb) z)) ?_ dj
      simp only [RpDs]
      exact ⟨v, [], T', fun _ => False, rfl, RpD.mono (Same.refl _) d v T' T' r (fun _ z => z) (fun b u hb z => kw b u (fun y => nT' (y ▸ hb)) z), rfl, fun _ z => z, fun _ z => z.elim, fun _ _ z => z⟩
    · rcases ha with ha | ha
      · obtain ⟨⟨u, x1⟩, x2, x3, x4⟩ := tD a (.inl ha)
        exact ⟨(m a (.inl ha)).1, x3, ⟨u, kw a u (fun y => nT (y ▸ ha)) (k a u (.inl ha) x1)⟩, (m a (.inl ha)).2⟩
      · obtain ⟨x1, x2, ⟨u, x3⟩, x4⟩ := t a ha
        exact ⟨x1, Same.none' (addR_in (R := R)) x2, ⟨u, kw a u (fun y => nT' (y ▸ ha)) x3⟩, x4⟩
/-- no error may leave such a block -/
abbrev W0 : WX := fun _ _ _ _ => False
theorem wipe_two {σ : L2.St} {vs own : List Nat} (h : ∀ i ∈ vs, i ∈ own) : L2.wipe (L2.wipe σ vs) own = L2.wipe σ own :=
  wipe_congr (wipe_length _ _) fun j hj => wipe_out fun z => hj (h j z)
theorem lc2_E {g g1 : Pt} {i1 : Nat} {it : Env → NB.R (List P × List (Arg × Env) × Env)} {fi : Env → NB.R (Bool × Env)} {fe : Env → NB.R (NB.D × Env)} {wi1 : TI} {tt : TT} (hg : ∀ i ∈ g.idx ++ g1.idx, i ∈ own)
    (htt : ∀ σ H QQ, QQ true H → tt σ H QQ) (hw1 : ∀ σ H Rr a xs, σ[i1]? = some (some (.ref a)) → H a = some (.lst xs) → Rr (Itl K a) H → wi1 σ H Rr) : ∀ σ H Q,
    tE wd W (fun ε => it ε >>= fun (ps, us, ε1) => match lcLoop2 g own (fun ε => match ε[i1]? with
      | some (.lk ps1) => lcLoop g1 g1.idx (lcBody fi fe) ps1 (wipeE ε g1.idx)
      | _ => .stuck) ps (wipeE ε1 own) with
      | .ok (ds, ε2) => if ds.length ≤ cap then .ok (.lst ds, unlocks us (unwipe ε1 ε2 own)) else .stuck
      | _ => .stuck) σ H Q →
    tLc2 (tIt wd W it) (tgt K g) tt wi1 (tgt K g1) (tT wd W0 fi) (tE wd W0 fe) own g1.idx σ H Q := by
  rintro σ H Q ⟨F, R, L, ε, S, o, h⟩
  dsimp only at h
  refine ⟨F, R, L, ε, S, o, ?_⟩
  cases e : it ε with
  | stuck => rw [e] at h; exact h
  | exc c fs => rw [e] at h; exact h
  | ok a =>
    obtain ⟨ps, us, ε1⟩ := a
    rw [e] at h
    simp only [NB.R.ok_bind] at h
    intro J F1 R1 L1 H1 S1 p1 hR o1 hI hU D hD
    generalize hbody1 : lcBody fi fe = body1 at h
    generalize hbody : (fun ε : Env => match ε[i1]? with
      | some (.lk ps1) => lcLoop g1 g1.idx body1 ps1 (wipeE ε g1.idx)
      | _ => NB.R.stuck) = body at h
    have ow := o1.wipe own
    generalize hR2 : addR R1 H1 (ownN S1 own) = R2 at ow
    have hR12 : Same R1 R2 := by rw [← hR2]; exact addR_in
    have h := h.mono p1
    have D1 : F1 D = none := Same.none' o1.fh hD
    have DR2 : R2 D = none := Same.none' ow.rh hD
    let Owes : Env → List NB.D → List P → Prop := fun εk acc rest => ∃ ds' ε2', lcLoop2 g own body rest εk = .ok (ds', ε2') ∧ (acc ++ ds').length ≤ cap ∧
      ∀ F3 H3 S3, Bd wd F1 R2 L1 D F3 H3 (L2.wipe σ own) ε2' S3 (acc ++ ds') → Q (.ref D) H3
    have start : Owes (wipeE ε1 own) [] ps := by
      cases q : lcLoop2 g own body ps (wipeE ε1 own) with
      | stuck => rw [q] at h; exact h.elim
      | exc c fs => rw [q] at h; exact h.elim
      | ok b =>
        obtain ⟨ds', ε2'⟩ := b
        rw [q] at h
        dsimp only at h
        by_cases hcap : ds'.length ≤ cap
        case neg => rw [if_neg hcap] at h; exact h.elim
        rw [if_pos hcap] at h
        refine ⟨ds', ε2', q, hcap, fun F3 H3 S3 b => ?_⟩
        obtain ⟨p3, o3, nF, nR, nS, accV, T, r3, hD3, t3, nT, hl⟩ := b
        rw [← hR2] at o3 p3 nR t3
        obtain ⟨S4, o4, s4⟩ := OK.unwipe o1 o3 p3
        obtain ⟨S5, o5, s5⟩ := hU F3 H3 σ _ S4 (p3.weak addR_in) o4
        have nS5 : ∀ j a, (addR R1 H1 (ownN S1 own) a = none) → (∀ j, ¬ S3 j a) → ¬ S5 j a := fun j a n1 n2 z => by
          rcases s5 j a z with z | ⟨u, z⟩
          · rcases s4 j a z with z | ⟨u, z⟩
            · exact n2 j z
            · rw [n1] at z; cases z
          · rw [Same.none' addR_in n1] at z; cases z
        refine h (.ref D) F3 H3 S5 (fun a => a = D ∨ T a) ⟨p3.ff, p3.fh, hR.trans (addR_in.trans p3.rh), fun b u e f => p3.gr b u (addR_in b u (hR b u e)) f⟩ o5 ?_ fun a ha => ?_
        · simp only [RpD, List.nil_append] at r3 ⊢
          exact ⟨D, accV, T, rfl, hD3, .inl rfl, nT, fun b z => .inr z, r3⟩
        · rcases ha with rfl | ha
          · exact ⟨nF, Same.none' (hR.trans addR_in) nR, ⟨_, hD3⟩, fun i => nS5 i _ nR nS⟩
          · obtain ⟨x1, x2, x3, x4⟩ := t3 a ha
            exact ⟨x1, Same.none' (hR.trans addR_in) x2, x3, fun i => nS5 i a x2 x4⟩
    let WO : Nat → Nat → Hp → Prop := fun i m H => m = ps.length - i ∧ i ≤ ps.length ∧ ∃ F2 εk Sk acc, Bd wd F1 R2 L1 D F2 H (L2.wipe σ own) εk Sk acc ∧ Owes εk acc (ps.drop i)
    refine ⟨WO, ⟨ps.length, by simp, Nat.zero_le _, F1, wipeE ε1 own, _, [], ⟨⟨Same.refl _, ?_, ?_, fun _ _ _ z => z⟩, ow.write D1 DR2 (fun j z => ?_), D1, DR2, fun j z => ?_, [], fun _ => False, rfl, upd_same, noTmp, fun z => z, rfl⟩, start⟩, ?_⟩
    · exact o1.fh.trans fun b x e => by rw [upd_ne (ne_of_none e hD)]; exact e
    · exact ow.rh.trans fun b x e => by rw [upd_ne (ne_of_none e hD)]; exact e
    · obtain ⟨u, y⟩ := (ow.out j D z).2.2
      rw [hD] at y; cases y
    · obtain ⟨u, y⟩ := (ow.out j D z).2.2
      rw [hD] at y; cases y
    rintro i m H2 ⟨rfl, hi, F2, εk, Sk, acc, b2, owes⟩
    have sF : Same F1 H2 := b2.1.ff.trans b2.1.fh
    have sR : Same R1 H2 := hR12.trans b2.1.rh
    by_cases hlt : i < ps.length
    case neg =>
      have hi' : i = ps.length := by omega
      subst hi'
      refine .inl ⟨hI.stops H2 sF sR, ?_⟩
      obtain ⟨ds', ε2', q1, q2, q3⟩ := owes
      rw [List.drop_length] at q1
      simp only [lcLoop2, NB.R.ok.injEq, Prod.mk.injEq] at q1
      obtain ⟨rfl, rfl⟩ := q1
      exact q3 F2 H2 Sk (by rw [List.append_nil]; exact b2)
    case pos =>
      refine .inr ⟨hI.goes i H2 hlt sF sR, WO (i + 1) (ps.length - (i + 1)), fun H' z => ⟨_, by omega, z⟩, fun x H3 y => ?_⟩
      have hp : ps[i]? = some ps[i] := List.getElem?_eq_getElem hlt
      have hdrop : ps.drop i = ps[i] :: ps.drop (i + 1) := List.drop_eq_getElem_cons hlt
      obtain ⟨ds', ε2', q1, q2, q3⟩ := owes
      rw [hdrop] at q1
      generalize ps[i] = p at hp q1
      have y := hI.yields i H2 x H3 p hp sF sR y
      simp only [lcLoop2] at q1
      cases ea : assign εk g (.val p) with
      | stuck => rw [ea] at q1; cases q1
      | exc c fs => rw [ea] at q1; cases q1
      | ok ε2 =>
        rw [ea] at q1
        simp only [NB.R.ok_bind] at q1
        have b2w := b2
        refine Bd.yield (b2w) b2.1.ff y ea fun σ2 F3 S2 b3 l4 k4 => ?_
        have hw : L2.wipe σ2 own = L2.wipe σ own := by
          rw [wipe_congr (σ := L2.wipe σ own) (by rw [l4]) (fun j hj => k4 j fun z => hj (hg j (List.mem_append_left _ z)))]
          exact wipe_congr (wipe_length _ _) fun j hj => wipe_out hj
        refine ⟨hw, htt _ _ _ ?_⟩
        rw [if_pos rfl]
        -- the list that is walked
        rw [← hbody] at q1
        dsimp only at q1
        rw [hbody] at q1
        cases es : ε2[i1]? with
        | none => rw [es] at q1; cases q1
        | some sl =>
          rw [es] at q1
          cases sl with
          | no => cases q1
          | ow d => cases q1
          | lk ps1 =>
            dsimp only at q1
            obtain ⟨a, xs, s1, s2, s3⟩ := b3.ok.sl i1 _ es
            have s1' : σ2[i1]? = some (some (.ref a)) := by
              cases q : σ2[i1]? with
              | none => rw [q] at s1; cases s1
              | some w => rw [q] at s1; exact congrArg some s1
            have hx3 : R2 a = some (.lst xs) := b3.ok.lr i1 a _ s2
            refine hw1 σ2 H3 _ a xs s1' (b3.ok.rh a _ hx3) ?_
            cases e1 : lcLoop g1 g1.idx body1 ps1 (wipeE ε2 g1.idx) with
            | stuck => rw [e1] at q1; cases q1
            | exc c fs => rw [e1] at q1; cases q1
            | ok dd =>
              obtain ⟨ds1, ε3⟩ := dd
              rw [e1] at q1
              simp only [NB.R.ok_bind] at q1
              cases e2 : lcLoop2 g own body (ps.drop (i + 1)) (wipeE ε3 own) with
              | stuck => rw [e2] at q1; cases q1
              | exc c fs => rw [e2] at q1; cases q1
              | ok dd2 =>
                obtain ⟨ds2, ε4⟩ := dd2
                rw [e2] at q1
                simp only [NB.R.ok_bind, NB.R.pure_eq, NB.R.ok.injEq, Prod.mk.injEq] at q1
                obtain ⟨rfl, rfl⟩ := q1
                have lps : xs.length = ps1.length := (s3.len).symm ▸ rfl
                let OI : Env → List NB.D → List P → Prop := fun ε5 acc5 rest => ∃ ds5, lcLoop g1 g1.idx body1 rest ε5 = .ok (ds5, ε3) ∧ acc5 ++ ds5 = acc ++ ds1
                let WI : Nat → Nat → Hp → Prop := fun j k H => k = ps1.length - j ∧ j ≤ ps1.length ∧ ∃ F5 ε5 S5 acc5, Bd wd F3 R2 L1 D F5 H (L2.wipe σ2 g1.idx) ε5 S5 acc5 ∧ OI ε5 acc5 (ps1.drop j)
                refine ⟨WI, ⟨ps1.length, by simp, Nat.zero_le _, F3, _, _, acc, (b3.self).wipe g1.idx, ds1, e1, rfl⟩, ?_⟩
                rintro j k H5 ⟨rfl, hj, F5, ε5, S5, acc5, b5, ds5, e5, e6⟩
                have ha5 : H5 a = some (.lst xs) := b5.1.rh a _ hx3
                by_cases hlt1 : j < ps1.length
                case neg =>
                  have hj' : j = ps1.length := by omega
                  subst hj'
                  refine .inl ⟨⟨xs, .of ha5, by omega⟩, ?_⟩
                  have b9 := (b5.base b3.1).wipe own
                  rw [wipe_two (fun i hi => hg i (List.mem_append_right _ hi)), hw] at b9
                  rw [List.drop_length] at e5
                  simp only [lcLoop, NB.R.ok.injEq, Prod.mk.injEq] at e5
                  obtain ⟨rfl, rfl⟩ := e5
                  rw [List.append_nil] at e6
                  subst e6
                  exact ⟨rfl, hlt, F5, _, _, _, b9, ds2, ε4, e2, by rw [List.append_assoc]; exact q2, by rw [List.append_assoc]; exact q3⟩
                case pos =>
                  have hxj : xs[j]? = some (xs[j]'(by omega)) := List.getElem?_eq_getElem (by omega)
                  refine .inr ⟨⟨xs, _, .of ha5, hxj⟩, WI (j + 1) (ps1.length - (j + 1)), fun H' z => ⟨_, by omega, z⟩, fun x1 H6 y1 => ?_⟩
                  obtain ⟨rfl, y1⟩ := y1
                  have y1 := y1 xs (.of ha5)
                  have hp1 : ps1[j]? = some ps1[j] := List.getElem?_eq_getElem hlt1
                  have hdrop1 : ps1.drop j = ps1[j] :: ps1.drop (j + 1) := List.drop_eq_getElem_cons hlt1
                  rw [hdrop1] at e5
                  generalize ps1[j] = p6 at hp1 e5
                  obtain ⟨v6, n6, rv6⟩ := s3.get hp1
                  rw [n6] at y1; cases y1
                  simp only [lcLoop] at e5
                  cases ea1 : assign ε5 g1 (.val p6) with
                  | stuck => rw [ea1] at e5; cases e5
                  | exc c fs => rw [ea1] at e5; cases e5
                  | ok ε6 =>
                    rw [ea1] at e5
                    simp only [NB.R.ok_bind] at e5
                    have hwv : L2.wipe (L2.wipe σ2 g1.idx) g1.idx = L2.wipe σ2 g1.idx := wipe_two fun i hi => hi
                    refine Bd.yield b5 b5.1.ff (.inl ⟨rfl, rv6⟩) ea1 fun σ6 F6 S6 b6 l6 k6 => ?_
                    have hw6 : L2.wipe σ6 g1.idx = L2.wipe σ2 g1.idx := by
                      rw [wipe_congr (σ := L2.wipe σ2 g1.idx) (by rw [l6]) (fun j hj => k6 j hj)]
                      exact hwv
                    refine ⟨hw6, ?_⟩
                    obtain ⟨G, sG, og, back, app⟩ := b6.out
                    rw [← hbody1] at e5
                    rw [show lcBody fi fe ε6 = (fi ε6 >>= fun (k, ε3) => if k then fe ε3 >>= fun (d, ε4) => pure (some d, ε4) else pure (none, ε3)) from rfl] at e5
                    rw [hbody1] at e5
                    refine ⟨F6, G, L1, ε6, S6, og, ?_⟩
                    cases e8 : fi ε6 with
                    | stuck => rw [e8] at e5; cases e5
                    | exc c fs => rw [e8] at e5; cases e5
                    | ok kk =>
                      obtain ⟨kb, ε8⟩ := kk
                      rw [e8] at e5
                      simp only [NB.R.ok_bind] at e5
                      intro F8 H8 S8 p8 o8
                      cases kb with
                      | false =>
                        simp only [Bool.false_eq_true, if_false, NB.R.pure_eq, NB.R.ok_bind] at e5 ⊢
                        cases e9 : lcLoop g1 g1.idx body1 (ps1.drop (j + 1)) (wipeE ε8 g1.idx) with
                        | stuck => rw [e9] at e5; cases e5
                        | exc c fs => rw [e9] at e5; cases e5
                        | ok dd9 =>
                          obtain ⟨ds9, ε9⟩ := dd9
                          rw [e9] at e5
                          simp only [NB.R.ok_bind, NB.R.ok.injEq, Prod.mk.injEq] at e5
                          obtain ⟨rfl, rfl⟩ := e5
                          have b8 := (back F8 H8 ε8 S8 p8 o8).wipe g1.idx
                          rw [hw6] at b8
                          exact ⟨rfl, hlt1, F8, _, _, acc5, b8, ds9, e9, e6⟩
                      | true =>
                        simp only [if_true] at e5 ⊢
                        refine ⟨F8, G, L1, ε8, S8, o8, ?_⟩
                        cases e7 : fe ε8 with
                        | stuck => rw [e7] at e5; cases e5
                        | exc c fs => rw [e7] at e5; cases e5
                        | ok dd7 =>
                          obtain ⟨d, ε7⟩ := dd7
                          rw [e7] at e5
                          simp only [NB.R.ok_bind, NB.R.pure_eq] at e5
                          intro v F7 H7 S7 T7 p7 o7 r7 t7
                          obtain ⟨accV, z1, z2, b7⟩ := app F7 H7 ε7 S7 v d T7 (p8.comp p7 (Same.refl _)) o7 r7 t7
                          cases e9 : lcLoop g1 g1.idx body1 (ps1.drop (j + 1)) (wipeE ε7 g1.idx) with
                          | stuck => rw [e9] at e5; cases e5
                          | exc c fs => rw [e9] at e5; cases e5
                          | ok dd9 =>
                            obtain ⟨ds9, ε9⟩ := dd9
                            rw [e9] at e5
                            simp only [NB.R.ok_bind, NB.R.ok.injEq, Prod.mk.injEq] at e5
                            obtain ⟨rfl, rfl⟩ := e5
                            have e6' : (acc5 ++ [d]) ++ ds9 = acc ++ ds1 := by rw [← e6, List.append_assoc]; rfl
                            refine ⟨accV, z1, ?_, ?_⟩
                            · have hl : acc5.length < cap := by
                                have l1 := congrArg List.length e6'
                                simp only [List.length_append, List.length_singleton] at l1 q2
                                omega
                              rw [z2]
                              exact cap_line hl
                            · have b8 := b7.wipe g1.idx
                              rw [hw6] at b8
                              exact ⟨rfl, hlt1, F7, _, _, acc5 ++ [d], b8, ds9, e9, e6'⟩
end
end NB
end
section
set_option linter.all false
/-! NBCmp: from the text's trees to the small language, with every condition that the rules ask. -/
namespace NB
open PySem L2
/-- what the names of the text stand for -/
structure Info where
  fns : Str → Option Nat
  /-- what may be called while an error is handled -/
  hfns : Str → Option Nat
  cls : Str → Option Nat
  con : Str → Option P
  /-- the module has no such name: the built-in one is meant -/
  free : Str → Bool
  /-- the def changes its first argument -/
  mu : Nat → Bool
  /-- errors' fields that are read -/
  fld : Str → Bool
mutual
/-- nothing within changes a name's value -/
def X.still (mu : Nat → Bool) : X → Bool
  | .v _ | .c _ => true
  | .bin _ a b | .cmp _ a b | .and_ a b | .or_ a b | .ix a b => a.still mu && b.still mu
  | .neg a | .notv a | .attr a _ | .isi a _ | .hold a => a.still mu
  | .cmp2 _ _ a b c | .ife a b c => a.still mu && b.still mu && c.still mu
  | .tup xs | .lst xs | .bi _ xs => xs.still mu
  | .sl a lo hi => a.still mu && lo.still mu && hi.still mu
  | .call f xs => !mu f && xs.still mu
  | .lc _ _ it ifs e => it.still mu && ifs.still mu && e.still mu
  | .lc2 _ _ it _ _ ifs e => it.still mu && ifs.still mu && e.still mu
  | .meth _ _ _ | .methP _ _ _ _ => false
def XL.still (mu : Nat → Bool) : XL → Bool
  | .nil => true
  | .cons x xs => x.still mu && xs.still mu
def XO.still (mu : Nat → Bool) : XO → Bool
  | .none => true
  | .some x => x.still mu
def It.still (mu : Nat → Bool) : It → Bool
  | .rng a b => a.still mu && b.still mu
  | .seq a | .enum a => a.still mu
  | .zip xs => xs.still mu
end
def held (I : Info) (x : X) : X := if x.still I.mu then .hold x else x
def lk (sc : Scope) (x : Str) : Option NameKind := sc.names.lookup x
def isVis (sc : Scope) (x : Str) : Bool := match lk sc x with
  | some .local => true
  | some .cell => true
  | some .free => true
  | _ => false
def isLoc (sc : Scope) (x : Str) : Bool := match lk sc x with
  | some .local => true
  | some .cell => true
  | _ => false
def isGl (sc : Scope) (x : Str) : Bool := match lk sc x with
  | some .globalImplicit => true
  | _ => false
def place (N : List Str) (x : Str) : Option Nat := N.findIdx? (fun y => decide (y = x))
/-- a context: all names, the scope at hand, the names that are stored here -/
structure Cc where
  N : List Str
  sc : Scope
  st : Str → Bool
  /-- within a def itself, not a comprehension -/
  top : Bool
  /-- an error is being handled -/
  hot : Bool
  /-- the first slot keeps its object -/
  kp : Bool
def Cc.fns (I : Info) (c : Cc) (x : Str) : Option Nat := if c.hot then I.hfns x else I.fns x
def noDbg (x : Str) : Bool := !(x == ("__debug__" : Str)) && !(x == ("__classdict__" : Str)) && !(x == ("__name__" : Str))
def cName (I : Info) (c : Cc) (x : Str) : Option X :=
  if noDbg x then (if isVis c.sc x then (place c.N x).map .v else if isGl c.sc x then (I.con x).map .c else none) else none
def bop : Operator → Option BOp
  | .Add => some .add
  | .Sub => some .sub
  | .Mult => some .mul
  | .FloorDiv => some .fdiv
  | .Mod => some .mod
  | .Pow => some .pow
  | _ => none
def cop : CmpOp → Option COp
  | .Eq => some .eq
  | .NotEq => some .ne
  | .Lt => some .lt
  | .LtE => some .le
  | .Gt => some .gt
  | .GtE => some .ge
  | .Is => some .is
  | .IsNot => some .isnot
  | _ => none
def biOf (x : Str) : Option BI :=
  if x = ("len" : Str) then some .len else if x = ("abs" : Str) then some .abs else if x = ("int" : Str) then some .int_ else if x = ("max" : Str) then some .max_
  else if x = ("min" : Str) then some .min_ else if x = ("sum" : Str) then some .sum_ else if x = ("list" : Str) then some .list_ else if x = ("tuple" : Str) then some .tuple_ else none
def clOf (I : Info) (c : Cc) : Expr → Option Cl
  | .Name x _ => if isGl c.sc x && noDbg x then (match I.cls x with
    | some k => some (.own k)
    | none => if I.free x then (if x = ("int" : Str) then some .int_ else if x = ("bool" : Str) then some .bool_ else if x = ("str" : Str) then some .str_ else if x = ("list" : Str) then some .list_ else if x = ("tuple" : Str) then some .tuple_ else none) else none) else none
  | _ => none
def Cl.bltn : Cl → Bool
  | .own _ => false
  | _ => true
def mthOf (x : Str) (n : Nat) : Option Mth :=
  if x = ("append" : Str) ∧ n = 1 then some .append else if x = ("extend" : Str) ∧ n = 1 then some .extend else if x = ("pop" : Str) ∧ n = 1 then some .popAt else none
def isName : Expr → Option Str
  | .Name x _ => some x
  | _ => none
def constI : Expr → Option Int
  | .Constant (.int i) _ _ => some i
  | _ => none
/-- told[1][0]: the name, the places -/
def pathOf : Expr → Option (Str × List Int)
  | .Name x _ => some (x, [])
  | .Subscript e (.Constant (.int i) _ _) _ => (pathOf e).map fun (x, p) => (x, p ++ [i])
  | _ => none
/-- a name that is stored -/
def ptOf (c : Cc) (e : Expr) : Option Nat := match e with
  | .Name x _ => if noDbg x && c.st x then (match place c.N x with
    | some i => if c.kp && i == 0 then none else some i
    | none => none) else none
  | _ => none
/-- a target -/
def cPt (c : Cc) : Expr → Option Pt
  | .Name x p => (ptOf c (.Name x p)).map .nm
  | .Tuple es _ _ => if c.hot then none else (es.mapM (ptOf c)).map .tup
  | _ => none
def ownOf (c : Cc) (scope : Scope) : List (Str × Nat) := scope.names.filterMap fun (n, k) => match k with
  | .local => (place c.N n).map fun i => (n, i)
  | .cell => (place c.N n).map fun i => (n, i)
  | _ => none
/-- within a comprehension -/
def inC (c : Cc) (scope : Scope) : Cc := { N := c.N, sc := relS scope c.sc, st := fun x => isLoc scope x, top := false, hot := c.hot, kp := false }
def boX : BoolOp → X → X → X
  | .And, a, b => .and_ a b
  | .Or, a, b => .or_ a b
/-- zip and enumerate give tuples: the target must take them apart -/
def itT : It → Expr → Bool
  | .zip _, .Tuple _ _ _ => true
  | .enum _, .Tuple _ _ _ => true
  | .zip _, _ => false
  | .enum _, _ => false
  | _, _ => true
mutual
def cX (I : Info) : Nat → Cc → Expr → Option X
  | 0, _, _ => none
  | n + 1, c, e => match e with
    | .Name x _ => cName I c x
    | .Constant (.int i) _ _ => some (.c (.int i))
    | .Constant (.str s) _ _ => some (.c (.str s))
    | .Constant (.bool b) _ _ => some (.c (.bl b))
    | .Constant .none _ _ => some (.c .non)
    | .BinOp a o b _ => match bop o, cX I n c a, cX I n c b with
      | some o, some a, some b => some (.bin o a b)
      | _, _, _ => none
    | .UnaryOp .USub a _ => (cX I n c a).map .neg
    | .UnaryOp .Not a _ => (cX I n c a).map .notv
    | .BoolOp o [a] _ => cX I n c a
    | .BoolOp o (a :: b :: r) p => match cX I n c a, cX I n c (.BoolOp o (b :: r) p) with
      | some a, some b => some (boX o a b)
      | _, _ => none
    | .Compare a [o] [b] _ => match cop o, cX I n c a, cX I n c b with
      | some o, some a, some b => some (.cmp o a b)
      | _, _, _ => none
    | .Compare a [o, o'] [b, d] _ => match cop o, cop o', cX I n c a, cX I n c b, cX I n c d with
      | some o, some o', some a, some b, some d => some (.cmp2 o o' a b d)
      | _, _, _, _, _ => none
    | .IfExp t a b _ => match cX I n c t, cX I n c a, cX I n c b with
      | some t, some a, some b => some (.ife t a b)
      | _, _, _ => none
    | .Tuple es _ _ => (cXL I n c es).map .tup
    | .List es _ => (cXL I n c es).map .lst
    | .Subscript a (.Slice lo hi none _) _ => match cX I n c a, cXO I n c lo, cXO I n c hi with
      | some a, some lo, some hi => some (.sl a lo hi)
      | _, _, _ => none
    | .Subscript a i _ => match cX I n c a, cX I n c i with
      | some a, some i => some (.ix a i)
      | _, _ => none
    | .Attribute (.Name x p) f _ => if I.fld f then (cX I n c (.Name x p)).map (.attr · f) else none
    | .Call (.Name x p) args [] _ => if isGl c.sc x && noDbg x then (match c.fns I x with
      | some f => match args with
        | [] => none
        | _ :: _ => (cXL I n c args).map (.call f)
      | none => if I.free x then (
        if x = ("isinstance" : Str) then (match args with
          | [a, .Tuple (t :: ts) _ _] => match cX I n c a, (t :: ts).mapM (clOf I c) with
            | some a, some cs => if cs.all Cl.bltn && decide (cs.length ≤ 20) then some (.isi a cs) else none
            | _, _ => none
          | [a, t] => match cX I n c a, clOf I c t with
            | some a, some k => some (.isi a [k])
            | _, _ => none
          | _ => none)
        else if c.hot then none else match biOf x, args with
          | some .list_, [.Call (.Name y q) [b] [] _] => if y = ("range" : Str) ∧ isGl c.sc y ∧ I.free y then (cX I n c b).map fun b => .bi .range2 (.cons (.c (.int 0)) (.cons b .nil)) else (cXL I n c args).map (.bi .list_)
          | some b, _ :: _ => (cXL I n c args).map (.bi b)
          | _, _ => none) else none) else none
    | .Call (.Attribute o m ap) [a] [] cp => if ap.endLine == cp.line then (match pathOf o, mthOf m 1 with
      | some (x, []), some m => if isVis c.sc x && noDbg x then (match place c.N x, cX I n c a with
        | some i, some y => some (.meth m i (.cons y .nil))
        | _, _ => none) else none
      | some (x, p :: ps), some m => if isVis c.sc x && noDbg x then (match place c.N x, constI a with
        | some i, some k => some (.methP m i (p :: ps) [.int k])
        | _, _ => none) else none
      | _, _ => none) else none
    | .ListComp elt [⟨tg, it, ifs, 0⟩] scope _ =>
      let c1 := inC c scope
      if blkC c.N c.sc scope (ownOf c scope) && !c.hot then (match cPt c1 tg, cIt I n c it, cIf I n c1 ifs, cX I n c1 elt with
        | some g, some it, some f, some e => if g.idx.all (fun i => ((ownOf c scope).map (·.2)).contains i) && itT it tg then some (.lc g ((ownOf c scope).map (·.2)) it f e) else none
        | _, _, _, _ => none) else none
    | .ListComp elt [⟨tg, it, [], 0⟩, ⟨tg1, .Name y1 _, ifs, 0⟩] scope _ =>
      let c1 := inC c scope
      if blkC c.N c.sc scope (ownOf c scope) && !c.hot then (match cPt c1 tg, cIt I n c it, cPt c1 tg1, place c.N y1, cIf I n c1 ifs, cX I n c1 elt with
        | some g, some it, some g1, some i1, some f, some e => if (g.idx ++ g1.idx).all (fun i => ((ownOf c scope).map (·.2)).contains i) && itT it tg && isVis c1.sc y1 && noDbg y1 then some (.lc2 g ((ownOf c scope).map (·.2)) it g1 i1 f e) else none
        | _, _, _, _, _, _ => none) else none
    | _ => none
def cXL (I : Info) : Nat → Cc → List Expr → Option XL
  | 0, _, _ => none
  | n + 1, c, es => match es with
    | [] => some .nil
    | e :: es => match cX I n c e, cXL I n c es with
      | some x, some xs => some (.cons x xs)
      | _, _ => none
def cXO (I : Info) : Nat → Cc → Option Expr → Option XO
  | 0, _, _ => none
  | n + 1, c, o => match o with
    | none => some .none
    | some e => (cX I n c e).map .some
def cIf (I : Info) : Nat → Cc → List Expr → Option XO
  | 0, _, _ => none
  | n + 1, c, o => match o with
    | [] => some .none
    | [e] => (cX I n c e).map .some
    | _ => none
def cIt (I : Info) : Nat → Cc → Expr → Option It
  | 0, _, _ => none
  | n + 1, c, e => match e with
    | .Call (.Name x p) args [] q => if x = ("range" : Str) then (if isGl c.sc x && I.free x then (match args with
        | [b] => (cX I n c b).map (.rng (.c (.int 0)))
        | [a, b] => match cX I n c a, cX I n c b with
          | some a, some b => some (.rng a b)
          | _, _ => none
        | _ => none) else none)
      else if x = ("zip" : Str) then (if isGl c.sc x && I.free x && (args.length == 2 || args.length == 3) then (cXL I n c args).map .zip else none)
      else if x = ("enumerate" : Str) then (if isGl c.sc x && I.free x then (match args with
        | [a] => (cX I n c a).map .enum
        | _ => none) else none)
      else (cX I n c e).map .seq
    | _ => (cX I n c e).map .seq
end
/-- name = [..]: the block's list goes to the name at once -/
def swOk (c : Cc) (t e : Expr) : Bool := match t, e with
  | .Name y py, .ListComp _ _ scope pos => decide (lk c.sc y = some .local) && decide (c.sc.kind = .function) && (py.line == pos.line) && !(scope.names.any fun nk => nk.1 == y && (nk.2 == .local || nk.2 == .cell))
  | .Tuple _ _ _, .Tuple _ _ _ => false
  | .List _ _, _ => false
  | _, .ListComp _ _ _ _ => false
  | _, _ => true
def X.isTup : X → Bool
  | .tup _ => true
  | _ => false
mutual
def cS (I : Info) : Nat → Cc → Stmt → Option S
  | 0, _, _ => none
  | n + 1, c, s => match s with
    | .Assign [.Subscript (.Name x p) k q] e _ => if isVis c.sc x && noDbg x && swOk c (.Subscript (.Name x p) k q) e then (match place c.N x, cX I n c k, cX I n c e with
      | some i, some k, some e => some (.setix i k e)
      | _, _, _ => none) else none
    | .Assign [t] e _ => if swOk c t e then (match cPt c t, cX I n c e with
      | some g, some e => some (.asg g e)
      | _, _ => none) else none
    | .AugAssign (.Name x p) o e _ => match ptOf c (.Name x p), bop o, cX I n c e with
      | some i, some .add, some e => some (.aug i .add e)
      | some i, some .sub, some e => some (.aug i .sub e)
      | _, _, _ => none
    | .AugAssign (.Subscript (.Name x _) k _) o e _ => if isVis c.sc x && noDbg x then (match place c.N x, bop o, cX I n c k, cX I n c e with
      | some i, some .add, some k, some e => some (.augix i k .add e)
      | some i, some .sub, some k, some e => some (.augix i k .sub e)
      | _, _, _, _ => none) else none
    | .Expr (.Call f as ks p) _ => (cX I n c (.Call f as ks p)).map .ex
    | .Return (some e) _ => match e, cX I n c e with
      | .Tuple _ _ _, some x => some (.ret x)
      | _, some x => if x.isTup then none else some (.ret x)
      | _, none => none
    | .Return none _ => some .retN
    | .If t a b _ => match cX I n c t, cSS I n c a, cSS I n c b with
      | some t, some a, some b => some (.iff (held I t) a b)
      | _, _, _ => none
    | .For t it body [] _ => if c.hot then none else match cPt c t, cIt I n c it, cSS I n c body with
      | some g, some it, some b => if itT it t then some (.for_ g it b) else none
      | _, _, _ => none
    | .While t body [] _ => if c.hot then none else match cX I n c t, cSS I n c body with
      | some t, some b => some (.wh (held I t) b)
      | _, _ => none
    | .Break _ => some .bk
    | .Continue _ => some .ct
    | .Pass _ => some .pass
    | .Raise (some (.Call (.Name x _) args [] _)) none _ => if isGl c.sc x && noDbg x && !c.hot then (match args, I.cls x, cXL I n c args with
      | _ :: _, some k, some xs => some (.raise k xs)
      | _, _, _ => none) else none
    | .Try body [.ExceptHandler (some (.Name x _)) (some y) (h :: hs) _] [] [] _ => if !c.hot && isGl c.sc x && noDbg x && decide (lk c.sc y = some .local) then (match cSS I n c body, I.cls x, ptOf c (.Name y ⟨0, 0, 0, 0⟩), cSS I n { c with hot := true } (h :: hs) with
      | some b, some k, some i, some h => some (.try_ b k i h)
      | _, _, _, _ => none) else none
    | _ => none
def cSS (I : Info) : Nat → Cc → List Stmt → Option SS
  | 0, _, _ => none
  | n + 1, c, ss => match ss with
    | [] => some .nil
    | s :: ss => match cS I n c s, cSS I n c ss with
      | some s, some ss => some (.cons s ss)
      | _, _ => none
end
-- all names of a def: its parameters, its locals, those of its comprehensions
mutual
def compsE : Nat → Expr → List Scope
  | 0, _ => []
  | n + 1, e => match e with
    | .ListComp elt gs sc _ => sc :: (compsE n elt ++ gs.flatMap fun g => compsE n g.iter ++ g.ifs.flatMap (compsE n))
    | .BoolOp _ es _ => es.flatMap (compsE n)
    | .BinOp a _ b _ => compsE n a ++ compsE n b
    | .UnaryOp _ a _ => compsE n a
    | .IfExp a b c _ => compsE n a ++ compsE n b ++ compsE n c
    | .Compare a _ bs _ => compsE n a ++ bs.flatMap (compsE n)
    | .Call f as _ _ => compsE n f ++ as.flatMap (compsE n)
    | .Attribute a _ _ => compsE n a
    | .Subscript a b _ => compsE n a ++ compsE n b
    | .List es _ => es.flatMap (compsE n)
    | .Tuple es _ _ => es.flatMap (compsE n)
    | .Slice a b _ _ => (a.map (compsE n)).getD [] ++ (b.map (compsE n)).getD []
    | _ => []
def compsS : Nat → Stmt → List Scope
  | 0, _ => []
  | n + 1, s => match s with
    | .Return (some e) _ => compsE n e
    | .Assign ts e _ => ts.flatMap (compsE n) ++ compsE n e
    | .AugAssign t _ e _ => compsE n t ++ compsE n e
    | .For t i b _ _ => compsE n t ++ compsE n i ++ b.flatMap (compsS n)
    | .While t b _ _ => compsE n t ++ b.flatMap (compsS n)
    | .If t a b _ => compsE n t ++ a.flatMap (compsS n) ++ b.flatMap (compsS n)
    | .Raise (some e) _ _ => compsE n e
    | .Try b hs _ _ _ => b.flatMap (compsS n) ++ hs.flatMap fun h => match h with
      | .ExceptHandler _ _ b _ => b.flatMap (compsS n)
    | .Expr e _ => compsE n e
    | _ => []
end
def addN (N : List Str) (x : Str) : List Str := if x ∈ N then N else N ++ [x]
def locals (sc : Scope) : List Str := sc.names.filterMap fun (n, k) => match k with
  | .local => some n
  | .cell => some n
  | _ => none
def namesOf (ps : List Str) (sc : Scope) (body : List Stmt) : List Str :=
  ((body.flatMap (compsS 200)).flatMap fun s => (locals s).filter fun n => n != (".0" : Str)).foldl addN ((locals sc).foldl addN ps)
def paramsOf (a : Arguments) : List Str := a.args.map (·.arg)
def cFn (hot kp : Bool) (I : Info) (a : Arguments) (sc : Scope) (body : List Stmt) : Option Fn :=
  let ps := paramsOf a
  let N := namesOf ps sc body
  (cSS I 200 { N := N, sc := sc, st := isLoc sc, top := true, hot := hot, kp := kp } body).map fun b => ⟨N.length, ps.length, b⟩
end NB
end
section
set_option linter.all false
/-! NBCtx: what is known of a def's context. -/
namespace NB
open PySem PySem.Spec PyProof.Rows L2
/-- isinstance of the error that is handled -/
def rIsX (wd : Wd) (tb : Tab) : List V → Hp → VK → Prop := fun xs H Q => ∃ a c d k, xs = [.ref a, .ref (wd.ca k)] ∧ wd.xn = some (a, wd.ca c, d) ∧ (∃ fv, H d = some (.xd fv)) ∧ Q (.bl (tb.sub c k)) H
/-- a field of the error that is handled -/
def tXA (wd : Wd) (f : Str) (te : TE) : TE := fun σ H Q => te σ H fun x H1 => ∃ a C d fv v, x = .ref a ∧ wd.xn = some (a, C, d) ∧ H1 d = some (.xd fv) ∧ fv.lookup f = some v ∧ Q v H1
def CallOk (wd : Wd) (I : Info) (Φ : Nat → List D → NB.R (D × List D)) (W : WX) (X : Cx) (hot : Bool) (x : Str) (f : Nat) : Prop :=
  (hot = false → ∃ a k fd ps, X.mg x = some (.ref a) ∧ PySem.W.keepIn X.K (.ref a) = true ∧ FnOk X.prog X.w X.K X.mg X.base (L2N.CX X.prog X.w) k a fd ps (spF wd (I.mu f) (Φ f)) ∧ Room k X.A ∧ Binds X.K fd ps []) ∧
  (hot = true → Gl X x → (x == ("__debug__" : Str)) = false → ∀ (e : Expr) (es : List Expr) (t : TA) (p pos : Pos), PA X (e :: es) t → starEach (e :: es) X.env = (false, eval e X.env) :: starEach es X.env → (backTo pos (starEach es X.env)).any (·.1) = false → PE X (.Call (.Name x p) (e :: es) [] pos) (tCallS (spF wd (I.mu f) (Φ f)) (WE W) t))
structure Ctx (wd : Wd) (tb : Tab) (Φ : Nat → List D → NB.R (D × List D)) (I : Info) (Lf : Addr) (W : WX) (c : Cc) (X : Cx) : Prop where
  n : X.N = c.N
  nd : c.N.Nodup
  sc : X.env.scope = c.sc
  k : X.K = wd.K
  calm : c.hot = false → X.calm = true
  un : X.A.units + 64 < cLine
  fr : X.env.frame = some Lf
  st : ∃ e0 o0, X.stack = e0 :: o0 ∧ e0.frame = some Lf
  tk : Tk X Lf W
  sto : ∀ x, c.st x = true → L2.Loc X.env.scope x ∧ (X.fn x = true ∨ X.env.scope.names.lookup x = some .local)
  con : ∀ x p, I.con x = some p → ∃ u v, X.mg x = some u ∧ RelV v u ∧ ∀ F, Rp wd F v p
  free : ∀ x, I.free x = true → X.mg x = none
  fns : ∀ x f, c.fns I x = some f → CallOk wd I Φ W X c.hot x f
  xn : c.hot = false → wd.xn = none
  mu : tb.muts = I.mu
  cls : ∀ x k, I.cls x = some k → X.mg x = some (.ref (wd.ca k))
  xi : CallR X (.builtin "isinstance") (rIsX wd tb)
  xa : ∀ (x : Str) (p pos : Pos) (f : Str) te, I.fld f = true → PE X (.Name x p) te → PE X (.Attribute (.Name x p) f pos) (tXA wd f te)
section
variable {wd : Wd} {tb : Tab} {Φ : Nat → List D → NB.R (D × List D)} {I : Info} {Lf : Addr} {W : WX} {c : Cc} {X : Cx}
theorem place_ok {N : List Str} {x : Str} {i : Nat} (h : place N x = some i) : N[i]? = some x := by
  unfold place at h
  have := List.findIdx?_eq_some_iff_getElem.mp h
  obtain ⟨hl, h1, _⟩ := this
  rw [List.getElem?_eq_getElem hl]
  congr 1
  exact of_decide_eq_true h1
theorem noDbg_d {x : Str} (h : noDbg x = true) : (x == ("__debug__" : Str)) = false ∧ (x == ("__classdict__" : Str)) = false ∧ x ≠ "__name__" := by
  unfold noDbg at h
  simp only [Bool.and_eq_true, Bool.not_eq_true'] at h
  refine ⟨h.1.1, h.1.2, fun z => ?_⟩
  rw [z] at h
  simp at h
theorem Ctx.vis (C : Ctx wd tb Φ I Lf W c X) {x : Str} (h : isVis c.sc x = true) : Vis X.env.scope x := by
  unfold isVis lk at h
  unfold Vis
  rw [C.sc]
  split at h
  · exact .inl (by assumption)
  · exact .inr (.inl (by assumption))
  · exact .inr (.inr (by assumption))
  · cases h
theorem Ctx.gl (C : Ctx wd tb Φ I Lf W c X) {x : Str} (h : isGl c.sc x = true) : Gl X x := by
  unfold isGl lk at h
  unfold Gl Env.kindOf
  rw [C.sc]
  split at h
  · assumption
  · cases h
theorem isLoc_ok {sc : Scope} {x : Str} (h : isLoc sc x = true) : L2.Loc sc x := by
  unfold isLoc lk at h
  unfold L2.Loc
  split at h
  · exact .inl (by assumption)
  · exact .inr (by assumption)
  · cases h
/-- the context of a comprehension's block -/
theorem Ctx.blk (C : Ctx wd tb Φ I Lf W c X) (hh : c.hot = false) {s : Shared} {H : Hp} {scope : Scope} {C0 : Addr} {cl : List (Str × Addr)} {fp : List Addr} {xe : Value → Shared → Prop} {W' : WX}
    (tk : Tk (blkX X s H scope (compEnvC scope cl C0 X.env) fp xe) Lf W') (un : ∀ y ∈ scope.names, scope.names.lookup y.1 = some y.2) : Ctx wd tb Φ I Lf W' (inC c scope) (blkX X s H scope (compEnvC scope cl C0 X.env) fp xe) := by
  have hsc : (compEnvC scope cl C0 X.env).scope = relS scope X.env.scope := rfl
  refine ⟨C.n, C.nd, by show relS scope X.env.scope = relS scope c.sc; rw [C.sc], C.k, fun _ => C.calm hh, C.un, C.fr, C.st, tk, fun x hx => ?_, C.con, C.free, fun x f e => ?_, C.xn, C.mu, C.cls, ?_, ?_⟩
  · have hx : isLoc scope x = true := hx
    have l := isLoc_ok hx
    have keep : ∀ k, k ≠ NameKind.free → scope.names.lookup x = some k → (compEnvC scope cl C0 X.env).scope.names.lookup x = some k := fun k nk e => lookup_relS_keep nk e
    rcases l with l | l
    · exact ⟨.inl (keep _ (by decide) l), .inr (keep _ (by decide) l)⟩
    · exact ⟨.inr (keep _ (by decide) l), .inl (by show (scope.names.lookup x == some .cell) = true; rw [l]; rfl)⟩
  · have e : c.fns I x = some f := e
    refine ⟨fun _ => (C.fns x f e).1 hh, fun z => ?_⟩
    have z : c.hot = true := z
    rw [hh] at z; cases z
  · intro pins s σ H vs us Q I r h
    obtain ⟨a, c, d, k, _, e, _⟩ := h
    rw [C.xn hh] at e; cases e
  · intro x p pos f te _ he
    refine ⟨fun pins s σ H Q I h => ?_⟩
    refine attr_of rfl (thn (he.run pins s σ H _ I h) fun u s1 hh' => ?_)
    obtain ⟨_, _, _, _, _, _, _, _, _, _, e, _⟩ := hh'
    rw [C.xn hh] at e; cases e
end
end NB
end
section
set_option linter.all false
set_option maxRecDepth 10000
/-! NBSnd: expressions that compile do what the evaluator says. -/
namespace NB
open PySem PySem.Spec PyProof.Rows L2
/-- what is shown of an expression -/
structure SE (wd : Wd) (tb : Tab) (Φ : Nat → List D → NB.R (D × List D)) (W : WX) (X : Cx) (e : Expr) (x : NB.X) : Prop where
  v : ∀ i, x = .v i → PE X e (tVar i)
  val : PE X e (tE wd W (ev tb Φ x))
  t : PT X e (tT wd W (et tb Φ x))
  w : ∀ o es p, e = .BoolOp o es p → PW X e (tT wd W (et tb Φ x))
  ns : ∀ es env, starEach (e :: es) env = (false, eval e env) :: starEach es env
structure SL (wd : Wd) (tb : Tab) (Φ : Nat → List D → NB.R (D × List D)) (W : WX) (X : Cx) (es : List Expr) (xs : XL) : Prop where
  a : PA X es (tArgs wd W (eargs tb Φ xs))
  d : PA X es (tDs wd W (evs tb Φ xs))
  ns : ∀ pos env, (backTo pos (starEach es env)).any (·.1) = false
  st : ∀ e ∈ es, ∀ rest env, starEach (e :: rest) env = (false, eval e env) :: starEach rest env
section
variable {wd : Wd} {tb : Tab} {Φ : Nat → List D → NB.R (D × List D)} {I : Info} {Lf : Addr} {W : WX} {c : Cc} {X : Cx}
theorem argOf_tm {x : NB.X} {ε : NB.Env} {r : NB.R (D × NB.Env)} (h : ∀ i, x ≠ .v i) : argOf x ε r = (r >>= fun (d, ε1) => .ok (.tm d, ε1)) := by
  cases x <;> first | exact absurd rfl (h _) | rfl
theorem SE.a {e : Expr} {x : NB.X} (s : SE wd tb Φ W X e x) : PE X e (tArg wd W (fun ε => argOf x ε (ev tb Φ x ε))) := by
  by_cases h : ∃ i, x = .v i
  · obtain ⟨i, rfl⟩ := h
    exact pe_weak (s.v i rfl) name_A
  · have h : ∀ i, x ≠ .v i := fun i z => h ⟨i, z⟩
    refine pe_weak s.val fun σ H Q q => tm_A σ H Q ?_
    have e1 : (fun ε => argOf x ε (ev tb Φ x ε)) = fun ε => ev tb Φ x ε >>= fun (d, ε1) => .ok (.tm d, ε1) := funext fun ε => argOf_tm h
    rw [e1] at q
    exact q
/-- a test whose value is a truth value -/
theorem et_val {x : NB.X} : ∀ σ H Q, tT wd W (et tb Φ x) σ H Q → tE wd W (ev tb Φ x) σ H (fun v H1 => ∃ k, v = .bl k ∧ Q k H1) := fun σ H Q q => val_T σ H Q q
theorem tstOf {e : Expr} {x : NB.X} (he : PE X e (tE wd W (ev tb Φ x))) (hp : ∀ whole, isTrue e X.env whole = (do let v ← whole; standAt e.pos; holding [v] (truthy v))) : PT X e (tT wd W (et tb Φ x)) :=
  pt_weak (pt_val he hp) et_val
/-- an expression that is no operator of truth values -/
theorem mkSE {e : Expr} {x : NB.X} (he : PE X e (tE wd W (ev tb Φ x))) (hv : ∀ i, x ≠ .v i) (hp : ∀ whole, isTrue e X.env whole = (do let v ← whole; standAt e.pos; holding [v] (truthy v))) (hb : ∀ o es p, e ≠ .BoolOp o es p) (ns : ∀ es env, starEach (e :: es) env = (false, eval e env) :: starEach es env) : SE wd tb Φ W X e x :=
  ⟨fun i z => absurd z (hv i), he, tstOf he hp, fun o es p z => absurd z (hb o es p), ns⟩
theorem tst_bind {r : NB.R (D × NB.Env)} {k : D × NB.Env → NB.R (D × NB.Env)} : tst (r >>= k) = (r >>= fun a => tst (k a)) := by
  cases r <;> rfl
theorem et_not {a : NB.X} {ε : NB.Env} : et tb Φ (.notv a) ε = (et tb Φ a ε >>= fun (b, ε1) => pure (!b, ε1)) := by
  show tst (ev tb Φ a ε >>= _) = (tst (ev tb Φ a ε) >>= _)
  rw [tst_bind]
  cases ev tb Φ a ε with
  | ok d =>
    obtain ⟨d, ε1⟩ := d
    cases d with
    | val p => cases p <;> rfl
    | _ => rfl
  | exc c fs => rfl
  | stuck => rfl
theorem et_and {a b : NB.X} {ε : NB.Env} : et tb Φ (.and_ a b) ε = (et tb Φ a ε >>= fun (k, ε1) => if k then et tb Φ b ε1 else pure (false, ε1)) := by
  show tst (ev tb Φ a ε >>= _) = (tst (ev tb Φ a ε) >>= _)
  rw [tst_bind]
  cases ev tb Φ a ε with
  | ok d =>
    obtain ⟨d, ε1⟩ := d
    cases d with
    | val p =>
      cases p with
      | bl k => cases k <;> rfl
      | _ => rfl
    | _ => rfl
  | exc c fs => rfl
  | stuck => rfl
theorem et_or {a b : NB.X} {ε : NB.Env} : et tb Φ (.or_ a b) ε = (et tb Φ a ε >>= fun (k, ε1) => if k then pure (true, ε1) else et tb Φ b ε1) := by
  show tst (ev tb Φ a ε >>= _) = (tst (ev tb Φ a ε) >>= _)
  rw [tst_bind]
  cases ev tb Φ a ε with
  | ok d =>
    obtain ⟨d, ε1⟩ := d
    cases d with
    | val p =>
      cases p with
      | bl k => cases k <;> rfl
      | _ => rfl
    | _ => rfl
  | exc c fs => rfl
  | stuck => rfl
theorem et_ife {t a b : NB.X} {ε : NB.Env} : et tb Φ (.ife t a b) ε = (et tb Φ t ε >>= fun (k, ε1) => if k then et tb Φ a ε1 else et tb Φ b ε1) := by
  show tst (tst (ev tb Φ t ε) >>= _) = (tst (ev tb Φ t ε) >>= _)
  cases tst (ev tb Φ t ε) with
  | ok d =>
    obtain ⟨k, ε1⟩ := d
    cases k <;> rfl
  | exc c fs => rfl
  | stuck => rfl
/-- a test that is held -/
theorem et_hold {x : NB.X} : ∀ σ H Q, tT wd W (et tb Φ (.hold x)) σ H Q → tT wd W (et tb Φ x) σ H Q := by
  intro σ H Q q
  by_cases hc : ∃ F R L ε S, OK wd F R L H σ ε S ∧ ResT wd W F R L σ Q (et tb Φ (.hold x) ε) ∧ ∃ d ε1, ev tb Φ x (fzAll ε) = .ok (d, ε1) ∧ d.clean = false
  · obtain ⟨F, R, L, ε, S, o, h, d, ε1, e, hd⟩ := hc
    refine ⟨F, R, L, ε, S, o, ?_⟩
    have e2 : et tb Φ (.hold x) ε = et tb Φ x ε := by
      show tst (match ev tb Φ x (fzAll ε) with
        | .ok (d, _) => if d.clean then .ok (d, ε) else ev tb Φ x ε
        | .exc c fs => .exc c fs
        | .stuck => .stuck) = _
      rw [e]
      simp only [hd, Bool.false_eq_true, if_false]
      rfl
    rw [e2] at h
    exact h
  · refine hold_T σ H Q ?_
    obtain ⟨F, R, L, ε, S, o, h⟩ := q
    refine ⟨F, R, L, ε, S, o, ?_⟩
    have h' := h
    have e3 : et tb Φ (.hold x) ε = tst (match ev tb Φ x (fzAll ε) with
        | .ok (d, _) => if d.clean then .ok (d, ε) else ev tb Φ x ε
        | .exc c fs => .exc c fs
        | .stuck => .stuck) := rfl
    rw [e3] at h
    show ResT wd W F R L σ Q (match tst (ev tb Φ x (fzAll ε)) with
      | .ok (k, _) => .ok (k, ε)
      | .exc c fs => .exc c fs
      | .stuck => .stuck)
    cases e : ev tb Φ x (fzAll ε) with
    | stuck => rw [e] at h; exact h
    | exc c fs => rw [e] at h; exact h
    | ok a =>
      obtain ⟨d, ε1⟩ := a
      cases hd : d.clean with
      | false => exact absurd ⟨F, R, L, ε, S, o, h', d, ε1, e, hd⟩ hc
      | true =>
        rw [e] at h
        simp only [hd, if_true] at h
        cases d with
        | val p =>
          cases p with
          | bl k => exact h
          | _ => exact h.elim
        | _ => exact h.elim
theorem pt_ife {a b d : Expr} {t u w : TT} {pos : Pos} (ht : PT X d t) (ha : PT X a u) (hb : PT X b w) : PT X (.IfExp d a b pos) (fun σ H Q => t σ H fun k H1 => if k = true then u σ H1 Q else w σ H1 Q) := by
  refine ⟨fun pins s σ H Q I h => ?_⟩
  show wpAny _ _ (do if ← isTrue d X.env (eval d X.env) then isTrue a X.env (eval a X.env) else isTrue b X.env (eval b X.env)) _ _ _
  refine wpAny_bind (thn (ht.run pins s σ H _ I h) fun k s1 ⟨H1, I1, q1⟩ => ?_)
  cases k with
  | true => exact ha.run pins s1 σ H1 Q I1 q1
  | false => exact hb.run pins s1 σ H1 Q I1 q1
theorem bop_op {o : Operator} {b : BOp} (h : bop o = some b) : o = b.op := by
  cases o <;> simp only [bop, Option.some.injEq, reduceCtorEq] at h <;> subst h <;> rfl
theorem cop_op {o : CmpOp} {b : COp} (h : cop o = some b) : o = b.op ∧ o ≠ .In ∧ o ≠ .NotIn := by
  cases o <;> simp only [cop, Option.some.injEq, reduceCtorEq] at h <;> subst h <;> exact ⟨rfl, by decide, by decide⟩
theorem bin_SE (C : Ctx wd tb Φ I Lf W c X) {a b : Expr} {xa xb : NB.X} {o : Operator} {bo : BOp} {p : Pos} (ho : bop o = some bo) (sa : SE wd tb Φ W X a xa) (sb : SE wd tb Φ W X b xb) : SE wd tb Φ W X (.BinOp a o b p) (.bin bo xa xb) := by
  have e1 := bop_op ho
  subst e1
  refine mkSE (pe_weak (pe_op (op_bin bo) sa.a sb.a) fun σ H Q q => ?_) (fun i => by simp) (fun _ => rfl) (fun _ _ _ => by simp) (fun _ _ => rfl)
  refine two (fun F R L H σ ε S x y v u T Q ok ra t h => bin_hop C.k.symm bo ok ra t h) σ H Q ?_
  exact q
theorem cmp_SE (C : Ctx wd tb Φ I Lf W c X) {a b : Expr} {xa xb : NB.X} {o : CmpOp} {bo : COp} {p : Pos} (ho : cop o = some bo) (sa : SE wd tb Φ W X a xa) (sb : SE wd tb Φ W X b xb) : SE wd tb Φ W X (.Compare a [o] [b] p) (.cmp bo xa xb) := by
  obtain ⟨e1, n1, n2⟩ := cop_op ho
  have k : ∀ σ H Q, tE wd W (ev tb Φ (.cmp bo xa xb)) σ H Q → tOp (rCmp X.K bo) (tArg wd W (fun ε => argOf xa ε (ev tb Φ xa ε))) (tArg wd W (fun ε => argOf xb ε (ev tb Φ xb ε))) σ H Q := fun σ H Q q =>
    two (fun F R L H σ ε S x y v u T Q ok ra t h => cmp_hop bo ok ra t h) σ H Q q
  have op : OpR X (compareOp o) (rCmp X.K bo) := by rw [e1]; exact op_cmp C.un bo
  refine ⟨(fun i z => by cases z), pe_weak (pe_cmpR op sa.a sb.a (nobehind b n1 n2)) k, pt_weak (pt_cmpR op sa.a sb.a (nobehind b n1 n2)) fun σ H Q q => ?_, (fun o es p z => by cases z), fun _ _ => rfl⟩
  exact k σ H _ (val_T σ H Q q)
theorem cmp2_SE (C : Ctx wd tb Φ I Lf W c X) {a b d : Expr} {xa xb xd : NB.X} {o o' : CmpOp} {bo bo' : COp} {p : Pos} (ho : cop o = some bo) (ho' : cop o' = some bo') (sa : SE wd tb Φ W X a xa) (sb : SE wd tb Φ W X b xb) (sd : SE wd tb Φ W X d xd) : SE wd tb Φ W X (.Compare a [o, o'] [b, d] p) (.cmp2 bo bo' xa xb xd) := by
  obtain ⟨e1, _, _⟩ := cop_op ho
  obtain ⟨e2, n1, n2⟩ := cop_op ho'
  have k : ∀ σ H Q, tE wd W (ev tb Φ (.cmp2 bo bo' xa xb xd)) σ H Q → tChain (rCI bo) (rCI bo') (tArg wd W (fun ε => argOf xa ε (ev tb Φ xa ε))) (tArg wd W (fun ε => argOf xb ε (ev tb Φ xb ε))) (tArg wd W (fun ε => argOf xd ε (ev tb Φ xd ε))) σ H Q := fun σ H Q q => chain_E σ H Q q
  have op : OpR X (compareOp o) (rCI bo) := by rw [e1]; exact op_cI bo
  have op' : OpR X (compareOp o') (rCI bo') := by rw [e2]; exact op_cI bo'
  have hm : lastMarks [o, o'] [b, d] = false := nobehind d n1 n2
  refine ⟨(fun i z => by cases z), pe_weak (pe_chain op op' sa.a sb.a sd.a hm) k, pt_weak (pt_chain op op' sa.a sb.a sd.a hm) fun σ H Q q => ?_, (fun o es p z => by cases z), fun _ _ => rfl⟩
  exact k σ H _ (val_T σ H Q q)
theorem neg_SE {a : Expr} {xa : NB.X} {p : Pos} (sa : SE wd tb Φ W X a xa) : SE wd tb Φ W X (.UnaryOp .USub a p) (.neg xa) := by
  refine mkSE (pe_weak (pe_un un_neg sa.a) fun σ H Q q => ?_) (fun i => by simp) (fun _ => rfl) (fun _ _ _ => by simp) (fun _ _ => rfl)
  exact one (fun F R L H σ ε S x v T Q ok ra t h => neg_hop ok ra t h) σ H Q q
theorem not_SE {a : Expr} {xa : NB.X} {p : Pos} (sa : SE wd tb Φ W X a xa) : SE wd tb Φ W X (.UnaryOp .Not a p) (.notv xa) :=
  ⟨(fun i z => by cases z), pe_weak (pe_not sa.val) fun σ H Q q => not_E σ H Q q, pt_weak (pt_not sa.t) fun σ H Q q => not_T σ H Q (by rwa [show et tb Φ (.notv xa) = fun ε => (et tb Φ xa ε >>= fun (b, ε1) => pure (!b, ε1)) from funext fun ε => et_not] at q), (fun o es p z => by cases z), fun _ _ => rfl⟩
theorem one_SE {a : Expr} {xa : NB.X} {o : BoolOp} {p : Pos} (sa : SE wd tb Φ W X a xa) : SE wd tb Φ W X (.BoolOp o [a] p) xa := by
  have pw : PW X (.BoolOp o [a] p) (tT wd W (et tb Φ xa)) := by
    cases o
    · exact pw_and1 sa.t
    · exact pw_or1 sa.t
  exact ⟨fun i z => pe_one (sa.v i z), pe_one sa.val, pw.pt, fun _ _ _ _ => pw, fun _ _ => rfl⟩
theorem bool_SE {a b : Expr} {r : List Expr} {xa xb : NB.X} {o : BoolOp} {p : Pos} (sa : SE wd tb Φ W X a xa) (sb : SE wd tb Φ W X (.BoolOp o (b :: r) p) xb) : SE wd tb Φ W X (.BoolOp o (a :: b :: r) p) (boX o xa xb) := by
  cases o
  · have pw : PW X (.BoolOp .And (a :: b :: r) p) (tT wd W (et tb Φ (.and_ xa xb))) := pw_weak (pw_and sa.t (sb.w _ _ _ rfl)) fun σ H Q q => and_T σ H Q (by rwa [show et tb Φ (.and_ xa xb) = fun ε => (et tb Φ xa ε >>= fun (k, ε1) => if k then et tb Φ xb ε1 else pure (false, ε1)) from funext fun ε => et_and] at q)
    exact ⟨(fun i z => by cases z), pe_weak (pe_and sa.val sb.val) fun σ H Q q => and_E σ H Q q, pw.pt, fun _ _ _ _ => pw, fun _ _ => rfl⟩
  · have pw : PW X (.BoolOp .Or (a :: b :: r) p) (tT wd W (et tb Φ (.or_ xa xb))) := pw_weak (pw_or sa.t (sb.w _ _ _ rfl)) fun σ H Q q => or_T σ H Q (by rwa [show et tb Φ (.or_ xa xb) = fun ε => (et tb Φ xa ε >>= fun (k, ε1) => if k then pure (true, ε1) else et tb Φ xb ε1) from funext fun ε => et_or] at q)
    exact ⟨(fun i z => by cases z), pe_weak (pe_or sa.val sb.val) fun σ H Q q => or_E σ H Q q, pw.pt, fun _ _ _ _ => pw, fun _ _ => rfl⟩
theorem ife_SE {t a b : Expr} {xt xa xb : NB.X} {p : Pos} (st : SE wd tb Φ W X t xt) (sa : SE wd tb Φ W X a xa) (sb : SE wd tb Φ W X b xb) : SE wd tb Φ W X (.IfExp t a b p) (.ife xt xa xb) := by
  refine ⟨(fun i z => by cases z), pe_weak (pe_ifExp st.t sa.val sb.val) fun σ H Q q => ife_E σ H Q q, pt_weak (pt_ife st.t sa.t sb.t) fun σ H Q q => ?_, (fun o es p z => by cases z), fun _ _ => rfl⟩
  rw [show et tb Φ (.ife xt xa xb) = fun ε => (et tb Φ xt ε >>= fun (k, ε1) => if k then et tb Φ xa ε1 else et tb Φ xb ε1) from funext fun ε => et_ife] at q
  obtain ⟨F, R, L, ε, S, o, h⟩ := q
  refine ⟨F, R, L, ε, S, o, bind_TT h fun k ε1 F' H' S' p o' h' => ?_⟩
  cases k with
  | true => exact ⟨F', R, L, ε1, S', o', h'⟩
  | false => exact ⟨F', R, L, ε1, S', o', h'⟩
theorem tup_SE {es : List Expr} {xs : XL} {k : Nat} {p : Pos} (s : SL wd tb Φ W X es xs) : SE wd tb Φ W X (.Tuple es k p) (.tup xs) :=
  mkSE (pe_weak (pe_tup s.d) fun σ H Q q => tup_fin σ H Q q) (fun i => by simp) (fun _ => rfl) (fun _ _ _ => by simp) (fun _ _ => rfl)
theorem lst_SE {es : List Expr} {xs : XL} {p : Pos} (s : SL wd tb Φ W X es xs) : SE wd tb Φ W X (.List es p) (.lst xs) :=
  mkSE (pe_weak (pe_lst s.d) fun σ H Q q => lst_fin σ H Q q) (fun i => by simp) (fun _ => rfl) (fun _ _ _ => by simp) (fun _ _ => rfl)
theorem ix_SE {a b : Expr} {xa xb : NB.X} {k : Pos} (sa : SE wd tb Φ W X a xa) (sb : SE wd tb Φ W X b xb) (hb : ∀ lo hi st p, b ≠ .Slice lo hi st p) : SE wd tb Φ W X (.Subscript a b k) (.ix xa xb) := by
  have hp : PlainIx b := fun o i => by
    unfold subscripted
    cases b <;> first | rfl | exact absurd rfl (hb _ _ _ _)
  refine mkSE (pe_weak (pe_ix ix_seq sa.a sb.a hp) fun σ H Q q => ?_) (fun i => by simp) (fun _ => rfl) (fun _ _ _ => by simp) (fun _ _ => rfl)
  exact two (fun F R L H σ ε S x y v u T Q ok ra t h => ix_hop ok ra t h) σ H Q q
theorem sl_SE (C : Ctx wd tb Φ I Lf W c X) {a : Expr} {lo hi : Option Expr} {xa : NB.X} {xl xh : XO} {p2 k : Pos} (sa : SE wd tb Φ W X a xa) (sl : PO X lo (tO wd W (evo tb Φ xl))) (sh : PO X hi (tO wd W (evo tb Φ xh))) : SE wd tb Φ W X (.Subscript a (.Slice lo hi none p2) k) (.sl xa xl xh) :=
  mkSE (pe_weak (pe_slice sl_any sa.a sl sh) fun σ H Q q => sl3 C.k.symm σ H Q q) (fun i => by simp) (fun _ => rfl) (fun _ _ _ => by simp) (fun _ _ => rfl)
end
end NB
end
section
set_option linter.all false
set_option maxRecDepth 10000
/-! NBSnd2: names, calls, isinstance, comprehensions. -/
namespace NB
open PySem PySem.Spec PyProof.Rows L2
section
variable {wd : Wd} {tb : Tab} {Φ : Nat → List D → NB.R (D × List D)} {I : Info} {Lf : Addr} {W : WX} {c : Cc} {X : Cx}
theorem con_E {p : P} {v : V} (h : ∀ F, Rp wd F v p) : ∀ σ H Q, tE wd W (ev tb Φ (.c p)) σ H Q → tC v σ H Q := by
  rintro σ H Q ⟨F, R, L, ε, S, o, h'⟩
  exact fin_val o h' (h F)
theorem name_SE (C : Ctx wd tb Φ I Lf W c X) {x : Str} {p : Pos} {y : NB.X} (h : cName I c x = some y) : SE wd tb Φ W X (.Name x p) y := by
  unfold cName at h
  split at h
  · rename_i hd
    obtain ⟨d1, d2, d3⟩ := noDbg_d hd
    split at h
    · rename_i hv
      cases q : place c.N x with
      | none => rw [q] at h; cases h
      | some i =>
        rw [q] at h
        cases h
        have hN : X.N[i]? = some x := by rw [C.n]; exact place_ok q
        have pv := pe_var (pos := p) hN (C.vis hv) d1 d2
        have pe := pe_weak pv (name_E (W := W) (wd := wd))
        exact ⟨(fun j e => by cases e; exact pv), pe, tstOf pe (fun _ => rfl), (fun _ _ _ e => by cases e), fun _ _ => rfl⟩
    · split at h
      · rename_i hg
        cases q : I.con x with
        | none => rw [q] at h; cases h
        | some k =>
          rw [q] at h
          cases h
          obtain ⟨u, v, h1, h2, h3⟩ := C.con x k q
          exact mkSE (pe_weak (pe_glob (C.gl hg) h1 h2 d1) (con_E h3)) (fun i => by simp) (fun _ => rfl) (fun _ _ _ => by simp) (fun _ _ => rfl)
      · cases h
  · cases h
theorem lit_SE {e : Expr} {p : P} {v : V} (he : PE X e (tC v)) (h : ∀ F, Rp wd F v p) (hp : ∀ whole, isTrue e X.env whole = (do let v ← whole; standAt e.pos; holding [v] (truthy v))) (hb : ∀ o es p, e ≠ .BoolOp o es p) (ns : ∀ es env, starEach (e :: es) env = (false, eval e env) :: starEach es env) : SE wd tb Φ W X e (.c p) :=
  mkSE (pe_weak he (con_E h)) (fun i => by simp) hp hb ns
/-! ### built-in functions -/
theorem bi_boot {x : Str} {b : BI} (h : biOf x = some b) : b ≠ .range2 ∧ ((∃ s, b.fn = .builtin s ∧ bootBuiltins x = some (.builtin s)) ∨ (∃ s, b.fn = .type s ∧ bootBuiltins x = some (.type s))) := by
  unfold biOf at h
  split at h
  · rename_i e; subst e; cases h; exact ⟨by decide, .inl ⟨"len", rfl, by decide +kernel⟩⟩
  · split at h
    · rename_i e; subst e; cases h; exact ⟨by decide, .inl ⟨"abs", rfl, by decide +kernel⟩⟩
    · split at h
      · rename_i e; subst e; cases h; exact ⟨by decide, .inr ⟨"int", rfl, by decide +kernel⟩⟩
      · split at h
        · rename_i e; subst e; cases h; exact ⟨by decide, .inl ⟨"max", rfl, by decide +kernel⟩⟩
        · split at h
          · rename_i e; subst e; cases h; exact ⟨by decide, .inl ⟨"min", rfl, by decide +kernel⟩⟩
          · split at h
            · rename_i e; subst e; cases h; exact ⟨by decide, .inl ⟨"sum", rfl, by decide +kernel⟩⟩
            · split at h
              · rename_i e; subst e; cases h; exact ⟨by decide, .inr ⟨"list", rfl, by decide +kernel⟩⟩
              · split at h
                · rename_i e; subst e; cases h; exact ⟨by decide, .inr ⟨"tuple", rfl, by decide +kernel⟩⟩
                · cases h
theorem bi_SE (C : Ctx wd tb Φ I Lf W c X) (hh : c.hot = false) {x : Str} {b : BI} {e : Expr} {es : List Expr} {xs : XL} {p pos : Pos} (hd : noDbg x = true) (hg : isGl c.sc x = true) (hf : I.free x = true) (hb : biOf x = some b) (s : SL wd tb Φ W X (e :: es) xs)
    (hs : starEach (e :: es) X.env = (false, eval e X.env) :: starEach es X.env) (hn : (backTo pos (starEach es X.env)).any (·.1) = false) : SE wd tb Φ W X (.Call (.Name x p) (e :: es) [] pos) (.bi b xs) := by
  obtain ⟨d1, d2, d3⟩ := noDbg_d hd
  obtain ⟨nr, hb'⟩ := bi_boot hb
  have cb := call_bi (C.calm hh) b nr (X := X)
  have k : ∀ σ H Q, tE wd W (ev tb Φ (.bi b xs)) σ H Q → tCB (rBI X.K b) (tArgs wd W (eargs tb Φ xs)) σ H Q := fun σ H Q q =>
    many (fun F R L H σ ε S as vs T Q ok ra t h => bi_hop ok ra t nr h) σ H Q q
  refine mkSE ?_ (fun i => by simp) (fun _ => rfl) (fun _ _ _ => by simp) (fun _ _ => rfl)
  rcases hb' with ⟨s', e1, e2⟩ | ⟨s', e1, e2⟩
  · rw [e1] at cb
    exact pe_weak (pe_callB cb (C.gl hg) (C.free x hf) e2 s.a d3 d1 hs hn) k
  · rw [e1] at cb
    exact pe_weak (pe_callTy cb (C.gl hg) (C.free x hf) e2 s.a d3 d1 hs hn) k
theorem rg_SE (C : Ctx wd tb Φ I Lf W c X) (hh : c.hot = false) {b : Expr} {xb : NB.X} {p q pos pos' : Pos} (hg : isGl c.sc "list" = true) (hf : I.free "list" = true) (hg' : isGl c.sc "range" = true) (hf' : I.free "range" = true) (sb : SE wd tb Φ W X b xb) :
    SE wd tb Φ W X (.Call (.Name "list" p) [.Call (.Name "range" q) [b] [] pos'] [] pos) (.bi .range2 (.cons (.c (.int 0)) (.cons xb .nil))) := by
  refine mkSE (pe_weak (pe_listRg (C.calm hh) (C.gl hg) (C.free _ hf) (prg_1 (C.gl hg') (C.free _ hf') sb.a (sb.ns _ _)) rfl) fun σ H Q q => ?_) (fun i => by simp) (fun _ => rfl) (fun _ _ _ => by simp) (fun _ _ => rfl)
  refine rg_E (fb := fun ε => argOf xb ε (ev tb Φ xb ε)) σ H Q ?_
  have e : ev tb Φ (.bi .range2 (.cons (.c (.int 0)) (.cons xb .nil))) = (fun ε => ((fun ε => argOf xb ε (ev tb Φ xb ε)) ε >>= fun (a, ε1) => (.ok ([.tm (.val (.int 0)), a], ε1) : NB.R (List Arg × NB.Env))) >>= fun (as, ε1) => views as ε1 >>= fun (ps, ε2) => done as ε2 (bltn .range2 ps)) := by
    funext ε
    show ((argOf (.c (.int 0)) ε (NB.R.ok (D.val (P.int 0), ε)) >>= fun (a, ε1) => (argOf xb ε1 (ev tb Φ xb ε1) >>= fun (a2, ε2) => (NB.R.ok ([], ε2) : NB.R (List Arg × NB.Env)) >>= fun (as, ε3) => pure (a2 :: as, ε3)) >>= fun (as, ε2) => pure (a :: as, ε2)) >>= fun (as, ε1) => views as ε1 >>= fun (ps, ε2) => done as ε2 (bltn .range2 ps)) = _
    show ((argOf xb ε (ev tb Φ xb ε) >>= fun (a2, ε2) => (NB.R.ok ([a2], ε2) : NB.R (List Arg × NB.Env))) >>= fun (as, ε2) => (NB.R.ok (.tm (.val (.int 0)) :: as, ε2) : NB.R (List Arg × NB.Env))) >>= _ = _
    dsimp only
    cases argOf xb ε (ev tb Φ xb ε) with
    | ok a => rfl
    | exc c fs => rfl
    | stuck => rfl
  rw [e] at q
  exact q
/-! ### calls of the text's own defs -/
theorem call_SE (C : Ctx wd tb Φ I Lf W c X) {x : Str} {f : Nat} {e : Expr} {es : List Expr} {xs : XL} {p pos : Pos} (hd : noDbg x = true) (hg : isGl c.sc x = true) (hf : c.fns I x = some f) (s : SL wd tb Φ W X (e :: es) xs)
    (hs : starEach (e :: es) X.env = (false, eval e X.env) :: starEach es X.env) (hn : (backTo pos (starEach es X.env)).any (·.1) = false) : SE wd tb Φ W X (.Call (.Name x p) (e :: es) [] pos) (.call f xs) := by
  obtain ⟨d1, d2, d3⟩ := noDbg_d hd
  have k : ∀ σ H Q, tE wd W (ev tb Φ (.call f xs)) σ H Q → tCallS (spF wd (I.mu f) (Φ f)) (WE W) (tArgs wd W (eargs tb Φ xs)) σ H Q := by
    rintro σ H Q ⟨F, R, L, ε, S, o, h⟩
    refine ⟨F, R, L, ε, S, o, ?_⟩
    have h : ResE wd W F R L σ Q (eargs tb Φ xs ε >>= fun (as, ε1) => callE (tb.muts f) (Φ f) as ε1) := h
    cases q : eargs tb Φ xs ε with
    | stuck => rw [q] at h; exact h
    | exc c fs => rw [q] at h; exact h
    | ok a =>
      obtain ⟨as, ε1⟩ := a
      rw [q] at h
      simp only [NB.R.ok_bind] at h
      rw [C.mu] at h
      intro vs F1 H1 S1 T1 p1 o1 r1 t1
      cases hm : I.mu f with
      | false => rw [hm] at h; exact call_F o1 r1 t1 (h.mono p1)
      | true => rw [hm] at h; exact call_M o1 r1 t1 (h.mono p1)
  refine mkSE ?_ (fun i => by simp) (fun _ => rfl) (fun _ _ _ => by simp) (fun _ _ => rfl)
  obtain ⟨c1, c2⟩ := C.fns x f hf
  cases hh : c.hot with
  | false =>
    obtain ⟨a, k', fd, ps, h1, h2, h3, h4, h5⟩ := c1 hh
    exact pe_weak (pe_callS h3 h4 (C.gl hg) h1 h2 h5 (fun σ => passL C.tk σ) s.a d1 hs hn) k
  | true => exact pe_weak (c2 hh (C.gl hg) d1 e es _ p pos s.a hs hn) k
/-! ### isinstance -/
theorem boot_isi : bootBuiltins "isinstance" = some (.builtin "isinstance") := by decide +kernel
theorem cl_PE (C : Ctx wd tb Φ I Lf W c X) {e : Expr} {k : Cl} (h : clOf I c e = some k) : PE X e (tC (k.v wd.ca)) ∧ ∀ es env, starEach (e :: es) env = (false, eval e env) :: starEach es env := by
  unfold clOf at h
  split at h
  · rename_i x p
    refine ⟨?_, fun _ _ => rfl⟩
    split at h
    · rename_i hgd
      simp only [Bool.and_eq_true] at hgd
      obtain ⟨d1, d2, d3⟩ := noDbg_d hgd.2
      have hg := C.gl hgd.1
      split at h
      · rename_i k' hk
        cases h
        exact pe_glob hg (C.cls _ _ hk) rfl d1
      · split at h
        · rename_i hf
          have hm := C.free _ hf
          split at h
          · rename_i e; subst e; cases h; exact pe_bltn hg hm boot_int rfl d3 d1
          · split at h
            · rename_i e; subst e; cases h; exact pe_bltn hg hm boot_bool rfl d3 d1
            · split at h
              · rename_i e; subst e; cases h; exact pe_bltn hg hm boot_str rfl d3 d1
              · split at h
                · rename_i e; subst e; cases h; exact pe_bltn hg hm boot_list rfl d3 d1
                · split at h
                  · rename_i e; subst e; cases h; exact pe_bltn hg hm boot_tuple rfl d3 d1
                  · cases h
        · cases h
    · cases h
  · cases h
def tCls (cs : List V) : TA := fun _ H Q => Q cs H
theorem cls_PA (C : Ctx wd tb Φ I Lf W c X) : ∀ {ts : List Expr} {cs : List Cl}, ts.mapM (clOf I c) = some cs → PA X ts (tCls (cs.map (Cl.v wd.ca)))
  | [], cs, h => by
    simp only [List.mapM_nil] at h
    cases h
    exact pa_nil
  | t :: ts, cs, h => by
    rw [List.mapM_cons] at h
    cases e1 : clOf I c t with
    | none => rw [e1] at h; cases h
    | some k =>
      cases e2 : ts.mapM (clOf I c) with
      | none => rw [e1, e2] at h; cases h
      | some ks =>
        rw [e1, e2] at h
        cases h
        obtain ⟨h1, h2⟩ := cl_PE C e1
        exact pa_weak (pa_cons h1 (cls_PA C e2) (h2 _ _)) fun σ H Q q => q
theorem isi_hop (C : Ctx wd tb Φ I Lf W c X) {cs : List Cl} (hne : cs ≠ []) {F R H : Hp} {L : Nat → Hp} {σ : L2.St} {ε : NB.Env} {S : Own} {T : Addr → Prop} {Q : VK} {x : Arg} {v : V} (ok : OK wd F R L H σ ε S) (ra : ArgsR wd F H σ [x] [v] T) (t : Tmp F R H S T)
    (h : ResE wd W F R L σ Q (view1 ε x >>= fun (p, ε2) => NB.R.of (isiAny tb.sub p cs) >>= fun k => .ok (.val (.bl k), ε2))) :
    (∃ b, Q (.bl b) H ∧ ((∃ t, TyX X.K H v t ∧ PySem.W.kitAny X.K t (cs.map (Cl.val wd.ca)) = some b) ∨ (∃ a c d kk ks, v = .ref a ∧ wd.xn = some (a, wd.ca c, d) ∧ (∃ fv, H d = some (.xd fv)) ∧ cs = .own kk :: ks ∧ (ks = [] → b = tb.sub c kk)))) := by
  obtain ⟨p, ε4, F', S', o', rp, ap, h'⟩ := see1 (fun p ε2 => NB.R.of (isiAny tb.sub p cs) >>= fun k => .ok (.val (.bl k), ε2)) ok ra t h
  clear ok ra t h
  cases e : isiAny tb.sub p cs with
  | none => rw [e] at h'; exact h'.elim
  | some b =>
    rw [e] at h'
    have q : Q (.bl b) H := fin_val o' h' rfl
    refine ⟨b, q, ?_⟩
    by_cases hx : ∃ c fs, p = .exc c fs
    · obtain ⟨c, fs, rfl⟩ := hx
      have rp : Rp wd F' v (.exc c fs) := rp
      simp only [Rp] at rp
      obtain ⟨a, d, fv, vs, rfl, h1, h2, _⟩ := rp
      cases cs with
      | nil => exact absurd rfl hne
      | cons k ks =>
        cases k with
        | own kk =>
          refine .inr ⟨a, c, d, kk, ks, rfl, h1, ⟨fv, o'.fh _ _ h2⟩, rfl, fun hk => ?_⟩
          subst hk
          simp only [isiAny, isiOne] at e
          cases hs : tb.sub c kk <;> simp only [hs] at e <;> cases e <;> rfl
        | _ => simp only [isiAny, isiOne] at e; cases e
    · have hx : ∀ c fs, p ≠ .exc c fs := fun c fs z => hx ⟨c, fs, z⟩
      refine .inl ⟨_, isi_ty rp hx (fun ns z => ?_), isi_kits hx e⟩
      subst z
      cases cs with
      | nil => exact hne rfl
      | cons k ks => simp only [isiAny, isiOne] at e; cases k <;> cases e
/-- one class -/
theorem isi1_SE (C : Ctx wd tb Φ I Lf W c X) {a t : Expr} {xa : NB.X} {k : Cl} {p pos : Pos} (hg : isGl c.sc "isinstance" = true) (hf : I.free "isinstance" = true) (sa : SE wd tb Φ W X a xa) (ht : clOf I c t = some k) :
    SE wd tb Φ W X (.Call (.Name "isinstance" p) [a, t] [] pos) (.isi xa [k]) := by
  obtain ⟨pt, nt⟩ := cl_PE C ht
  have cr : CallR X (.builtin "isinstance") (fun xs H Q => rIsi X.K xs H Q ∨ rIsX wd tb xs H Q) := L2.CallR.or call_isi C.xi
  refine mkSE (pe_weak (pe_callB cr (C.gl hg) (C.free _ hf) boot_isi (pa_cons sa.a (pa_cons pt pa_nil (nt _ _)) (sa.ns _ _)) (by decide) (by decide) (sa.ns _ _) (by rw [nt]; rfl)) fun σ H Q q => ?_) (fun i => by simp) (fun _ => rfl) (fun _ _ _ => by simp) (fun _ _ => rfl)
  refine one (g := fun x ε1 => view1 ε1 x >>= fun (p, ε2) => NB.R.of (isiAny tb.sub p [k]) >>= fun k => .ok (.val (.bl k), ε2)) (r := fun v H1 Q => rIsi X.K [v, k.v wd.ca] H1 Q ∨ rIsX wd tb [v, k.v wd.ca] H1 Q) (fun F R L H σ ε S x v T Q ok ra t h => ?_) σ H Q q
  obtain ⟨b, q2, h⟩ := isi_hop C (cs := [k]) (by simp) ok ra t h
  rcases h with ⟨ty, h1, h2⟩ | ⟨a, c', d, kk, ks, rfl, h1, hfv, h2, h3⟩
  · refine .inl ⟨v, k.v wd.ca, ty, k.val wd.ca, b, rfl, k.rel wd.ca, h1, ?_, q2⟩
    have h2 : PySem.W.kitAny X.K ty [k.val wd.ca] = some b := h2
    unfold PySem.W.kitAny at h2
    cases e : PySem.W.kitOne X.K ty (k.val wd.ca) with
    | none => rw [e] at h2; cases h2
    | some r =>
      rw [e] at h2
      cases r with
      | true => cases h2; rfl
      | false => rw [kitAny_nil] at h2; cases h2; rfl
  · right
    simp only [List.cons.injEq] at h2
    obtain ⟨rfl, rfl⟩ := h2
    refine ⟨a, c', d, kk, rfl, h1, hfv, ?_⟩
    rw [← h3 rfl]; exact q2
/-- several classes -/
theorem isiT_SE (C : Ctx wd tb Φ I Lf W c X) {a : Expr} {ts : List Expr} {xa : NB.X} {cs : List Cl} {k : Nat} {p pos tpos : Pos} (hne : cs ≠ []) (hg : isGl c.sc "isinstance" = true) (hf : I.free "isinstance" = true) (sa : SE wd tb Φ W X a xa) (ht : ts.mapM (clOf I c) = some cs) (hb : ∀ k ∈ cs, k.bltn = true) (hl : cs.length ≤ 20) :
    SE wd tb Φ W X (.Call (.Name "isinstance" p) [a, .Tuple ts k tpos] [] pos) (.isi xa cs) := by
  have pt := pe_tup (pos := tpos) (x1 := k) (cls_PA C ht)
  refine mkSE (pe_weak (pe_callB call_isiT (C.gl hg) (C.free _ hf) boot_isi (pa_cons sa.a (pa_cons pt pa_nil rfl) (sa.ns _ _)) (by decide) (by decide) (sa.ns _ _) rfl) fun σ H Q q => ?_) (fun i => by simp) (fun _ => rfl) (fun _ _ _ => by simp) (fun _ _ => rfl)
  refine one (g := fun x ε1 => view1 ε1 x >>= fun (p, ε2) => NB.R.of (isiAny tb.sub p cs) >>= fun k => .ok (.val (.bl k), ε2)) (r := fun v H1 Q => (cs.map (Cl.v wd.ca)).length ≤ sizeLine ∧ ∀ p, H1 p = none → rIsiT X.K [v, .ref p] (upd H1 p (.tup (cs.map (Cl.v wd.ca)))) Q) (fun F R L H σ ε S x v T Q ok ra t h => ⟨by rw [List.length_map, sizeLine_eq]; omega, fun p hp => ?_⟩) σ H Q q
  -- the tuple of classes is laid first
  obtain ⟨oa, pa, na⟩ := ok.alloc (u := .tup (cs.map (Cl.v wd.ca))) hp
  have kk : Same H (upd H p (.tup (cs.map (Cl.v wd.ca)))) := fun b x e => by rw [upd_ne (ne_of_none e hp)]; exact e
  have ta : Tmp F R (upd H p (.tup (cs.map (Cl.v wd.ca)))) S T := fun b hb => by
    obtain ⟨x1, x2, ⟨u, x3⟩, x4⟩ := t b hb
    exact ⟨x1, x2, ⟨u, kk _ _ x3⟩, x4⟩
  obtain ⟨b, q2, h⟩ := isi_hop C hne oa (ra.mono (Same.refl _) fun b u _ e => kk b u e) ta (h.mono pa)
  rcases h with ⟨ty, h1, h2⟩ | ⟨a, c', d, kk, ks, rfl, h1, hfv, h2, h3⟩
  · exact ⟨v, p, _, ty, _, b, rfl, upd_same, Cl.rels wd.ca cs, h1, h2, q2⟩
  · subst h2
    have z := hb _ List.mem_cons_self
    cases z
theorem attr_SE (C : Ctx wd tb Φ I Lf W c X) {x : Str} {f : Str} (hff : I.fld f = true) {xa : NB.X} {p pos : Pos} (sa : SE wd tb Φ W X (.Name x p) xa) (hfl : tb.flds = wd.fl) : SE wd tb Φ W X (.Attribute (.Name x p) f pos) (.attr xa f) := by
  refine mkSE (pe_weak (C.xa x p pos f _ hff sa.a) fun σ H Q q => ?_) (fun i => by simp) (fun _ => rfl) (fun _ _ _ => by simp) (fun _ _ => rfl)
  refine one (g := fun x ε1 => view1 ε1 x >>= fun (p, ε2) => match p with
    | .exc c fs => NB.R.of (((tb.flds c).zip fs).lookup f) >>= fun r => .ok (.val r, ε2)
    | _ => .stuck) (r := fun x H1 Q => ∃ a C d fv v, x = .ref a ∧ wd.xn = some (a, C, d) ∧ H1 d = some (.xd fv) ∧ fv.lookup f = some v ∧ Q v H1) (fun F R L H σ ε S x v T Q ok ra t h => ?_) σ H Q q
  obtain ⟨p, ε4, F', S', o', rp, ap, h'⟩ := see1 (fun p ε2 => match p with
    | .exc c fs => NB.R.of (((tb.flds c).zip fs).lookup f) >>= fun r => .ok (.val r, ε2)
    | _ => .stuck) ok ra t h
  cases p with
  | exc cc fs =>
    have rp : Rp wd F' v (.exc cc fs) := rp
    simp only [Rp] at rp
    obtain ⟨a, d, fv, vs, rfl, h1, h2, h3, h4⟩ := rp
    dsimp only at h'
    rw [hfl] at h'
    cases e : ((wd.fl cc).zip fs).lookup f with
    | none => rw [e] at h'; exact h'.elim
    | some r =>
      rw [e] at h'
      have key : ∀ (l : List Str) (fs : List P) (vs : List V), l.map (fun f => fv.lookup f) = vs.map some → Rps wd F' vs fs → (l.zip fs).lookup f = some r → ∃ u, fv.lookup f = some u ∧ Rp wd F' u r := by
        intro l
        induction l with
        | nil => intro fs vs _ _ e; simp at e
        | cons g l ih =>
          intro fs vs e1 e2 e3
          cases fs with
          | nil => simp at e3
          | cons p fs =>
            obtain ⟨u, vr, rfl, r1, r2⟩ := e2
            simp only [List.map_cons, List.cons.injEq] at e1
            simp only [List.zip_cons_cons, List.lookup_cons] at e3
            cases hfg : (f == g) with
            | true =>
              rw [hfg] at e3
              cases e3
              have := eq_of_beq hfg
              subst this
              exact ⟨u, e1.1, r1⟩
            | false =>
              rw [hfg] at e3
              exact ih fs vr e1.2 r2 e3
      obtain ⟨u, e1, r1⟩ := key _ _ _ h3 h4 e
      exact ⟨a, _, d, fv, u, rfl, h1, o'.fh _ _ h2, e1, fin_val o' h' r1⟩
  | _ => exact h'.elim
end
end NB
end
section
set_option linter.all false
set_option maxRecDepth 10000
/-! NBSnd3: targets, iterators, comprehensions; all expressions. -/
namespace NB
open PySem PySem.Spec PyProof.Rows L2
section
variable {wd : Wd} {tb : Tab} {Φ : Nat → List D → NB.R (D × List D)} {I : Info} {Lf : Addr} {W : WX} {c : Cc} {X : Cx}
theorem po_weak {e : Option Expr} {t t' : TO} (h : PO X e t) (k : ∀ σ H Q, t' σ H Q → t σ H Q) : PO X e t' := ⟨fun pins s σ H Q I q => h.run pins s σ H Q I (k _ _ _ q)⟩
theorem pts_weak {es : List Expr} {t t' : TT} (h : PTs X es t) (k : ∀ σ H Q, t' σ H Q → t σ H Q) : PTs X es t' := ⟨fun pins s σ H Q I q => h.run pins s σ H Q I (k _ _ _ q)⟩
theorem pi_weak {tg e : Expr} {t t' : TI} (h : PI X tg e t) (k : ∀ σ H Q, t' σ H Q → t σ H Q) : PI X tg e t' := ⟨fun pins s σ H Q I q => h.run pins s σ H Q I (k _ _ _ q)⟩
theorem nm_PG (C : Ctx wd tb Φ I Lf W c X) {x : Str} {p : Pos} {i : Nat} (hs : c.st x = true) (hp : place c.N x = some i) : PG X (.Name x p) (gName i) := by
  obtain ⟨l, f⟩ := C.sto x hs
  exact pg_name (by rw [C.n]; exact C.nd) (by rw [C.n]; exact place_ok hp) l f
theorem ptOf_name {x : Str} {p : Pos} {i : Nat} (h : ptOf c (.Name x p) = some i) : c.st x = true ∧ place c.N x = some i ∧ (c.kp = true → i ≠ 0) := by
  unfold ptOf at h
  dsimp only at h
  split at h
  · rename_i hs
    simp only [Bool.and_eq_true] at hs
    cases q : place c.N x with
    | none => rw [q] at h; cases h
    | some j =>
      rw [q] at h
      dsimp only at h
      split at h
      · cases h
      · rename_i hk
        cases h
        refine ⟨hs.2, rfl, fun z1 z2 => hk ?_⟩
        rw [z1, z2]; rfl
  · cases h
theorem nms_PG (C : Ctx wd tb Φ I Lf W c X) : ∀ {es : List Expr} {is : List Nat}, es.mapM (ptOf c) = some is → PGs X es (tgs is) ∧ (assignEach es X.env).length = is.length ∧ (assignEach es X.env).findIdx? (·.1) = none
  | [], is, h => by
    simp only [List.mapM_nil] at h
    cases h
    exact ⟨pgs_nil, rfl, rfl⟩
  | e :: es, is, h => by
    rw [List.mapM_cons] at h
    cases e1 : ptOf c e with
    | none => rw [e1] at h; cases h
    | some i =>
      cases e2 : es.mapM (ptOf c) with
      | none => rw [e1, e2] at h; cases h
      | some js =>
        rw [e1, e2] at h
        cases h
        obtain ⟨h1, h2, h3⟩ := nms_PG C e2
        cases e with
        | Name x p =>
            obtain ⟨k1, k2, _⟩ := ptOf_name e1
            have pg := nm_PG (p := p) C k1 k2
            refine ⟨pgs_cons pg h1 rfl, ?_, ?_⟩
            · show ((assignEach es X.env).length + 1) = js.length + 1
              rw [h2]
            · show List.findIdx? (·.1) ((false, PySem.assign (Expr.Name x p) X.env) :: assignEach es X.env) = none
              rw [List.findIdx?_cons]
              simp only [Bool.false_eq_true, if_false]
              rw [h3]
              rfl
        | _ => cases e1
theorem pt_PG (C : Ctx wd tb Φ I Lf W c X) {e : Expr} {g : Pt} (h : cPt c e = some g) : PG X e (tgt X.K g) := by
  unfold cPt at h
  split at h
  · rename_i x p
    cases q : ptOf c (.Name x p) with
    | none => rw [q] at h; cases h
    | some i =>
      rw [q] at h
      cases h
      obtain ⟨h1, h2, _⟩ := ptOf_name q
      exact nm_PG C h1 h2
  · rename_i es k p
    split at h
    · cases h
    · rename_i hh
      have hh : c.hot = false := by simpa using hh
      cases q : es.mapM (ptOf c) with
      | none => rw [q] at h; cases h
      | some is =>
        rw [q] at h
        cases h
        obtain ⟨h1, h2, h3⟩ := nms_PG C q
        exact pg_tup (C.calm hh) h1 h2 h3
  · cases h
theorem ownOf_ok {c : Cc} {scope : Scope} : ∀ p ∈ ownOf c scope, c.N[p.2]? = some p.1 := by
  intro p hp
  unfold ownOf at hp
  obtain ⟨⟨n, k⟩, _, e⟩ := List.mem_filterMap.mp hp
  have key : ∀ {o : Option Nat}, o = place c.N n → (o.map fun i => (n, i)) = some p → c.N[p.2]? = some p.1 := fun {o} e1 e2 => by
    cases q : place c.N n with
    | none => rw [e1, q] at e2; cases e2
    | some i => rw [e1, q] at e2; cases e2; exact place_ok q
  dsimp only at e
  split at e
  · exact key rfl e
  · exact key rfl e
  · cases e
theorem lc_SE (C : Ctx wd tb Φ I Lf W c X) (hh : c.hot = false) {tg it elt : Expr} {ifs : List Expr} {scope : Scope} {pos : Pos} {g : Pt} {x : NB.It} {f : XO} {y : NB.X} (hb : blkC c.N c.sc scope (ownOf c scope) = true) (hg : cPt (inC c scope) tg = some g) (hi : ∀ i ∈ g.idx, i ∈ (ownOf c scope).map (·.2))
    (si : PI X tg it (tIt wd W (eit tb Φ x))) (sf : ∀ W' X', Ctx wd tb Φ I Lf W' (inC c scope) X' → PTs X' ifs (tT wd W' (eif tb Φ f))) (se : ∀ W' X', Ctx wd tb Φ I Lf W' (inC c scope) X' → PE X' elt (tE wd W' (ev tb Φ y))) (hs : ∀ x, foldedSetIterable it X.env x = pure x) :
    SE wd tb Φ W X (.ListComp elt [⟨tg, it, ifs, 0⟩] scope pos) (.lc g ((ownOf c scope).map (·.2)) x f y) := by
  have bo : BlkOk X.N X.env.scope scope (ownOf c scope) := by rw [C.n, C.sc]; exact blkOk_by hb
  refine mkSE (pe_weak (pe_lcx (W := W) (g := tgt X.K g) (wi := tIt wd W (eit tb Φ x)) (tt := fun σ => tT wd (Wc W σ) (eif tb Φ f)) (te := fun σ => tE wd (Wc W σ) (ev tb Φ y)) (C.calm hh) (by rw [C.n]; exact C.nd) C.tk C.fr C.st si bo (fun s H Ca cl fp xe σ tk => ?_) (fun s H Ca cl fp xe σ tk => ?_) (fun s H Ca cl fp xe σ tk => ?_) hs) fun σ H Q q => ?_) (fun i => by simp) (fun _ => rfl) (fun _ _ _ => by simp) (fun _ _ => rfl)
  · exact pt_PG (C.blk hh tk bo.uniq) hg
  · exact sf _ _ (C.blk hh tk bo.uniq)
  · exact se _ _ (C.blk hh tk bo.uniq)
  · exact lc_E (it := eit tb Φ x) (fi := eif tb Φ f) (fe := ev tb Φ y) hi σ H Q q
/-! ### what is walked -/
theorem rng1_It {fb : NB.Env → NB.R (D × NB.Env)} : ∀ σ H Rr, tIt wd W (fun ε => (NB.R.ok (D.val (P.int 0), ε) : NB.R (D × NB.Env)) >>= fun (d, ε1) => fb ε1 >>= fun (d', ε2) => match d, d' with
    | .val (.int lo), .val (.int hi) => if -(2 ^ 62) ≤ lo ∧ lo < 2 ^ 62 ∧ -(2 ^ 62) ≤ hi ∧ hi < 2 ^ 62 then pure (rangeP lo hi, [], ε2) else .stuck
    | _, _ => .stuck) σ H Rr → iRng1 (tCons (tE wd W fb) tNil) σ H Rr := by
  rintro σ H Rr ⟨F, R, L, ε, S, o, h⟩
  simp only [NB.R.ok_bind] at h
  refine ⟨F, R, L, ε, S, o, ?_⟩
  cases e2 : fb ε with
  | stuck => rw [e2] at h; exact h
  | exc c fs => rw [e2] at h; exact h
  | ok b =>
    obtain ⟨d', ε2⟩ := b
    rw [e2] at h
    simp only [NB.R.ok_bind] at h
    intro u F2 H2 S2 T2 p2 o2 r2 t2
    have key : ∃ hi, d' = .val (.int hi) := by
      cases d' with
      | val q => cases q <;> first | exact ⟨_, rfl⟩ | exact h.elim
      | _ => exact h.elim
    obtain ⟨hi, rfl⟩ := key
    simp only [RpD, Rp] at r2
    subst r2
    dsimp only at h
    by_cases c : -(2 ^ 62) ≤ (0 : Int) ∧ (0 : Int) < 2 ^ 62 ∧ -(2 ^ 62) ≤ hi ∧ hi < 2 ^ 62
    · rw [if_pos c] at h
      have i := it_rng (wd := wd) (F := F2) (R := R) (lo := 0) (hi := hi)
      rw [Int.sub_zero] at i
      exact ⟨hi, rfl, c.2.2.1, c.2.2.2, h _ F2 R L H2 S2 p2 (Same.refl _) o2 i (Unl.id (Same.refl _) o2.lr)⟩
    · rw [if_neg c] at h
      exact h.elim
/-- the statements of one round -/
structure Snd (wd : Wd) (tb : Tab) (Φ : Nat → List D → NB.R (D × List D)) (I : Info) (Lf : Addr) (n : Nat) : Prop where
  x : ∀ W c X, Ctx wd tb Φ I Lf W c X → ∀ e x, cX I n c e = some x → SE wd tb Φ W X e x
  l : ∀ W c X, Ctx wd tb Φ I Lf W c X → ∀ es xs, cXL I n c es = some xs → SL wd tb Φ W X es xs
  o : ∀ W c X, Ctx wd tb Φ I Lf W c X → ∀ o xo, cXO I n c o = some xo → PO X o (tO wd W (evo tb Φ xo))
  f : ∀ W c X, Ctx wd tb Φ I Lf W c X → ∀ es xo, cIf I n c es = some xo → PTs X es (tT wd W (eif tb Φ xo))
  t : ∀ W c X, Ctx wd tb Φ I Lf W c X → ∀ e x tg, cIt I n c e = some x → itT x tg = true → PI X tg e (tIt wd W (eit tb Φ x)) ∧ ∀ v, foldedSetIterable e X.env v = pure v
theorem snd_zero : Snd wd tb Φ I Lf 0 := by
  constructor
  · intro W c X C e x h; simp only [cX] at h; cases h
  · intro W c X C e x h; simp only [cXL] at h; cases h
  · intro W c X C e x h; simp only [cXO] at h; cases h
  · intro W c X C e x h; simp only [cIf] at h; cases h
  · intro W c X C e x tg h; simp only [cIt] at h; cases h
theorem snd_l {n : Nat} (ih : Snd wd tb Φ I Lf n) (W : WX) (c : Cc) (X : Cx) (C : Ctx wd tb Φ I Lf W c X) (es : List Expr) (xs : XL) (h : cXL I (n + 1) c es = some xs) : SL wd tb Φ W X es xs := by
  simp only [cXL] at h
  cases es with
  | nil =>
    cases h
    exact ⟨pa_weak pa_nil args_nil, pa_weak pa_nil ds_nil, fun _ _ => rfl, fun e he => absurd he (by simp)⟩
  | cons e es =>
    dsimp only at h
    cases e1 : cX I n c e with
    | none => rw [e1] at h; cases h
    | some x =>
      cases e2 : cXL I n c es with
      | none => rw [e1, e2] at h; cases h
      | some xs' =>
        rw [e1, e2] at h
        cases h
        have s := ih.x W c X C e x e1
        have sl := ih.l W c X C es xs' e2
        exact ⟨pa_weak (pa_cons s.a sl.a (s.ns _ _)) args_cons, pa_weak (pa_cons s.val sl.d (s.ns _ _)) ds_cons, fun pos env => by rw [s.ns]; exact sl.ns pos env, fun e' he => by
          rcases List.mem_cons.mp he with rfl | he
          · exact s.ns
          · exact sl.st e' he⟩
theorem snd_o {n : Nat} (ih : Snd wd tb Φ I Lf n) (W : WX) (c : Cc) (X : Cx) (C : Ctx wd tb Φ I Lf W c X) (o : Option Expr) (xo : XO) (h : cXO I (n + 1) c o = some xo) : PO X o (tO wd W (evo tb Φ xo)) := by
  simp only [cXO] at h
  cases o with
  | none =>
    cases h
    exact po_weak po_none o_none
  | some e =>
    dsimp only at h
    cases e1 : cX I n c e with
    | none => rw [e1] at h; cases h
    | some x =>
      rw [e1] at h
      cases h
      exact po_weak (po_some (ih.x W c X C e x e1).val) fun σ H Q q => o_some σ H Q q
theorem snd_f {n : Nat} (ih : Snd wd tb Φ I Lf n) (W : WX) (c : Cc) (X : Cx) (C : Ctx wd tb Φ I Lf W c X) (es : List Expr) (xo : XO) (h : cIf I (n + 1) c es = some xo) : PTs X es (tT wd W (eif tb Φ xo)) := by
  simp only [cIf] at h
  split at h
  · cases h
    refine pts_weak pts_nil fun σ H Q q => ?_
    obtain ⟨F, R, L, ε, S, o, h⟩ := q
    exact h F H S (Post.refl o) o
  · rename_i e
    cases e1 : cX I n c e with
    | none => rw [e1] at h; cases h
    | some x =>
      rw [e1] at h
      cases h
      exact pts_one (ih.x W c X C e x e1).t
  · cases h
theorem fold_any {e : Expr} {n : Nat} {x : NB.X} (h : cX I n c e = some x) (v : Value) (env : PySem.Env) : foldedSetIterable e env v = pure v := by
  cases n with
  | zero => simp only [cX] at h; cases h
  | succ n => cases e <;> first | rfl | (simp only [cX] at h; cases h)
theorem seq_PI {n : Nat} (ih : Snd wd tb Φ I Lf n) {W : WX} {c : Cc} {X : Cx} (C : Ctx wd tb Φ I Lf W c X) {e tg : Expr} {x : NB.X} (h : cX I n c e = some x) : PI X tg e (tIt wd W (eit tb Φ (.seq x))) ∧ ∀ v, foldedSetIterable e X.env v = pure v :=
  ⟨pi_weak (pi_seq (ih.x W c X C e x h).a) fun σ H Rr q => seq_It σ H Rr q, fun v => fold_any h v _⟩
end
end NB
end
section
set_option linter.all false
set_option maxRecDepth 10000
/-! NBSnd4: zip; what loops walk. -/
namespace NB
open PySem PySem.Spec PyProof.Rows L2
section
variable {wd : Wd} {tb : Tab} {Φ : Nat → List D → NB.R (D × List D)} {I : Info} {Lf : Addr} {W : WX} {c : Cc} {X : Cx} {F R : Hp} {K : PySem.W.Frag}
theorem zip2_get {xs ys : List P} {i : Nat} {p : P} (h : (zip2 xs ys)[i]? = some p) : ∃ x y, xs[i]? = some x ∧ ys[i]? = some y ∧ p = .tup [x, y] := by
  unfold zip2 at h
  rw [List.getElem?_map] at h
  cases q : (xs.zip ys)[i]? with
  | none => rw [q] at h; cases h
  | some xy =>
    rw [q] at h
    cases h
    have := List.getElem?_zip_eq_some.mp q
    exact ⟨xy.1, xy.2, this.1, this.2, rfl⟩
theorem zip2_len (xs ys : List P) : (zip2 xs ys).length = min xs.length ys.length := by
  unfold zip2
  simp
theorem pair_YI {H H' : Hp} {T : Addr} {v : V} {x y : V} {p q : P} (h1 : v = .ref T) (h2 : H T = none) (h3 : H' = upd H T (.tup [x, y])) (rx : Rp wd F x p) (ry : Rp wd F y q) : YI wd F H v H' (.tup [p, q]) :=
  .inr ⟨T, [x, y], [p, q], h1, h2, h3, rfl, ⟨_, _, rfl, rx, ⟨_, _, rfl, ry, rfl⟩⟩⟩
theorem it_zipL {a b : Addr} {xs ys : List V} {ps qs : List P} (r : Rps wd F xs ps) (r2 : Rps wd F ys qs) (h : ∀ H, Same F H → Same R H → H a = some (.lst xs)) (h2 : ∀ H, Same F H → Same R H → H b = some (.lst ys)) : ItOK wd F R (Itz K a b) (zip2 ps qs) := by
  have w := walk_zip (K := K) (a := a) (b := b) (xs := xs) (ys := ys) (n := min xs.length ys.length) rfl
  refine ⟨fun i H hi f g => w.goes i H (by rw [zip2_len] at hi; rw [r.len, r2.len]; exact hi) ⟨.of (h H f g), .of (h2 H f g)⟩, fun H f g => ?_, fun i H x H' p hp f g y => ?_⟩
  · rw [zip2_len, ← r.len, ← r2.len]; exact w.stops H ⟨.of (h H f g), .of (h2 H f g)⟩
  · obtain ⟨p1, p2, e1, e2, rfl⟩ := zip2_get hp
    obtain ⟨u1, g1, s1⟩ := r.get e1
    obtain ⟨u2, g2, s2⟩ := r2.get e2
    have l1 := (List.getElem?_eq_some_iff.mp g1).1
    have l2 := (List.getElem?_eq_some_iff.mp g2).1
    obtain ⟨T, x1, y1, k1, k2, k3, k4, k5⟩ := w.yields i H x H' (by omega) ⟨.of (h H f g), .of (h2 H f g)⟩ y
    dsimp only at k4 k5
    rw [g1] at k4; cases k4
    rw [g2] at k5; cases k5
    exact pair_YI k1 k2 k3 s1 s2
theorem it_zipT {a b : Addr} {xs ys : List V} {ps qs : List P} (r : Rps wd F xs ps) (r2 : Rps wd F ys qs) (h : ∀ H, Same F H → Same R H → H a = some (.tup xs)) (h2 : ∀ H, Same F H → Same R H → H b = some (.tup ys)) : ItOK wd F R (RZ.ItzT K a b) (zip2 ps qs) := by
  have a1 : ∀ H, Same F H → Same R H → SqT K H a xs := fun H f g => .of (h H f g)
  have a2 : ∀ H, Same F H → Same R H → SqT K H b ys := fun H f g => .of (h2 H f g)
  refine ⟨fun i H hi f g => ?_, fun H f g => ?_, fun i H x H' p hp f g y => ?_⟩
  · rw [zip2_len, ← r.len, ← r2.len] at hi
    have l1 : i < xs.length := by omega
    have l2 : i < ys.length := by omega
    exact ⟨xs, ys, xs[i], ys[i], a1 H f g, a2 H f g, by simp [l1], by simp [l2]⟩
  · rw [zip2_len, ← r.len, ← r2.len]
    exact ⟨xs, ys, a1 H f g, a2 H f g, by omega⟩
  · obtain ⟨p1, p2, e1, e2, rfl⟩ := zip2_get hp
    obtain ⟨u1, g1, s1⟩ := r.get e1
    obtain ⟨u2, g2, s2⟩ := r2.get e2
    obtain ⟨T, x1, y1, k1, k2, k3, k4, k5⟩ := y
    have k4 := k4 xs (a1 H f g)
    have k5 := k5 ys (a2 H f g)
    rw [g1] at k4; cases k4
    rw [g2] at k5; cases k5
    exact pair_YI k1 k2 k3 s1 s2
theorem WalksR.len {vs : List V} {ps : List P} (w : WalksR wd F R vs ps) : vs.length = ps.length := by
  induction w with
  | nil => rfl
  | cons _ _ ih => simp [ih]
theorem ArgsF.len {σ : L2.St} {vs : List V} {as : List Arg} (w : ArgsF wd F σ as vs) : as.length = vs.length := by
  induction w with
  | nil => rfl
  | cons _ _ ih => simp [ih]
def XL.len : XL → Nat
  | .nil => 0
  | .cons _ xs => xs.len + 1
theorem eargs_len : ∀ (xs : XL) (ε : NB.Env) (as : List Arg) (ε1 : NB.Env), eargs tb Φ xs ε = .ok (as, ε1) → as.length = xs.len
  | .nil, ε, as, ε1, h => by cases h; rfl
  | .cons x xs, ε, as, ε1, h => by
    have h : (argOf x ε (ev tb Φ x ε) >>= fun (a, ε1) => eargs tb Φ xs ε1 >>= fun (as, ε2) => pure (a :: as, ε2)) = NB.R.ok (as, ε1) := h
    cases e1 : argOf x ε (ev tb Φ x ε) with
    | exc c fs => rw [e1] at h; cases h
    | stuck => rw [e1] at h; cases h
    | ok a =>
      rw [e1] at h
      simp only [NB.R.ok_bind] at h
      cases e2 : eargs tb Φ xs a.2 with
      | exc c fs => rw [e2] at h; cases h
      | stuck => rw [e2] at h; cases h
      | ok b =>
        rw [e2] at h
        cases h
        simp [XL.len, eargs_len xs a.2 b.1 b.2 e2]
theorem cXL_len {n : Nat} {es : List Expr} {xs : XL} (h : cXL I n c es = some xs) : xs.len = es.length := by
  induction es generalizing n xs with
  | nil =>
    cases n with
    | zero => simp only [cXL] at h; cases h
    | succ n => simp only [cXL] at h; cases h; rfl
  | cons e es ih =>
    cases n with
    | zero => simp only [cXL] at h; cases h
    | succ n =>
      simp only [cXL] at h
      cases e1 : cX I n c e with
      | none => rw [e1] at h; cases h
      | some x =>
        cases e2 : cXL I n c es with
        | none => rw [e1, e2] at h; cases h
        | some xs' =>
          rw [e1, e2] at h
          cases h
          simp [XL.len, ih e2]
theorem locksV_exc : ∀ {as : List Arg} {ε : NB.Env} {c : Nat} {fs : List P}, locksV as ε = .exc c fs → False
  | [], _, _, _, e => by cases e
  | x :: as, ε, c, fs, e => by
    simp only [locksV] at e
    cases q : lockV ε x with
    | exc c' fs' => cases x <;> simp only [lockV] at q <;> (repeat' (first | (split at q) | cases q))
    | stuck => rw [q] at e; cases e
    | ok p =>
      obtain ⟨p, ε1, ε2⟩ := p
      rw [q] at e
      simp only [NB.R.ok_bind] at e
      cases q2 : locksV as ε2 with
      | exc c' fs' => exact locksV_exc q2
      | stuck => rw [q2] at e; cases e
      | ok pr => rw [q2] at e; cases e
/-- the walks of two sequences -/
theorem zip_It {n : Nat} {fa : NB.Env → NB.R (List Arg × NB.Env)} {r : List V → Hp → (L2.It → Hp → Prop) → Prop} (hn : ∀ ε as ε1, fa ε = .ok (as, ε1) → as.length = n)
    (hr : ∀ (F R H : Hp) (vs : List V) (ps ts : List P) (Rr : L2.It → Hp → Prop), Same F H → Same R H → WalksR wd F R vs ps → ps.length = n → zipItems ps = .ok ts → (∀ J, ItOK wd F R J ts → Rr J H) → r vs H Rr) :
    ∀ σ H Rr, tIt wd W (fun ε => fa ε >>= fun (as, ε1) => locksV as ε1 >>= fun (ps, us, ε2) => zipItems ps >>= fun ts => pure (ts, us, ε2)) σ H Rr → (tArgs wd W fa) σ H (fun vs H1 => r vs H1 Rr) := by
  rintro σ H Rr ⟨F, R, L, ε, S, o, h⟩
  dsimp only at h
  refine ⟨F, R, L, ε, S, o, ?_⟩
  cases e : fa ε with
  | stuck => rw [e] at h; exact h
  | exc c fs => rw [e] at h; exact h
  | ok a =>
    obtain ⟨as, ε1⟩ := a
    rw [e] at h
    simp only [NB.R.ok_bind] at h
    intro vs F1 H1 S1 T1 p1 o1 r1 t1
    obtain ⟨F2, o2, p2, rf⟩ := argsF o1 r1 t1
    cases e2 : locksV as ε1 with
    | stuck => rw [e2] at h; exact h.elim
    | exc c fs => exact (locksV_exc e2).elim
    | ok b =>
      obtain ⟨ps, us, ε3⟩ := b
      rw [e2] at h
      simp only [NB.R.ok_bind] at h
      obtain ⟨F3, R3, L3, S3, o3, p3, hR, w, u⟩ := locks_ok o2 rf e2
      have pp := (p1.comp p2 (Same.refl _)).comp p3 (Same.refl _)
      cases e4 : zipItems ps with
      | stuck => rw [e4] at h; exact h.elim
      | exc c fs =>
        exfalso
        unfold zipItems at e4
        split at e4 <;> cases e4
      | ok ts =>
        rw [e4] at h
        have hl : ps.length = n := by rw [← w.len, ← rf.len]; exact hn _ _ _ e
        exact hr F3 R3 H1 vs ps ts Rr o3.fh o3.rh w hl e4 fun J hJ => h J F3 R3 L3 H1 S3 pp hR o3 hJ u
/-- two sequences -/
def rZip2 (K : PySem.W.Frag) : List V → Hp → (L2.It → Hp → Prop) → Prop := fun vs H1 R => ∃ a b xs ys, vs = [.ref a, .ref b] ∧ ((SqL K H1 a xs ∧ SqL K H1 b ys ∧ R (Itz K a b) H1) ∨ (SqT K H1 a xs ∧ SqT K H1 b ys ∧ R (RZ.ItzT K a b) H1))
theorem zip2_ok {F R H : Hp} {vs : List V} {ps ts : List P} {Rr : L2.It → Hp → Prop} (f : Same F H) (g : Same R H) (w : WalksR wd F R vs ps) (h2 : ps.length = 2) (e : zipItems ps = .ok ts) (h : ∀ J, ItOK wd F R J ts → Rr J H) : rZip2 K vs H Rr := by
  unfold zipItems at e
  split at e
  · cases e
    cases w with
    | cons w1 w =>
      cases w with
      | cons w2 w =>
        cases w
        obtain ⟨a, xs, rfl, r1, k1⟩ := w1.lst
        obtain ⟨b, ys, rfl, r2, k2⟩ := w2.lst
        exact ⟨a, b, xs, ys, rfl, .inl ⟨.of (k1 H f g), .of (k2 H f g), h _ (it_zipL r1 r2 k1 k2)⟩⟩
  · cases e
    cases w with
    | cons w1 w =>
      cases w with
      | cons w2 w =>
        cases w
        obtain ⟨a, xs, rfl, r1, k1⟩ := w1.tup
        obtain ⟨b, ys, rfl, r2, k2⟩ := w2.tup
        exact ⟨a, b, xs, ys, rfl, .inr ⟨.of (k1 H f g), .of (k2 H f g), h _ (it_zipT r1 r2 k1 k2)⟩⟩
  · simp at h2
  · cases e
theorem zip3_get {xs ys zs : List P} {i : Nat} {p : P} (h : (zip3 xs ys zs)[i]? = some p) : ∃ x y z, xs[i]? = some x ∧ ys[i]? = some y ∧ zs[i]? = some z ∧ p = .tup [x, y, z] := by
  unfold zip3 at h
  rw [List.getElem?_map] at h
  cases q : (xs.zip (ys.zip zs))[i]? with
  | none => rw [q] at h; cases h
  | some xy =>
    rw [q] at h
    cases h
    have h1 := List.getElem?_zip_eq_some.mp q
    have h2 := List.getElem?_zip_eq_some.mp h1.2
    exact ⟨xy.1, xy.2.1, xy.2.2, h1.1, h2.1, h2.2, rfl⟩
theorem zip3_ok {F R H : Hp} {vs : List V} {ps ts : List P} {Rr : L2.It → Hp → Prop} (f : Same F H) (g : Same R H) (w : WalksR wd F R vs ps) (h2 : ps.length = 3) (e : zipItems ps = .ok ts) (h : ∀ J, ItOK wd F R J ts → Rr J H) : rZip3 K vs H Rr := by
  unfold zipItems at e
  split at e
  · simp at h2
  · simp at h2
  · rename_i qx qy qz
    cases e
    cases w with
    | cons w1 w =>
      cases w with
      | cons w2 w =>
        cases w with
        | cons w3 w =>
          cases w
          obtain ⟨a, xs, rfl, r1, k1⟩ := w1.lst
          obtain ⟨b, ys, rfl, r2, k2⟩ := w2.lst
          obtain ⟨c, zs, rfl, r3, k3⟩ := w3.lst
          have hl : (zip3 qx qy qz).length = min xs.length (min ys.length zs.length) := by
            unfold zip3
            simp [r1.len, r2.len, r3.len]
          refine ⟨a, b, c, xs, ys, zs, rfl, .of (k1 H f g), .of (k2 H f g), .of (k3 H f g), fun J j1 j2 j3 => h J ⟨fun i H hi f g => j1 i H (by rw [← hl]; exact hi) (.of (k1 H f g)) (.of (k2 H f g)) (.of (k3 H f g)), fun H f g => by rw [hl]; exact j2 H (.of (k1 H f g)) (.of (k2 H f g)) (.of (k3 H f g)), fun i H x H' p hp f g y => ?_⟩⟩
          obtain ⟨T, x1, y1, z1, g1, g2, g3, g4, g5, g6⟩ := j3 i H x H' (.of (k1 H f g)) (.of (k2 H f g)) (.of (k3 H f g)) y
          obtain ⟨p1, p2, p3, e1, e2, e3, rfl⟩ := zip3_get hp
          obtain ⟨u1, n1, s1⟩ := r1.get e1
          obtain ⟨u2, n2, s2⟩ := r2.get e2
          obtain ⟨u3, n3, s3⟩ := r3.get e3
          rw [n1] at g4; cases g4
          rw [n2] at g5; cases g5
          rw [n3] at g6; cases g6
          exact .inr ⟨T, _, _, g1, g2, g3, rfl, ⟨_, _, rfl, s1, ⟨_, _, rfl, s2, ⟨_, _, rfl, s3, rfl⟩⟩⟩⟩
  · cases e
theorem snd_t {n : Nat} (ih : Snd wd tb Φ I Lf n) (W : WX) (c : Cc) (X : Cx) (C : Ctx wd tb Φ I Lf W c X) (e : Expr) (x : NB.It) (tg : Expr) (h : cIt I (n + 1) c e = some x) (ht : itT x tg = true) : PI X tg e (tIt wd W (eit tb Φ x)) ∧ ∀ v, foldedSetIterable e X.env v = pure v := by
  simp only [cIt] at h
  have seq : ∀ {y}, (cX I n c e).map NB.It.seq = some y → x = y → PI X tg e (tIt wd W (eit tb Φ x)) ∧ ∀ v, foldedSetIterable e X.env v = pure v := fun {y} h e1 => by
    cases q : cX I n c e with
    | none => rw [q] at h; cases h
    | some z =>
      rw [q] at h
      cases h
      rw [e1]
      exact seq_PI ih C q
  split at h
  · rename_i z p args pos
    split at h
    · rename_i hz
      subst hz
      split at h
      · rename_i hg
        simp only [Bool.and_eq_true] at hg
        split at h
        · rename_i b
          cases q : cX I n c b with
          | none => rw [q] at h; cases h
          | some y =>
            rw [q] at h
            cases h
            have s := ih.x W c X C b y q
            exact ⟨pi_weak (pi_range1 (C.gl hg.1) (C.free _ hg.2) (pa_cons s.val pa_nil (s.ns _ _)) (by rw [s.ns]; rfl)) fun σ H Rr k => rng1_It σ H Rr k, fun _ => rfl⟩
        · rename_i a b
          cases q : cX I n c a with
          | none => rw [q] at h; cases h
          | some y =>
            cases q2 : cX I n c b with
            | none => rw [q, q2] at h; cases h
            | some y2 =>
              rw [q, q2] at h
              cases h
              have s := ih.x W c X C a y q
              have s2 := ih.x W c X C b y2 q2
              exact ⟨pi_weak (pi_range2 (C.gl hg.1) (C.free _ hg.2) (pa_cons s.val (pa_cons s2.val pa_nil (s2.ns _ _)) (s.ns _ _)) (by rw [s.ns, s2.ns]; rfl) (by rw [s2.ns]; rfl)) fun σ H Rr k => rng_It σ H Rr k, fun _ => rfl⟩
        · cases h
      · cases h
    · split at h
      · rename_i hz
        subst hz
        split at h
        · rename_i hg
          simp only [Bool.and_eq_true, Bool.or_eq_true, beq_iff_eq] at hg
          cases q : cXL I n c args with
          | none => rw [q] at h; cases h
          | some xs =>
            rw [q] at h
            cases h
            have sl := ih.l W c X C args xs q
            have len := cXL_len q
            have hn : ∀ ε as ε1, eargs tb Φ xs ε = .ok (as, ε1) → as.length = args.length := fun ε as ε1 k => by rw [← len]; exact eargs_len xs ε as ε1 k
            refine ⟨?_, fun _ => rfl⟩
            cases tg with
            | Tuple elts kk tpos =>
              rcases hg.2 with h2 | h3
              · match args, h2, sl, hn, q with
                | [e1, e2], _, sl, hn, q =>
                  have k1 := sl.st e1 (by simp)
                  have k2 := sl.st e2 (by simp)
                  exact pi_weak (RZ.pi_zipA (C.gl hg.1.1) (C.free _ hg.1.2) sl.a (k1 _ _) (by rw [k2]; rfl)) fun σ H Rr k => zip_It (n := 2) hn (fun F R H vs ps ts Rr f g w h2 e h => zip2_ok (K := X.K) f g w h2 e h) σ H Rr k
              · match args, h3, sl, hn, q with
                | [e1, e2, e3], _, sl, hn, q =>
                  have k1 := sl.st e1 (by simp)
                  have k2 := sl.st e2 (by simp)
                  have k3 := sl.st e3 (by simp)
                  exact pi_weak (pi_zip3 (C.gl hg.1.1) (C.free _ hg.1.2) sl.a (k1 _ _) (by rw [k2, k3]; rfl)) fun σ H Rr k => zip_It (n := 3) hn (fun F R H vs ps ts Rr f g w h2 e h => zip3_ok (K := X.K) f g w h2 e h) σ H Rr k
            | _ => cases ht
        · cases h
      · split at h
        · rename_i hz
          subst hz
          split at h
          · rename_i hg
            simp only [Bool.and_eq_true] at hg
            split at h
            · rename_i a
              cases q : cX I n c a with
              | none => rw [q] at h; cases h
              | some y =>
                rw [q] at h
                cases h
                have s := ih.x W c X C a y q
                cases tg with
                | Tuple elts kk tpos =>
                  exact ⟨pi_weak (pi_enum (C.gl hg.1) (C.free _ hg.2) (pa_cons s.a pa_nil (s.ns _ _)) (by rw [s.ns]; rfl)) fun σ H Rr k => enum_It σ H Rr k, fun _ => rfl⟩
                | _ => cases ht
            · cases h
          · cases h
        · cases q : cX I n c (.Call (.Name z p) args [] pos) with
          | none => rw [q] at h; cases h
          | some y => rw [q] at h; cases h; exact seq_PI ih C q
  · cases q : cX I n c e with
    | none => rw [q] at h; cases h
    | some y => rw [q] at h; cases h; exact seq_PI ih C q
end
end NB
end
section
set_option linter.all false
set_option maxRecDepth 10000
/-! NBLc2: comprehensions of two clauses. -/
namespace NB
open PySem PySem.Spec PyProof.Rows L2
section
variable {wd : Wd} {tb : Tab} {Φ : Nat → List D → NB.R (D × List D)} {I : Info} {Lf : Addr} {W : WX} {c : Cc} {X : Cx}
theorem tk_none {X : Cx} : Tk X Lf W0 := fun u s' h => by
  obtain ⟨_, _, _, _, _, _, _, _, _, _, _, _, _, _, _, _, w⟩ := h
  exact w.elim
theorem Ctx.blk0 (C : Ctx wd tb Φ I Lf W c X) (hh : c.hot = false) {s : Shared} {H : Hp} {scope : Scope} {C0 : Addr} {cl : List (Str × Addr)} {fp : List Addr}
    (un : ∀ y ∈ scope.names, scope.names.lookup y.1 = some y.2) : Ctx wd tb Φ I Lf W0 (inC c scope) (X.blk s H scope (compEnvC scope cl C0 X.env) fp) :=
  C.blk hh (xe := fun _ _ => False) tk_none un
theorem lkWalk {K : PySem.W.Frag} {i1 : Nat} : ∀ σ (H : Hp) Rr a xs, σ[i1]? = some (some (V.ref a)) → H a = some (.lst xs) → Rr (Itl K a) H → iSeq K (tVar i1) σ H Rr :=
  fun σ H Rr a xs e h r => ⟨.ref a, e, a, rfl, .inl ⟨⟨xs, .of h⟩, r⟩⟩
theorem lk_PI (C : Ctx wd tb Φ I Lf W c X) {tg : Expr} {y : Str} {p : Pos} {i : Nat} (hv : isVis c.sc y = true) (hd : noDbg y = true) (hp : place c.N y = some i) : PI X tg (.Name y p) (iSeq X.K (tVar i)) := by
  obtain ⟨d1, d2, _⟩ := noDbg_d hd
  exact pi_seq (pe_var (by rw [C.n]; exact place_ok hp) (C.vis hv) d1 d2)
theorem lc2_SE (C : Ctx wd tb Φ I Lf W c X) (hh : c.hot = false) {tg it tg1 elt : Expr} {y1 : Str} {p1 : Pos} {ifs : List Expr} {scope : Scope} {pos : Pos} {g g1 : Pt} {i1 : Nat} {x : NB.It} {f : XO} {y : NB.X} (hb : blkC c.N c.sc scope (ownOf c scope) = true) (hg : cPt (inC c scope) tg = some g) (hg1 : cPt (inC c scope) tg1 = some g1) (hi : ∀ i ∈ g.idx ++ g1.idx, i ∈ (ownOf c scope).map (·.2))
    (hv : isVis (inC c scope).sc y1 = true) (hd : noDbg y1 = true) (hp : place c.N y1 = some i1)
    (si : PI X tg it (tIt wd W (eit tb Φ x))) (sf : ∀ W' X', Ctx wd tb Φ I Lf W' (inC c scope) X' → PTs X' ifs (tT wd W' (eif tb Φ f))) (se : ∀ W' X', Ctx wd tb Φ I Lf W' (inC c scope) X' → PE X' elt (tE wd W' (ev tb Φ y))) (hs : ∀ x, foldedSetIterable it X.env x = pure x) :
    SE wd tb Φ W X (.ListComp elt [⟨tg, it, [], 0⟩, ⟨tg1, .Name y1 p1, ifs, 0⟩] scope pos) (.lc2 g ((ownOf c scope).map (·.2)) x g1 i1 f y) := by
  have bo : BlkOk X.N X.env.scope scope (ownOf c scope) := by rw [C.n, C.sc]; exact blkOk_by hb
  refine mkSE (pe_weak (pe_lc2 (vs1 := g1.idx) (wi := tIt wd W (eit tb Φ x)) (g := tgt X.K g) (tt := tYes) (wi1 := iSeq X.K (tVar i1)) (g1 := tgt X.K g1) (tt1 := tT wd W0 (eif tb Φ f)) (te := tE wd W0 (ev tb Φ y)) (C.calm hh) (by rw [C.n]; exact C.nd) si bo (fun i h => hi i (List.mem_append_right _ h))
    (fun s H Ca cl fp => ?_) (fun s H Ca cl fp => pts_nil) (fun s H Ca cl fp => ?_) (fun s H Ca cl fp => ?_) (fun s H Ca cl fp => ?_) (fun s H Ca cl fp => ?_) hs (fun _ _ => rfl)) fun σ H Q q => ?_) (fun i => by simp) (fun _ => rfl) (fun _ _ _ => by simp) (fun _ _ => rfl)
  · exact pt_PG (C.blk0 hh bo.uniq) hg
  · exact lk_PI (C.blk0 hh bo.uniq) hv hd hp
  · exact pt_PG (C.blk0 hh bo.uniq) hg1
  · exact sf _ _ (C.blk0 hh bo.uniq)
  · exact se _ _ (C.blk0 hh bo.uniq)
  · exact lc2_E (it := eit tb Φ x) (fi := eif tb Φ f) (fe := ev tb Φ y) hi (fun _ _ _ h => h) lkWalk σ H Q q
end
end NB
end
section
set_option linter.all false
set_option maxRecDepth 10000
/-! NBMeth: methods that change a name's list, or a list within a name's tree. -/
namespace NB
open PySem PySem.Spec PyProof.Rows L2
section
variable {wd : Wd} {tb : Tab} {Φ : Nat → List D → NB.R (D × List D)} {I : Info} {Lf : Addr} {W : WX} {c : Cc} {X : Cx} {F F' R H H' : Hp} {L : Nat → Hp} {σ : L2.St} {ε : NB.Env} {S : Own} {T T2 : Addr → Prop} {K : PySem.W.Frag} {Q : VK}
/-- one step down -/
def stepV (H : Hp) (v : V) (k : Int) (w : V) : Prop := ∃ a xs, v = .ref a ∧ (H a = some (.lst xs) ∨ H a = some (.tup xs)) ∧ atI xs k = some w
def valAt (H : Hp) : V → List Int → V → Prop
  | v, [], w => v = w
  | v, k :: ks, w => ∃ u, stepV H v k u ∧ valAt H u ks w
theorem valAt_snoc : ∀ {p : List Int} {v w : V} {k : Int}, valAt H v (p ++ [k]) w → ∃ u, valAt H v p u ∧ stepV H u k w
  | [], v, w, k, h => by
    obtain ⟨u, h1, h2⟩ := h
    have h2 : u = w := h2
    subst h2
    exact ⟨v, rfl, h1⟩
  | j :: p, v, w, k, h => by
    obtain ⟨u, h1, h2⟩ := h
    obtain ⟨u', h3, h4⟩ := valAt_snoc h2
    exact ⟨u', ⟨u, h1, h3⟩, h4⟩
def tPath (i : Nat) (p : List Int) : TE := fun σ H Q => ∃ v w, σ[i]? = some (some v) ∧ valAt H v p w ∧ Q w H
theorem path_PE {x : Str} {i : Nat} (hN : X.N[i]? = some x) (hv : Vis X.env.scope x) (d1 : (x == ("__debug__" : Str)) = false) (d2 : (x == ("__classdict__" : Str)) = false) : ∀ (n : Nat) (o : Expr) (p : List Int), sizeOf o ≤ n → pathOf o = some (x, p) → PE X o (tPath i p) ∧ ∀ m, attributeBase o m X.env (eval o X.env) = eval o X.env
  | 0, o, p, hn, h => by cases o <;> simp at hn
  | n + 1, o, p, hn, h => by
    unfold pathOf at h
    split at h
    · rename_i y ps
      cases h
      exact ⟨pe_weak (pe_var hN hv d1 d2) fun σ H Q ⟨v, w, e, h, q⟩ => by
        have h : v = w := h
        subst h
        exact ⟨v, e, q⟩, fun _ => rfl⟩
    · rename_i e k j kp sp
      cases q : pathOf e with
      | none => rw [q] at h; cases h
      | some yp =>
        obtain ⟨y, p'⟩ := yp
        rw [q] at h
        cases h
        obtain ⟨ih, _⟩ := path_PE hN hv d1 d2 n e p' (by simp at hn; omega) q
        refine ⟨pe_weak (pe_ix (b := .Constant (.int k) j kp) ix_seq ih pe_int (fun o i => rfl)) fun σ H Q ⟨v, w, e, h, q⟩ => ?_, fun _ => rfl⟩
        obtain ⟨u, h1, a, xs, rfl, h3, h4⟩ := valAt_snoc h
        refine ⟨v, .ref a, e, h1, ?_⟩
        rcases h3 with h3 | h3
        · exact .inl ⟨a, xs, k, w, rfl, rfl, .of h3, h4, q⟩
        · exact .inr (.inl ⟨a, xs, k, w, rfl, rfl, .of h3, h4, q⟩)
    · cases h
/-- one item of a tree's sequence, and what is put in its place -/
theorem RpDs.hole : ∀ {ds : List D} {xs : List V} {S : Addr → Prop} {k : Nat} {d0 : D}, RpDs wd F H xs ds S → ds[k]? = some d0 → ∃ v T0, xs[k]? = some v ∧ RpD wd F H v d0 T0 ∧ (∀ b, T0 b → S b) ∧
    ∀ F' H' d1 T1, Same F F' → (∀ b u, S b → ¬ T0 b → H b = some u → H' b = some u) → RpD wd F' H' v d1 T1 → (∀ b, T1 b → S b → T0 b) → RpDs wd F' H' xs (ds.set k d1) (fun b => (S b ∧ ¬ T0 b) ∨ T1 b)
  | [], _, _, _, _, _, e => by simp at e
  | d :: ds, xs, S, 0, d0, r, e => by
    simp only [RpDs] at r
    obtain ⟨v, vr, T, U, rfl, h1, h2, h3, h4, h5⟩ := r
    simp at e; subst e
    refine ⟨v, T, rfl, h1, h3, fun F' H' d1 T1 hF hk r1 h6 => ?_⟩
    simp only [List.set_cons_zero, RpDs]
    exact ⟨v, vr, T1, U, rfl, r1, RpDs.mono hF ds vr U U h2 (fun _ z => z) fun b u hb => hk b u (h4 b hb) fun z => h5 b z hb, fun b z => .inr z, fun b z => .inl ⟨h4 b z, fun y => h5 b y z⟩, fun b z y => h5 b (h6 b z (h4 b y)) y⟩
  | d :: ds, xs, S, k + 1, d0, r, e => by
    simp only [RpDs] at r
    obtain ⟨v, vr, T, U, rfl, h1, h2, h3, h4, h5⟩ := r
    obtain ⟨w, T0, e1, r0, s0, rb⟩ := RpDs.hole (k := k) h2 (by simpa using e)
    refine ⟨w, T0, by simpa using e1, r0, fun b z => h4 b (s0 b z), fun F' H' d1 T1 hF hk r1 h6 => ?_⟩
    simp only [List.set_cons_succ, RpDs]
    refine ⟨v, vr, T, _, rfl, RpD.mono hF d v T T h1 (fun _ z => z) fun b u hb => hk b u (h3 b hb) fun z => h5 b hb (s0 b z), rb F' H' d1 T1 hF (fun b u hb n => hk b u (h4 b hb) n) r1 (fun b z y => h6 b z (h4 b y)), fun b z => .inl ⟨h3 b z, fun y => h5 b z (s0 b y)⟩, fun b z => z.elim (fun y => .inl ⟨h4 b y.1, y.2⟩) .inr, fun b z y => ?_⟩
    rcases y with y | y
    · exact h5 b z y.1
    · exact h5 b z (s0 b (h6 b y (h3 b z)))
theorem RpDs.erase : ∀ {ds : List D} {xs : List V} {S : Addr → Prop} {k : Nat} {d0 : D}, RpDs wd F H xs ds S → ds[k]? = some d0 → ∃ v T0, xs[k]? = some v ∧ RpD wd F H v d0 T0 ∧ (∀ b, T0 b → S b) ∧ RpDs wd F H (xs.eraseIdx k) (ds.eraseIdx k) (fun b => S b ∧ ¬ T0 b)
  | [], _, _, _, _, _, e => by simp at e
  | d :: ds, xs, S, 0, d0, r, e => by
    simp only [RpDs] at r
    obtain ⟨v, vr, T, U, rfl, h1, h2, h3, h4, h5⟩ := r
    simp at e; subst e
    refine ⟨v, T, rfl, h1, h3, ?_⟩
    simp only [List.eraseIdx_cons_zero]
    exact RpDs.mono (Same.refl _) ds vr U _ h2 (fun b z => ⟨h4 b z, fun y => h5 b y z⟩) (fun _ _ _ z => z)
  | d :: ds, xs, S, k + 1, d0, r, e => by
    simp only [RpDs] at r
    obtain ⟨v, vr, T, U, rfl, h1, h2, h3, h4, h5⟩ := r
    obtain ⟨w, T0, e1, r0, s0, rb⟩ := RpDs.erase (k := k) h2 (by simpa using e)
    refine ⟨w, T0, by simpa using e1, r0, fun b z => h4 b (s0 b z), ?_⟩
    simp only [List.eraseIdx_cons_succ, RpDs]
    exact ⟨v, _, T, _, rfl, h1, rb, fun b z => ⟨h3 b z, fun y => h5 b z (s0 b y)⟩, fun b z => ⟨h4 b z.1, z.2⟩, fun b z y => h5 b z y.1⟩
theorem ix_at {ds : List D} {xs : List V} {S : Addr → Prop} (r : RpDs wd F H xs ds S) {i : Int} {k : Nat} {v : V} (hk : ixP ds.length i = some k) (hv : xs[k]? = some v) : atI xs i = some v := by
  unfold atI
  have hl : xs.length = ds.length := r.len
  rw [hl]
  have hk : ixN ds.length i = some k := hk
  rw [hk]
  exact hv
theorem path_hole {f : List D → NB.R (D × List D)} : ∀ {p : List Int} {d d' r : D} {v : V} {S : Addr → Prop}, RpD wd F H v d S → atPath f p d = .ok (r, d') → ∃ l xs items items' T, valAt H v p (.ref l) ∧ H l = some (.lst xs) ∧ S l ∧ ¬ T l ∧ (∀ b, T b → S b) ∧ RpDs wd F H xs items T ∧ f items = .ok (r, items') ∧
    ∀ F' H' xs' T', Same F F' → (∀ b u, S b → b ≠ l → ¬ T b → H b = some u → H' b = some u) → H' l = some (.lst xs') → RpDs wd F' H' xs' items' T' → ¬ T' l → (∀ b, T' b → S b → T b) → RpD wd F' H' v d' (fun b => (S b ∧ ¬ T b) ∨ T' b)
  | [], d, d', r, v, S, rd, e => by
    cases d with
    | val p => cases e
    | tup ds => cases e
    | lst ds =>
      simp only [atPath] at e
      cases q : f ds with
      | exc c fs => rw [q] at e; cases e
      | stuck => rw [q] at e; cases e
      | ok a =>
        obtain ⟨r', ds'⟩ := a
        rw [q] at e
        simp only [NB.R.ok_bind, NB.R.ok.injEq, Prod.mk.injEq] at e
        obtain ⟨rfl, rfl⟩ := e
        simp only [RpD] at rd
        obtain ⟨a, xs, T, rfl, h1, h2, h3, h4, h5⟩ := rd
        refine ⟨a, xs, ds, ds', T, rfl, h1, h2, h3, h4, h5, q, fun F' H' xs' T' hF hk hl r' nl sub => ?_⟩
        simp only [RpD]
        exact ⟨a, xs', T', rfl, hl, .inl ⟨h2, h3⟩, nl, fun b z => .inr z, r'⟩
  | i :: p, d, d', r, v, S, rd, e => by
    cases d with
    | val q => cases e
    | lst ds =>
      simp only [atPath] at e
      cases q1 : ixP ds.length i with
      | none => rw [q1] at e; cases e
      | some k =>
        cases q2 : ds[k]? with
        | none => rw [q1] at e; simp only [NB.R.of, NB.R.ok_bind] at e; rw [q2] at e; cases e
        | some d0 =>
          rw [q1] at e
          simp only [NB.R.of, NB.R.ok_bind] at e
          rw [q2] at e
          simp only [NB.R.ok_bind] at e
          cases q3 : atPath f p d0 with
          | exc c fs => rw [q3] at e; cases e
          | stuck => rw [q3] at e; cases e
          | ok b =>
            obtain ⟨r', d1⟩ := b
            rw [q3] at e
            simp only [NB.R.ok_bind, NB.R.pure_eq, NB.R.ok.injEq, Prod.mk.injEq] at e
            obtain ⟨rfl, rfl⟩ := e
            simp only [RpD] at rd
            obtain ⟨a, xs, T, rfl, h1, h2, h3, h4, h5⟩ := rd
            obtain ⟨w, T0, e1, r0, s0, rb⟩ := h5.hole q2
            obtain ⟨l, ys, items, items', Tl, g1, g2, g3, g4, g5, g6, g7, g8⟩ := path_hole r0 q3
            refine ⟨l, ys, items, items', Tl, ⟨w, ⟨a, xs, rfl, .inl h1, ix_at h5 q1 e1⟩, g1⟩, g2, h4 l (s0 l g3), g4, fun b z => h4 b (s0 b (g5 b z)), g6, g7, fun F' H' xs' T' hF hk hl r' nl sub => ?_⟩
            have al : a ≠ l := fun z => h3 (z ▸ s0 l g3)
            have nTla : ¬ Tl a := fun z => h3 (s0 a (g5 a z))
            have r1 := g8 F' H' xs' T' hF (fun b u hb n1 n2 => hk b u (h4 b (s0 b hb)) n1 n2) hl r' nl (fun b z y => sub b z (h4 b (s0 b y)))
            have r2 := rb F' H' d1 _ hF (fun b u hb n => hk b u (h4 b hb) (fun z => n (z ▸ g3)) fun z => n (g5 b z)) r1 (fun b z y => z.elim (fun x => x.1) fun x => g5 b (sub b x (h4 b y)) |> fun y => y)
            simp only [RpD]
            refine ⟨a, xs, _, rfl, hk a _ h2 al nTla h1, .inl ⟨h2, nTla⟩, fun z => ?_, fun b z => ?_, r2⟩
            · rcases z with z | z | z
              · exact h3 z.1
              · exact h3 (s0 a z.1)
              · exact nTla (sub a z h2)
            · rcases z with z | z | z
              · exact .inl ⟨h4 b z.1, fun y => z.2 (g5 b y)⟩
              · exact .inl ⟨h4 b (s0 b z.1), z.2⟩
              · exact .inr z
    | tup ds =>
      simp only [atPath] at e
      cases q1 : ixP ds.length i with
      | none => rw [q1] at e; cases e
      | some k =>
        cases q2 : ds[k]? with
        | none => rw [q1] at e; simp only [NB.R.of, NB.R.ok_bind] at e; rw [q2] at e; cases e
        | some d0 =>
          rw [q1] at e
          simp only [NB.R.of, NB.R.ok_bind] at e
          rw [q2] at e
          simp only [NB.R.ok_bind] at e
          cases q3 : atPath f p d0 with
          | exc c fs => rw [q3] at e; cases e
          | stuck => rw [q3] at e; cases e
          | ok b =>
            obtain ⟨r', d1⟩ := b
            rw [q3] at e
            simp only [NB.R.ok_bind, NB.R.pure_eq, NB.R.ok.injEq, Prod.mk.injEq] at e
            obtain ⟨rfl, rfl⟩ := e
            simp only [RpD] at rd
            obtain ⟨a, xs, T, rfl, h1, h2, h3, h4, h5⟩ := rd
            obtain ⟨w, T0, e1, r0, s0, rb⟩ := h5.hole q2
            obtain ⟨l, ys, items, items', Tl, g1, g2, g3, g4, g5, g6, g7, g8⟩ := path_hole r0 q3
            refine ⟨l, ys, items, items', Tl, ⟨w, ⟨a, xs, rfl, .inr h1, ix_at h5 q1 e1⟩, g1⟩, g2, h4 l (s0 l g3), g4, fun b z => h4 b (s0 b (g5 b z)), g6, g7, fun F' H' xs' T' hF hk hl r' nl sub => ?_⟩
            have al : a ≠ l := fun z => h3 (z ▸ s0 l g3)
            have nTla : ¬ Tl a := fun z => h3 (s0 a (g5 a z))
            have r1 := g8 F' H' xs' T' hF (fun b u hb n1 n2 => hk b u (h4 b (s0 b hb)) n1 n2) hl r' nl (fun b z y => sub b z (h4 b (s0 b y)))
            have r2 := rb F' H' d1 _ hF (fun b u hb n => hk b u (h4 b hb) (fun z => n (z ▸ g3)) fun z => n (g5 b z)) r1 (fun b z y => z.elim (fun x => x.1) fun x => g5 b (sub b x (h4 b y)) |> fun y => y)
            simp only [RpD]
            refine ⟨a, xs, _, rfl, hk a _ h2 al nTla h1, .inl ⟨h2, nTla⟩, fun z => ?_, fun b z => ?_, r2⟩
            · rcases z with z | z | z
              · exact h3 z.1
              · exact h3 (s0 a z.1)
              · exact nTla (sub a z h2)
            · rcases z with z | z | z
              · exact .inl ⟨h4 b z.1, fun y => z.2 (g5 b y)⟩
              · exact .inl ⟨h4 b (s0 b z.1), z.2⟩
              · exact .inr z
def rMeth : Mth → V → List V → Hp → VK → Prop
  | .append => rAppend
  | .extend => rExtend
  | .popAt => rPopAt
  | .pop0 => fun _ _ _ _ => False
theorem meth_core (o : OK wd F R L H σ ε S) {i : Nat} {d d' r da : D} {m : Mth} {p : List Int} {u : V} (he : ε[i]? = some (.ow d)) (e : atPath (fun items => methD m items [da]) p d = .ok (r, d')) (ru : RpD wd F H u da T2) (t2 : Tmp F R H S T2)
    (h : ResE wd W F R L σ Q (.ok (r, setSl ε i d'))) : ∃ v w, σ[i]? = some (some v) ∧ valAt H v p w ∧ (∃ l xs, w = .ref l ∧ H l = some (.lst xs)) ∧ rMeth m w [u] H Q := by
  obtain ⟨v, S1, e0, r0, o1, t0, s1⟩ := o.take he
  obtain ⟨l, xs, items, items', T, g1, g2, g3, g4, g5, g6, g7, g8⟩ := path_hole r0 e
  refine ⟨v, .ref l, e0, g1, ⟨l, xs, rfl, g2⟩, ?_⟩
  have hl : xs.length = items.length := g6.len
  have nFl : F l = none := (o.out i l g3).1
  have nRl : R l = none := (o.out i l g3).2.1
  have nS1 : ∀ j, ¬ S1 j l := fun j z => (t0 l g3).2.2.2 j z
  have nT2S : ∀ b, T2 b → ¬ S i b := fun b z y => (t2 b z).2.2.2 i y
  have put : ∀ {F' : Hp} {ob : HO} {T' : Addr → Prop} {d1 : D}, OK wd F' R L (upd H l ob) σ (ε.set i .no) S1 → RpD wd F' (upd H l ob) v d1 T' → Tmp F' R (upd H l ob) S1 T' → ∃ S3, OK wd F' R L (upd H l ob) σ (setSl ε i d1) S3 ∧ ∀ j a, S3 j a → S1 j a ∨ T' a := fun {F' ob T' d1} oo rr tt => by
    obtain ⟨S3, o3, s3⟩ := oo.putS e0 rr tt
    refine ⟨S3, ?_, s3⟩
    have := set_no_set ε i .no (.ow d1)
    unfold setSl at o3 ⊢
    rw [this] at o3
    exact o3
  have kw : ∀ {ob : HO} b x, b ≠ l → H b = some x → upd H l ob b = some x := fun b x n z => by rw [upd_ne n]; exact z
  cases m with
  | append =>
    simp only [methD] at g7
    split at g7
    case isFalse => cases g7
    rename_i hc
    simp only [NB.R.ok.injEq, Prod.mk.injEq] at g7
    obtain ⟨rfl, rfl⟩ := g7
    refine ⟨l, xs, u, rfl, rfl, g2, ?_, ?_⟩
    · have := cap_line (Nat.le_of_lt hc)
      rw [hl, sizeLine_eq]; unfold cap at hc; omega
    have ow := o1.write (D := l) (u := .lst (xs ++ [u])) nFl nRl nS1
    have r1 := g8 F (upd H l (.lst (xs ++ [u]))) (xs ++ [u]) (fun b => T b ∨ T2 b) (Same.refl _) (fun b x _ n _ z => kw b x n z) upd_same
      (RpDs.app (RpDs.mono (Same.refl _) items xs T T g6 (fun _ z => z) fun b x hb z => kw b x (fun y => g4 (y ▸ hb)) z)
        (by
          simp only [RpDs]
          exact ⟨u, [], T2, fun _ => False, rfl, RpD.mono (Same.refl _) da u T2 T2 ru (fun _ z => z) (fun b x hb z => kw b x (fun y => nT2S b hb (y ▸ g3)) z), rfl, fun _ z => z, fun _ z => z.elim, fun _ _ z => z⟩)
        (fun b z y => nT2S b y (g5 b z))) (fun z => z.elim g4 fun y => nT2S l y g3) (fun b z y => z.elim id fun x => absurd y (nT2S b x))
    obtain ⟨S3, o3, s3⟩ := put ow r1 fun a ha => by
      have base : F a = none ∧ R a = none ∧ (∃ x, H a = some x) ∧ ∀ j, ¬ S1 j a := by
        rcases ha with ⟨ha, _⟩ | ha | ha
        · exact t0 a ha
        · exact t0 a (g5 a ha)
        · obtain ⟨x1, x2, x3, x4⟩ := t2 a ha
          exact ⟨x1, x2, x3, fun j z => x4 j (s1 j a z)⟩
      obtain ⟨x1, x2, ⟨x, x3⟩, x4⟩ := base
      refine ⟨x1, x2, ?_, x4⟩
      by_cases hal : a = l
      · rw [hal]; exact ⟨_, upd_same⟩
      · exact ⟨x, kw a x hal x3⟩
    exact fin_val o3 (h.mono ⟨Same.refl _, o3.fh, o3.rh, fun _ _ _ z => z⟩) rfl
  | extend =>
    simp only [methD] at g7
    split at g7
    case h_2 => cases g7
    rename_i ps hp
    split at g7
    case isFalse => cases g7
    rename_i hc
    simp only [NB.R.ok.injEq, Prod.mk.injEq] at g7
    obtain ⟨rfl, rfl⟩ := g7
    have t2' : Tmp F R H S1 T2 := t2.sub s1 fun _ z => z
    obtain ⟨og, pg⟩ := o1.grow t2'
    have rf : Rp wd (addR F H T2) u da.p := RpD.freeze addR_in da u T2 ru fun b x hb hx => addR_at o.fh hb hx
    rw [hp] at rf
    simp only [Rp] at rf
    obtain ⟨b, zs, rfl, hb, rz⟩ := rf
    refine ⟨l, b, xs, zs, rfl, rfl, g2, og.fh _ _ hb, ?_, ?_⟩
    · rw [hl, rz.len]; exact cap_line hc
    have nF2 : addR F H T2 l = none := addR_none nFl fun z => nT2S l z g3
    have ow := og.write (D := l) (u := .lst (xs ++ zs)) nF2 nRl nS1
    have r1 := g8 (addR F H T2) (upd H l (.lst (xs ++ zs))) (xs ++ zs) T addR_in (fun b x _ n _ z => kw b x n z) upd_same
      (by
        have q := RpDs.app (S := T) (T := fun _ => False) (RpDs.mono (F' := addR F H T2) (H' := upd H l (.lst (xs ++ zs))) addR_in items xs T T g6 (fun _ z => z) fun b x hb z => kw b x (fun y => g4 (y ▸ hb)) z) (RpDs.of_vals (fun _ => False) rz) (fun _ _ z => z)
        exact RpDs.mono (Same.refl _) _ _ _ _ q (fun b z => z.elim id False.elim) fun _ _ _ z => z) g4 (fun b z _ => z)
    obtain ⟨S3, o3, s3⟩ := put ow r1 fun a ha => by
      have hSi : S i a := by
        rcases ha with ⟨ha, _⟩ | ha
        · exact ha
        · exact g5 a ha
      obtain ⟨x1, x2, ⟨x, x3⟩, x4⟩ := t0 a hSi
      refine ⟨addR_none x1 fun z => nT2S a z hSi, x2, ?_, x4⟩
      by_cases hal : a = l
      · rw [hal]; exact ⟨_, upd_same⟩
      · exact ⟨x, kw a x hal x3⟩
    exact fin_val o3 (h.mono ⟨addR_in, o3.fh, o3.rh, pg.gr⟩) rfl
  | popAt =>
    have key : ∃ i', da = .val (.int i') := by
      cases da with
      | val p => cases p <;> first | exact ⟨_, rfl⟩ | cases g7
      | _ => cases g7
    obtain ⟨i', rfl⟩ := key
    have g7 : (if -(2 ^ 63) ≤ i' ∧ i' < 2 ^ 63 then (match ixP items.length i' with
      | some k => (match items[k]? with
        | some d => NB.R.ok (d, items.eraseIdx k)
        | none => .stuck)
      | none => .stuck) else .stuck) = NB.R.ok (r, items') := g7
    split at g7
    case isFalse => cases g7
    rename_i hb
    cases q1 : ixP items.length i' with
    | none => rw [q1] at g7; cases g7
    | some k =>
      rw [q1] at g7
      dsimp only at g7
      cases q2 : items[k]? with
      | none => rw [q2] at g7; cases g7
      | some d0 =>
        rw [q2] at g7
        simp only [NB.R.ok.injEq, Prod.mk.injEq] at g7
        obtain ⟨rfl, rfl⟩ := g7
        simp only [RpD, Rp] at ru
        subst ru
        obtain ⟨w, T0, e1, r1, s0, re⟩ := g6.erase q2
        have q1' : ixN items.length i' = some k := q1
        refine ⟨l, xs, i', k, w, rfl, rfl, g2, hb.1, hb.2, ?_, e1, ?_⟩
        · rw [hl]; exact (ixN_seq q1').1
        have ow := o1.write (D := l) (u := .lst (xs.eraseIdx k)) nFl nRl nS1
        have r2 := g8 F (upd H l (.lst (xs.eraseIdx k))) (xs.eraseIdx k) (fun b => T b ∧ ¬ T0 b) (Same.refl _) (fun b x _ n _ z => kw b x n z) upd_same
          (RpDs.mono (Same.refl _) _ _ _ _ re (fun _ z => z) fun b x hb z => kw b x (fun y => g4 (y ▸ hb.1)) z) (fun z => g4 z.1) (fun b z _ => z.1)
        obtain ⟨S3, o3, s3⟩ := put ow r2 fun a ha => by
          have hSi : S i a := by
            rcases ha with ⟨ha, _⟩ | ha
            · exact ha
            · exact g5 a ha.1
          obtain ⟨x1, x2, ⟨x, x3⟩, x4⟩ := t0 a hSi
          refine ⟨x1, x2, ?_, x4⟩
          by_cases hal : a = l
          · rw [hal]; exact ⟨_, upd_same⟩
          · exact ⟨x, kw a x hal x3⟩
        refine (h.mono ⟨Same.refl _, o3.fh, o3.rh, fun _ _ _ z => z⟩) w F _ S3 T0 (Post.refl o3) o3 (RpD.mono (Same.refl _) d0 w T0 T0 r1 (fun _ z => z) fun b x hb z => kw b x (fun y => g4 (y ▸ s0 b hb)) z) fun a ha => ?_
        obtain ⟨x1, x2, ⟨x, x3⟩, x4⟩ := t0 a (g5 a (s0 a ha))
        refine ⟨x1, x2, ⟨x, kw a x (fun y => g4 (y ▸ s0 a ha)) x3⟩, fun j z => ?_⟩
        rcases s3 j a z with z | z | z
        · exact x4 j z
        · exact z.2 (s0 a ha)
        · exact z.2 ha
  | pop0 => simp only [methD] at g7; cases g7
def Mth.name : Mth → Str
  | .append => "append"
  | .extend => "extend"
  | .popAt => "pop"
  | .pop0 => "pop"
theorem mthOf_ok {x : Str} {m : Mth} (h : mthOf x 1 = some m) : x = m.name ∧ m ≠ .pop0 := by
  unfold mthOf at h
  split at h
  · rename_i hx; cases h; exact ⟨hx.1, by decide⟩
  · split at h
    · rename_i hx; cases h; exact ⟨hx.1, by decide⟩
    · split at h
      · rename_i hx; cases h; exact ⟨hx.1, by decide⟩
      · cases h
theorem bm_PE {o a : Expr} {to : TE} {t : TA} {m : Mth} {ap cp : Pos} (hm : m ≠ .pop0) (ho : PE X o to) (ha : PA X [a] t) (hb : ∀ m, attributeBase o m X.env (eval o X.env) = eval o X.env) (hl : (ap.endLine == cp.line) = true) (hs : ∀ rest env, starEach (a :: rest) env = (false, eval a env) :: starEach rest env) :
    PE X (.Call (.Attribute o m.name ap) [a] [] cp) (tBM X.K "list" (rMeth m) to t) := by
  have few : ((backTo cp (starEach [a] X.env)).all (fun x => !x.1) && (backToKw cp (keywordEach [] X.env)).all (fun x => x.1.isSome)
      && decide (([a] : List Expr).length + ([] : List Keyword).length + (if ([] : List Keyword).isEmpty then 0 else 1) < 30)) = true := by
    rw [hs]; rfl
  cases m with
  | append => exact pe_bm PySem.F.plainAttrs_list PySem.F.slot_list_append PySem.F.type_list_append mt_append ho ha (hb _) few hl (hs _ _) rfl
  | extend => exact pe_bm PySem.F.plainAttrs_list PySem.F.slot_list_extend PySem.F.type_list_extend mt_extend ho ha (hb _) few hl (hs _ _) rfl
  | popAt => exact pe_bm PySem.F.plainAttrs_list PySem.F.slot_list_pop PySem.F.type_list_pop mt_popAt ho ha (hb _) few hl (hs _ _) rfl
  | pop0 => exact absurd rfl hm
theorem plain_isTrue_call {f : Expr} {as : List Expr} {ks : List Keyword} {p : Pos} {env : PySem.Env} : ∀ whole, isTrue (.Call f as ks p) env whole = (do let v ← whole; standAt (Expr.Call f as ks p).pos; holding [v] (truthy v)) := fun _ => rfl
theorem methD_exc {m : Mth} {ds as : List D} {c : Nat} {fs : List P} (q : methD m ds as = .exc c fs) : False := by
  unfold methD at q
  split at q <;> (repeat' (first | (split at q) | cases q))
theorem atPath_exc {f : List D → NB.R (D × List D)} (hf : ∀ ds c fs, f ds = .exc c fs → False) : ∀ {p : List Int} {d : D} {c : Nat} {fs : List P}, atPath f p d = .exc c fs → False
  | [], d, c, fs, e => by
    cases d with
    | lst ds =>
      simp only [atPath] at e
      cases q : f ds with
      | ok b => rw [q] at e; cases e
      | stuck => rw [q] at e; cases e
      | exc c fs => exact hf _ _ _ q
    | _ => cases e
  | i :: p, d, c, fs, e => by
    have go : ∀ (ds : List D), (∀ k d0, ixP ds.length i = some k → ds[k]? = some d0 → atPath f p d0 = .exc c fs) → (ixP ds.length i ≠ none) → (∀ k, ixP ds.length i = some k → ds[k]? ≠ none) → False := fun ds h h1 h2 => by
      cases q1 : ixP ds.length i with
      | none => exact h1 q1
      | some k =>
        cases q2 : ds[k]? with
        | none => exact h2 k q1 q2
        | some d0 => exact atPath_exc hf (h k d0 q1 q2)
    cases d with
    | val q => cases e
    | lst ds =>
      simp only [atPath] at e
      refine go ds (fun k d0 q1 q2 => ?_) (fun q1 => ?_) (fun k q1 q2 => ?_)
      · rw [q1] at e
        simp only [NB.R.of, NB.R.ok_bind] at e
        rw [q2] at e
        simp only [NB.R.ok_bind] at e
        cases q3 : atPath f p d0 with
        | ok b => rw [q3] at e; cases e
        | stuck => rw [q3] at e; cases e
        | exc c' fs' => rw [q3] at e; cases e; rfl
      · rw [q1] at e; cases e
      · rw [q1] at e
        simp only [NB.R.of, NB.R.ok_bind] at e
        rw [q2] at e; cases e
    | tup ds =>
      simp only [atPath] at e
      refine go ds (fun k d0 q1 q2 => ?_) (fun q1 => ?_) (fun k q1 q2 => ?_)
      · rw [q1] at e
        simp only [NB.R.of, NB.R.ok_bind] at e
        rw [q2] at e
        simp only [NB.R.ok_bind] at e
        cases q3 : atPath f p d0 with
        | ok b => rw [q3] at e; cases e
        | stuck => rw [q3] at e; cases e
        | exc c' fs' => rw [q3] at e; cases e; rfl
      · rw [q1] at e; cases e
      · rw [q1] at e
        simp only [NB.R.of, NB.R.ok_bind] at e
        rw [q2] at e; cases e
theorem meth_SE (C : Ctx wd tb Φ I Lf W c X) {o a : Expr} {x : Str} {m : Mth} {i : Nat} {y : NB.X} {ap cp : Pos} (hm : m ≠ .pop0) (hp : pathOf o = some (x, [])) (hv : isVis c.sc x = true) (hd : noDbg x = true) (hpl : place c.N x = some i) (sa : SE wd tb Φ W X a y) (hl : (ap.endLine == cp.line) = true) :
    SE wd tb Φ W X (.Call (.Attribute o m.name ap) [a] [] cp) (.meth m i (.cons y .nil)) := by
  obtain ⟨d1, d2, d3⟩ := noDbg_d hd
  obtain ⟨po, hb⟩ := path_PE (X := X) (by rw [C.n]; exact place_ok hpl) (C.vis hv) d1 d2 (sizeOf o) o [] (Nat.le_refl _) hp
  have pd : PA X [a] (tDs wd W (evs tb Φ (.cons y .nil))) := pa_weak (pa_cons sa.val (pa_weak pa_nil ds_nil) (sa.ns _ _)) ds_cons
  refine mkSE (pe_weak (bm_PE hm po pd hb hl sa.ns) fun σ H Q q => ?_) (fun i => by simp) (fun _ => rfl) (fun _ _ _ => by simp) (fun _ _ => rfl)
  obtain ⟨F, R, L, ε, S, ok, h⟩ := q
  have h : ResE wd W F R L σ Q (match ε[i]? with
    | some (.ow (.lst _)) => (evs tb Φ (.cons y .nil) ε >>= fun (ds, ε2) => match ε2[i]? with
      | some (.ow (.lst items)) => (methD m items ds >>= fun (r, items') => .ok (r, setSl ε2 i (.lst items')))
      | _ => .stuck)
    | _ => .stuck) := h
  split at h
  case h_2 => exact h.elim
  rename_i items0 he0
  obtain ⟨v, e0, r0⟩ := ok.sl i _ he0
  have e1 : σ[i]? = some (some v) := by
    cases q : σ[i]? with
    | none => rw [q] at e0; cases e0
    | some x => rw [q] at e0; simp at e0; rw [e0]
  simp only [RpD] at r0
  obtain ⟨a0, xs0, T0, rfl, ha0, _⟩ := r0
  refine ⟨.ref a0, .ref a0, e1, rfl, .inl ⟨rfl, xs0, .of ha0⟩, F, R, L, ε, S, ok, ?_⟩
  have el : ∀ ds ε2, evs tb Φ (.cons y .nil) ε = .ok (ds, ε2) → ∃ d, ds = [d] := fun ds ε2 e => by
    have e : (ev tb Φ y ε >>= fun (d, ε1) => (NB.R.ok ([], ε1) : NB.R (List D × NB.Env)) >>= fun (ds, ε2) => pure (d :: ds, ε2)) = NB.R.ok (ds, ε2) := e
    cases q : ev tb Φ y ε with
    | ok b => rw [q] at e; cases e; exact ⟨_, rfl⟩
    | exc c fs => rw [q] at e; cases e
    | stuck => rw [q] at e; cases e
  cases e2 : evs tb Φ (.cons y .nil) ε with
  | stuck => rw [e2] at h; exact h
  | exc c fs => rw [e2] at h; exact h
  | ok b =>
    obtain ⟨ds, ε2⟩ := b
    obtain ⟨d, rfl⟩ := el ds ε2 e2
    rw [e2] at h
    simp only [NB.R.ok_bind] at h
    intro vs F1 H1 S1 T1 p1 o1 r1 t1
    split at h
    case h_2 => exact h.elim
    rename_i items hi
    simp only [RpDs] at r1
    obtain ⟨u, ur, T2, U2, rfl, r2, rfl, s2, _, _⟩ := r1
    cases q : methD m items [d] with
    | stuck => rw [q] at h; exact h.elim
    | exc c fs =>
      exfalso
      unfold methD at q
      split at q <;> (repeat' (first | (split at q) | cases q))
    | ok b =>
      obtain ⟨r, items'⟩ := b
      rw [q] at h
      simp only [NB.R.ok_bind] at h
      obtain ⟨v, w, k1, k2, k3, k4⟩ := meth_core (p := []) o1 hi (by simp only [atPath]; rw [q]; rfl) r2 (t1.sub (fun _ _ z => z) s2) (h.mono p1)
      rw [e1] at k1
      cases k1
      have k2 : V.ref a0 = w := k2
      subst k2
      exact k4
theorem methP_SE (C : Ctx wd tb Φ I Lf W c X) {o : Expr} {x : Str} {m : Mth} {i : Nat} {p : List Int} {k : Int} {j : Nat} {ap cp kp : Pos} (hm : m ≠ .pop0) (hp : pathOf o = some (x, p)) (hv : isVis c.sc x = true) (hd : noDbg x = true) (hpl : place c.N x = some i) (hl : (ap.endLine == cp.line) = true) :
    SE wd tb Φ W X (.Call (.Attribute o m.name ap) [.Constant (.int k) j kp] [] cp) (.methP m i p [.int k]) := by
  obtain ⟨d1, d2, d3⟩ := noDbg_d hd
  obtain ⟨po, hb⟩ := path_PE (X := X) (by rw [C.n]; exact place_ok hpl) (C.vis hv) d1 d2 (sizeOf o) o p (Nat.le_refl _) hp
  have pd : PA X [.Constant (.int k) j kp] (tCons (tC (.int k)) tNil) := pa_cons pe_int pa_nil
  refine mkSE (pe_weak (bm_PE hm po pd hb hl (fun _ _ => rfl)) fun σ H Q q => ?_) (fun i => by simp) (fun _ => rfl) (fun _ _ _ => by simp) (fun _ _ => rfl)
  obtain ⟨F, R, L, ε, S, ok, h⟩ := q
  have h : ResE wd W F R L σ Q (match ε[i]? with
    | some (.ow d) => (atPath (fun items => methD m items [.val (.int k)]) p d >>= fun (r, d') => .ok (r, setSl ε i d'))
    | _ => .stuck) := h
  split at h
  case h_2 => exact h.elim
  rename_i d he
  cases q : atPath (fun items => methD m items [.val (.int k)]) p d with
  | stuck => rw [q] at h; exact h.elim
  | exc c fs =>
    exact (atPath_exc (fun ds c fs e => methD_exc e) q).elim
  | ok b =>
    obtain ⟨r, d'⟩ := b
    rw [q] at h
    simp only [NB.R.ok_bind] at h
    obtain ⟨v, w, k1, k2, ⟨l, xs, rfl, hl⟩, k4⟩ := meth_core ok he q (u := .int k) (T2 := fun _ => False) (by simp only [RpD, Rp]) noTmp h
    exact ⟨v, .ref l, k1, k2, .inl ⟨rfl, xs, .of hl⟩, k4⟩
end
end NB
end
section
set_option linter.all false
set_option maxRecDepth 10000
/-! NBSnd5: all expressions. -/
namespace NB
open PySem PySem.Spec PyProof.Rows L2
section
variable {wd : Wd} {tb : Tab} {Φ : Nat → List D → NB.R (D × List D)} {I : Info} {Lf : Addr} {W : WX} {c : Cc} {X : Cx} {F R : Hp} {K : PySem.W.Frag}
theorem opt1 {α β : Type} {o : Option α} {f : α → β} {y : β} (h : o.map f = some y) : ∃ a, o = some a ∧ y = f a := by
  cases o with
  | none => cases h
  | some a => cases h; exact ⟨a, rfl, rfl⟩
theorem plain_any {es : List Expr} (h : ∀ e ∈ es, ∀ rest env, starEach (e :: rest) env = (false, eval e env) :: starEach rest env) (pos : Pos) (env : PySem.Env) : (backTo pos (starEach es env)).any (·.1) = false := by
  induction es with
  | nil => rfl
  | cons e es ih =>
    rw [h e (by simp)]
    exact ih fun e' he => h e' (List.mem_cons_of_mem _ he)
theorem snd_x {n : Nat} (hfl : tb.flds = wd.fl) (ih : Snd wd tb Φ I Lf n) (W : WX) (c : Cc) (X : Cx) (C : Ctx wd tb Φ I Lf W c X) (e : Expr) (x : NB.X) (h : cX I (n + 1) c e = some x) : SE wd tb Φ W X e x := by
  simp only [cX] at h
  split at h
  · exact name_SE C h
  · cases h; exact lit_SE pe_int (fun _ => rfl) (fun _ => rfl) (fun _ _ _ => by simp) (fun _ _ => rfl)
  · cases h; exact lit_SE pe_str (fun _ => rfl) (fun _ => rfl) (fun _ _ _ => by simp) (fun _ _ => rfl)
  · cases h; exact lit_SE pe_bl (fun _ => rfl) (fun _ => rfl) (fun _ _ _ => by simp) (fun _ _ => rfl)
  · cases h; exact lit_SE pe_non (fun _ => rfl) (fun _ => rfl) (fun _ _ _ => by simp) (fun _ _ => rfl)
  · split at h
    · rename_i q1 q2 q3
      cases h
      exact bin_SE C q1 (ih.x W c X C _ _ q2) (ih.x W c X C _ _ q3)
    · cases h
  · obtain ⟨y, q, rfl⟩ := opt1 h
    exact neg_SE (ih.x W c X C _ _ q)
  · obtain ⟨y, q, rfl⟩ := opt1 h
    exact not_SE (ih.x W c X C _ _ q)
  · exact one_SE (ih.x W c X C _ _ h)
  · split at h
    · rename_i q1 q2
      cases h
      exact bool_SE (ih.x W c X C _ _ q1) (ih.x W c X C _ _ q2)
    · cases h
  · split at h
    · rename_i q1 q2 q3
      cases h
      exact cmp_SE C q1 (ih.x W c X C _ _ q2) (ih.x W c X C _ _ q3)
    · cases h
  · split at h
    · rename_i q1 q2 q3 q4 q5
      cases h
      exact cmp2_SE C q1 q2 (ih.x W c X C _ _ q3) (ih.x W c X C _ _ q4) (ih.x W c X C _ _ q5)
    · cases h
  · split at h
    · rename_i q1 q2 q3
      cases h
      exact ife_SE (ih.x W c X C _ _ q1) (ih.x W c X C _ _ q2) (ih.x W c X C _ _ q3)
    · cases h
  · obtain ⟨y, q, rfl⟩ := opt1 h
    exact tup_SE (ih.l W c X C _ _ q)
  · obtain ⟨y, q, rfl⟩ := opt1 h
    exact lst_SE (ih.l W c X C _ _ q)
  · split at h
    · rename_i q1 q2 q3
      cases h
      exact sl_SE C (ih.x W c X C _ _ q1) (ih.o W c X C _ _ q2) (ih.o W c X C _ _ q3)
    · cases h
  · split at h
    · rename_i q1 q2
      cases h
      refine ix_SE (ih.x W c X C _ _ q1) (ih.x W c X C _ _ q2) fun lo hi st p z => ?_
      subst z
      cases n with
      | zero => simp only [cX] at q2; cases q2
      | succ n => simp only [cX] at q2; cases q2
    · cases h
  · split at h
    · rename_i hff
      obtain ⟨y, q, rfl⟩ := opt1 h
      exact attr_SE C hff (ih.x W c X C _ _ q) hfl
    · cases h
  · -- calls of names
    rename_i x0 p args cp
    split at h
    · rename_i hg
      simp only [Bool.and_eq_true] at hg
      split at h
      · rename_i f hf
        split at h
        · cases h
        · rename_i e es
          obtain ⟨y, q, rfl⟩ := opt1 h
          have sl := ih.l W c X C _ _ q
          exact call_SE C hg.2 hg.1 hf sl (sl.st e (by simp) _ _) (plain_any (fun e' he => sl.st e' (List.mem_cons_of_mem _ he)) _ _)
      · split at h
        · rename_i hf
          split at h
          · rename_i hi
            subst hi
            split at h
            · split at h
              · rename_i q1 q2
                split at h
                · rename_i hb
                  cases h
                  simp only [Bool.and_eq_true, List.all_eq_true, decide_eq_true_eq] at hb
                  refine isiT_SE C (fun z => ?_) hg.1 hf (ih.x W c X C _ _ q1) q2 hb.1 hb.2
                  subst z
                  rw [List.mapM_cons] at q2
                  rename_i t ts _ _ _ _ _
                  cases e1 : clOf I c t with
                  | none => rw [e1] at q2; cases q2
                  | some k =>
                    cases e2 : ts.mapM (clOf I c) with
                    | none => rw [e1, e2] at q2; cases q2
                    | some ks => rw [e1, e2] at q2; cases q2
                · cases h
              · cases h
            · split at h
              · rename_i q1 q2
                cases h
                exact isi1_SE C hg.1 hf (ih.x W c X C _ _ q1) q2
              · cases h
            · cases h
          · split at h
            · cases h
            · rename_i hh
              have hh : c.hot = false := by simpa using hh
              split at h
              · split at h
                · rename_i hy
                  obtain ⟨y, q, rfl⟩ := opt1 h
                  have hb : biOf x0 = some BI.list_ := by assumption
                  have hx : x0 = "list" := by
                    unfold biOf at hb
                    split at hb
                    · cases hb
                    · split at hb
                      · cases hb
                      · split at hb
                        · cases hb
                        · split at hb
                          · cases hb
                          · split at hb
                            · cases hb
                            · split at hb
                              · cases hb
                              · split at hb
                                · assumption
                                · split at hb <;> cases hb
                  subst hx
                  obtain ⟨rfl, hy1, hy2⟩ := hy
                  exact rg_SE C hh hg.1 hf hy1 hy2 (ih.x W c X C _ _ q)
                · obtain ⟨y, q, rfl⟩ := opt1 h
                  have sl := ih.l W c X C _ _ q
                  exact bi_SE C hh hg.2 hg.1 hf (by assumption) sl (sl.st _ (by simp) _ _) rfl
              · obtain ⟨y, q, rfl⟩ := opt1 h
                have sl := ih.l W c X C _ _ q
                exact bi_SE C hh hg.2 hg.1 hf (by assumption) sl (sl.st _ (by simp) _ _) (plain_any (fun e' he => sl.st e' (List.mem_cons_of_mem _ he)) _ _)
              · cases h
        · cases h
    · cases h
  · rename_i o m ap a cp
    split at h
    · rename_i hl
      split at h
      · rename_i y m' q1 q2
        obtain ⟨rfl, hm⟩ := mthOf_ok q2
        split at h
        · rename_i hg
          simp only [Bool.and_eq_true] at hg
          split at h
          · rename_i q3 q4
            cases h
            exact meth_SE C hm q1 hg.1 hg.2 q3 (ih.x W c X C _ _ q4) hl
          · cases h
        · cases h
      · rename_i y k ks m' q1 q2
        obtain ⟨rfl, hm⟩ := mthOf_ok q2
        split at h
        · rename_i hg
          simp only [Bool.and_eq_true] at hg
          split at h
          · rename_i q3 q4
            cases h
            unfold constI at q4
            split at q4
            · cases q4
              exact methP_SE C hm q1 hg.1 hg.2 q3 hl
            · cases q4
          · cases h
        · cases h
      · cases h
    · cases h
  · rename_i elt tg it ifs scope pos
    split at h
    · rename_i hb
      simp only [Bool.and_eq_true, Bool.not_eq_true'] at hb
      split at h
      · rename_i q1 q2 q3 q4
        split at h
        · rename_i hi
          simp only [Bool.and_eq_true, List.all_eq_true] at hi
          cases h
          obtain ⟨s1, s2⟩ := ih.t W c X C _ _ tg q2 hi.2
          exact lc_SE C hb.2 hb.1 q1 (fun i hi' => by have := hi.1 i hi'; simpa using this) s1 (fun W' X' C' => ih.f W' _ X' C' _ _ q3) (fun W' X' C' => (ih.x W' _ X' C' _ _ q4).val) s2
        · cases h
      · cases h
    · cases h
  · rename_i elt tg it tg1 y1 p1 ifs scope pos
    split at h
    · rename_i hb
      simp only [Bool.and_eq_true, Bool.not_eq_true'] at hb
      split at h
      · rename_i q1 q2 q3 q4 q5 q6
        split at h
        · rename_i hi
          simp only [Bool.and_eq_true, List.all_eq_true] at hi
          cases h
          obtain ⟨s1, s2⟩ := ih.t W c X C _ _ tg q2 hi.1.1.2
          exact lc2_SE C hb.2 hb.1 q1 q3 (fun i hi' => by have := hi.1.1.1 i hi'; simpa using this) hi.1.2 hi.2 q4 s1 (fun W' X' C' => ih.f W' _ X' C' _ _ q5) (fun W' X' C' => (ih.x W' _ X' C' _ _ q6).val) s2
        · cases h
      · cases h
    · cases h
  · cases h
theorem snd_all (hfl : tb.flds = wd.fl) : ∀ n, Snd wd tb Φ I Lf n
  | 0 => snd_zero
  | n + 1 => ⟨snd_x hfl (snd_all hfl n), snd_l (snd_all hfl n), snd_o (snd_all hfl n), snd_f (snd_all hfl n), snd_t (snd_all hfl n)⟩
end
end NB
end
section
set_option linter.all false
set_option maxRecDepth 10000
/-! NBStm: what statements do, by the evaluator. -/
namespace NB
open PySem PySem.Spec PyProof.Rows L2
/-- kp: the first slot's value z stays -/
def ResS (wd : Wd) (W : WX) (kp : Bool) (z : Option (Option V)) (F R : Hp) (L : Nat → Hp) (D : Ends) : RS → Prop
  | .ok .nx ε' => ∀ σ' F' H' S', Post F R F' H' → OK wd F' R L H' σ' ε' S' → (kp = true → σ'[0]? = z) → D.nx σ' H'
  | .ok .bk ε' => ∀ σ' F' H' S', Post F R F' H' → OK wd F' R L H' σ' ε' S' → (kp = true → σ'[0]? = z) → D.bk σ' H'
  | .ok .ct ε' => ∀ σ' F' H' S', Post F R F' H' → OK wd F' R L H' σ' ε' S' → (kp = true → σ'[0]? = z) → D.ct σ' H'
  | .ok (.rt d) ε' => ∀ v σ' F' H' S' T, Post F R F' H' → OK wd F' R L H' σ' ε' S' → (kp = true → σ'[0]? = z) → RpD wd F' H' v d T → Tmp F' R H' S' T → D.rt v H'
  | .exc c fs ε' => ∀ (d : Addr) (fv : List (Str × V)) (vs : List V) σ' F' H' S', Post F R F' H' → OK wd F' R L H' σ' ε' S' → (kp = true → σ'[0]? = z) → H' d = some (.xd fv) → F' d = none → R d = none → (∀ i, ¬ S' i d) →
      (wd.fl c).map (fun f => fv.lookup f) = vs.map some → Rps wd F' vs fs → W (.ref (wd.ca c)) (some d) σ' H'
  | .stuck => False
def tS (wd : Wd) (W : WX) (kp : Bool) (f : NB.Env → RS) : TS := fun D σ H => ∃ F R L ε S, OK wd F R L H σ ε S ∧ ResS wd W kp σ[0]? F R L D (f ε)
theorem ps_weak {X : Cx} {s : Stmt} {t t' : TS} (h : PS X s t) (k : ∀ D σ H, t' D σ H → t D σ H) : PS X s t' := ⟨fun pins s σ H D I q => h.run pins s σ H D I (k _ _ _ q)⟩
theorem pss_weak {X : Cx} {s : List Stmt} {t t' : TS} (h : PSs X s t) (k : ∀ D σ H, t' D σ H → t D σ H) : PSs X s t' := ⟨fun pins s σ H D I q => h.run pins s σ H D I (k _ _ _ q)⟩
section
variable {wd : Wd} {tb : Tab} {Φ : Nat → List NB.D → NB.R (NB.D × List NB.D)} {I : Info} {Lf : Addr} {W : WX} {c : Cc} {X : Cx} {F F' F1 R R1 H H' H1 : Hp} {L : Nat → Hp} {σ : L2.St} {ε : NB.Env} {S : Own} {T T2 : Addr → Prop} {K : PySem.W.Frag} {Q : VK} {kp : Bool} {z : Option (Option V)} {D : Ends}
theorem ResS.mono {r : RS} (h : ResS wd W kp z F R L D r) (p : Post F R F1 H1) : ResS wd W kp z F1 R L D r := by
  cases r with
  | ok f ε' =>
    cases f with
    | nx => exact fun σ' F' H' S' q => h σ' F' H' S' (p.comp q (Same.refl _))
    | bk => exact fun σ' F' H' S' q => h σ' F' H' S' (p.comp q (Same.refl _))
    | ct => exact fun σ' F' H' S' q => h σ' F' H' S' (p.comp q (Same.refl _))
    | rt d => exact fun v σ' F' H' S' T q => h v σ' F' H' S' T (p.comp q (Same.refl _))
  | exc c fs ε' => exact fun d fv vs σ' F' H' S' q => h d fv vs σ' F' H' S' (p.comp q (Same.refl _))
  | stuck => exact h
/-- slots that hold frozen data alone -/
theorem vo_get {i : Nat} {s : Sl} (h : (vo ε)[i]? = some s) : s = .no ∨ ∃ p, s = .ow (.val p) ∧ ε[i]? = some (.ow (.val p)) := by
  unfold vo at h
  rw [List.getElem?_map] at h
  cases e : ε[i]? with
  | none => rw [e] at h; cases h
  | some s0 =>
    rw [e] at h
    cases h
    cases s0 with
    | no => exact .inl rfl
    | lk ps => exact .inl rfl
    | ow d =>
      cases d with
      | val p => exact .inr ⟨p, rfl, rfl⟩
      | _ => exact .inl rfl
theorem OK.vo (o : OK wd F R L H σ ε S) (p : Post F R F' H') : OK wd F' R L H' σ (NB.vo ε) (fun _ _ => False) := by
  refine ⟨p.fh, p.rh, o.lr, fun i b u e => p.gr b u (o.lr i b u e) (o.lf i b u e), o.lu, by simp [NB.vo, o.len], fun i s e => ?_, fun _ _ _ _ z => z.elim, fun _ _ z => z.elim⟩
  rcases vo_get e with rfl | ⟨q, rfl, h⟩
  · trivial
  · obtain ⟨v, e1, r⟩ := o.sl i _ h
    simp only [RpD] at r
    refine ⟨v, e1, ?_⟩
    simp only [RpD]
    exact Rp.mono p.ff q v r
/-- an error within an expression -/
theorem exc_S (o : OK wd F R L H σ ε S) {c : Nat} {fs : List P} (h : ResS wd W kp σ[0]? F R L D (.exc c fs (NB.vo ε))) : Exq wd W F R σ c fs := fun d fv vs F' H' p e n1 n2 l r =>
  h d fv vs σ F' H' _ p (o.vo p) (fun _ => rfl) e n1 n2 (fun _ z => z) l r
theorem lift_E {f : NB.Env → NB.R (NB.D × NB.Env)} {k : NB.D × NB.Env → RS} (o : OK wd F R L H σ ε S) (h : ResS wd W kp σ[0]? F R L D (lift ε (f ε) k))
    (hk : ∀ d ε1 v F' H' S' T, Post F R F' H' → OK wd F' R L H' σ ε1 S' → RpD wd F' H' v d T → Tmp F' R H' S' T → ResS wd W kp σ[0]? F' R L D (k (d, ε1)) → Q v H') : ResE wd W F R L σ Q (f ε) := by
  cases e : f ε with
  | stuck => rw [e] at h; exact h
  | exc c fs => rw [e] at h; exact exc_S o h
  | ok a =>
    obtain ⟨d, ε1⟩ := a
    rw [e] at h
    exact fun v F' H' S' T p o r t => hk d ε1 v F' H' S' T p o r t (h.mono p)
theorem lift_T {f : NB.Env → NB.R (Bool × NB.Env)} {k : Bool × NB.Env → RS} {Q : Bool → Hp → Prop} (o : OK wd F R L H σ ε S) (h : ResS wd W kp σ[0]? F R L D (lift ε (f ε) k))
    (hk : ∀ b ε1 F' H' S', Post F R F' H' → OK wd F' R L H' σ ε1 S' → ResS wd W kp σ[0]? F' R L D (k (b, ε1)) → Q b H') : ResT wd W F R L σ Q (f ε) := by
  cases e : f ε with
  | stuck => rw [e] at h; exact h
  | exc c fs => rw [e] at h; exact exc_S o h
  | ok a =>
    obtain ⟨d, ε1⟩ := a
    rw [e] at h
    exact fun F' H' S' p o => hk d ε1 F' H' S' p o (h.mono p)
/-! ### simple statements -/
theorem nil_S : ∀ D σ H, tS wd W kp (fun ε => .ok .nx ε) D σ H → tNext D σ H := by
  rintro D σ H ⟨F, R, L, ε, S, o, h⟩
  exact h σ F H S (Post.refl o) o fun _ => rfl
theorem bk_S : ∀ D σ H, tS wd W kp (fun ε => .ok .bk ε) D σ H → tBreak D σ H := by
  rintro D σ H ⟨F, R, L, ε, S, o, h⟩
  exact h σ F H S (Post.refl o) o fun _ => rfl
theorem ct_S : ∀ D σ H, tS wd W kp (fun ε => .ok .ct ε) D σ H → tCont D σ H := by
  rintro D σ H ⟨F, R, L, ε, S, o, h⟩
  exact h σ F H S (Post.refl o) o fun _ => rfl
theorem seq_S {f g : NB.Env → RS} : ∀ D σ H, tS wd W kp (fun ε => (f ε).next g) D σ H → tSeq (tS wd W kp f) (tS wd W kp g) D σ H := by
  rintro D σ H ⟨F, R, L, ε, S, o, h⟩
  refine ⟨F, R, L, ε, S, o, ?_⟩
  dsimp only at h
  cases e : f ε with
  | stuck => rw [e] at h; exact h
  | exc c fs ε' => rw [e] at h; exact h
  | ok fl ε' =>
    rw [e] at h
    cases fl with
    | nx =>
      intro σ' F' H' S' p o' k
      refine ⟨F', R, L, ε', S', o', ?_⟩
      have h : ResS wd W kp σ[0]? F R L D (g ε') := h
      cases kp with
      | false =>
        have h := h.mono p
        have any : ∀ {z z' : Option (Option V)} {r : RS}, ResS wd W false z F' R L D r → ResS wd W false z' F' R L D r := fun {z z' r} h => by
          cases r with
          | ok f ε' =>
            cases f with
            | nx => exact fun σ' F' H' S' q o _ => h σ' F' H' S' q o fun y => by cases y
            | bk => exact fun σ' F' H' S' q o _ => h σ' F' H' S' q o fun y => by cases y
            | ct => exact fun σ' F' H' S' q o _ => h σ' F' H' S' q o fun y => by cases y
            | rt d => exact fun v σ' F' H' S' T q o _ => h v σ' F' H' S' T q o fun y => by cases y
          | exc c fs ε' => exact fun d fv vs σ' F' H' S' q o _ => h d fv vs σ' F' H' S' q o fun y => by cases y
          | stuck => exact h
        exact any h
      | true =>
        rw [k rfl]
        exact h.mono p
    | bk => exact h
    | ct => exact h
    | rt d => exact h
theorem if_S {t : NB.Env → NB.R (Bool × NB.Env)} {f g : NB.Env → RS} : ∀ D σ H, tS wd W kp (fun ε => lift ε (t ε) fun (k, ε1) => if k then f ε1 else g ε1) D σ H → tIfS (tT wd W t) (tS wd W kp f) (tS wd W kp g) D σ H := by
  rintro D σ H ⟨F, R, L, ε, S, o, h⟩
  refine ⟨F, R, L, ε, S, o, lift_T o h fun k ε1 F' H' S' p o' h' => ?_⟩
  cases k with
  | true => exact ⟨F', R, L, ε1, S', o', h'⟩
  | false => exact ⟨F', R, L, ε1, S', o', h'⟩
theorem drop_S {f : NB.Env → NB.R (NB.D × NB.Env)} : ∀ D σ H, tS wd W kp (fun ε => lift ε (f ε) fun (_, ε1) => .ok .nx ε1) D σ H → tDrop (tE wd W f) D σ H := by
  rintro D σ H ⟨F, R, L, ε, S, o, h⟩
  exact ⟨F, R, L, ε, S, o, lift_E o h fun d ε1 v F' H' S' T p o' r t h' => h' σ F' H' S' (Post.refl o') o' fun _ => rfl⟩
theorem ret_S {f : NB.Env → NB.R (NB.D × NB.Env)} : ∀ D σ H, tS wd W kp (fun ε => lift ε (f ε) fun (d, ε1) => .ok (.rt d) ε1) D σ H → tRet (tE wd W f) D σ H := by
  rintro D σ H ⟨F, R, L, ε, S, o, h⟩
  exact ⟨F, R, L, ε, S, o, lift_E o h fun d ε1 v F' H' S' T p o' r t h' => h' v σ F' H' S' T (Post.refl o') o' (fun _ => rfl) r t⟩
theorem retN_S : ∀ D σ H, tS wd W kp (fun ε => .ok (.rt (.val .non)) ε) D σ H → tRetN D σ H := by
  rintro D σ H ⟨F, R, L, ε, S, o, h⟩
  exact h .non σ F H S (fun _ => False) (Post.refl o) o (fun _ => rfl) (by simp only [RpD, Rp]) noTmp
theorem asg_S {g : Pt} {f : NB.Env → NB.R (NB.D × NB.Env)} (hk : kp = true → 0 ∉ g.idx) : ∀ D σ H, tS wd W kp (fun ε => lift ε (f ε) fun (d, ε1) => lift ε1 (assign ε1 g d) fun ε2 => .ok .nx ε2) D σ H → tAsg (tE wd W f) (tgt K g) D σ H := by
  rintro D σ H ⟨F, R, L, ε, S, o, h⟩
  refine ⟨F, R, L, ε, S, o, lift_E o h fun d ε1 v F' H' S' T p o' r t h' => ?_⟩
  dsimp only at h'
  cases e : assign ε1 g d with
  | stuck => rw [e] at h'; exact h'.elim
  | exc c fs => exact (assign_exc e).elim
  | ok ε2 =>
    rw [e] at h'
    refine assign_ok o' r t e fun σ' S2 o2 s2 l2 k2 => h' σ' F' H' S2 (Post.refl o2) o2 fun y => ?_
    exact k2 0 (hk y)
/-- a name's value is handed on -/
theorem moved_E {i : Nat} : ∀ σ H Q, tE wd W (fun ε => match ε[i]? with
    | some (.ow d) => .ok (d, ε.set i .no)
    | _ => .stuck) σ H Q → tVar i σ H Q := by
  rintro σ H Q ⟨F, R, L, ε, S, o, h⟩
  dsimp only at h
  split at h
  · rename_i d he
    obtain ⟨v, S1, e0, r0, o1, t0, s1⟩ := o.take he
    exact ⟨v, e0, h v F H S1 (S i) (Post.refl o1) o1 r0 t0⟩
  · exact h.elim
theorem SE.m {e : Expr} {x : NB.X} (s : SE wd tb Φ W X e x) : PE X e (tE wd W (fun ε => moved x ε (ev tb Φ x ε))) := by
  by_cases h : ∃ i, x = .v i
  · obtain ⟨i, rfl⟩ := h
    exact pe_weak (s.v i rfl) moved_E
  · have e1 : (fun ε => moved x ε (ev tb Φ x ε)) = ev tb Φ x := funext fun ε => by
      cases x <;> first | exact absurd ⟨_, rfl⟩ h | rfl
    rw [e1]
    exact s.val
theorem m_PA {n : Nat} (sn : ∀ m, Snd wd tb Φ I Lf m) (C : Ctx wd tb Φ I Lf W c X) : ∀ {es : List Expr} {n : Nat} {xs : XL}, cXL I n c es = some xs → PA X es (tDs wd W (evm tb Φ xs))
  | es, 0, xs, h => by simp only [cXL] at h; cases h
  | [], n + 1, xs, h => by
    simp only [cXL] at h
    cases h
    exact pa_weak pa_nil ds_nil
  | e :: es, n + 1, xs, h => by
    simp only [cXL] at h
    cases e1 : cX I n c e with
    | none => rw [e1] at h; cases h
    | some x =>
      cases e2 : cXL I n c es with
      | none => rw [e1, e2] at h; cases h
      | some xs' =>
        rw [e1, e2] at h
        cases h
        have s := (sn n).x W c X C e x e1
        exact pa_weak (pa_cons s.m (m_PA (n := n) sn C e2) (s.ns _ _)) ds_cons
theorem ret_PE {n : Nat} (sn : ∀ m, Snd wd tb Φ I Lf m) (C : Ctx wd tb Φ I Lf W c X) {e : Expr} {x : NB.X} (h : cX I n c e = some x) (ht : (∃ es k p, e = .Tuple es k p) ∨ x.isTup = false) : PE X e (tE wd W (evr tb Φ x)) := by
  rcases ht with ⟨es, k, p, rfl⟩ | ht
  · cases n with
    | zero => simp only [cX] at h; cases h
    | succ n =>
      simp only [cX] at h
      obtain ⟨xs, q, rfl⟩ := opt1 h
      exact pe_weak (pe_tup (m_PA (n := n) sn C q)) fun σ H Q q => tup_fin σ H Q q
  · have e1 : evr tb Φ x = fun ε => moved x ε (ev tb Φ x ε) := funext fun ε => by
      cases x <;> first | rfl | cases ht
    rw [e1]
    exact ((sn n).x W c X C e x h).m
end
end NB
end
section
set_option linter.all false
set_option maxRecDepth 10000
/-! NBStm2: += and stores to items; loops. -/
namespace NB
open PySem PySem.Spec PyProof.Rows L2
theorem pget_list {X : Cx} : PGet X (rIxL X.K) := by
  intro pins s σ H o i ov iv Q I ro ri h
  obtain ⟨p, xs, k, z, rfl, rfl, hq, he, q⟩ := h
  cases ro
  obtain ⟨t, rfl⟩ := ri
  obtain ⟨its, r, pl, hz⟩ := I.list hq
  obtain ⟨j, h1, h2, h3, h4, h5⟩ := atI_get he
  obtain ⟨w, ew, rw'⟩ := r.get h2
  have hl := r.length
  have hn := line63
  have fin : EP X pins σ Q w s := ⟨z, H, I, rw', q⟩
  by_cases h0 : 0 ≤ k
  · have hj : k.toNat = j := by
      rw [seqIndex_of h0 h5] at h1
      exact Option.some.inj h1
    exact wpAny_getItem_list pl.isList h0 (by omega) (by rw [hj]; simpa using ew) fin
  · have hj : (k + (its.toArray.size : Int)).toNat = j := by
      rw [seqIndex_neg (by omega) h4] at h1
      rw [List.size_toArray, ← hl]
      exact Option.some.inj h1
    exact wpAny_getItem_list_neg pl.isList (by omega) (by rw [List.size_toArray] <;> omega) (by omega) (by rw [hj]; simpa using ew) fin
/-- the operators of += -/
def ipO : BOp → TIp
  | .add => ipI fun i j => i + j
  | .sub => ipI fun i j => i - j
  | _ => fun _ _ _ _ => False
theorem ip_O {X : Cx} {o : BOp} (h : o = .add ∨ o = .sub) : PIp X o.op (ipO o) := by
  rcases h with rfl | rfl
  · exact ip_add
  · exact ip_sub
section
variable {wd : Wd} {tb : Tab} {Φ : Nat → List NB.D → NB.R (NB.D × List NB.D)} {I : Info} {Lf : Addr} {W : WX} {c : Cc} {X : Cx} {F F' F1 R R1 H H' H1 : Hp} {L : Nat → Hp} {σ : L2.St} {ε : NB.Env} {S : Own} {T T2 : Addr → Prop} {K : PySem.W.Frag} {Q : VK} {kp : Bool} {z : Option (Option V)} {D : Ends}
theorem ow_some (o : OK wd F R L H σ ε S) {i : Nat} {d : NB.D} (h : ε[i]? = some (.ow d)) : ∃ v, σ[i]? = some (some v) ∧ RpD wd F H v d (S i) := by
  obtain ⟨v, e1, r⟩ := o.sl i _ h
  refine ⟨v, ?_, r⟩
  cases q : σ[i]? with
  | none => rw [q] at e1; cases e1
  | some x => rw [q] at e1; simp at e1; rw [e1]
theorem ipO_ok {o : BOp} {a b : Int} {r : NB.D} {al : Bool} (ho : o = .add ∨ o = .sub) (h : binop o (.int a) (.int b) = .ok (r, al)) {Q : VK} (q : ∀ k, r = .val (.int k) → Q (.int k) H) : ipO o (.int a) (.int b) H Q := by
  rcases ho with rfl | rfl
  · cases h; exact ⟨a, b, rfl, rfl, q _ rfl⟩
  · cases h; exact ⟨a, b, rfl, rfl, q _ rfl⟩
theorem aug_S {i : Nat} {o : BOp} {f : NB.Env → NB.R (NB.D × NB.Env)} (ho : o = .add ∨ o = .sub) (hk : kp = true → i ≠ 0) : ∀ D σ H, tS wd W kp (fun ε => match ε[i]? with
    | some (.ow _) => lift ε (f ε) fun (d, ε1) => (match ε1[i]?, d with
      | some (.ow (.val (.int a))), .val (.int b) => (match binop o (.int a) (.int b) with
        | .ok (r, _) => .ok .nx (setSl ε1 i r)
        | _ => .stuck)
      | _, _ => .stuck)
    | _ => .stuck) D σ H → tAug i (tE wd W f) (ipO o) D σ H := by
  rintro D σ H ⟨F, R, L, ε, S, ok, h⟩
  dsimp only at h
  split at h
  case h_2 => exact h.elim
  rename_i d0 he0
  obtain ⟨x, e0, _⟩ := ow_some ok he0
  refine ⟨x, e0, F, R, L, ε, S, ok, lift_E ok h fun d ε1 v F' H' S' T p o' r t h' => ?_⟩
  dsimp only at h'
  split at h'
  case h_2 => exact h'.elim
  rename_i a b he1
  obtain ⟨x', e1, r1⟩ := ow_some o' he1
  rw [e0] at e1
  cases e1
  simp only [RpD, Rp] at r r1
  subst r r1
  split at h'
  case h_2 => exact h'.elim
  rename_i rr al hb
  refine ipO_ok ho hb fun k hk' => ?_
  subst hk'
  obtain ⟨S2, o2, _⟩ := o'.storeS (i := i) (v := .int k) (d := .val (.int k)) (T := fun _ => False) (by simp only [RpD, Rp]) noTmp
  exact h' _ F' H' S2 (Post.refl o2) o2 fun y => List.getElem?_set_ne (hk y)
theorem RpDs.setD {H2 : Hp} {d : NB.D} {v : V} : ∀ {ds : List NB.D} {xs : List V} {S : Addr → Prop} {j : Nat}, RpDs wd F H xs ds S → RpD wd F H2 v d T → (∀ b x, S b → H b = some x → H2 b = some x) → (∀ b, T b → ¬ S b) → j < ds.length → RpDs wd F H2 (xs.set j v) (ds.set j d) (fun b => S b ∨ T b)
  | [], _, _, _, _, _, _, _, hj => by simp at hj
  | d0 :: ds, xs, S, 0, r, rd, hk, hn, _ => by
    simp only [RpDs] at r
    obtain ⟨v0, vr, T1, U, rfl, h1, h2, h3, h4, h5⟩ := r
    simp only [List.set_cons_zero, RpDs]
    exact ⟨v, vr, T, U, rfl, rd, RpDs.mono (Same.refl _) ds vr U U h2 (fun _ z => z) fun b x hb => hk b x (h4 b hb), fun b z => .inr z, fun b z => .inl (h4 b z), fun b y z => hn b y (h4 b z)⟩
  | d0 :: ds, xs, S, j + 1, r, rd, hk, hn, hj => by
    simp only [RpDs] at r
    obtain ⟨v0, vr, T1, U, rfl, h1, h2, h3, h4, h5⟩ := r
    have ih := RpDs.setD (j := j) h2 rd (fun b x hb => hk b x (h4 b hb)) (fun b y z => hn b y (h4 b z)) (by simpa using hj)
    simp only [List.set_cons_succ, RpDs]
    exact ⟨v0, _, T1, _, rfl, RpD.mono (Same.refl _) d0 v0 T1 T1 h1 (fun _ z => z) fun b x hb => hk b x (h3 b hb), ih, fun b z => .inl (h3 b z), fun b z => z.imp (h4 b) id, fun b y z => z.elim (h5 b y) fun w => hn b w (h3 b y)⟩
/-- an item of a name's list is stored -/
theorem put_ix (o : OK wd F R L H σ ε S) {i : Nat} {items : List NB.D} {k : Int} {j : Nat} {p : V} {d : NB.D} {v : V} (he : ε[i]? = some (.ow (.lst items))) (e0 : σ[i]? = some (some p)) (hj : ixP items.length k = some j) (r : RpD wd F H v d T) (t : Tmp F R H S T)
    {Q : Hp → Prop} (h : ∀ H' S', Post F R F H' → OK wd F R L H' σ (setSl ε i (.lst (items.set j d))) S' → Q H') : rSetL p (.int k) v H Q := by
  obtain ⟨v0, S1, e1, r0, o1, t0, s1⟩ := o.take he
  rw [e0] at e1
  cases e1
  simp only [RpD] at r0
  obtain ⟨a, xs, T0, rfl, ha, hSa, nTa, hTS, r1⟩ := r0
  have hl : xs.length = items.length := r1.len
  have hj' : ixN items.length k = some j := hj
  obtain ⟨_, hjl, _, _⟩ := ixN_seq hj'
  obtain ⟨w, Tj, e2, r2, s2, rb⟩ := r1.hole (k := j) (d0 := items[j]) (by simp [hjl])
  refine ⟨a, xs, k, j, rfl, rfl, ha, by rw [hl]; exact hj', ?_⟩
  have nFa := (o.out i a hSa).1
  have nRa := (o.out i a hSa).2.1
  have nTS : ∀ b, T b → ¬ S i b := fun b z y => (t b z).2.2.2 i y
  have kw : ∀ {ob : HO} b x, b ≠ a → H b = some x → upd H a ob b = some x := fun b x n z => by rw [upd_ne n]; exact z
  have ow := o1.write (D := a) (u := .lst (xs.set j v)) nFa nRa (fun j z => (t0 a hSa).2.2.2 j z)
  -- the items behind the store
  have rn : RpD wd F (upd H a (.lst (xs.set j v))) (.ref a) (.lst (items.set j d)) (fun b => S i b ∨ T b) := by
    simp only [RpD]
    exact ⟨a, _, fun b => T0 b ∨ T b, rfl, upd_same, .inl hSa, fun y => y.elim nTa fun y => nTS a y hSa, fun b y => y.imp (hTS b) id, r1.setD (RpD.mono (Same.refl _) d v T T r (fun _ z => z) fun b x hb z => kw b x (fun y => nTS a (y ▸ hb) hSa) z) (fun b x hb z => kw b x (fun y => nTa (y ▸ hb)) z) (fun b z y => nTS b z (hTS b y)) hjl⟩
  obtain ⟨S3, o3, _⟩ := ow.putS (i := i) (v := .ref a) e0 rn fun b hb => by
    have base : F b = none ∧ R b = none ∧ (∃ x, H b = some x) ∧ ∀ j, ¬ S1 j b := by
      rcases hb with hb | hb
      · exact t0 b hb
      · obtain ⟨x1, x2, x3, x4⟩ := t b hb
        exact ⟨x1, x2, x3, fun j y => x4 j (s1 j b y)⟩
    obtain ⟨x1, x2, ⟨x, x3⟩, x4⟩ := base
    refine ⟨x1, x2, ?_, x4⟩
    by_cases hba : b = a
    · rw [hba]; exact ⟨_, upd_same⟩
    · exact ⟨x, kw b x hba x3⟩
  have e3 : setSl (ε.set i .no) i (.lst (items.set j d)) = setSl ε i (.lst (items.set j d)) := set_no_set ..
  rw [e3] at o3
  exact h _ S3 ⟨Same.refl _, o3.fh, o3.rh, fun _ _ _ z => z⟩ o3
theorem setix_S {i : Nat} {f g : NB.Env → NB.R (NB.D × NB.Env)} : ∀ D σ H, tS wd W kp (fun ε => lift ε (f ε) fun (d, ε1) => (match ε1[i]? with
    | some (.ow _) => lift ε1 (g ε1) fun (kd, ε3) => (match kd, ε3[i]? with
      | .val (.int k), some (.ow (.lst items)) => (match ixP items.length k with
        | some j => .ok .nx (setSl ε3 i (.lst (items.set j d)))
        | none => .stuck)
      | _, _ => .stuck)
    | _ => .stuck)) D σ H → tAsg (tE wd W f) (gSub (tVar i) (tE wd W g) rSetL) D σ H := by
  rintro D σ H ⟨F, R, L, ε, S, ok, h⟩
  refine ⟨F, R, L, ε, S, ok, lift_E ok h fun d ε1 v F1 H1 S1 T p1 o1 r1 t1 h1 => ?_⟩
  dsimp only at h1
  split at h1
  case h_2 => exact h1.elim
  rename_i d0 he0
  obtain ⟨x, e0, _⟩ := ow_some o1 he0
  refine ⟨x, e0, ?_⟩
  have fr := o1.frame (T := T) fun j a s t => (t1 a t).2.2.2 j s
  refine ⟨F1, _, L, ε1, S1, fr, ?_⟩
  cases e2 : g ε1 with
  | stuck => rw [e2] at h1; exact h1.elim
  | exc c fs =>
    rw [e2] at h1
    exact Exq.up (exc_S o1 h1) (Same.refl _) addR_in fun _ _ _ z => z
  | ok b =>
    obtain ⟨kd, ε3⟩ := b
    rw [e2] at h1
    intro u F2 H2 S2 T2 p2 o2 r2 t2
    simp only [lift] at h1
    split at h1
    case h_2 => exact h1.elim
    rename_i k items he3
    simp only [RpD, Rp] at r2
    subst r2
    split at h1
    case h_2 => exact h1.elim
    rename_i j hj
    have k1 : ∀ b o, T b → H1 b = some o → H2 b = some o := fun b o t e => p2.rh b o (addR_at o1.rh t e)
    have o3 := o2.unframe addR_in o1.lr
    have tt : Tmp F2 R H2 S2 T := fun a ha => by
      obtain ⟨x1, x2, ⟨w, x3⟩, x4⟩ := t1 a ha
      have at1 := addR_at o1.rh (T := T) ha x3
      refine ⟨p2.gr a w at1 x1, x2, ⟨w, k1 a w ha x3⟩, fun j s => ?_⟩
      have := (o2.out j a s).2.1
      rw [at1] at this; cases this
    refine put_ix o3 he3 e0 hj (RpD.mono p2.ff d v T T r1 (fun _ z => z) k1) tt fun H' S' p o' => ?_
    exact h1 σ F2 H' S' ((p2.weak addR_in).comp p (Same.refl _)) o' fun _ => rfl
theorem augix_S {i : Nat} {o : BOp} {f g : NB.Env → NB.R (NB.D × NB.Env)} (ho : o = .add ∨ o = .sub) : ∀ D σ H, tS wd W kp (fun ε => match ε[i]? with
    | some (.ow _) => lift ε (g ε) fun (kd, ε2) => (match kd, ε2[i]? with
      | .val (.int k), some (.ow (.lst items)) => (match (ixP items.length k).bind fun j => items[j]? with
        | some (.val (.int a)) => lift ε2 (f ε2) fun (d, ε3) => (match d, ε3[i]? with
          | .val (.int b), some (.ow (.lst items3)) => (match ixP items3.length k, binop o (.int a) (.int b) with
            | some j3, .ok (r, _) => .ok .nx (setSl ε3 i (.lst (items3.set j3 r)))
            | _, _ => .stuck)
          | _, _ => .stuck)
        | _ => .stuck)
      | _, _ => .stuck)
    | _ => .stuck) D σ H → tAugS (tVar i) (tE wd W g) (tE wd W f) (rIxL K) (ipO o) rSetL D σ H := by
  rintro D σ H ⟨F, R, L, ε, S, ok, h⟩
  dsimp only at h
  split at h
  case h_2 => exact h.elim
  rename_i d0 he0
  obtain ⟨x, e0, _⟩ := ow_some ok he0
  refine ⟨x, e0, F, R, L, ε, S, ok, lift_E ok h fun kd ε2 u F2 H2 S2 T2 p2 o2 r2 t2 h2 => ?_⟩
  dsimp only at h2
  split at h2
  case h_2 => exact h2.elim
  rename_i k items he2
  simp only [RpD, Rp] at r2
  subst r2
  split at h2
  case h_2 => exact h2.elim
  rename_i a ha
  obtain ⟨x', e1, r1⟩ := ow_some o2 he2
  rw [e0] at e1
  cases e1
  simp only [RpD] at r1
  obtain ⟨b, xs, T0, rfl, hb, hSb, nTb, hTS, r3⟩ := r1
  have hget : ∃ j, ixN items.length k = some j ∧ items[j]? = some (.val (.int a)) := by
    cases q : ixP items.length k with
    | none => rw [q] at ha; cases ha
    | some j => rw [q] at ha; exact ⟨j, q, ha⟩
  obtain ⟨j, hj, hja⟩ := hget
  obtain ⟨w, Tj, e3, r4, _⟩ := r3.hole hja
  simp only [RpD, Rp] at r4
  subst r4
  refine ⟨b, xs, k, .int a, rfl, rfl, .of hb, ix_at r3 hj e3, F2, R, L, ε2, S2, o2, lift_E o2 h2 fun d ε3 y F3 H3 S3 T3 p3 o3 r5 t3 h3 => ?_⟩
  dsimp only at h3
  split at h3
  case h_2 => exact h3.elim
  rename_i bb items3 he3
  simp only [RpD, Rp] at r5
  subst r5
  split at h3
  case h_2 => exact h3.elim
  rename_i j3 rr al hj3 hbb
  refine ipO_ok ho hbb fun kk hkk => ?_
  subst hkk
  refine put_ix (T := fun _ => False) (d := .val (.int kk)) o3 he3 e0 hj3 (by simp only [RpD, Rp]) noTmp fun H' S' p o' => ?_
  exact h3 σ F3 H' S' p o' fun _ => rfl
/-! ### loops -/
/-- out of a locked region: only what the slots hold for good counts -/
theorem ne_lk_vo {i : Nat} {ps : List P} : (NB.vo ε)[i]? ≠ some (.lk ps) := fun h => by
  rcases vo_get h with z | ⟨_, z, _⟩ <;> cases z
theorem OK.drop {L1 : Nat → Hp} (o : OK wd F' R1 L1 H' σ ε S) (hn : ∀ (i : Nat) (ps : List P), ε[i]? ≠ some (Sl.lk ps)) (hR : Same R R1) (p : Post F R1 F' H') (hl : ∀ i, Same (L i) R) (hf : ∀ i b u, L i b = some u → F b = none) (hu : ∀ i a b o o', L i a = some o → L i b = some o' → a = b) : OK wd F' R L H' σ ε S := by
  refine ⟨o.fh, hR.trans o.rh, hl, fun i b u e => p.gr b u (hR b u (hl i b u e)) (hf i b u e), hu, o.len, fun i s e => ?_, o.dis, fun i a s => ⟨(o.out i a s).1, Same.none' hR (o.out i a s).2.1, (o.out i a s).2.2⟩⟩
  have q := o.sl i s e
  cases s with
  | no => trivial
  | ow d => exact q
  | lk ps => exact absurd e (hn i ps)
theorem zAny {z z' : Option (Option V)} {r : RS} (h : ResS wd W kp z F R L D r) (hz : kp = true → z' = z) : ResS wd W kp z' F R L D r := by
  cases r with
  | ok f ε' =>
    cases f with
    | nx => exact fun σ' F' H' S' q o k => h σ' F' H' S' q o fun y => (k y).trans (hz y)
    | bk => exact fun σ' F' H' S' q o k => h σ' F' H' S' q o fun y => (k y).trans (hz y)
    | ct => exact fun σ' F' H' S' q o k => h σ' F' H' S' q o fun y => (k y).trans (hz y)
    | rt d => exact fun v σ' F' H' S' T q o k => h v σ' F' H' S' T q o fun y => (k y).trans (hz y)
  | exc c fs ε' => exact fun d fv vs σ' F' H' S' q o k => h d fv vs σ' F' H' S' q o fun y => (k y).trans (hz y)
  | stuck => exact h
theorem for_S {g : Pt} {it : NB.Env → NB.R (List P × List (Arg × NB.Env) × NB.Env)} {f : NB.Env → RS} (hk : kp = true → 0 ∉ g.idx) (hf : ∀ ε c fs ε', f ε = .exc c fs ε' → ∀ (i : Nat) (ps : List P), ε'[i]? ≠ some (Sl.lk ps)) : ∀ D σ H, tS wd W kp (fun ε => lift ε (it ε) fun (ps, us, ε1) => (forLoop g f ps ε1).after (unlocks us)) D σ H → tFor (tIt wd W it) (tgt K g) (tS wd W kp f) D σ H := by
  rintro D σ H ⟨F, R, L, ε, S, o, h⟩
  dsimp only at h
  refine ⟨F, R, L, ε, S, o, ?_⟩
  cases e : it ε with
  | stuck => rw [e] at h; exact h
  | exc c fs => rw [e] at h; exact exc_S o h
  | ok a =>
    obtain ⟨ps, us, ε1⟩ := a
    rw [e] at h
    simp only [lift] at h
    intro J F1 R1 L1 H1 S1 p1 hR o1 hI hU
    have h := h.mono p1
    -- what is owed
    let Owes : List P → NB.Env → Prop := fun rest εk => ResS wd W kp σ[0]? F1 R L D ((forLoop g f rest εk).after (unlocks us))
    refine ⟨fun i m σ' H => m = ps.length - i ∧ i ≤ ps.length ∧ ∃ F2 εk Sk, Post F1 R1 F2 H ∧ OK wd F2 R1 L1 H σ' εk Sk ∧ (kp = true → σ'[0]? = σ[0]?) ∧ Owes (ps.drop i) εk, ⟨ps.length, by simp, Nat.zero_le _, F1, ε1, S1, Post.refl o1, o1, fun _ => rfl, h⟩, ?_⟩
    have toR : ∀ {F2 H2 : Hp}, Post F1 R1 F2 H2 → Post F1 R F2 H2 := fun p => p.weak hR
    have gFl : ∀ i b u, L i b = some u → F1 b = none := fun i b u e => p1.gr b u (o.lr i b u e) (o.lf i b u e)
    -- a body's end in terms of the loop's
    have outS : ∀ {F2 H2 : Hp} {r : RS} {N : L2.St → Hp → Prop} {σ2 : L2.St}, Post F1 R1 F2 H2 → (kp = true → σ2[0]? = σ[0]?) →
        (match r with
          | .ok .nx ε2 => ∀ σ' F' H' S', Post F2 R1 F' H' → OK wd F' R1 L1 H' σ' ε2 S' → (kp = true → σ'[0]? = σ2[0]?) → N σ' H'
          | .ok .ct ε2 => ∀ σ' F' H' S', Post F2 R1 F' H' → OK wd F' R1 L1 H' σ' ε2 S' → (kp = true → σ'[0]? = σ2[0]?) → N σ' H'
          | .ok .bk ε2 => ResS wd W kp σ[0]? F1 R L D ((RS.ok .nx ε2).after (unlocks us))
          | .exc c fs ε2 => (∀ (i : Nat) (ps : List P), ε2[i]? ≠ some (Sl.lk ps)) ∧ ResS wd W kp σ[0]? F1 R L D (.exc c fs ε2)
          | r => ResS wd W kp σ[0]? F1 R L D (r.after (unlocks us))) → ResS wd W kp σ2[0]? F2 R1 L1 { D with nx := N, ct := N, bk := D.nx } r := fun {F2 H2 r N σ2} p kz h => by
      cases r with
      | stuck => exact h
      | exc c fs ε2 =>
        intro d fv vs σ' F' H' S' q o' kk e1 e2 e3 e4 e5 e6
        have pq := p.comp q (Same.refl _)
        have o2 := o'.drop (R := R) (L := L) h.1 hR pq o.lr gFl o.lu
        exact h.2 d fv vs σ' F' H' S' (toR pq) o2 (fun y => (kk y).trans (kz y)) e1 e2 (Same.none' hR e3) e4 e5 e6
      | ok fl ε2 =>
        cases fl with
        | nx => exact h
        | ct => exact h
        | bk =>
          intro σ' F' H' S' q o' kk
          have pq := p.comp q (Same.refl _)
          obtain ⟨S3, o3, _⟩ := hU F' H' σ' ε2 S' pq o'
          exact h σ' F' H' S3 (toR pq) o3 fun y => (kk y).trans (kz y)
        | rt d =>
          intro v σ' F' H' S' T q o' kk r t
          have pq := p.comp q (Same.refl _)
          obtain ⟨S3, o3, s3⟩ := hU F' H' σ' ε2 S' pq o'
          refine h v σ' F' H' S3 T (toR pq) o3 (fun y => (kk y).trans (kz y)) r fun a ha => ?_
          obtain ⟨x1, x2, x3, x4⟩ := t a ha
          refine ⟨x1, Same.none' hR x2, x3, fun j y => ?_⟩
          rcases s3 j a y with y | ⟨u, y⟩
          · exact x4 j y
          · rw [x2] at y; cases y
    rintro i m σ2 H2 ⟨rfl, hi, F2, εk, Sk, p2, o2, kz, owes⟩
    have sF : Same F1 H2 := p2.ff.trans p2.fh
    have sR : Same R1 H2 := p2.rh
    by_cases hlt : i < ps.length
    case neg =>
      have hi' : i = ps.length := by omega
      subst hi'
      refine .inl ⟨hI.stops H2 sF sR, ?_⟩
      have owes : ResS wd W kp σ[0]? F1 R L D ((forLoop g f (ps.drop ps.length) εk).after (unlocks us)) := owes
      rw [List.drop_length] at owes
      obtain ⟨S3, o3, _⟩ := hU F2 H2 σ2 εk Sk p2 o2
      exact owes σ2 F2 H2 S3 (toR p2) o3 kz
    case pos =>
      refine .inr ⟨hI.goes i H2 hlt sF sR, fun σ' H => ∃ m', m' < ps.length - i ∧ (m' = ps.length - (i + 1) ∧ i + 1 ≤ ps.length ∧ ∃ F2 εk Sk, Post F1 R1 F2 H ∧ OK wd F2 R1 L1 H σ' εk Sk ∧ (kp = true → σ'[0]? = σ[0]?) ∧ Owes (ps.drop (i + 1)) εk), fun σ' H' y => y, fun x H3 y => ?_⟩
      have hp : ps[i]? = some ps[i] := List.getElem?_eq_getElem hlt
      have hdrop : ps.drop i = ps[i] :: ps.drop (i + 1) := List.drop_eq_getElem_cons hlt
      have owes : ResS wd W kp σ[0]? F1 R L D ((forLoop g f (ps.drop i) εk).after (unlocks us)) := owes
      rw [hdrop] at owes
      generalize ps[i] = p at hp owes
      have y := hI.yields i H2 x H3 p hp sF sR y
      obtain ⟨F3, o3, p3, rx⟩ : ∃ F3, OK wd F3 R1 L1 H3 σ2 εk Sk ∧ Post F2 R1 F3 H3 ∧ Rp wd F3 x p := by
        rcases y with ⟨rfl, rx⟩ | ⟨a, vs, qs, rfl, ha, rfl, rfl, rx⟩
        · exact ⟨F2, o2, Post.refl o2, Rp.mono p2.ff p x rx⟩
        · obtain ⟨oa, pa, na⟩ := o2.alloc (u := .tup vs) ha
          have ta : Tmp F2 R1 (upd H2 a (.tup vs)) Sk (fun b => b = a) := fun b z => by
            rw [z]
            exact ⟨Same.none' o2.fh ha, Same.none' o2.rh ha, ⟨_, upd_same⟩, na⟩
          obtain ⟨og, pg⟩ := oa.grow ta
          refine ⟨_, og, pa.comp pg (Same.refl _), ?_⟩
          simp only [Rp]
          exact ⟨a, vs, rfl, addR_at oa.fh rfl upd_same, Rps.mono (p2.ff.trans addR_in) qs vs rx⟩
      have p13 := p2.comp p3 (Same.refl _)
      simp only [forLoop] at owes
      cases ea : assign εk g (.val p) with
      | stuck => rw [ea] at owes; exact owes.elim
      | exc c fs => exact (assign_exc ea).elim
      | ok ε2 =>
        rw [ea] at owes
        simp only [lift] at owes
        refine assign_ok (T := fun _ => False) o3 (by simp only [RpD]; exact rx) noTmp ea fun σ3 S2 o4 s4 l4 k4 => ?_
        have kz3 : kp = true → σ3[0]? = σ[0]? := fun y => (k4 0 (hk y)).trans (kz y)
        refine ⟨F3, R1, L1, ε2, S2, o4, outS p13 kz3 ?_⟩
        cases ef : f ε2 with
        | stuck => rw [ef] at owes; exact owes
        | exc c fs ε3 => rw [ef] at owes; exact ⟨hf _ _ _ _ ef, owes⟩
        | ok fl ε3 =>
          rw [ef] at owes
          cases fl with
          | nx => exact fun σ' F' H' S' q o' kk => ⟨ps.length - (i + 1), by omega, rfl, hlt, F', ε3, S', p13.comp q (Same.refl _), o', fun y => (kk y).trans (kz3 y), owes⟩
          | ct => exact fun σ' F' H' S' q o' kk => ⟨ps.length - (i + 1), by omega, rfl, hlt, F', ε3, S', p13.comp q (Same.refl _), o', fun y => (kk y).trans (kz3 y), owes⟩
          | bk => exact owes
          | rt d => exact owes
end
end NB
end
section
set_option linter.all false
set_option maxRecDepth 10000
/-! NBStm3: while, raise, try; errors' environments. -/
namespace NB
open PySem PySem.Spec PyProof.Rows L2
def NoLk (ε : NB.Env) : Prop := ∀ (i : Nat) (ps : List P), ε[i]? ≠ some (Sl.lk ps)
theorem noLk_vo {ε : NB.Env} : NoLk (NB.vo ε) := fun i ps => ne_lk_vo
theorem lift_lk {α : Type} {ε : NB.Env} {r : NB.R α} {f : α → RS} {c : Nat} {fs : List P} {ε' : NB.Env} (h : lift ε r f = .exc c fs ε') (hf : ∀ a, f a = .exc c fs ε' → NoLk ε') : NoLk ε' := by
  cases r with
  | ok a => exact hf a h
  | exc c fs => cases h; exact noLk_vo
  | stuck => cases h
section
variable {tb : Tab} {Φ : Nat → List NB.D → NB.R (NB.D × List NB.D)} {mkx : Nat → List P → NB.R (List P)} {fuel : Nat}
theorem forLoop_lk {g : Pt} {f : NB.Env → RS} (hf : ∀ ε c fs ε', f ε = .exc c fs ε' → NoLk ε') : ∀ {ps : List P} {ε : NB.Env} {c : Nat} {fs : List P} {ε' : NB.Env}, forLoop g f ps ε = .exc c fs ε' → NoLk ε'
  | [], _, _, _, _, h => by cases h
  | p :: ps, ε, c, fs, ε', h => by
    simp only [forLoop] at h
    refine lift_lk h fun ε1 h => ?_
    cases e : f ε1 with
    | stuck => rw [e] at h; cases h
    | exc c' fs' ε2 => rw [e] at h; cases h; exact hf _ _ _ _ e
    | ok fl ε2 =>
      rw [e] at h
      cases fl with
      | nx => exact forLoop_lk hf h
      | ct => exact forLoop_lk hf h
      | bk => cases h
      | rt d => cases h
theorem whLoop_lk {t : NB.Env → NB.R (Bool × NB.Env)} {f : NB.Env → RS} (hf : ∀ ε c fs ε', f ε = .exc c fs ε' → NoLk ε') : ∀ {n : Nat} {ε : NB.Env} {c : Nat} {fs : List P} {ε' : NB.Env}, whLoop t f n ε = .exc c fs ε' → NoLk ε'
  | 0, _, _, _, _, h => by cases h
  | n + 1, ε, c, fs, ε', h => by
    simp only [whLoop] at h
    refine lift_lk h fun a h => ?_
    try dsimp only at h
    split at h
    · cases e : f a.2 with
      | stuck => rw [e] at h; cases h
      | exc c' fs' ε2 => rw [e] at h; cases h; exact hf _ _ _ _ e
      | ok fl ε2 =>
        rw [e] at h
        cases fl with
        | nx => exact whLoop_lk hf h
        | ct => exact whLoop_lk hf h
        | bk => cases h
        | rt d => cases h
    · cases h
theorem after_lk {r : RS} {f : NB.Env → NB.Env} {c : Nat} {fs : List P} {ε' : NB.Env} (h : r.after f = .exc c fs ε') : r = .exc c fs ε' := by
  cases r with
  | ok fl ε => cases fl <;> cases h
  | exc c fs ε => exact h
  | stuck => cases h
mutual
theorem es_lk : ∀ (s : S) {ε : NB.Env} {c : Nat} {fs : List P} {ε' : NB.Env}, es tb Φ mkx fuel s ε = .exc c fs ε' → NoLk ε'
  | .asg g e, ε, c, fs, ε', h => by
    simp only [es] at h
    exact lift_lk h fun a h => lift_lk h fun b h => by cases h
  | .aug i o e, ε, c, fs, ε', h => by
    simp only [es] at h
    split at h
    · refine lift_lk h fun a h => ?_
      try dsimp only at h
      repeat' (first | (split at h) | cases h)
    · cases h
  | .setix i k e, ε, c, fs, ε', h => by
    simp only [es] at h
    refine lift_lk h fun a h => ?_
    try dsimp only at h
    split at h
    · refine lift_lk h fun a h => ?_
      try dsimp only at h
      repeat' (first | (split at h) | cases h)
    · cases h
  | .augix i k o e, ε, c, fs, ε', h => by
    simp only [es] at h
    split at h
    · refine lift_lk h fun a h => ?_
      try dsimp only at h
      split at h
      · split at h
        · refine lift_lk h fun a h => ?_
          try dsimp only at h
          repeat' (first | (split at h) | cases h)
        · cases h
      · cases h
    · cases h
  | .ex e, ε, c, fs, ε', h => by
    simp only [es] at h
    exact lift_lk h fun a h => by cases h
  | .ret e, ε, c, fs, ε', h => by
    simp only [es] at h
    exact lift_lk h fun a h => by cases h
  | .retN, ε, c, fs, ε', h => by simp only [es] at h; cases h
  | .iff t a b, ε, c, fs, ε', h => by
    simp only [es] at h
    refine lift_lk h fun k h => ?_
    try dsimp only at h
    split at h
    · exact ess_lk a h
    · exact ess_lk b h
  | .for_ g it body, ε, c, fs, ε', h => by
    simp only [es] at h
    refine lift_lk h fun k h => ?_
    exact forLoop_lk (fun ε c fs ε' h => ess_lk body h) (after_lk h)
  | .wh t body, ε, c, fs, ε', h => by
    simp only [es] at h
    exact whLoop_lk (fun ε c fs ε' h => ess_lk body h) h
  | .bk, ε, c, fs, ε', h => by simp only [es] at h; cases h
  | .ct, ε, c, fs, ε', h => by simp only [es] at h; cases h
  | .pass, ε, c, fs, ε', h => by simp only [es] at h; cases h
  | .raise k xs, ε, c, fs, ε', h => by
    simp only [es] at h
    exact lift_lk h fun a h => by cases h; exact noLk_vo
  | .try_ body c0 i hd, ε, c, fs, ε', h => by
    simp only [es] at h
    split at h
    · rename_i e
      split at h
      · repeat' (first | (split at h) | cases h)
      · cases h
        exact ess_lk body e
    · rename_i e1 e2
      exact ess_lk body h
theorem ess_lk : ∀ (ss : SS) {ε : NB.Env} {c : Nat} {fs : List P} {ε' : NB.Env}, ess tb Φ mkx fuel ss ε = .exc c fs ε' → NoLk ε'
  | .nil, ε, c, fs, ε', h => by simp only [ess] at h; cases h
  | .cons s ss, ε, c, fs, ε', h => by
    simp only [ess] at h
    cases e : es tb Φ mkx fuel s ε with
    | stuck => rw [e] at h; cases h
    | exc c' fs' ε2 => rw [e] at h; cases h; exact es_lk s e
    | ok fl ε2 =>
      rw [e] at h
      cases fl with
      | nx => exact ess_lk ss h
      | _ => cases h
end
end
section
variable {wd : Wd} {tb : Tab} {Φ : Nat → List NB.D → NB.R (NB.D × List NB.D)} {I : Info} {Lf : Addr} {W : WX} {c : Cc} {X : Cx} {F F' F1 R R1 H H' H1 : Hp} {L : Nat → Hp} {σ : L2.St} {ε : NB.Env} {S : Own} {T T2 : Addr → Prop} {K : PySem.W.Frag} {Q : VK} {kp : Bool} {z : Option (Option V)} {D : Ends}
theorem wh_S {t : NB.Env → NB.R (Bool × NB.Env)} {f : NB.Env → RS} {n : Nat} : ∀ D σ H, tS wd W kp (fun ε => whLoop t f n ε) D σ H → tWhile (tT wd W t) (tS wd W kp f) D σ H := by
  rintro D σ H ⟨F, R, L, ε, S, o, h⟩
  refine ⟨fun m σ' H' => ∃ F2 εk Sk, Post F R F2 H' ∧ OK wd F2 R L H' σ' εk Sk ∧ (kp = true → σ'[0]? = σ[0]?) ∧ ResS wd W kp σ[0]? F R L D (whLoop t f m εk), ⟨n, F, ε, S, Post.refl o, o, fun _ => rfl, h⟩, ?_⟩
  rintro m σ2 H2 ⟨F2, εk, Sk, p2, o2, kz, owes⟩
  cases m with
  | zero => exact owes.elim
  | succ m =>
    simp only [whLoop] at owes
    have owes2 := zAny (owes.mono p2) kz
    refine ⟨F2, R, L, εk, Sk, o2, ?_⟩
    cases e : t εk with
    | stuck => rw [e] at owes; exact owes
    | exc c fs => rw [e] at owes2; exact exc_S o2 owes2
    | ok a =>
      obtain ⟨k, ε1⟩ := a
      rw [e] at owes
      simp only [lift] at owes
      intro F3 H3 S3 p3 o3
      have p23 := p2.comp p3 (Same.refl _)
      cases k with
      | false =>
        simp only [Bool.false_eq_true, if_false] at owes ⊢
        exact owes σ2 F3 H3 S3 p23 o3 kz
      | true =>
        simp only [if_true] at owes ⊢
        refine ⟨fun σ' H' => ∃ F2 εk Sk, Post F R F2 H' ∧ OK wd F2 R L H' σ' εk Sk ∧ (kp = true → σ'[0]? = σ[0]?) ∧ ResS wd W kp σ[0]? F R L D (whLoop t f m εk), fun σ' H' q => ⟨m, Nat.lt_succ_self _, q⟩, F3, R, L, ε1, S3, o3, ?_⟩
        cases ef : f ε1 with
        | stuck => rw [ef] at owes; exact owes
        | exc c fs ε2 => rw [ef] at owes; exact zAny (owes.mono p23) kz
        | ok fl ε2 =>
          rw [ef] at owes
          cases fl with
          | nx => exact fun σ' F' H' S' q o' kk => ⟨F', ε2, S', p23.comp q (Same.refl _), o', fun y => (kk y).trans (kz y), owes⟩
          | ct => exact fun σ' F' H' S' q o' kk => ⟨F', ε2, S', p23.comp q (Same.refl _), o', fun y => (kk y).trans (kz y), owes⟩
          | bk => exact zAny (owes.mono p23) kz
          | rt d => exact zAny (owes.mono p23) kz
/-- an error of the c-th class, its fields the arguments -/
def rMk (wd : Wd) (c : Nat) : List V → Hp → L2.XK → Prop := fun vs H Q => vs.length = (wd.fl c).length ∧ (wd.fl c).Nodup ∧ ∀ d, H d = none → Q (.ref (wd.ca c)) (some d) (upd H d (.xd ((wd.fl c).zip vs)))
def mkxOf (tb : Tab) : Nat → List P → NB.R (List P) := fun c ps => if ps.length = (tb.flds c).length ∧ (tb.flds c).Nodup then .ok ps else .stuck
theorem zip_lookup {fs : List Str} {vs : List V} (hn : fs.Nodup) (hl : vs.length = fs.length) : fs.map (fun f => (fs.zip vs).lookup f) = vs.map some := by
  induction fs generalizing vs with
  | nil => cases vs with
    | nil => rfl
    | cons v vs => simp at hl
  | cons f fs ih =>
    cases vs with
    | nil => simp at hl
    | cons v vs =>
      simp only [List.nodup_cons] at hn
      simp only [List.zip_cons_cons, List.map_cons, List.lookup_cons, beq_self_eq_true, List.cons.injEq, true_and]
      rw [← ih hn.2 (by simpa using hl)]
      refine List.map_congr_left fun g hg => ?_
      have : (g == f) = false := by
        rw [beq_eq_false_iff_ne]
        exact fun z => hn.1 (z ▸ hg)
      rw [this]
theorem raise_S (hfl : tb.flds = wd.fl) {k : Nat} {f : NB.Env → NB.R (List NB.D × NB.Env)} : ∀ D σ H, tS wd W kp (fun ε => lift ε (f ε >>= fun (ds, _) => mkxOf tb k (NB.D.ps ds)) fun fs => .exc k fs (NB.vo ε)) D σ H →
    (tDs wd W f) σ H (fun vs H1 => rMk wd k vs H1 (fun cls d H' => W cls d σ H')) := by
  rintro D σ H ⟨F, R, L, ε, S, o, h⟩
  dsimp only at h
  refine ⟨F, R, L, ε, S, o, ?_⟩
  cases e : f ε with
  | stuck => rw [e] at h; exact h
  | exc c fs => rw [e] at h; exact exc_S o h
  | ok a =>
    obtain ⟨ds, ε1⟩ := a
    rw [e] at h
    simp only [NB.R.ok_bind] at h
    intro vs F1 H1 S1 T1 p1 o1 r1 t1
    unfold mkxOf at h
    split at h
    case isFalse => exact h.elim
    rename_i hc
    rw [hfl] at hc
    have hl : vs.length = (wd.fl k).length := by rw [r1.len, ← NB.D.ps_len, hc.1]
    refine ⟨hl, hc.2, fun d hd => ?_⟩
    simp only [lift] at h
    -- the fields are frozen
    obtain ⟨og, pg⟩ := o1.grow t1
    obtain ⟨oa, pa, na⟩ := og.alloc (u := .xd ((wd.fl k).zip vs)) hd
    have pp := (p1.comp pg (Same.refl _)).comp pa (Same.refl _)
    refine h d _ vs σ _ _ _ pp (o.vo pp) (fun _ => rfl) upd_same (Same.none' og.fh hd) (Same.none' og.rh hd) (fun _ y => y) (zip_lookup hc.2 hl) ?_
    exact RpDs.freeze addR_in ds vs T1 r1 fun b x hb hx => addR_at o1.fh hb hx
end
end NB
end
section
set_option linter.all false
set_option maxRecDepth 10000
/-! NBTry: try. -/
namespace NB
open PySem PySem.Spec PyProof.Rows L2
/-- the error that is handled is known -/
abbrev Wd.at (wd : Wd) (x : Addr × Addr × Addr) : Wd := { wd with xn := some x }
section
variable {wd : Wd} {x : Addr × Addr × Addr} {F H : Hp}
mutual
theorem Rp.up (h : wd.xn = none) : ∀ (p : P) (v : V), Rp wd F v p → Rp (wd.at x) F v p
  | .non, _, r => r
  | .bl _, _, r => r
  | .int _, _, r => r
  | .str _, _, r => r
  | .tup ps, v, r => by
    simp only [Rp] at r ⊢
    obtain ⟨a, xs, e, h1, h2⟩ := r
    exact ⟨a, xs, e, h1, Rps.up h ps xs h2⟩
  | .lst ps, v, r => by
    simp only [Rp] at r ⊢
    obtain ⟨a, xs, e, h1, h2⟩ := r
    exact ⟨a, xs, e, h1, Rps.up h ps xs h2⟩
  | .exc c fs, v, r => by
    simp only [Rp] at r
    obtain ⟨a, d, fv, vs, e, h1, _⟩ := r
    rw [h] at h1; cases h1
  | .scr ns, v, r => r
theorem Rps.up (h : wd.xn = none) : ∀ (ps : List P) (vs : List V), Rps wd F vs ps → Rps (wd.at x) F vs ps
  | [], _, r => r
  | p :: ps, vs, r => by
    simp only [Rps] at r ⊢
    obtain ⟨v, vr, e, h1, h2⟩ := r
    exact ⟨v, vr, e, Rp.up h p v h1, Rps.up h ps vr h2⟩
end
mutual
theorem Rp.down : ∀ (p : P) (v : V), p.ne = true → Rp (wd.at x) F v p → Rp wd F v p
  | .non, _, _, r => r
  | .bl _, _, _, r => r
  | .int _, _, _, r => r
  | .str _, _, _, r => r
  | .tup ps, v, n, r => by
    simp only [Rp] at r ⊢
    obtain ⟨a, xs, e, h1, h2⟩ := r
    exact ⟨a, xs, e, h1, Rps.down ps xs (by simpa only [P.ne] using n) h2⟩
  | .lst ps, v, n, r => by
    simp only [Rp] at r ⊢
    obtain ⟨a, xs, e, h1, h2⟩ := r
    exact ⟨a, xs, e, h1, Rps.down ps xs (by simpa only [P.ne] using n) h2⟩
  | .exc c fs, v, n, r => by simp [P.ne] at n
  | .scr ns, v, _, r => r
theorem Rps.down : ∀ (ps : List P) (vs : List V), P.nes ps = true → Rps (wd.at x) F vs ps → Rps wd F vs ps
  | [], _, _, r => r
  | p :: ps, vs, n, r => by
    simp only [Rps] at r ⊢
    simp only [P.nes, Bool.and_eq_true] at n
    obtain ⟨v, vr, e, h1, h2⟩ := r
    exact ⟨v, vr, e, Rp.down p v n.1 h1, Rps.down ps vr n.2 h2⟩
end
mutual
theorem RpD.up (h : wd.xn = none) : ∀ (d : D) (v : V) (S : Addr → Prop), RpD wd F H v d S → RpD (wd.at x) F H v d S
  | .val p, v, S, r => by simp only [RpD] at r ⊢; exact Rp.up h p v r
  | .tup ds, v, S, r => by
    simp only [RpD] at r ⊢
    obtain ⟨a, xs, T, e, h1, h2, h3, h4, h5⟩ := r
    exact ⟨a, xs, T, e, h1, h2, h3, h4, RpDs.up h ds xs T h5⟩
  | .lst ds, v, S, r => by
    simp only [RpD] at r ⊢
    obtain ⟨a, xs, T, e, h1, h2, h3, h4, h5⟩ := r
    exact ⟨a, xs, T, e, h1, h2, h3, h4, RpDs.up h ds xs T h5⟩
theorem RpDs.up (h : wd.xn = none) : ∀ (ds : List D) (vs : List V) (S : Addr → Prop), RpDs wd F H vs ds S → RpDs (wd.at x) F H vs ds S
  | [], _, _, r => by simpa only [RpDs] using r
  | d :: ds, vs, S, r => by
    simp only [RpDs] at r ⊢
    obtain ⟨v, vr, T, U, e, h1, h2, h3⟩ := r
    exact ⟨v, vr, T, U, e, RpD.up h d v T h1, RpDs.up h ds vr U h2, h3⟩
end
mutual
theorem RpD.down : ∀ (d : D) (v : V) (S : Addr → Prop), d.p.ne = true → RpD (wd.at x) F H v d S → RpD wd F H v d S
  | .val p, v, S, n, r => by simp only [RpD, D.p] at r n ⊢; exact Rp.down p v n r
  | .tup ds, v, S, n, r => by
    simp only [RpD, D.p, P.ne] at r n ⊢
    obtain ⟨a, xs, T, e, h1, h2, h3, h4, h5⟩ := r
    exact ⟨a, xs, T, e, h1, h2, h3, h4, RpDs.down ds xs T n h5⟩
  | .lst ds, v, S, n, r => by
    simp only [RpD, D.p, P.ne] at r n ⊢
    obtain ⟨a, xs, T, e, h1, h2, h3, h4, h5⟩ := r
    exact ⟨a, xs, T, e, h1, h2, h3, h4, RpDs.down ds xs T n h5⟩
theorem RpDs.down : ∀ (ds : List D) (vs : List V) (S : Addr → Prop), P.nes (D.ps ds) = true → RpDs (wd.at x) F H vs ds S → RpDs wd F H vs ds S
  | [], _, _, _, r => by simpa only [RpDs] using r
  | d :: ds, vs, S, n, r => by
    simp only [RpDs, D.ps, P.nes, Bool.and_eq_true] at r n ⊢
    obtain ⟨v, vr, T, U, e, h1, h2, h3⟩ := r
    exact ⟨v, vr, T, U, e, RpD.down d v T n.1 h1, RpDs.down ds vr U n.2 h2, h3⟩
end
end
section
variable {wd : Wd} {tb : Tab} {Φ : Nat → List NB.D → NB.R (NB.D × List NB.D)} {I : Info} {Lf : Addr} {W : WX} {c : Cc} {X : Cx} {F F' F1 R R1 H H' H1 : Hp} {L : Nat → Hp} {σ : L2.St} {ε : NB.Env} {S : Own} {T T2 : Addr → Prop} {K : PySem.W.Frag} {Q : VK} {kp : Bool} {z : Option (Option V)} {D : Ends} {x : Addr × Addr × Addr}
theorem OK.up (h : wd.xn = none) (o : OK wd F R L H σ ε S) : OK (wd.at x) F R L H σ ε S := by
  refine ⟨o.fh, o.rh, o.lr, o.lf, o.lu, o.len, fun i s e => ?_, o.dis, o.out⟩
  have q := o.sl i s e
  cases s with
  | no => trivial
  | ow d => obtain ⟨v, e1, r⟩ := q; exact ⟨v, e1, RpD.up h d v _ r⟩
  | lk ps => obtain ⟨a, xs, e1, r1, r2⟩ := q; exact ⟨a, xs, e1, r1, Rps.up h ps xs r2⟩
theorem OK.down (o : OK (wd.at x) F R L H σ ε S) (n : ε.all Sl.ne = true) : OK wd F R L H σ ε S := by
  refine ⟨o.fh, o.rh, o.lr, o.lf, o.lu, o.len, fun i s e => ?_, o.dis, o.out⟩
  have q := o.sl i s e
  have ns : s.ne = true := List.all_eq_true.mp n s (List.mem_of_getElem? e)
  cases s with
  | no => trivial
  | ow d => obtain ⟨v, e1, r⟩ := q; exact ⟨v, e1, RpD.down d v _ ns r⟩
  | lk ps => obtain ⟨a, xs, e1, r1, r2⟩ := q; exact ⟨a, xs, e1, r1, Rps.down ps xs ns r2⟩
/-- a slot that nothing is known of loses its value -/
theorem OK.none (o : OK wd F R L H σ ε S) (i : Nat) : OK wd F R L H (σ.set i none) (ε.set i .no) S := by
  have o1 := o.forget i
  refine ⟨o1.fh, o1.rh, o1.lr, o1.lf, o1.lu, by simp [o.len], fun j s e => ?_, o1.dis, o1.out⟩
  rcases getElem?_set_cases e with ⟨rfl, rfl, hl⟩ | ⟨n, e⟩
  · trivial
  · rw [List.getElem?_set_ne n]
    exact o.sl j s e
/-- what the handler's suite does -/
def tHot (wd : Wd) (kp : Bool) (g : NB.Env → RS) : Addr → Value → Option Addr → TS := fun a cls d D σ H => ∃ cc dd, cls = .ref (wd.ca cc) ∧ d = some dd ∧ tS (wd.at (a, wd.ca cc, dd)) (fun _ _ _ _ => False) kp g D σ H
theorem try_S {f g : NB.Env → RS} {i k : Nat} (hx : wd.xn = none) (hk : kp = true → i ≠ 0) (exm : ∀ c', PySem.W.exmOne K (.ref (wd.ca c')) (.ref (wd.ca k)) = some (tb.sub c' k)) : ∀ D σ H, tS wd W kp (fun ε => match f ε with
    | .exc c' fs ε1 => if tb.sub c' k then (match g (ε1.set i (.ow (.val (.exc c' fs)))) with
      | .ok f ε2 => if f.ne && (ε2.set i .no).all Sl.ne then .ok f (ε2.set i .no) else .stuck
      | _ => .stuck) else .exc c' fs ε1
    | r => r) D σ H → tS wd (wAs K (.ref (wd.ca k)) i (tHot wd kp g) W D) kp f D σ H := by
  rintro D σ H ⟨F, R, L, ε, S, o, h⟩
  dsimp only at h
  refine ⟨F, R, L, ε, S, o, ?_⟩
  cases e : f ε with
  | stuck => rw [e] at h; exact h
  | ok fl ε1 =>
    rw [e] at h
    cases fl with
    | nx => exact h
    | bk => exact h
    | ct => exact h
    | rt d => exact h
  | exc c' fs ε1 =>
    rw [e] at h
    dsimp only at h
    intro d fv vs σ1 F1 H1 S1 p1 o1 kz e1 e2 e3 e4 e5 e6
    refine ⟨tb.sub c' k, exm c', fun hb a na => ?_, fun hb => ?_⟩
    · rw [if_pos hb] at h
      refine ⟨c', d, rfl, rfl, ?_⟩
      have td : Tmp F1 R H1 S1 (fun b => b = d) := fun b y => by
        rw [y]; exact ⟨e2, e3, ⟨_, e1⟩, e4⟩
      obtain ⟨og, pg⟩ := o1.grow td
      have pp := p1.comp pg (Same.refl _)
      have ou := og.up (x := (a, wd.ca c', d)) hx
      have rx : RpD (wd.at (a, wd.ca c', d)) (addR F1 H1 fun b => b = d) H1 (.ref a) (.val (.exc c' fs)) (fun _ => False) := by
        simp only [RpD, Rp]
        exact ⟨a, d, fv, vs, rfl, rfl, addR_at o1.fh rfl e1, e5, Rps.up hx fs vs (Rps.mono addR_in fs vs e6)⟩
      obtain ⟨S2, o2, s2⟩ := ou.storeS (i := i) rx noTmp
      refine ⟨_, R, L, _, S2, o2, ?_⟩
      cases eg : g (ε1.set i (.ow (.val (.exc c' fs)))) with
      | stuck => rw [eg] at h; exact h.elim
      | exc c2 fs2 ε2 => rw [eg] at h; exact h.elim
      | ok fl ε2 =>
        rw [eg] at h
        dsimp only at h
        split at h
        case isFalse => exact h.elim
        rename_i hn
        simp only [Bool.and_eq_true] at hn
        have z0 : kp = true → (σ1.set i (some (V.ref a)))[0]? = σ[0]? := fun y => by
          rw [List.getElem?_set_ne (hk y)]; exact kz y
        have back : ∀ {σ' : L2.St} {F' H' : Hp} {S' : Own}, OK (wd.at (a, wd.ca c', d)) F' R L H' σ' ε2 S' → OK wd F' R L H' (σ'.set i none) (ε2.set i .no) S' := fun {σ' F' H' S'} o' => (o'.none i).down hn.2
        have zk : ∀ {σ' : L2.St}, (kp = true → σ'[0]? = (σ1.set i (some (V.ref a)))[0]?) → kp = true → (σ'.set i none)[0]? = σ[0]? := fun {σ'} kk y => by
          rw [List.getElem?_set_ne (hk y), kk y, z0 y]
        rw [show g (setSl ε1 i (.val (.exc c' fs))) = .ok fl ε2 from eg]
        cases fl with
        | nx => exact fun σ' F' H' S' q o' kk => h _ F' H' S' (pp.comp q (Same.refl _)) (back o') (zk kk)
        | bk => exact fun σ' F' H' S' q o' kk => h _ F' H' S' (pp.comp q (Same.refl _)) (back o') (zk kk)
        | ct => exact fun σ' F' H' S' q o' kk => h _ F' H' S' (pp.comp q (Same.refl _)) (back o') (zk kk)
        | rt d' => exact fun v σ' F' H' S' T q o' kk r t => h v _ F' H' S' T (pp.comp q (Same.refl _)) (back o') (zk kk) (RpD.down d' v T hn.1 r) t
    · rw [hb] at h
      exact h d fv vs σ1 F1 H1 S1 p1 o1 kz e1 e2 e3 e4 e5 e6
end
end NB
end
section
set_option linter.all false
set_option maxRecDepth 10000
/-! NBAll: all statements. -/
namespace NB
open PySem PySem.Spec PyProof.Rows L2
structure CalmS (wd : Wd) (tb : Tab) (Φ : Nat → List D → NB.R (D × List D)) (I : Info) (W : WX) (c : Cc) (X : Cx) : Prop where
  hs : X.stack = X.env :: X.outer
  po : PassesOwn (model X.prog X.w) X.A X.env X.xe
  tk : L2N.Takes X W
  exm : ∀ c' k, PySem.W.exmOne X.K (.ref (wd.ca c')) (.ref (wd.ca k)) = some (tb.sub c' k)
  mke : ∀ pn xe x k, I.cls x = some k → ∀ (e : Expr) (es : List Expr) (t : TA) (p pos : Pos), Gl X x → (x == ("__debug__" : Str)) = false → PA (X.tr pn xe) (e :: es) t → starEach (e :: es) X.env = (false, eval e X.env) :: starEach es X.env → (backTo pos (starEach es X.env)).any (·.1) = false →
    L2N.PMk (X.tr pn xe) (.Call (.Name x p) (e :: es) [] pos) (fun σ H Q => t σ H fun vs H1 => rMk wd k vs H1 Q)
  hot : ∀ a oe cc dd pn, L2N.Zn (.ref (wd.ca cc)) (some dd) oe → (∃ vs, oe.data = .fields vs) → Ctx (wd.at (a, wd.ca cc, dd)) tb Φ I X.env.locals (fun _ _ _ _ => False) { c with hot := true } (X.suite a ((a, oe) :: pn))
structure CtxS (wd : Wd) (tb : Tab) (Φ : Nat → List D → NB.R (D × List D)) (I : Info) (W : WX) (c : Cc) (X : Cx) : Prop where
  base : Ctx wd tb Φ I X.env.locals W c X
  calm : c.hot = false → CalmS wd tb Φ I W c X
section
variable {wd : Wd} {tb : Tab} {Φ : Nat → List NB.D → NB.R (NB.D × List NB.D)} {I : Info} {Lf : Addr} {W : WX} {c : Cc} {X : Cx} {fuel : Nat}
theorem CtxS.tr (C : CtxS wd tb Φ I W c X) (hh : c.hot = false) {pn : List (Addr × Obj)} {xe : Value → Shared → Prop} {W' : WX} (tk : L2N.Takes (X.tr pn xe) W') (po : PassesOwn (model X.prog X.w) X.A X.env xe) : CtxS wd tb Φ I W' c (X.tr pn xe) := by
  have B := C.base
  have S := C.calm hh
  refine ⟨⟨B.n, B.nd, B.sc, B.k, B.calm, B.un, B.fr, B.st, tk_def tk, B.sto, B.con, B.free, fun x f e => ⟨fun _ => (B.fns x f e).1 hh, fun z => by rw [hh] at z; cases z⟩, B.xn, B.mu, B.cls, ?_, ?_⟩, fun _ => ⟨S.hs, po, tk, S.exm, fun pn' xe' => S.mke pn' xe', S.hot⟩⟩
  · intro pins s σ H vs us Q I r h
    obtain ⟨a, c, d, k, _, e, _⟩ := h
    rw [B.xn hh] at e; cases e
  · intro x p pos f te _ he
    refine ⟨fun pins s σ H Q I h => ?_⟩
    refine attr_of rfl (thn (he.run pins s σ H _ I h) fun u s1 hh' => ?_)
    obtain ⟨_, _, _, _, _, _, _, _, _, _, e, _⟩ := hh'
    rw [B.xn hh] at e; cases e
/-- the statements of one round -/
structure SndS (tb : Tab) (Φ : Nat → List NB.D → NB.R (NB.D × List NB.D)) (I : Info) (fuel : Nat) (n : Nat) : Prop where
  s : ∀ wd W c X, tb.flds = wd.fl → CtxS wd tb Φ I W c X → ∀ s y, cS I n c s = some y → PS X s (tS wd W c.kp (es tb Φ (mkxOf tb) fuel y))
  ss : ∀ wd W c X, tb.flds = wd.fl → CtxS wd tb Φ I W c X → ∀ ss y, cSS I n c ss = some y → PSs X ss (tS wd W c.kp (ess tb Φ (mkxOf tb) fuel y))
theorem sndS_ss {n : Nat} (ih : SndS tb Φ I fuel n) (wd : Wd) (W : WX) (c : Cc) (X : Cx) (hfl : tb.flds = wd.fl) (C : CtxS wd tb Φ I W c X) (ss : List Stmt) (y : SS) (h : cSS I (n + 1) c ss = some y) : PSs X ss (tS wd W c.kp (ess tb Φ (mkxOf tb) fuel y)) := by
  simp only [cSS] at h
  cases ss with
  | nil =>
    cases h
    exact pss_weak pss_nil nil_S
  | cons s ss =>
    dsimp only at h
    cases e1 : cS I n c s with
    | none => rw [e1] at h; cases h
    | some x =>
      cases e2 : cSS I n c ss with
      | none => rw [e1, e2] at h; cases h
      | some xs =>
        rw [e1, e2] at h
        cases h
        exact pss_weak (pss_cons (ih.s wd W c X hfl C s x e1) (ih.ss wd W c X hfl C ss xs e2)) seq_S
theorem held_T {x : NB.X} : ∀ σ H Q, tT wd W (et tb Φ (held I x)) σ H Q → tT wd W (et tb Φ x) σ H Q := by
  intro σ H Q q
  unfold held at q
  split at q
  · exact et_hold σ H Q q
  · exact q
theorem kp_idx {e : Expr} {g : Pt} (h : cPt c e = some g) : c.kp = true → 0 ∉ g.idx := by
  intro hk
  unfold cPt at h
  split at h
  · rename_i x p
    obtain ⟨i, q, rfl⟩ := opt1 h
    obtain ⟨_, _, k⟩ := ptOf_name q
    simp only [Pt.idx, List.mem_singleton]
    exact fun z => k hk z.symm
  · split at h
    · cases h
    · obtain ⟨is, q, rfl⟩ := opt1 h
      simp only [Pt.idx]
      have : ∀ {es : List Expr} {is : List Nat}, es.mapM (ptOf c) = some is → 0 ∉ is := by
        intro es
        induction es with
        | nil => intro is h; simp only [List.mapM_nil] at h; cases h; simp
        | cons e es ih =>
          intro is h
          rw [List.mapM_cons] at h
          cases e1 : ptOf c e with
          | none => rw [e1] at h; cases h
          | some i =>
            cases e2 : es.mapM (ptOf c) with
            | none => rw [e1, e2] at h; cases h
            | some js =>
              rw [e1, e2] at h
              cases h
              intro hm
              rcases List.mem_cons.mp hm with z | z
              · cases e with
                | Name x p =>
                  obtain ⟨_, _, k⟩ := ptOf_name e1
                  exact k hk z.symm
                | _ => cases e1
              · exact ih e2 z
      exact this q
  · cases h
theorem sw_false {t e : Expr} {n : Nat} {x : NB.X} {l : Nat} {env : PySem.Env} (hx : cX I n c e = some x) (h : swOk c t e = true) (he : ∀ a b d p, e ≠ .ListComp a b d p) : swapsWithSole [t] e l env = pure false ∧ swappedStores [t] e env = pure none := by
  cases n with
  | zero => simp only [cX] at hx; cases hx
  | succ n =>
    refine ⟨?_, ?_⟩
    · show swapsWith e (some t) l env = pure false
      cases e <;> first | rfl | exact absurd rfl (he _ _ _ _) | (simp only [cX] at hx; cases hx)
    · cases e with
      | Tuple es k p =>
        cases t with
        | Tuple ts k2 p2 => simp only [swOk] at h; cases h
        | List ts p2 => simp only [swOk] at h; cases h
        | _ => rfl
      | _ => cases t <;> rfl
theorem lc_inv {n : Nat} {elt : Expr} {gens : List Comprehension} {scope : Scope} {q : Pos} {x : NB.X} (h : cX I (n + 1) c (.ListComp elt gens scope q) = some x) :
    (∃ tg it ifs g y f e, gens = [⟨tg, it, ifs, 0⟩] ∧ x = .lc g ((ownOf c scope).map (·.2)) y f e ∧ blkC c.N c.sc scope (ownOf c scope) = true ∧ c.hot = false ∧ cPt (inC c scope) tg = some g ∧ cIt I n c it = some y ∧ cIf I n (inC c scope) ifs = some f ∧ cX I n (inC c scope) elt = some e ∧ (∀ i ∈ g.idx, i ∈ (ownOf c scope).map (·.2)) ∧ itT y tg = true) ∨
    (∃ tg it tg1 z1 p1 ifs g y g1 i1 f e, gens = [⟨tg, it, [], 0⟩, ⟨tg1, .Name z1 p1, ifs, 0⟩] ∧ x = .lc2 g ((ownOf c scope).map (·.2)) y g1 i1 f e ∧ blkC c.N c.sc scope (ownOf c scope) = true ∧ c.hot = false ∧ cPt (inC c scope) tg = some g ∧ cIt I n c it = some y ∧ cPt (inC c scope) tg1 = some g1 ∧ place c.N z1 = some i1 ∧ cIf I n (inC c scope) ifs = some f ∧ cX I n (inC c scope) elt = some e ∧ (∀ i ∈ g.idx ++ g1.idx, i ∈ (ownOf c scope).map (·.2)) ∧ itT y tg = true ∧ isVis (inC c scope).sc z1 = true ∧ noDbg z1 = true) := by
  cases gens with
  | nil => simp only [cX] at h; cases h
  | cons g1 gs =>
    obtain ⟨tg, it, ifs, as⟩ := g1
    cases gs with
    | nil =>
      by_cases h0 : as = 0
      case neg =>
        exfalso
        simp only [cX] at h
        split at h
        all_goals first | cases h | skip
        all_goals (rename_i heq; first | (cases heq; done) | (cases heq; exact absurd rfl h0))
      case pos =>
        subst h0
        left
        simp only [cX] at h
        split at h
        · rename_i hb
          simp only [Bool.and_eq_true, Bool.not_eq_true'] at hb
          split at h
          · rename_i q1 q2 q3 q4
            split at h
            · rename_i hi
              simp only [Bool.and_eq_true, List.all_eq_true] at hi
              cases h
              exact ⟨_, _, _, _, _, _, _, rfl, rfl, hb.1, hb.2, q1, q2, q3, q4, fun i hi' => by have := hi.1 i hi'; simpa using this, hi.2⟩
            · cases h
          · cases h
        · cases h
    | cons g2 gs =>
      obtain ⟨tg1, it1, ifs1, as1⟩ := g2
      cases gs with
      | cons g3 gs => simp only [cX] at h; cases h
      | nil =>
        cases ifs with
        | cons i is => simp only [cX] at h; cases h
        | nil =>
          by_cases h0 : as = 0 ∧ as1 = 0
          case neg =>
            exfalso
            simp only [cX] at h
            split at h
            all_goals first | cases h | skip
            all_goals (rename_i heq; first | (cases heq; done) | (cases heq; exact absurd ⟨rfl, rfl⟩ h0))
          case pos =>
              obtain ⟨rfl, rfl⟩ := h0
              right
              cases it1 with
              | Name z1 p1 =>
                simp only [cX] at h
                split at h
                · rename_i hb
                  simp only [Bool.and_eq_true, Bool.not_eq_true'] at hb
                  split at h
                  · rename_i q1 q2 q3 q4 q5 q6
                    split at h
                    · rename_i hi
                      simp only [Bool.and_eq_true, List.all_eq_true] at hi
                      cases h
                      exact ⟨_, _, _, _, _, _, _, _, _, _, _, _, rfl, rfl, hb.1, hb.2, q1, q2, q3, q4, q5, q6, fun i hi' => by have := hi.1.1.1 i hi'; simpa using this, hi.1.1.2, hi.1.2, hi.2⟩
                    · cases h
                  · cases h
                · cases h
              | _ => simp only [cX] at h; cases h
theorem asg_at {t : Expr} {g : Pt} (h : cPt c t = some g) (env : PySem.Env) : (assignEach [t] env).map (·.2) = [PySem.assign t env] := by
  unfold cPt at h
  split at h
  · rfl
  · rfl
  · cases h
theorem asg_PS (C : CtxS wd tb Φ I W c X) (hfl : tb.flds = wd.fl) {n : Nat} {t e : Expr} {g : Pt} {x : NB.X} {p : Pos} (hs : swOk c t e = true) (hg : cPt c t = some g) (hx : cX I n c e = some x) : PS X (.Assign [t] e p) (tS wd W c.kp (es tb Φ (mkxOf tb) fuel (.asg g x))) := by
  have sn := snd_all (wd := wd) (tb := tb) (Φ := Φ) (I := I) (Lf := X.env.locals) hfl
  by_cases hl : ∃ a b d q, e = .ListComp a b d q
  · obtain ⟨elt, gens, scope, q, rfl⟩ := hl
    cases t with
    | Name y py =>
      simp only [swOk, Bool.and_eq_true, decide_eq_true_eq, beq_iff_eq, Bool.not_eq_true'] at hs
      obtain ⟨⟨⟨h1, h2⟩, h3⟩, h4⟩ := hs
      have B := C.base
      unfold cPt at hg
      dsimp only at hg
      obtain ⟨i, q1, rfl⟩ := opt1 hg
      obtain ⟨k1, k2, k3⟩ := ptOf_name q1
      have hyl : X.env.scope.names.lookup y = some .local := by rw [B.sc]; exact h1
      have hsw : ∀ {l : Nat}, swapsWith (.ListComp elt gens scope q) (some (.Name y py)) l X.env = pure true := fun {l} =>
        sw_true (by rw [B.sc]; exact h2) hyl (by rw [h3]; simp) h4
      have hy : X.N[i]? = some y := by rw [B.n]; exact place_ok k2
      cases n with
      | zero => simp only [cX] at hx; cases hx
      | succ n =>
        rcases lc_inv hx with ⟨tg, it, ifs, g', y', f', e', rfl, rfl, hb, hh, q1, q2, q3, q4, hi, ht⟩ | ⟨tg, it, tg1, z1, p1, ifs, g', y', g1, i1, f', e', rfl, rfl, hb, hh, q1, q2, q3, q4, q5, q6, hi, ht, hv1, hd1⟩
        · have bo : BlkOk X.N X.env.scope scope (ownOf c scope) := by rw [B.n, B.sc]; exact blkOk_by hb
          obtain ⟨s1, s2⟩ := (sn n).t W c X B it y' tg q2 ht
          refine ps_weak (ps_setLcx (W := W) (g := tgt X.K g') (wi := tIt wd W (eit tb Φ y')) (tt := fun σ => tT wd (Wc W σ) (eif tb Φ f')) (te := fun σ => tE wd (Wc W σ) (ev tb Φ e')) (B.calm hh) (by rw [B.n]; exact B.nd) B.tk B.fr B.st hy hyl hsw s1 bo (fun s H Ca cl fp xe σ tk => ?_) (fun s H Ca cl fp xe σ tk => ?_) (fun s H Ca cl fp xe σ tk => ?_) s2) fun D σ H q => ?_
          · exact pt_PG (B.blk hh tk bo.uniq) q1
          · exact (sn n).f _ _ _ (B.blk hh tk bo.uniq) _ _ q3
          · exact ((sn n).x _ _ _ (B.blk hh tk bo.uniq) _ _ q4).val
          · have q' := asg_S (K := X.K) (g := .nm i) (f := ev tb Φ (.lc g' ((ownOf c scope).map (·.2)) y' f' e')) (fun hk => by
                simp only [Pt.idx, List.mem_singleton]
                exact fun z => k3 hk z.symm) D σ H q
            exact lc_E (it := eit tb Φ y') (fi := eif tb Φ f') (fe := ev tb Φ e') hi σ H _ q'
        · have bo : BlkOk X.N X.env.scope scope (ownOf c scope) := by rw [B.n, B.sc]; exact blkOk_by hb
          obtain ⟨s1, s2⟩ := (sn n).t W c X B it y' tg q2 ht
          refine ps_weak (ps_setLc2 (vs1 := g1.idx) (wi := tIt wd W (eit tb Φ y')) (g := tgt X.K g') (tt := tYes) (wi1 := iSeq X.K (tVar i1)) (g1 := tgt X.K g1) (tt1 := tT wd W0 (eif tb Φ f')) (te := tE wd W0 (ev tb Φ e')) (B.calm hh) (by rw [B.n]; exact B.nd) hy hyl hsw s1 bo (fun i h => hi i (List.mem_append_right _ h))
            (fun s H Ca cl fp => ?_) (fun s H Ca cl fp => pts_nil) (fun s H Ca cl fp => ?_) (fun s H Ca cl fp => ?_) (fun s H Ca cl fp => ?_) (fun s H Ca cl fp => ?_) s2 (fun _ _ => rfl)) fun D σ H q => ?_
          · exact pt_PG (B.blk0 hh bo.uniq) q1
          · exact lk_PI (B.blk0 hh bo.uniq) hv1 hd1 q4
          · exact pt_PG (B.blk0 hh bo.uniq) q3
          · exact (sn n).f _ _ _ (B.blk0 hh bo.uniq) _ _ q5
          · exact ((sn n).x _ _ _ (B.blk0 hh bo.uniq) _ _ q6).val
          · have q' := asg_S (K := X.K) (g := .nm i) (f := ev tb Φ (.lc2 g' ((ownOf c scope).map (·.2)) y' g1 i1 f' e')) (fun hk => by
                simp only [Pt.idx, List.mem_singleton]
                exact fun z => k3 hk z.symm) D σ H q
            exact lc2_E (it := eit tb Φ y') (fi := eif tb Φ f') (fe := ev tb Φ e') hi (fun _ _ _ h => h) lkWalk σ H _ q'
    | _ => simp only [swOk] at hs; cases hs
  · obtain ⟨s1, s2⟩ := sw_false (l := p.line) (env := X.env) hx hs fun a b d q z => hl ⟨a, b, d, q, z⟩
    exact ps_weak (ps_asg ((sn n).x W c X C.base e x hx).val (pt_PG C.base hg) s1 s2 (asg_at hg X.env)) (asg_S (kp_idx hg))
theorem mvar_PE (B : Ctx wd tb Φ I Lf W c X) {x : Str} {p : Pos} {i : Nat} (hv : isVis c.sc x = true) (hd : noDbg x = true) (hp : place c.N x = some i) : PE X (.Name x p) (tVar i) := by
  obtain ⟨d1, d2, _⟩ := noDbg_d hd
  exact pe_var (by rw [B.n]; exact place_ok hp) (B.vis hv) d1 d2
theorem aug_store {e : Expr} {n : Nat} {x : NB.X} (hx : cX I n c e = some x) : ∀ ov iv new, augStore e ov iv new = (do holding [new, ov, iv] (setItem ov iv new); release [new, ov, iv] []; pure .next) := by
  intro ov iv new
  cases n with
  | zero => simp only [cX] at hx; cases hx
  | succ n => cases e <;> first | rfl | (simp only [cX] at hx; cases hx)
theorem sub_assign {o i : Expr} {p : Pos} {n : Nat} {x : NB.X} {env : PySem.Env} (hx : cX I n c i = some x) : ∀ v, PySem.assign (.Subscript o i p) env v = (do
      let ov ← holding [v] (eval o env)
      let iv ← holding [v, ov] (eval i env)
      standAt p
      holding [v, ov, iv] (setItem ov iv v)
      release [v, ov, iv] []) := by
  intro v
  cases n with
  | zero => simp only [cX] at hx; cases hx
  | succ n => cases i <;> first | rfl | (simp only [cX] at hx; cases hx)
theorem sndS_s {n : Nat} (ih : SndS tb Φ I fuel n) (wd : Wd) (W : WX) (c : Cc) (X : Cx) (hfl : tb.flds = wd.fl) (C : CtxS wd tb Φ I W c X) (s : Stmt) (y : S) (h : cS I (n + 1) c s = some y) : PS X s (tS wd W c.kp (es tb Φ (mkxOf tb) fuel y)) := by
  have sn := snd_all (wd := wd) (tb := tb) (Φ := Φ) (I := I) (Lf := X.env.locals) hfl
  have B := C.base
  simp only [cS] at h
  split at h
  · -- x[k] = e
    rename_i x p k q e sp
    split at h
    · rename_i hg
      simp only [Bool.and_eq_true] at hg
      split at h
      · rename_i q1 q2 q3
        cases h
        have po := mvar_PE (p := p) B hg.1.1 hg.1.2 q1
        have hne : ∀ a b d q, e ≠ .ListComp a b d q := fun a b d q z => by
          subst z
          have := hg.2
          simp only [swOk] at this
          cases this
        obtain ⟨s1, s2⟩ := sw_false (l := sp.line) (env := X.env) q3 hg.2 hne
        have pg := pg_sub (pos := q) po ((sn n).x W c X B k _ q2).val set_list (sub_assign q2)
        exact ps_weak (ps_asg ((sn n).x W c X B e _ q3).val pg s1 s2 rfl) setix_S
      · cases h
    · cases h
  · -- target = e
    split at h
    · rename_i hs
      split at h
      · rename_i q1 q2
        cases h
        exact asg_PS C hfl hs q1 q2
      · cases h
    · cases h
  · -- x += e
    rename_i x p o e sp
    have go : ∀ {i : Nat} {b : BOp} {xe : NB.X}, ptOf c (.Name x p) = some i → bop o = some b → cX I n c e = some xe → (b = .add ∨ b = .sub) → PS X (.AugAssign (.Name x p) o e sp) (tS wd W c.kp (es tb Φ (mkxOf tb) fuel (.aug i b xe))) := fun {i b xe} q1 q2 q3 hb => by
      obtain ⟨k1, k2, k3⟩ := ptOf_name q1
      obtain ⟨l, f⟩ := B.sto x k1
      have := bop_op q2
      subst this
      exact ps_weak (ps_aug (by rw [B.n]; exact B.nd) (by rw [B.n]; exact place_ok k2) l ((sn n).x W c X B e _ q3).val (ip_O hb) f) (aug_S hb k3)
    split at h
    · rename_i q1 q2 q3; cases h; exact go q1 q2 q3 (.inl rfl)
    · rename_i q1 q2 q3; cases h; exact go q1 q2 q3 (.inr rfl)
    · cases h
  · -- x[k] += e
    rename_i x p k q o e sp
    split at h
    · rename_i hg
      simp only [Bool.and_eq_true] at hg
      have go : ∀ {i : Nat} {b : BOp} {xk xe : NB.X}, place c.N x = some i → bop o = some b → cX I n c k = some xk → cX I n c e = some xe → (b = .add ∨ b = .sub) → PS X (.AugAssign (.Subscript (.Name x p) k q) o e sp) (tS wd W c.kp (es tb Φ (mkxOf tb) fuel (.augix i xk b xe))) := fun {i b xk xe} q1 q2 q3 q4 hb => by
        have po := mvar_PE (p := p) B hg.1 hg.2 q1
        have := bop_op q2
        subst this
        exact ps_weak (ps_augS po ((sn n).x W c X B k _ q3).val pget_list ((sn n).x W c X B e _ q4).val (ip_O hb) set_list (aug_store q3)) (augix_S hb)
      split at h
      · rename_i q1 q2 q3 q4; cases h; exact go q1 q2 q3 q4 (.inl rfl)
      · rename_i q1 q2 q3 q4; cases h; exact go q1 q2 q3 q4 (.inr rfl)
      · cases h
    · cases h
  · -- an expression
    obtain ⟨x, q, rfl⟩ := opt1 h
    exact ps_weak (ps_expr ((sn n).x W c X B _ _ q).val rfl) drop_S
  · -- return e
    rename_i e sp
    split at h
    · rename_i q
      cases h
      exact ps_weak (ps_ret (ret_PE sn B q (.inl ⟨_, _, _, rfl⟩))) ret_S
    · rename_i q
      split at h
      · cases h
      · rename_i ht
        cases h
        exact ps_weak (ps_ret (ret_PE sn B q (.inr (by simpa using ht)))) ret_S
    · cases h
  · cases h
    exact ps_weak ps_retN retN_S
  · -- if
    split at h
    · rename_i q1 q2 q3
      cases h
      exact ps_weak (ps_if (pt_weak ((sn n).x W c X B _ _ q1).t held_T) (ih.ss wd W c X hfl C _ _ q2) (ih.ss wd W c X hfl C _ _ q3)) if_S
    · cases h
  · -- for
    rename_i t it body sp
    split at h
    · cases h
    · rename_i hh
      have hh : c.hot = false := by simpa using hh
      split at h
      · rename_i q1 q2 q3
        split at h
        · rename_i ht
          cases h
          obtain ⟨s1, s2⟩ := (sn n).t W c X B it _ t q2 ht
          exact ps_weak (ps_for (C.calm hh).po (B.calm hh) s1 (pt_PG B q1) (ih.ss wd W c X hfl C _ _ q3) s2) (for_S (kp_idx q1) fun ε c' fs ε' e => ess_lk _ e)
        · cases h
      · cases h
  · -- while
    split at h
    · cases h
    · rename_i hh
      have hh : c.hot = false := by simpa using hh
      split at h
      · rename_i q1 q2
        cases h
        exact ps_weak (ps_while (C.calm hh).po (pt_weak ((sn n).x W c X B _ _ q1).t held_T) (ih.ss wd W c X hfl C _ _ q2)) wh_S
      · cases h
  · cases h
    exact ps_weak ps_break bk_S
  · cases h
    exact ps_weak ps_continue ct_S
  · cases h
    exact ps_weak ps_pass nil_S
  · -- raise
    rename_i x p args cp sp
    split at h
    · rename_i hg
      simp only [Bool.and_eq_true, Bool.not_eq_true'] at hg
      split at h
      · rename_i e es' k xs q1 q2
        cases h
        have sl := (sn n).l W c X B _ _ q2
        have S := C.calm hg.2
        obtain ⟨d1, _, _⟩ := noDbg_d hg.1.2
        have mk := S.mke X.pn X.xe x k q1 e es' _ p cp (B.gl hg.1.1) d1 sl.d (sl.st e (by simp) _ _) (plain_any (fun e' he => sl.st e' (List.mem_cons_of_mem _ he)) _ _)
        exact ps_weak (L2N.ps_raise (B.calm hg.2) S.tk mk) (raise_S hfl)
      · cases h
    · cases h
  · -- try
    rename_i body x xp y' b0 suite hp tp
    split at h
    · rename_i hg
      simp only [Bool.and_eq_true, Bool.not_eq_true', decide_eq_true_eq] at hg
      split at h
      · rename_i q1 q2 q3 q4
        cases h
        have S := C.calm hg.1.1.1
        obtain ⟨d1, _, _⟩ := noDbg_d hg.1.2
        obtain ⟨k1, k2, k3⟩ := ptOf_name q3
        refine ps_weak (L2N.ps_try_as (tb := fun W' => tS wd W' c.kp (ess tb Φ (mkxOf tb) fuel _)) (ts := tHot wd c.kp (ess tb Φ (mkxOf tb) fuel _)) S.hs B.fr (by rw [B.n]; exact B.nd) (by rw [B.n]; exact place_ok k2) (by unfold Env.kindOf; rw [B.sc]; exact hg.2) ⟨B.gl hg.1.1.2, d1, .inl (B.cls _ _ q2)⟩ S.tk (fun W' pn xe tk po => ih.ss wd W' c _ hfl (C.tr hg.1.1.1 tk po) _ _ q1) (fun a oe cls d pn hz hf => ⟨fun pins s σ H D I hw => ?_⟩)) (try_S (B.xn hg.1.1.1) k3 fun c' => S.exm c' _)
        obtain ⟨cc, dd, e1, e2, hw⟩ := hw
        subst e1 e2
        exact (ih.ss (wd.at (a, wd.ca cc, dd)) (fun _ _ _ _ => False) { c with hot := true } _ hfl ⟨S.hot a oe cc dd pn hz hf, fun z => by cases z⟩ _ _ q4).run pins s σ H D I hw
      · cases h
    · cases h
  · cases h
theorem sndS_all : ∀ n, SndS tb Φ I fuel n
  | 0 => ⟨(fun wd W c X _ _ s y h => by unfold cS at h; cases h), (fun wd W c X _ _ s y h => by unfold cSS at h; cases h)⟩
  | n + 1 => ⟨sndS_s (sndS_all n), sndS_ss (sndS_all n)⟩
end
end NB
end
section
set_option linter.all false
set_option maxRecDepth 10000
/-! NBFn: defs. -/
namespace NB
open PySem PySem.Spec PyProof.Rows L2
section
variable {wd : Wd} {F R H : Hp} {T : Addr → Prop}
/-- each parameter's nodes -/
theorem start_split : ∀ {ds : List D} {vs : List V} {T : Addr → Prop}, RpDs wd F H vs ds T → ∃ S : Own, (∀ i d, ds[i]? = some d → ∃ v, vs[i]? = some v ∧ RpD wd F H v d (S i)) ∧ (∀ i a, S i a → T a) ∧ (∀ i j a, i ≠ j → S i a → S j a → False)
  | [], vs, T, r => ⟨fun _ _ => False, fun i d e => by simp at e, fun _ _ z => z.elim, fun _ _ _ _ z => z.elim⟩
  | d :: ds, vs, T, r => by
    simp only [RpDs] at r
    obtain ⟨v, vr, T1, U, rfl, h1, h2, h3, h4, h5⟩ := r
    obtain ⟨S, s1, s2, s3⟩ := start_split h2
    refine ⟨fun i => match i with | 0 => T1 | i + 1 => S i, fun i d' e => ?_, fun i a z => ?_, fun i j a n z1 z2 => ?_⟩
    · cases i with
      | zero => simp at e; subst e; exact ⟨v, rfl, h1⟩
      | succ i => exact s1 i d' (by simpa using e)
    · cases i with
      | zero => exact h3 a z
      | succ i => exact h4 a (s2 i a z)
    · cases i with
      | zero =>
        cases j with
        | zero => exact n rfl
        | succ j => exact h5 a z1 (s2 j a z2)
      | succ i =>
        cases j with
        | zero => exact h5 a z2 (s2 i a z1)
        | succ j => exact s3 i j a (fun z => n (by rw [z])) z1 z2
theorem start_OK {N : List Str} {ds : List D} {vs : List V} {n : Nat} (hF : Same F H) (hR : Same R H) (r : RpDs wd F H vs ds T) (t : OwnT F R H T) (hn : ds.length + n = N.length) : ∃ S, OK wd F R (fun _ _ => none) H (L2.start N vs) (ds.map Sl.ow ++ List.replicate n Sl.no) S := by
  have hl := r.len
  obtain ⟨S, s1, s2, s3⟩ := start_split r
  refine ⟨S, hF, hR, (fun _ _ _ z => by cases z), (fun _ _ _ z => by cases z), (fun _ _ _ _ _ z => by cases z), ?_, fun i s e => ?_, s3, fun i a z => t a (s2 i a z)⟩
  · unfold L2.start
    simp only [List.length_append, List.length_map, List.length_replicate]
    omega
  · by_cases hi : i < ds.length
    · rw [List.getElem?_append_left (by simpa using hi), List.getElem?_map] at e
      have hd : ds[i]? = some ds[i] := List.getElem?_eq_getElem hi
      rw [hd] at e
      cases e
      obtain ⟨v, e1, r1⟩ := s1 i _ hd
      refine ⟨v, ?_, r1⟩
      unfold L2.start
      rw [List.getElem?_append_left (by simp; omega), List.getElem?_map, e1]
      rfl
    · rw [List.getElem?_append_right (by simpa using hi), List.getElem?_replicate] at e
      split at e
      · cases e; trivial
      · cases e
end
section
variable {wd : Wd} {tb : Tab} {Φ : Nat → List NB.D → NB.R (NB.D × List NB.D)} {fuel : Nat} {F R H : Hp} {Q : VK} {E : XK} {mu : Bool} {G : Fn} {vs : List V} {N : List Str}
/-- from the promise to the body's reading -/
theorem body_S (hN : G.n = N.length) (hp : G.ps ≤ G.n) (h : spF wd mu (runFn tb Φ (mkxOf tb) fuel mu G) vs H Q E) : tS wd (fun cls d _ H => E cls d H) mu (ess tb Φ (mkxOf tb) fuel G.body) { nx := fun _ H' => Q .non H', rt := Q } (L2.start N vs) H := by
  obtain ⟨F, R, ds, T, hF, hR, r, t, h⟩ := h
  unfold runFn at h
  split at h
  case isFalse => exact h.elim
  rename_i hl
  obtain ⟨S, o⟩ := start_OK (N := N) (n := G.n - G.ps) hF hR r t (by rw [hl]; omega)
  refine ⟨F, R, _, _, S, o, ?_⟩
  have hlv := r.len
  -- what the first argument holds at the end
  have outs_ok : ∀ {ε' : NB.Env} {σ' : L2.St} {F' H' : Hp} {S' : Own} {out : List NB.D}, outs mu ε' = .ok out → OK wd F' R (fun _ _ => none) H' σ' ε' S' → (mu = true → σ'[0]? = (L2.start N vs)[0]?) → (mu = true → ∃ v0 d1, vs.head? = some v0 ∧ out = [d1] ∧ RpD wd F' H' v0 d1 (S' 0)) := fun {ε' σ' F' H' S' out} e o' k hm => by
    unfold outs at e
    rw [hm] at e
    dsimp only at e
    split at e
    · rename_i d rest
      cases e
      obtain ⟨v, e1, r1⟩ := ow_some o' (i := 0) (d := d) rfl
      have k := k hm
      rw [e1] at k
      cases vs with
      | nil =>
        exfalso
        unfold L2.start at k
        simp only [List.map_nil, List.nil_append, List.getElem?_replicate] at k
        split at k <;> cases k
      | cons v0 vr =>
        unfold L2.start at k
        simp only [List.map_cons, List.cons_append, List.getElem?_cons_zero, Option.some.injEq] at k
        cases k
        exact ⟨v, d, rfl, rfl, r1⟩
    · cases e
  have outs_exc : ∀ {ε' : NB.Env} {c : Nat} {fs : List P}, outs mu ε' = .exc c fs → False := fun {ε' c fs} e => by
    unfold outs at e
    split at e
    · cases e
    · split at e <;> cases e
  have own : ∀ {F' H' : Hp} {σ' : L2.St} {ε' : NB.Env} {S' : Own}, OK wd F' R (fun _ _ => none) H' σ' ε' S' → OwnT F' R H' (S' 0) := fun {F' H' σ' ε' S'} o' a ha => o'.out 0 a ha
  cases e : ess tb Φ (mkxOf tb) fuel G.body (ds.map Sl.ow ++ List.replicate (G.n - G.ps) Sl.no) with
  | stuck => rw [e] at h; exact h
  | exc c fs ε' =>
    rw [e] at h
    exact fun d fv us σ' F' H' S' p o' _ e1 e2 e3 _ e4 e5 => h d fv us F' H' p e1 e2 e3 e4 e5
  | ok fl ε' =>
    rw [e] at h
    cases fl with
    | bk => exact h.elim
    | ct => exact h.elim
    | nx =>
      dsimp only at h
      cases q : outs mu ε' with
      | stuck => rw [q] at h; exact h.elim
      | exc c fs => exact (outs_exc q).elim
      | ok out =>
        rw [q] at h
        exact fun σ' F' H' S' p o' k => h .non F' H' (fun _ => False) (S' 0) p (by simp only [RpD, Rp]) (fun _ z => z.elim) (own o') (fun _ z => z.elim) (outs_ok q o' k)
    | rt d =>
      dsimp only at h
      cases q : outs mu ε' with
      | stuck => rw [q] at h; exact h.elim
      | exc c fs => exact (outs_exc q).elim
      | ok out =>
        rw [q] at h
        exact fun v σ' F' H' S' T' p o' k r t => h v F' H' T' (S' 0) p r (fun a ha => ⟨(t a ha).1, (t a ha).2.1, (t a ha).2.2.1⟩) (own o') (fun a z1 z2 => (t a z1).2.2.2 0 z2) (outs_ok q o' k)
theorem spF_len (h : spF wd mu (runFn tb Φ (mkxOf tb) fuel mu G) vs H Q E) : vs.length = G.ps := by
  obtain ⟨F, R, ds, T, hF, hR, r, t, h⟩ := h
  unfold runFn at h
  split at h
  · rename_i hl
    rw [r.len, hl]
  · exact h.elim
theorem spF_stuck (h : spF wd mu (fun _ => .stuck) vs H Q E) : False := by
  obtain ⟨F, R, ds, T, hF, hR, r, t, h⟩ := h
  exact h
end
end NB
end
section
set_option linter.all false
set_option maxRecDepth 10000
/-! NBLaw: a law's defs, one call within another. -/
namespace NB
open PySem PySem.Spec PyProof.Rows L2 L2H
/-- what is known of the whole program -/
structure Law (wd : Wd) (tb : Tab) (I : Info) (P : Program) (w : World) (mg : Str → Option Value) (base : Heap) : Prop where
  xn : wd.xn = none
  flds : tb.flds = wd.fl
  muts : tb.muts = I.mu
  con : ∀ x p, I.con x = some p → ∃ u v, mg x = some u ∧ RelV v u ∧ ∀ F, Rp wd F v p
  free : ∀ x, I.free x = true → mg x = none
  cls : ∀ x k, I.cls x = some k → mg x = some (.ref (wd.ca k))
  exm : ∀ c k, PySem.W.exmOne wd.K (.ref (wd.ca c)) (.ref (wd.ca k)) = some (tb.sub c k)
  kit : ∀ c k, PySem.W.kitOne wd.K (.ref (wd.ca c)) (.ref (wd.ca k)) = some (tb.sub c k)
  exc : ∀ c, ExcC wd.K (wd.ca c)
  xf : ∀ c, XfC wd.K (wd.ca c)
  fno : ∀ c f, I.fld f = true → PySem.W.findIn wd.K (.ref (wd.ca c)) f = some none
  mke : ∀ (X : Cx) (x : Str) (k : Nat), X.prog = P → X.w = w → X.K = wd.K → X.mg = mg → X.base = base → X.calm = true → Room 4 X.A → I.cls x = some k → ∀ (e : Expr) (es : List Expr) (t : TA) (p pos : Pos), Gl X x → (x == ("__debug__" : Str)) = false → PA X (e :: es) t → starEach (e :: es) X.env = (false, eval e X.env) :: starEach es X.env → (backTo pos (starEach es X.env)).any (·.1) = false →
    L2N.PMk X (.Call (.Name x p) (e :: es) [] pos) (fun σ H Q => t σ H fun vs H1 => rMk wd k vs H1 Q)
structure DefOk (wd : Wd) (I : Info) (hot : Bool) (f : Nat) (a : Addr) (fd : FuncData) (ps : List Str) (G : Fn) : Prop where
  ex : ∃ nm qual params body scope dvs kws, FunD wd.K nm qual params body scope dvs kws a fd ∧ paramsOf params = ps ∧ FnScope (namesOf ps scope body) ps scope ∧ cFn hot (I.mu f) I params scope body = some G
  bd : Binds wd.K fd ps []
section
variable {wd : Wd} {tb : Tab} {I : Info} {P : Program} {w : World} {mg : Str → Option Value} {base : Heap} {fuel : Nat} {fns : Nat → Option Fn} {adr : Nat → Addr} {fdt : Nat → FuncData} {pst : Nat → List Str}
/-- the defs promise what the evaluator says -/
def Prom (wd : Wd) (tb : Tab) (I : Info) (P : Program) (w : World) (mg : Str → Option Value) (base : Heap) (fuel : Nat) (fns : Nat → Option Fn) (adr : Nat → Addr) (fdt : Nat → FuncData) (pst : Nat → List Str) (k : Nat) : Prop :=
  (∀ x f, I.fns x = some f → FnOk P w wd.K mg base (L2N.CX P w) (k + 4) (adr f) (fdt f) (pst f) (spF wd (I.mu f) (run tb (mkxOf tb) fuel fns k f))) ∧
  (∀ x f, I.hfns x = some f → ∀ y : Addr × Addr × Addr, (∃ c, y.2.1 = wd.ca c) → FnX P w wd.K mg base (L2N.CX P w) (k + 4) (adr f) (fdt f) (pst f) y (spF (wd.at y) (I.mu f) (run tb (mkxOf tb) fuel fns k f)))
/-- names that are called -/
structure Names (wd : Wd) (I : Info) (mg : Str → Option Value) (fns : Nat → Option Fn) (adr : Nat → Addr) (fdt : Nat → FuncData) (pst : Nat → List Str) : Prop where
  mg : ∀ x f, I.fns x = some f ∨ I.hfns x = some f → mg x = some (.ref (adr f)) ∧ PySem.W.keepIn wd.K (.ref (adr f)) = true
  calm : ∀ x f, I.fns x = some f → ∃ G, fns f = some G ∧ DefOk wd I false f (adr f) (fdt f) (pst f) G
  hot : ∀ x f, I.hfns x = some f → ∃ G, fns f = some G ∧ DefOk wd I true f (adr f) (fdt f) (pst f) G
theorem pe_up {X : Cx} {e : Expr} {te : TE} (h : PE X e te) : PE X e (fun σ H Q => ∃ Q0 : VK, te σ H Q0 ∧ ∀ v H1, Q0 v H1 → Q v H1) := by
  refine ⟨fun pins s σ H Q J ⟨Q0, h1, h2⟩ => thn (h.run pins s σ H Q0 J h1) fun u s1 ⟨x, H1, J1, r, q⟩ => ⟨x, H1, J1, r, h2 _ _ q⟩⟩
theorem isx_of (Lw : Law wd tb I P w mg base) {X : Cx} {y : Addr × Addr × Addr} {p : Addr × Obj} {cc : Nat} (hK : X.K = wd.K) (hp : p ∈ X.pn) (px : PinX y p) (hy : y.2.1 = wd.ca cc) : CallR X (.builtin "isinstance") (rIsX (wd.at y) tb) := by
  intro pins s σ H vs us Q J r h
  obtain ⟨a, c, d, k, rfl, e, hf, q⟩ := h
  have e := Option.some.inj (show some y = some (a, wd.ca c, d) from e)
  subst e
  have pa : p.1 = a := px.a
  have hc : wd.ca c = wd.ca cc := hy
  refine call_isX (D := wd.ca c) (dd := d) (p := p) (by rw [hK]; exact Lw.exc c) hp ⟨rfl, px.cls, px.dict, px.data⟩ pins s σ H _ us Q J r ⟨hf, .ref (wd.ca k), .ref (wd.ca k), tb.sub c k, by rw [pa], fun u ru => ?_, ?_, q⟩
  · exact ru
  · rw [hK]; exact Lw.kit c k
theorem xfa_of (Lw : Law wd tb I P w mg base) {X : Cx} {y : Addr × Addr × Addr} {p : Addr × Obj} {cc : Nat} (hK : X.K = wd.K) (hp : p ∈ X.pn) (px : PinX y p) (hy : y.2.1 = wd.ca cc) (x : Str) (q pos : Pos) (f : Str) (te : TE) (hf : I.fld f = true) (he : PE X (.Name x q) te) : PE X (.Attribute (.Name x q) f pos) (tXA (wd.at y) f te) := by
  have h := pe_xfX (pos := pos) (C := wd.ca cc) (dd := y.2.2) (n := f) (by rw [hK]; exact Lw.xf cc) (by rw [hK]; exact Lw.fno cc f hf) hp ⟨rfl, by rw [px.cls, hy], px.dict, px.data⟩ (pe_up he) rfl
  refine pe_weak h fun σ H Q hq => ⟨_, hq, ?_⟩
  rintro v H1 ⟨a, C, d, fv, u, rfl, e, h1, h2, h3⟩
  have e := Option.some.inj (show some y = some (a, C, d) from e)
  subst e
  exact ⟨congrArg V.ref px.a.symm, fv, u, h1, h2, h3⟩
theorem cfn_inv {hot kp : Bool} {a : Arguments} {sc : Scope} {body : List Stmt} {G : Fn} (h : cFn hot kp I a sc body = some G) : ∃ b, cSS I 200 { N := namesOf (paramsOf a) sc body, sc := sc, st := isLoc sc, top := true, hot := hot, kp := kp } body = some b ∧ G = ⟨(namesOf (paramsOf a) sc body).length, (paramsOf a).length, b⟩ := by
  unfold cFn at h
  dsimp only at h
  cases e : cSS I 200 { N := namesOf (paramsOf a) sc body, sc := sc, st := isLoc sc, top := true, hot := hot, kp := kp } body with
  | none => rw [e] at h; cases h
  | some b => rw [e] at h; cases h; exact ⟨b, rfl, rfl⟩
theorem hot_calls (Nm : Names wd I mg fns adr fdt pst) {k : Nat} (pr : Prom wd tb I P w mg base fuel fns adr fdt pst k) {X : Cx} {y : Addr × Addr × Addr} {p : Addr × Obj} {cc : Nat} (hP : X.prog = P) (hw : X.w = w) (hK : X.K = wd.K) (hm : X.mg = mg) (hb : X.base = base) (hp : p ∈ X.pn) (px : PinX y p) (hot : Hot1 X.A p) (hr : RoomH (k + 4) X.A) (hy : y.2.1 = wd.ca cc)
    {W : WX} (pw : ∀ σ, PassesAt (L2N.CX P w) X σ (WE W σ)) (x : Str) (f : Nat) (hf : I.hfns x = some f) : CallOk (wd.at y) I (run tb (mkxOf tb) fuel fns k) W X true x f := by
  subst hP hw hm hb
  obtain ⟨m1, m2⟩ := Nm.mg x f (.inr hf)
  obtain ⟨G, _, D⟩ := Nm.hot x f hf
  have F := pr.2 x f hf y ⟨cc, hy⟩
  rw [← hK] at F
  refine ⟨(fun z => by cases z), fun _ hg hd e es t q pos ha h1 h2 => ?_⟩
  exact pe_callX F px hr hot hp hg m1 (by rw [hK]; exact m2) (by rw [hK]; exact D.bd) pw ha hd h1 h2
theorem calm_ctx (Lw : Law wd tb I P w mg base) (Nm : Names wd I mg fns adr fdt pst) {k : Nat} (pr : Prom wd tb I P w mg base fuel fns adr fdt pst k) {N : List Str} {qual : Str} {scope : Scope} {f0 : Addr} {cdv : Value} {A : Around} {outer : List PySem.Env} {s : Shared} {H : Hp} {E : XK} {kp : Bool}
    (hnd : N.Nodup) (hr : Room (k + 4) (A.deeper (envOfC qual scope s.heap.objs.size f0 cdv))) :
    CtxS wd tb (run tb (mkxOf tb) fuel fns k) I (fun cls d _ H => E cls d H) { N := N, sc := scope, st := isLoc scope, top := true, hot := false, kp := kp } (cxOf (L2N.CX P w) P w wd.K mg base N qual scope f0 cdv A outer s H E) := by
  generalize hX : cxOf (L2N.CX P w) P w wd.K mg base N qual scope f0 cdv A outer s H E = X
  have tk : L2N.Takes X (fun cls d _ H => E cls d H) := by subst hX; exact L2N.takes_of rfl rfl rfl rfl
  have hcalm : X.calm = true := by subst hX; rfl
  have hroom : Room (k + 4) X.A := by subst hX; exact hr
  have hP : X.prog = P := by subst hX; rfl
  have hw : X.w = w := by subst hX; rfl
  have hK : X.K = wd.K := by subst hX; rfl
  have hm : X.mg = mg := by subst hX; rfl
  have hb : X.base = base := by subst hX; rfl
  have hst : X.stack = X.env :: X.outer := by subst hX; rfl
  have hfr : X.env.frame = some X.env.locals := by subst hX; rfl
  have hN : X.N = N := by subst hX; rfl
  have hsc : X.env.scope = scope := by subst hX; rfl
  have hfn : ∀ x, X.fn x = true := by subst hX; exact fun _ => rfl
  have hpo : PassesOwn (model X.prog X.w) X.A X.env X.xe := by subst hX; exact passes_of rfl
  clear hX
  have hsto : ∀ x, isLoc scope x = true → L2.Loc X.env.scope x ∧ (X.fn x = true ∨ X.env.scope.names.lookup x = some .local) := fun x hx => ⟨by rw [hsc]; exact isLoc_ok hx, .inl (hfn x)⟩
  refine ⟨⟨hN, hnd, hsc, hK, fun _ => hcalm, hroom.units, hfr, ⟨_, _, hst, hfr⟩, tk_def tk, hsto, fun x p e => by rw [hm]; exact Lw.con x p e, fun x e => by rw [hm]; exact Lw.free x e, fun x f e => ⟨fun _ => ?_, fun z => (by cases z)⟩, fun _ => Lw.xn, Lw.muts, fun x k e => by rw [hm]; exact Lw.cls x k e, ?_, ?_⟩,
    fun _ => ⟨hst, hpo, tk, fun c' k => by rw [hK]; exact Lw.exm c' k, fun pn xe x k' hc => Lw.mke (X.tr pn xe) x k' hP hw hK hm hb hcalm (hroom.mono (by omega)) hc, fun a oe cc dd pn hz hf => ?_⟩⟩
  · have e : I.fns x = some f := e
    obtain ⟨m1, m2⟩ := Nm.mg x f (.inl e)
    obtain ⟨G, _, D⟩ := Nm.calm x f e
    refine ⟨adr f, k + 4, fdt f, pst f, by rw [hm]; exact m1, by rw [hK]; exact m2, ?_, hroom, by rw [hK]; exact D.bd⟩
    rw [hP, hw, hK, hm, hb]
    exact pr.1 x f e
  · intro pins s σ H vs us Q J r h
    obtain ⟨a, c, d, k, _, e, _⟩ := h
    rw [Lw.xn] at e; cases e
  · intro x p pos f te _ he
    refine ⟨fun pins s σ H Q J h => ?_⟩
    refine attr_of rfl (thn (he.run pins s σ H _ J h) fun u s1 hh' => ?_)
    obtain ⟨_, _, _, _, _, _, _, _, _, _, e, _⟩ := hh'
    rw [Lw.xn] at e; cases e
  · -- an error is handled
    obtain ⟨vs, hv⟩ := hf
    have px : PinX (a, wd.ca cc, dd) (a, oe) := ⟨rfl, hz.1, hz.2.1, vs, hv⟩
    have h1 : Hot1 (X.suite a ((a, oe) :: pn)).A (a, oe) := ⟨rfl, vs, hv, hz.2.2 vs hv⟩
    have hin : (a, oe) ∈ (X.suite a ((a, oe) :: pn)).pn := List.mem_cons_self
    refine ⟨hN, hnd, hsc, hK, fun z => (by cases z), hroom.units, hfr, ⟨_, _, hst, hfr⟩, fun u s' h => ?_, hsto, fun x p e => ?_, fun x e => by rw [show (X.suite a ((a, oe) :: pn)).mg = mg from hm]; exact Lw.free x e, fun x f e => ?_, fun z => (by cases z), Lw.muts, fun x k e => by rw [show (X.suite a ((a, oe) :: pn)).mg = mg from hm]; exact Lw.cls x k e, ?_, ?_⟩
    · obtain ⟨_, _, _, _, _, _, _, _, _, _, _, _, _, _, _, _, w⟩ := h
      exact w.elim
    · obtain ⟨u, v, h1, h2, h3⟩ := Lw.con x p e
      exact ⟨u, v, by rw [show (X.suite a ((a, oe) :: pn)).mg = mg from hm]; exact h1, h2, fun F => Rp.up Lw.xn p v (h3 F)⟩
    · refine hot_calls (X := X.suite a ((a, oe) :: pn)) Nm pr hP hw hK hm hb hin px h1 ⟨hroom.dp, hroom.un⟩ rfl (fun σ pins H s e s' I c => ?_) x f e
      obtain ⟨_, _, _, _, _, _, _, _, _, _, _, _, z⟩ := c
      exact z.elim
    · exact isx_of (X := X.suite a ((a, oe) :: pn)) Lw hK hin px rfl
    · exact fun x p pos f te hf he => xfa_of (X := X.suite a ((a, oe) :: pn)) Lw hK hin px rfl x p pos f te hf he
theorem hot_ctx (Lw : Law wd tb I P w mg base) (Nm : Names wd I mg fns adr fdt pst) {k : Nat} (pr : Prom wd tb I P w mg base fuel fns adr fdt pst k) {N : List Str} {qual : Str} {scope : Scope} {f0 : Addr} {cdv : Value} {A : Around} {outer : List PySem.Env} {s : Shared} {H : Hp} {E : XK} {kp : Bool} {y : Addr × Addr × Addr} {p : Addr × Obj} {cc : Nat}
    (hnd : N.Nodup) (hr : RoomH (k + 4) (A.deeper (envOfC qual scope s.heap.objs.size f0 cdv))) (px : PinX y p) (h1 : Hot1 A p) (hy : y.2.1 = wd.ca cc) :
    CtxS (wd.at y) tb (run tb (mkxOf tb) fuel fns k) I (fun cls d _ H => E cls d H) { N := N, sc := scope, st := isLoc scope, top := true, hot := true, kp := kp } (cxH (L2N.CX P w) P w wd.K mg base N qual scope f0 cdv A outer s H E p) := by
  generalize hX : cxH (L2N.CX P w) P w wd.K mg base N qual scope f0 cdv A outer s H E p = X
  have tk : L2N.Takes X (fun cls d _ H => E cls d H) := by subst hX; exact L2N.takes_of rfl rfl rfl rfl
  have hroom : RoomH (k + 4) X.A := by subst hX; exact hr
  have hot : Hot1 X.A p := by subst hX; exact h1
  have hin : p ∈ X.pn := by subst hX; exact List.mem_cons_self
  have hP : X.prog = P := by subst hX; rfl
  have hw : X.w = w := by subst hX; rfl
  have hK : X.K = wd.K := by subst hX; rfl
  have hm : X.mg = mg := by subst hX; rfl
  have hb : X.base = base := by subst hX; rfl
  have hst : X.stack = X.env :: X.outer := by subst hX; rfl
  have hfr : X.env.frame = some X.env.locals := by subst hX; rfl
  have hN : X.N = N := by subst hX; rfl
  have hsc : X.env.scope = scope := by subst hX; rfl
  have hfn : ∀ x, X.fn x = true := by subst hX; exact fun _ => rfl
  clear hX
  have hsto : ∀ x, isLoc scope x = true → L2.Loc X.env.scope x ∧ (X.fn x = true ∨ X.env.scope.names.lookup x = some .local) := fun x hx => ⟨by rw [hsc]; exact isLoc_ok hx, .inl (hfn x)⟩
  have tkd : Tk X X.env.locals (fun cls d _ H => E cls d H) := tk_def tk
  refine ⟨⟨hN, hnd, hsc, hK, fun z => (by cases z), (by have := hroom.un; omega), hfr, ⟨_, _, hst, hfr⟩, tkd, hsto, fun x p e => ?_, fun x e => by rw [hm]; exact Lw.free x e, fun x f e => ?_, fun z => (by cases z), Lw.muts, fun x k e => by rw [hm]; exact Lw.cls x k e, ?_, ?_⟩, fun z => (by cases z)⟩
  · obtain ⟨u, v, h1, h2, h3⟩ := Lw.con x p e
    exact ⟨u, v, by rw [hm]; exact h1, h2, fun F => Rp.up Lw.xn p v (h3 F)⟩
  · refine hot_calls Nm pr hP hw hK hm hb hin px hot hroom hy (fun σ => ?_) x f e
    have := passL tkd σ
    rw [hP, hw] at this
    exact this
  · exact isx_of Lw hK hin px hy
  · exact fun x p pos f te hf he => xfa_of Lw hK hin px hy x p pos f te hf he
theorem prom_zero : Prom wd tb I P w mg base fuel fns adr fdt pst 0 := by
  refine ⟨fun x f _ => ⟨fun vs H Q E h => (spF_stuck h).elim, ?_⟩, fun x f _ y _ => ⟨fun vs H Q E h => (spF_stuck h).elim, ?_⟩⟩
  · intros
    rename_i h
    exact (spF_stuck h).elim
  · intros
    rename_i h
    exact (spF_stuck h).elim
theorem prom_succ (Lw : Law wd tb I P w mg base) (Nm : Names wd I mg fns adr fdt pst) {k : Nat} (pr : Prom wd tb I P w mg base fuel fns adr fdt pst k) : Prom wd tb I P w mg base fuel fns adr fdt pst (k + 1) := by
  refine ⟨fun x f e => ?_, fun x f e y hy => ?_⟩
  · obtain ⟨G, eG, D⟩ := Nm.calm x f e
    obtain ⟨nm, qual, params, body, scope, dvs, kws, FD, rfl', FS, cG⟩ := D.ex
    obtain ⟨b, cb, rfl⟩ := cfn_inv cG
    rw [rfl'] at cb eG
    have hrun : run tb (mkxOf tb) fuel fns (k + 1) f = runFn tb (run tb (mkxOf tb) fuel fns k) (mkxOf tb) fuel (I.mu f) ⟨(namesOf (pst f) scope body).length, (pst f).length, b⟩ := by
      funext ds
      simp only [run, eG, Lw.muts]
    rw [hrun]
    refine FD.ok FS (fun vs H Q E h => spF_len h) fun cdv A outer s H vs Q E hr h => ?_
    have C := calm_ctx Lw Nm pr (E := E) (outer := outer) (H := H) (kp := I.mu f) FS.nd hr
    refine ⟨_, (sndS_all (fuel := fuel) 200).ss wd _ _ _ Lw.flds C body b cb, ?_⟩
    refine body_S (G := ⟨_, _, b⟩) rfl ?_ h
    have := congrArg List.length FS.pre
    rw [List.length_take] at this
    show (pst f).length ≤ (namesOf (pst f) scope body).length
    omega
  · obtain ⟨cc, hy⟩ := hy
    obtain ⟨G, eG, D⟩ := Nm.hot x f e
    obtain ⟨nm, qual, params, body, scope, dvs, kws, FD, rfl', FS, cG⟩ := D.ex
    obtain ⟨b, cb, rfl⟩ := cfn_inv cG
    rw [rfl'] at cb eG
    have hrun : run tb (mkxOf tb) fuel fns (k + 1) f = runFn tb (run tb (mkxOf tb) fuel fns k) (mkxOf tb) fuel (I.mu f) ⟨(namesOf (pst f) scope body).length, (pst f).length, b⟩ := by
      funext ds
      simp only [run, eG, Lw.muts]
    rw [hrun]
    refine fn_ofX FD FS (fun vs H Q E h => spF_len h) fun cdv A outer s H vs Q E p px hot hr h => ?_
    have C := hot_ctx Lw Nm pr (E := E) (outer := outer) (H := H) (kp := I.mu f) FS.nd hr px hot hy
    refine ⟨_, (sndS_all (fuel := fuel) 200).ss (wd.at y) _ _ _ Lw.flds C body b cb, ?_⟩
    refine body_S (G := ⟨_, _, b⟩) rfl ?_ h
    have := congrArg List.length FS.pre
    rw [List.length_take] at this
    show (pst f).length ≤ (namesOf (pst f) scope body).length
    omega
theorem prom_all (Lw : Law wd tb I P w mg base) (Nm : Names wd I mg fns adr fdt pst) : ∀ k, Prom wd tb I P w mg base fuel fns adr fdt pst k
  | 0 => prom_zero
  | k + 1 => prom_succ Lw Nm (prom_all Lw Nm k)
end
end NB
end
section
set_option Elab.async false
set_option linter.all false
set_option maxRecDepth 100000
set_option maxHeartbeats 4000000
/-! NBMake3: the making as a law asks it. -/
namespace NB
open PySem PySem.Spec PySem.Calls PyProof.Rows PySem.W L2 NdefX
section
variable {P : Program} {w : World} {K : Frag} {mg : Str → Option Value} {base : Heap} {C fI cc : Addr} {F : NF} {fd : FuncData} {f : Str} {k : Nat}
theorem pa_up {X : Cx} {es : List Expr} {t : TA} (h : PA X es t) : PA X es (fun σ H Q => ∃ Q0 : List V → Hp → Prop, t σ H Q0 ∧ ∀ vs H1, Q0 vs H1 → Q vs H1) :=
  ⟨fun pos pins s σ H Q J ⟨Q0, h1, h2⟩ => thn (h.run pos pins s σ H Q0 J h1) fun us s1 ⟨x, H1, J1, r, q⟩ => ⟨x, H1, J1, r, h2 _ _ q⟩⟩
/-- the making, as a law asks it -/
theorem mke1 {wd : Wd} {c : Nat} (hK : wd.K = K) (hca : wd.ca c = C) (hfl : wd.fl c = [f]) (Ic : Ini1 K P C fI cc F fd f) (hmg : mg "super" = none) {x : Str} (hx : mg x = some (.ref C))
    (X : Cx) (hXP : X.prog = P) (hXw : X.w = w) (hXK : X.K = wd.K) (hXm : X.mg = mg) (hXb : X.base = base) (hcalm : X.calm = true) (hr : Room 4 X.A) (e : Expr) (es : List Expr) (t : TA) (p pos : Pos) (hg : Gl X x) (hdb : (x == ("__debug__" : Str)) = false) (ha : PA X (e :: es) t)
    (he : starEach (e :: es) X.env = (false, eval e X.env) :: starEach es X.env) (hpl : (backTo pos (starEach es X.env)).any (·.1) = false) : L2N.PMk X (.Call (.Name x p) (e :: es) [] pos) (fun σ H Q => t σ H fun vs H1 => rMk wd c vs H1 Q) := by
  subst hXP hXw hXm hXb
  rw [hK] at hXK
  subst hXK hca
  have key := pmkN_oex (X := X) (x := x) (e := e) (es := es) (p := p) (pos := pos) (CX := L2N.CX X.prog X.w) Ic.oex Ic.iC Ic.tI (fn_ini1 (w := X.w) (base := X.base) (mg := X.mg) (k := 2) (CX := L2N.CX X.prog X.w) Ic hmg) hr Ic.bd
    (fun pins σ H s e s' I h => by
      obtain ⟨_, _, _, _, _, _, _, _, _, _, _, _, _, _, _, _, w⟩ := h) hg hx (pa_up ha) hdb he hpl
  intro pins s σ H Q I h
  refine key pins s σ H Q I ⟨_, h, fun vs H1 hr => ?_⟩
  obtain ⟨hl, _, hq⟩ := hr
  rw [hfl] at hl hq
  obtain ⟨u, rfl⟩ : ∃ u, vs = [u] := by
    cases vs with
    | nil => cases hl
    | cons u r => cases r with
      | nil => exact ⟨u, rfl⟩
      | cons _ _ => simp at hl
  refine ⟨by simp, fun a ha => ⟨a, u, rfl, upd_same, fun dx n ne => ⟨rfl, dx, [(f, u)], upd_same, by rw [upd_ne ne, upd_same], by rw [upd_ne ne] at n; exact n, ?_⟩⟩⟩
  rw [upd_ne ne] at n
  have q := hq dx n
  have eH : upd (del (upd (upd (upd H1 a (exo a (wd.ca c) none)) dx (exd dx [(f, u)])) a (exo a (wd.ca c) (some dx))) a) dx (.xd [(f, u)]) = upd H1 dx (.xd ([f].zip [u])) := by
    funext b
    by_cases hb : b = dx
    · subst hb
      rw [upd_same, upd_same]
      rfl
    · rw [upd_ne hb, upd_ne hb]
      by_cases hba : b = a
      · subst hba
        rw [del_same, ha]
      · rw [del_ne hba, upd_ne hba, upd_ne hb, upd_ne hba]
  rw [eH]
  exact q
end
end NB
end
section
set_option Elab.async false
set_option linter.all false
set_option maxRecDepth 100000
set_option maxHeartbeats 4000000
/-! NBHead: a law's program: what is looked at when its top has run; from it Law and Names. -/
namespace NB
open PySem PySem.Spec PyProof.Rows L2 He
def noStmt : Stmt := .Pass ⟨0, 0, 0, 0⟩
def nameOf (s : Stmt) : Str := match s with
  | .FunctionDef n _ _ _ _ _ _ _ _ _ => n
  | _ => ""
def clsInit (s : Stmt) : Stmt := match s with
  | .ClassDef _ _ _ body _ _ _ _ _ _ _ => (body.find? fun t => decide (nameOf t = ("__init__" : Str))).getD noStmt
  | _ => noStmt
/-- the text: ids: the defs' places; errs: own errors of one field, their places, their fields -/
structure Pg where
  prog : Program
  ids : List Nat
  hotN : List Str
  mutN : List Str
  root : Str
  errs : List (Str × Nat × Str)
  cons : List (Str × Int)
  frees : List Str
namespace Pg
variable (p : Pg)
def st (i : Nat) : Stmt := p.prog.main.body.getD i noStmt
def nms : List Str := p.ids.map fun i => nameOf (p.st i)
def cns : List Str := p.root :: p.errs.map (·.1)
def fldN : List Str := p.errs.map (·.2.2)
def cn (c : Nat) : Str := p.cns.getD c p.root
def cix (c : Nat) : Nat := if c < p.cns.length then c else 0
def fl (c : Nat) : List Str := match c with
  | 0 => ["", ""]
  | c + 1 => match p.errs[c]? with
    | some e => [e.2.2]
    | none => ["", ""]
def sub (c d : Nat) : Bool := p.cix d == 0 || p.cix c == p.cix d
def mu (i : Nat) : Bool := match p.nms[i]? with
  | some n => decide (n ∈ p.mutN)
  | none => false
def inf : Info where
  fns x := if x ∈ p.hotN then none else place p.nms x
  hfns x := if x ∈ p.hotN then place p.nms x else none
  cls x := place p.cns x
  con x := (p.cons.lookup x).map P.int
  free x := decide (x ∈ p.frees)
  mu := p.mu
  fld f := decide (f ∈ p.fldN)
def tab : Tab := { sub := p.sub, flds := p.fl, muts := p.mu }
def fns (f : Nat) : Option Fn := match p.ids[f]? with
  | some i => cFn (decide (nameOf (p.st i) ∈ p.hotN)) (p.mu f) p.inf (defArgs (p.st i)) (defScope (p.st i)) (defBody (p.st i))
  | none => none
def dD (i : Nat) : DefD := ⟨(nameOf (p.st i), none), nameOf (p.st i), nameOf (p.st i), defArgs (p.st i), defBody (p.st i), defScope (p.st i), [], []⟩
def defs : List DefD := p.ids.map p.dD
def wd (K : PySem.W.Frag) : Wd := { K := K, ca := fun c => ga K (p.cn c), fl := p.fl, xn := none }
end Pg
/-! ### what is asked of the text -/
def plainA (a : Arguments) : Bool := match a with
  | ⟨[], _, none, [], [], none, []⟩ => true
  | _ => false
theorem plainA_ok {a : Arguments} (h : plainA a = true) : a = ⟨[], a.args, none, [], [], none, []⟩ := by
  obtain ⟨a1, a2, a3, a4, a5, a6, a7⟩ := a
  cases a1 <;> cases a3 <;> cases a4 <;> cases a5 <;> cases a6 <;> cases a7 <;> first | rfl | (cases h)
def fscB (N ps : List Str) (sc : Scope) : Bool :=
  decide (sc.kind = .function) && !sc.isCoroutine && !sc.isGenerator && decide N.Nodup && decide (N.take ps.length = ps) && ps.all (fun x => isLoc sc x) && sc.names.all (fun y => !decide (y.2 = .free))
theorem fscB_ok {N ps : List Str} {sc : Scope} (h : fscB N ps sc = true) : FnScope N ps sc := by
  unfold fscB at h
  simp only [Bool.and_eq_true, Bool.not_eq_true', decide_eq_true_eq, List.all_eq_true, decide_eq_false_iff_not] at h
  obtain ⟨⟨⟨⟨⟨⟨h1, h2⟩, h3⟩, h4⟩, h5⟩, h6⟩, h7⟩ := h
  exact ⟨h1, h2, h3, h4, h5, fun x hx => isLoc_ok (h6 x hx), h7⟩
/-- super().__init__('..'); self.f = f -/
def bodyB (f : Str) (b : List Stmt) : Bool := match b with
  | [.Expr (.Call (.Attribute (.Call (.Name n0 _) [] [] _) n1 p2) [.Constant (.str _) _ _] [] p4) _, .Assign [.Attribute (.Name n2 _) n3 _] (.Name n4 _) _] =>
    decide (n0 = ("super" : Str)) && decide (n1 = ("__init__" : Str)) && decide (n2 = ("self" : Str)) && decide (n3 = f) && decide (n4 = f) && p2.endLine == p4.line
  | _ => false
theorem bodyB_ok {f : Str} {b : List Stmt} (h : bodyB f b = true) : ∃ y kk py p0 p1 p2 p4 p5 p6 p7 p8 p9, (p2.endLine == p4.line) = true ∧ b = supSt y kk py p0 p1 p2 p4 p5 :: [.Assign [.Attribute (.Name "self" p6) f p7] (.Name f p8) p9] := by
  unfold bodyB at h
  split at h
  · simp only [Bool.and_eq_true, decide_eq_true_eq] at h
    obtain ⟨⟨⟨⟨⟨rfl, rfl⟩, rfl⟩, rfl⟩, rfl⟩, h6⟩ := h
    exact ⟨_, _, _, _, _, _, _, _, _, _, _, _, h6, rfl⟩
  · cases h
def iniSta (f : Str) (s : Stmt) : Bool := NdefX.nscB ["self", f, "__class__"] ["self", f] ["__class__"] (defScope s) && bodyB f (defBody s) && plainA (defArgs s) && decide (paramsOf (defArgs s) = (["self", f] : List Str)) && decide ((defScope s).names.lookup ("super" : Str) = some .globalImplicit) && decide (("self" : Str) ≠ f) &&
  !(f == ("__debug__" : Str)) && !(f == ("__classdict__" : Str))
def Pg.defSta (p : Pg) (f i : Nat) : Bool := plainA (defArgs (p.st i)) && fscB (namesOf (paramsOf (defArgs (p.st i))) (defScope (p.st i)) (defBody (p.st i))) (paramsOf (defArgs (p.st i))) (defScope (p.st i)) && decide ((paramsOf (defArgs (p.st i))).Nodup) && (p.fns f).isSome
def Pg.sta (p : Pg) : Bool := (List.range p.ids.length).all (fun f => p.defSta f (p.ids.getD f 0)) && p.errs.all (fun e => iniSta e.2.2 (clsInit (p.st e.2.1))) && decide (((p.prog.main.scope.names.lookup ("super" : Str)).isSome) = false)
/-! ### what is asked of the heap -/
def excCB (K : PySem.W.Frag) (D : Addr) : Bool :=
  eqO (PySem.W.findIn K (.ref D) "__getattribute__") (some (some (.builtin "BaseException.__getattribute__"))) && eqO (PySem.W.findIn K (.ref D) "__getattr__") (some none) && decide (PySem.W.subIn K (.ref D) (.type "BaseException") = some true) && PySem.W.hasDictIn K D &&
  eqO (PySem.W.findIn K (.ref D) "__class__") (some (some (.builtin "object.__class__"))) && eqO (PySem.W.specialIn K (.builtin "object.__class__") "__get__") (some (some (.builtin "getset_descriptor.__get__"))) && decide (PySem.W.takesIn K (.builtin "object.__class__") = some true) && decide (PySem.W.mroIn K D (.type "object") = some true)
theorem excCB_ok {K : PySem.W.Frag} {D : Addr} (h : excCB K D = true) : ExcC K D := by
  unfold excCB at h
  simp only [Bool.and_eq_true, decide_eq_true_eq] at h
  obtain ⟨⟨⟨⟨⟨⟨⟨h1, h2⟩, h3⟩, h4⟩, h5⟩, h6⟩, h7⟩, h8⟩ := h
  exact ⟨eqO_ok h1, eqO_ok h2, h3, h4, eqO_ok h5, eqO_ok h6, h7, h8⟩
def oexB (K : PySem.W.Frag) (C : Addr) : Bool := (match K.lookup C with
  | some ⟨.type t, _, .cls cd, sl⟩ => decide (t = "type") && cd.hasDict && !cd.hasDel && (match cd.mro with
    | .ref C' :: bm => decide (C' = C) && PySem.HandSPX.refsVE bm
    | _ => false) && (match sl.toList with
    | [_, _, _, _, some (.builtin n), _] => decide (n = "ValueError.__new__")
    | _ => false)
  | _ => false) && eqO (PySem.W.findIn K (.ref C) "__setattr__") (some (some (.builtin "object.__setattr__"))) && decide (PySem.W.subIn K (.ref C) (.type "BaseException") = some true) && decide (PySem.W.typeIn K (.ref C) = some (.type "type")) && PySem.W.keepIn K (.ref C)
theorem oexB_ok {K : PySem.W.Frag} {C : Addr} (h : oexB K C = true) : OexC K C := by
  unfold oexB at h
  simp only [Bool.and_eq_true, decide_eq_true_eq] at h
  obtain ⟨⟨⟨⟨h1, h2⟩, h3⟩, h4⟩, h5⟩ := h
  refine ⟨?_, eqO_ok h2, h3, h4, h5⟩
  split at h1
  · rename_i t dd cd sl ho
    simp only [Bool.and_eq_true, decide_eq_true_eq, Bool.not_eq_true'] at h1
    obtain ⟨⟨⟨⟨rfl, hd⟩, hdel⟩, hm⟩, hs⟩ := h1
    obtain ⟨nm, bs, mro, ns, qn, hd', sn, sub, ab, col, del⟩ := cd
    dsimp only at hd hdel hm
    subst hd hdel
    split at hm
    · rename_i C' bm
      simp only [Bool.and_eq_true, decide_eq_true_eq] at hm
      obtain ⟨rfl, hbm⟩ := hm
      obtain ⟨l⟩ := sl
      simp only at hs
      split at hs
      · rename_i k0 k1 k2 k3 n k5
        simp only [decide_eq_true_eq] at hs
        subst hs
        exact ⟨nm, qn, ns, bs, bm, sn, sub, ab, col, dd, k0, k1, k2, k3, k5, ho, hbm⟩
      · cases hs
    · cases hm
  · cases h1
def supB (K : PySem.W.Frag) (C : Addr) : Bool := eqO (PySem.W.nsIn K cStatics "thirdparty.any") (some none) && decide (PySem.W.mroIn K C (.ref C) = some true) && eqO (PySem.W.ks_superIn K C C "__init__") (some (some (.builtin "ValueError.__init__"))) && decide (PySem.W.subIn K (.ref C) (.type "ValueError") = some true) && (PySem.W.clsIn K C).isSome
theorem supB_ok {K : PySem.W.Frag} {C : Addr} (h : supB K C = true) : SupC K C C := by
  unfold supB at h
  simp only [Bool.and_eq_true, decide_eq_true_eq] at h
  obtain ⟨⟨⟨⟨h1, h2⟩, h3⟩, h4⟩, h5⟩ := h
  exact ⟨eqO_ok h1, h2, eqO_ok h3, h4, Option.isSome_iff_exists.mp h5⟩
/-- the __init__ of the class x -/
def iA (K : PySem.W.Frag) (x : Str) : Addr := fAd K (x, some "__init__")
abbrev FnI : Type := Option (Str × Str × Arguments × FuncBody × Scope × Addr × List Str × Addr)
def iniW (K : PySem.W.Frag) (x : Str) : FnI := match K.lookup (iA K x) with
  | some ⟨_, _, .func fd, _⟩ => some (fd.name, fd.qualname, fd.params, fd.body, fd.scope, fd.globals, fd.closure.map (·.1), fd.builtins)
  | _ => none
def iniV (x : Str) (s : Stmt) : FnI := some ("__init__", x ++ ".__init__", defArgs s, .stmts (defBody s), defScope s, mainGlobals, ["__class__"], builtinsNs)
def iniB (K : PySem.W.Frag) (prog : Program) (x f : Str) : Bool := (match K.lookup (iA K x) with
  | some ⟨_, _, .func fd, _⟩ => (match fd.closure with
      | [(_, cc)] => (match K.lookup cc with
        | some ⟨_, _, .cell (some (.ref C)), _⟩ => decide (C = ga K x)
        | _ => false)
      | _ => false) && PySem.W.codeIn K fd.code fd.qualname && (match fd.code with
      | .ref c => (match K.lookup c with
        | some ⟨_, _, .fields vs, _⟩ => (match (vs[2]? : Option Value) with
          | some (.str fl _) => ((prog.main.file : Str) == fl)
          | _ => false)
        | _ => false)
      | _ => false) && (match fd.defaults with
      | .none => true
      | _ => false) && (match fd.kwdefaults with
      | .none => true
      | _ => false) && fd.annotations.isNone
  | _ => false) && oexB K (ga K x) && supB K (ga K x) && eqO (PySem.W.findIn K (.ref (ga K x)) f) (some none) && eqO (PySem.W.findIn K (.ref (ga K x)) "__init__") (some (some (.ref (iA K x)))) && decide (PySem.W.typeIn K (.ref (iA K x)) = some (.type "function"))
theorem iniB_ok {K : PySem.W.Frag} {prog : Program} {x f : Str} {s : Stmt} (h : iniB K prog x f = true) (e : iniW K x = iniV x s) (hs : iniSta f s = true) (ht : (prog.main.scope.names.lookup ("super" : Str)).isSome = false) : ∃ cc F fd, Ini1 K prog (ga K x) (iA K x) cc F fd f := by
  unfold iniB at h
  simp only [Bool.and_eq_true, decide_eq_true_eq] at h
  obtain ⟨⟨⟨⟨⟨h1, h2⟩, h3⟩, h4⟩, h5⟩, h6⟩ := h
  unfold iniSta at hs
  simp only [Bool.and_eq_true, decide_eq_true_eq, Bool.not_eq_true'] at hs
  obtain ⟨⟨⟨⟨⟨⟨⟨s1, s2⟩, s3⟩, s4⟩, s5⟩, s6⟩, s7⟩, s8⟩ := hs
  unfold iniW at e
  split at h1
  case h_2 => cases h1
  rename_i oc od fd osl lk
  rw [lk] at e
  obtain ⟨n1, n2, n3, n4, n5, n6, n7, n8, n9, n10, n11, n12, n13, n14, n15⟩ := fd
  simp only [iniV, Option.some.injEq, Prod.mk.injEq] at e
  obtain ⟨e1, e2, e3, e4, e5, e6, e7, e8⟩ := e
  simp only [Bool.and_eq_true] at h1
  obtain ⟨⟨⟨⟨⟨c1, c2⟩, c3⟩, c4⟩, c5⟩, c6⟩ := h1
  subst e1 e2 e3 e4 e5 e6 e8
  split at c1
  case h_2 => cases c1
  rename_i _ z cc
  simp only [List.map_cons, List.map_nil, List.cons.injEq, and_true] at e7
  subst e7
  split at c1
  case h_2 => cases c1
  rename_i oc2 od2 C osl2 lk2
  simp only [decide_eq_true_eq] at c1
  subst c1
  split at c3
  case h_2 => cases c3
  rename_i c
  split at c3
  case h_2 => cases c3
  rename_i oc3 od3 vs osl3 lk3
  split at c3
  case h_2 => cases c3
  rename_i fl tf hvs
  split at c4
  case h_2 => cases c4
  split at c5
  case h_2 => cases c5
  have c6 : n12 = none := by simpa using c6
  subst c6
  have pa := plainA_ok s3
  have ndp : ((defArgs s).args.map (·.arg)).Nodup := by
    have : (defArgs s).args.map (·.arg) = (["self", f] : List Str) := s4
    rw [this]
    simp [s6]
  refine ⟨cc, ⟨"__init__", x ++ ".__init__", defArgs s, defBody s, defScope s, [("__class__", cc)], c⟩, _, ⟨⟨⟨oc, od, n10, n11, n14, osl, rfl, lk⟩, c2, rfl, ⟨oc2, od2, osl2, lk2⟩, ⟨oc3, od3, osl3, vs, fl, tf, lk3, hvs, c3⟩, ht⟩, oexB_ok h2, supB_ok h3, NdefX.nscope_by s1, ?_, ?_, s5, eqO_ok h4, eqO_ok h5, h6, ?_, s7, s8⟩⟩
  · exact bodyB_ok s2
  · have hh : (defArgs s).args.map (·.arg) = (["self", f] : List Str) := s4
    rw [pa]
    cases hz : (defArgs s).args with
    | nil => rw [hz] at hh; cases hh
    | cons a r =>
      rw [hz] at hh
      simp only [List.map_cons, List.cons.injEq] at hh
      exact ⟨a, rfl, hh.1⟩
  · refine .all fun us hl => ?_
    have hh : (defArgs s).args.map (·.arg) = (["self", f] : List Str) := s4
    have q := bind_plain (fd := NdefX.NF.fd ⟨"__init__", x ++ ".__init__", defArgs s, defBody s, defScope s, [("__class__", cc)], c⟩ n10 n11 n14) pa rfl ndp (us := us) (by rw [hh]; exact hl)
    rw [hh] at q
    exact q
end NB
end
section
set_option Elab.async false
set_option linter.all false
set_option maxRecDepth 100000
set_option maxHeartbeats 4000000
/-! NBHead2: the Hook; Law and Names of it; the law's end. -/
namespace NB
open PySem PySem.Spec PyProof.Rows L2 He
def errB (K : PySem.W.Frag) (C : Addr) (fs : List Str) : Bool := excCB K C && xfB K C && PySem.W.keepIn K (.ref C) && fs.all fun f => eqO (PySem.W.findIn K (.ref C) f) (some none)
namespace Pg
variable (p : Pg)
def dyn (K : PySem.W.Frag) : Bool :=
  p.nms.all (fun x => (Fa.glo x).ok K) && p.cns.all (fun x => (Fa.glo x).ok K && errB K (ga K x) p.fldN) && p.frees.all (fun x => (Fa.free x).ok K) && (Fa.free "super").ok K && p.cons.all (fun q => (Fa.int q.1 q.2).ok K) &&
    (List.range p.cns.length).all (fun c => (List.range p.cns.length).all fun d => decide (PySem.W.exmOne K (.ref (ga K (p.cn c))) (.ref (ga K (p.cn d))) = some (p.sub c d)) && decide (PySem.W.kitOne K (.ref (ga K (p.cn c))) (.ref (ga K (p.cn d))) = some (p.sub c d))) &&
    p.errs.all (fun e => iniB K p.prog e.1 e.2.2) && p.defs.all fun d => d.ok K
abbrev Al : Type := Bool × List FnW × List FnI
def obsK (K : PySem.W.Frag) : Al := (p.dyn K, p.defs.map (fun d => fnW K d.at_), p.errs.map fun e => iniW K e.1)
def valK : Al := (true, p.defs.map DefD.val, p.errs.map fun e => iniV e.1 (clsInit (p.st e.2.1)))
def obsH (n : Nat) (g : Addr → Option Obj) : Al := p.obsK (frG g (cStatics :: asD g n))
def hook (n : Nat) : PySem.W.Hook where
  α := Al
  obs := fun s => p.obsH n s.heap.get?
  val := fun _ => p.valK
  says := fun _ h => ∃ K : PySem.W.Frag, K.In h ∧ p.obsK K = p.valK
  of := fun _ _ e => ⟨_, frG_in, e⟩
  keeps := fun _ _ _ ⟨K, hK, c⟩ k => ⟨K, PySem.W.Frag.In.keeps hK k, c⟩
theorem obsH_eq {n : Nat} {g : Addr → Option Obj} {s : Shared} (h : ∀ a, g a = s.heap.get? a) : p.obsH n g = (p.hook n).obs s := by
  have e : g = s.heap.get? := funext h
  rw [e] <;> rfl
def adr (K : PySem.W.Frag) (f : Nat) : Addr := ga K (nameOf (p.st (p.ids.getD f 0)))
def fd0 : FuncData := PySem.W.fnOf "" "" ⟨[], [], none, [], [], none, []⟩ [] { kind := .function, names := [], isGenerator := false, isCoroutine := false } .none .none .none .none none .none .none
def fdt (K : PySem.W.Frag) (f : Nat) : FuncData := match K.lookup (p.adr K f) with
  | some ⟨_, _, .func fd, _⟩ => fd
  | _ => fd0
def pst (f : Nat) : List Str := paramsOf (defArgs (p.st (p.ids.getD f 0)))
end Pg
theorem place_get {N : List Str} {x : Str} {i : Nat} (h : place N x = some i) : N[i]? = some x := by
  unfold place at h
  rw [List.findIdx?_eq_some_iff_getElem] at h
  obtain ⟨hi, h1, _⟩ := h
  rw [List.getElem?_eq_getElem hi]
  simpa using h1
section
variable {p : Pg} {K : PySem.W.Frag} {h : Heap} {mg : Str → Option Value} {base : Heap} {w : World} {fuel : Nat}
theorem Pg.cn_cix (c : Nat) : p.cn c = p.cn (p.cix c) := by
  unfold Pg.cn Pg.cix
  split
  · rfl
  · rename_i hc
    have h1 : p.cns.length = p.errs.length + 1 := by simp [Pg.cns]
    simp only [List.getD_eq_getElem?_getD]
    rw [List.getElem?_eq_none (by omega)]
    simp [Pg.cns]
theorem Pg.cix_lt (c : Nat) : p.cix c < p.cns.length := by
  unfold Pg.cix
  have h1 : p.cns.length = p.errs.length + 1 := by simp [Pg.cns]
  split <;> omega
theorem Pg.sub_cix (c d : Nat) : p.sub c d = p.sub (p.cix c) (p.cix d) := by
  have key : ∀ c, p.cix (p.cix c) = p.cix c := fun c => by
    have := p.cix_lt c
    show (if p.cix c < p.cns.length then p.cix c else 0) = p.cix c
    rw [if_pos this]
  unfold Pg.sub
  rw [key, key]
theorem Pg.cn_mem (c : Nat) : p.cn c ∈ p.cns := by
  rw [p.cn_cix c]
  have := p.cix_lt c
  unfold Pg.cn
  rw [List.getD_eq_getElem?_getD, List.getElem?_eq_getElem this]
  exact List.getElem_mem _
/-- the parts of the dynamic check -/
structure Dyn (p : Pg) (K : PySem.W.Frag) : Prop where
  nms : ∀ x ∈ p.nms, (Fa.glo x).ok K = true
  cns : ∀ x ∈ p.cns, (Fa.glo x).ok K = true ∧ errB K (ga K x) p.fldN = true
  frees : ∀ x ∈ p.frees, (Fa.free x).ok K = true
  sup : (Fa.free "super").ok K = true
  cons : ∀ q ∈ p.cons, (Fa.int q.1 q.2).ok K = true
  sub : ∀ c d, PySem.W.exmOne K (.ref (ga K (p.cn c))) (.ref (ga K (p.cn d))) = some (p.sub c d) ∧ PySem.W.kitOne K (.ref (ga K (p.cn c))) (.ref (ga K (p.cn d))) = some (p.sub c d)
  inis : ∀ e ∈ p.errs, iniB K p.prog e.1 e.2.2 = true ∧ iniW K e.1 = iniV e.1 (clsInit (p.st e.2.1))
  defs : ∀ d ∈ p.defs, ∃ fd, FunD K d.name d.qual d.params d.body d.scope (d.dvs K) (d.kws K) (fAd K d.at_) fd
theorem map_eq_mem {α β : Type} {f g : α → β} : ∀ {l : List α}, l.map f = l.map g → ∀ x ∈ l, f x = g x
  | [], _, x, h => by cases h
  | a :: l, e, x, h => by
    simp only [List.map_cons, List.cons.injEq] at e
    rcases List.mem_cons.mp h with rfl | h
    · exact e.1
    · exact map_eq_mem e.2 x h
theorem dyn_of (e : p.obsK K = p.valK) : Dyn p K := by
  unfold Pg.obsK Pg.valK at e
  simp only [Prod.mk.injEq] at e
  obtain ⟨e1, e2, e3⟩ := e
  unfold Pg.dyn at e1
  simp only [Bool.and_eq_true, List.all_eq_true, decide_eq_true_eq, List.mem_range] at e1
  obtain ⟨⟨⟨⟨⟨⟨⟨h1, h2⟩, h3⟩, h4⟩, h5⟩, h6⟩, h7⟩, h8⟩ := e1
  refine ⟨h1, h2, h3, h4, h5, fun c d => ?_, fun e he => ⟨h7 e he, map_eq_mem e3 e he⟩, fun d hd => DefD.funD (map_eq_mem e2 d hd) (h8 d hd)⟩
  rw [p.cn_cix c, p.cn_cix d, p.sub_cix c d]
  exact h6 _ (p.cix_lt c) _ (p.cix_lt d)
theorem law_of (hs : p.sta = true) (X : K.In h) (G : h.Ns mainGlobals mg) (D : Dyn p K) : Law (p.wd K) p.tab p.inf p.prog w mg base := by
  unfold Pg.sta at hs
  simp only [Bool.and_eq_true, List.all_eq_true, decide_eq_true_eq] at hs
  obtain ⟨⟨s1, s2⟩, s3⟩ := hs
  have hsup : mg "super" = none := free_ok X G D.sup
  have hca : ∀ c, mg (p.cn c) = some (.ref (ga K (p.cn c))) := fun c => glo_ok X G (D.cns _ (p.cn_mem c)).1
  have herr : ∀ c, errB K (ga K (p.cn c)) p.fldN = true := fun c => (D.cns _ (p.cn_mem c)).2
  refine ⟨rfl, rfl, rfl, fun x q e => ?_, fun x e => ?_, fun x k e => ?_, fun c d => (D.sub c d).1, fun c d => (D.sub c d).2, fun c => ?_, fun c => ?_, fun c f e => ?_, fun X' x k hP hw hK hm hb hc hr ex e es t pp pos hg hd ha he hpl => ?_⟩
  · have e : (p.cons.lookup x).map P.int = some q := e
    cases z : p.cons.lookup x with
    | none => rw [z] at e; cases e
    | some i =>
      rw [z] at e
      cases e
      obtain ⟨t, ht⟩ := int_ok X G (D.cons (x, i) (PySem.mem_of_lookup z))
      exact ⟨_, .int i, ht, ⟨t, rfl⟩, fun F => by simp only [Rp]⟩
  · exact free_ok X G (D.frees x (by simpa [Pg.inf] using e))
  · have z := place_get e
    have hk : k < p.cns.length := by
      rcases Nat.lt_or_ge k p.cns.length with q | q
      · exact q
      · rw [List.getElem?_eq_none q] at z; cases z
    have hx : p.cn k = x := by
      unfold Pg.cn
      rw [List.getD_eq_getElem?_getD, z]
      rfl
    have := hca k
    rw [hx] at this
    show mg x = some (.ref (ga K (p.cn k)))
    rw [hx]
    exact this
  · have := herr c
    unfold errB at this
    simp only [Bool.and_eq_true] at this
    exact excCB_ok this.1.1.1
  · have := herr c
    unfold errB at this
    simp only [Bool.and_eq_true] at this
    exact xfB_ok this.1.1.2
  · have := herr c
    unfold errB at this
    simp only [Bool.and_eq_true, List.all_eq_true] at this
    exact eqO_ok (this.2 f (by simpa [Pg.inf] using e))
  · have z := place_get ex
    cases k with
    | zero =>
      have hk := herr 0
      unfold errB at hk
      simp only [Bool.and_eq_true] at hk
      have hx0 : x = p.cn 0 := by
        have z : (p.root :: p.errs.map (·.1))[0]? = some x := z
        simp at z
        rw [← z]
        rfl
      subst hx0
      subst hw hm hb
      intro pins s σ H Q I hh
      refine wpAny_Call_Name_kw (ld_glob I hg (hca 0) ?_ hd)
      refine PySem.W.callWith_K (h₀ := X'.base) I.ok.mod.kin (by rw [hK]; exact hk.1.2) (thn (ha.run pos pins s σ H _ I hh) fun us s1 ⟨vs, H1, I1, r1, hz, hnd, _⟩ => ?_) he hpl
      exact absurd hnd (by show ¬ (["", ""] : List Str).Nodup; decide)
    | succ k =>
      obtain ⟨e0, he0, rfl⟩ : ∃ e0, p.errs[k]? = some e0 ∧ e0.1 = x := by
        have z : (p.root :: p.errs.map (·.1))[k + 1]? = some x := z
        rw [List.getElem?_cons_succ, List.getElem?_map] at z
        cases q : p.errs[k]? with
        | none => rw [q] at z; cases z
        | some e0 =>
          rw [q] at z
          simp only [Option.map_some, Option.some.injEq] at z
          exact ⟨e0, rfl, z⟩
      have hmem := List.mem_of_getElem? he0
      obtain ⟨d1, d2⟩ := D.inis e0 hmem
      obtain ⟨cc, F, fd, ini⟩ := iniB_ok d1 d2 (s2 e0 hmem) s3
      have hcn : p.cn (k + 1) = e0.1 := by
        unfold Pg.cn
        rw [List.getD_eq_getElem?_getD, z]
        rfl
      refine mke1 (wd := p.wd K) (c := k + 1) rfl (by show ga K (p.cn (k + 1)) = _; rw [hcn]) ?_ ini hsup (by rw [← hcn]; exact hca _) X' hP hw hK hm hb hc hr e es t pp pos hg hd ha he hpl
      show p.fl (k + 1) = _
      simp only [Pg.fl, he0]
theorem names_of (hs : p.sta = true) (X : K.In h) (G : h.Ns mainGlobals mg) (D : Dyn p K) : Names (p.wd K) p.inf mg p.fns (p.adr K) (p.fdt K) p.pst := by
  unfold Pg.sta at hs
  simp only [Bool.and_eq_true, List.all_eq_true, decide_eq_true_eq, List.mem_range] at hs
  obtain ⟨⟨s1, s2⟩, s3⟩ := hs
  have key : ∀ {x : Str} {f : Nat}, place p.nms x = some f → ∃ i, p.ids[f]? = some i ∧ nameOf (p.st i) = x ∧ p.ids.getD f 0 = i ∧ f < p.ids.length := fun {x f} e => by
    have z := place_get e
    unfold Pg.nms at z
    rw [List.getElem?_map] at z
    cases q : p.ids[f]? with
    | none => rw [q] at z; cases z
    | some i =>
      rw [q] at z
      simp only [Option.map_some, Option.some.injEq] at z
      refine ⟨i, rfl, z, by rw [List.getD_eq_getElem?_getD, q]; rfl, ?_⟩
      rcases Nat.lt_or_ge f p.ids.length with y | y
      · exact y
      · rw [List.getElem?_eq_none y] at q; cases q
  have dd : ∀ {x : Str} {f : Nat}, place p.nms x = some f → ∀ hot, (decide (x ∈ p.hotN)) = hot → (mg x = some (.ref (p.adr K f)) ∧ PySem.W.keepIn K (.ref (p.adr K f)) = true) ∧ ∃ Gn, p.fns f = some Gn ∧ DefOk (p.wd K) p.inf hot f (p.adr K f) (p.fdt K f) (p.pst f) Gn := fun {x f} e hot hh => by
    obtain ⟨i, hi, hx, hg, hf⟩ := key e
    have hmem : x ∈ p.nms := List.mem_of_getElem? (place_get e)
    have had : p.adr K f = ga K x := by unfold Pg.adr; rw [hg, hx]
    obtain ⟨fd, FD⟩ := D.defs (p.dD i) (List.mem_map_of_mem (List.mem_of_getElem? hi))
    have st := s1 f hf
    rw [hg] at st
    unfold Pg.defSta at st
    simp only [Bool.and_eq_true, decide_eq_true_eq] at st
    obtain ⟨⟨⟨t1, t2⟩, t3⟩, t4⟩ := st
    have FD' : FunD K x x (defArgs (p.st i)) (defBody (p.st i)) (defScope (p.st i)) [] [] (p.adr K f) fd := by
      rw [had, ← hx]
      exact FD
    have hfd : p.fdt K f = fd := by
      obtain ⟨oc, od, dV, kV, doc, pm, an, cdv, ct, osl, _, lk, _⟩ := FD'.ex
      unfold Pg.fdt
      rw [lk]
    refine ⟨⟨by rw [had]; exact glo_ok X G (D.nms x hmem), FD'.kp⟩, ?_⟩
    obtain ⟨Gn, hG⟩ := Option.isSome_iff_exists.mp t4
    refine ⟨Gn, hG, ⟨x, x, defArgs (p.st i), defBody (p.st i), defScope (p.st i), [], [], ?_, ?_, fscB_ok ?_, ?_⟩, ?_⟩
    · rw [hfd]; exact FD'
    · unfold Pg.pst; rw [hg]
    · unfold Pg.pst; rw [hg]; exact t2
    · unfold Pg.fns at hG
      rw [hi] at hG
      dsimp only at hG
      rw [hx, hh] at hG
      exact hG
    · rw [hfd]
      have pa := plainA_ok t1
      unfold Pg.pst
      rw [hg]
      refine FD'.bindsN fun kV doc pm an cdv ct us hl => ?_
      exact bind_plain (fd := PySem.W.fnOf x x (defArgs (p.st i)) (defBody (p.st i)) (defScope (p.st i)) .none kV doc pm an cdv ct) pa rfl t3 hl
  have fn1 : ∀ {x f}, p.inf.fns x = some f → place p.nms x = some f ∧ decide (x ∈ p.hotN) = false := fun {x f} e => by
    have e : (if x ∈ p.hotN then none else place p.nms x) = some f := e
    split at e
    · cases e
    · rename_i hh; exact ⟨e, by simpa using hh⟩
  have fn2 : ∀ {x f}, p.inf.hfns x = some f → place p.nms x = some f ∧ decide (x ∈ p.hotN) = true := fun {x f} e => by
    have e : (if x ∈ p.hotN then place p.nms x else none) = some f := e
    split at e
    · rename_i hh; exact ⟨e, by simpa using hh⟩
    · cases e
  refine ⟨fun x f e => ?_, fun x f e => ?_, fun x f e => ?_⟩
  · rcases e with e | e
    · exact (dd (fn1 e).1 _ rfl).1
    · exact (dd (fn2 e).1 _ rfl).1
  · exact (dd (fn1 e).1 _ (fn1 e).2).2
  · exact (dd (fn2 e).1 _ (fn2 e).2).2
end
end NB
end
section
set_option Elab.async false
set_option linter.all false
set_option maxRecDepth 100000
set_option maxHeartbeats 4000000
/-! NBEnd: from the evaluator's answer to the law. -/
namespace NB
open PySem PySem.Spec PyProof.Rows L2 He
theorem cx_false {P : Program} {w : World} {H : Hp} {s : Shared} {e : Value} {s' : Shared} (h : L2N.CX P w [] H s (fun _ _ _ => False) e s') : False := by
  obtain ⟨_, _, _, _, _, _, _, _, _, _, _, _, _, _, _, _, w⟩ := h
theorem lawAt {l : PySem.W.OpenLaw} {p : Pg} {K : PySem.W.Frag} {h : Heap} {mg : Str → Option Value} {w : World} {fa : Addr} {f k fuel n : Nat} (hp : l.prog = p.prog) (hs : p.sta = true) (X : K.In h) (G : h.Ns mainGlobals mg) (D : Dyn p K) (hf : p.inf.fns "law" = some f) (hmu : p.mu f = false) (hps : p.pst f = ([("script" : Str)] : List Str))
    (hfa : mg ("law" : Str) = some (.ref fa))
    (main : ∀ ns : List Int, ns.length ≤ n → (∀ z ∈ ns, Builtin.Int.intBits z ≤ 1048576) → run p.tab (mkxOf p.tab) fuel p.fns k f [.val (.scr ns)] = .ok (.val (.bl true), [])) :
    LamX.LawAtS l w K (L2N.CX p.prog w) (k + 4) n "script" mg fa h := by
  have Nm := names_of (mg := mg) hs X G D
  obtain ⟨m1, m2⟩ := Nm.mg "law" f (.inl hf)
  have hadr : fa = p.adr K f := by
    rw [hfa] at m1
    exact Value.ref.inj (Option.some.inj m1)
  subst hadr
  obtain ⟨Gn, hG, Dk⟩ := Nm.calm "law" f hf
  obtain ⟨nm, qual, params, body, scope, dvs, kws, FD, hpar, FS, cG⟩ := Dk.ex
  refine ⟨p.fdt K f, [], spF (p.wd K) (p.inf.mu f) (run p.tab (mkxOf p.tab) fuel p.fns k f), by simp, by simp, by simp, fun s u => ?_, fun H a ns hl hb _ hS => ?_, fun base KB GB _ => ?_⟩
  · -- binding
    have hd := names_of (mg := mg) hs X G D
    have st : p.defSta f (p.ids.getD f 0) = true := by
      have hs' := hs
      unfold Pg.sta at hs'
      simp only [Bool.and_eq_true, List.all_eq_true, decide_eq_true_eq, List.mem_range] at hs'
      have z := place_get (show place p.nms "law" = some f by
        have e : (if ("law" : Str) ∈ p.hotN then none else place p.nms "law") = some f := hf
        split at e
        · cases e
        · exact e)
      have : f < p.ids.length := by
        rcases Nat.lt_or_ge f p.ids.length with y | y
        · exact y
        · rw [List.getElem?_eq_none (by simpa [Pg.nms] using y)] at z; cases z
      exact hs'.1.1 f this
    unfold Pg.defSta at st
    simp only [Bool.and_eq_true, decide_eq_true_eq] at st
    obtain ⟨⟨⟨t1, t2⟩, t3⟩, t4⟩ := st
    have e0 : p.ids[f]? = some (p.ids.getD f 0) := by
      unfold Pg.fns at hG
      cases q : p.ids[f]? with
      | none => rw [q] at hG; cases hG
      | some i => simp [List.getD_eq_getElem?_getD, q]
    obtain ⟨fd, FD2⟩ := D.defs (p.dD (p.ids.getD f 0)) (List.mem_map_of_mem (List.mem_of_getElem? e0))
    have hfd : p.fdt K f = fd := by
      obtain ⟨oc, od, dV, kV, doc, pm, an, cdv, ct, osl, _, lk, _⟩ := FD2.ex
      unfold Pg.fdt
      rw [show p.adr K f = fAd K (p.dD (p.ids.getD f 0)).at_ from rfl, lk]
    have b := FunD.bindsA (ps := paramsOf (defArgs (p.st (p.ids.getD f 0)))) FD2 (fun kV doc pm an cdv ct us hl => bind_plain (fd := PySem.W.fnOf _ _ (defArgs (p.st (p.ids.getD f 0))) (defBody (p.st (p.ids.getD f 0))) (defScope (p.st (p.ids.getD f 0))) .none kV doc pm an cdv ct) (plainA_ok t1) rfl t3 hl) s [u]
    have hps' : paramsOf (defArgs (p.st (p.ids.getD f 0))) = ([("script" : Str)] : List Str) := hps
    rw [hps', ← hfd] at b
    exact b rfl
  · -- the answer
    refine ⟨H, H, [.val (.scr ns)], fun _ => False, Same.refl _, Same.refl _, ?_, fun _ z => z.elim, ?_⟩
    · simp only [RpDs]
      exact ⟨.ref a, [], fun _ => False, fun _ => False, rfl, by simp only [RpD, Rp]; exact ⟨a, rfl, hS⟩, rfl, fun _ z => z, fun _ z => z, fun _ z => z.elim⟩
    · rw [main ns hl hb]
      intro v F' H' T T1 _ r _ _ _ _
      simp only [RpD, Rp] at r
      exact r
  · have Lw := law_of (w := w) (base := base) hs X G D
    have pr := (prom_all (fuel := fuel) Lw Nm k).1 "law" f hf
    rw [hps] at pr
    rw [hp]
    exact pr
end NB
end
section
set_option Elab.async false
set_option linter.all false
set_option maxRecDepth 100000
set_option maxHeartbeats 0
namespace K01
open PySem PySem.Spec PyProof.Rows L2 NB
abbrev pg : Pg where
  prog := PySem.Challenge.pw_nearbydown_k01_near_steps_and_distance
  ids := [7,8,9,10,11,12,13,16,17,18,19,20,21,22,23,24,26,27,28,29,30,31,32,33,34,35,36,37,38,39,40,41,42,43,44,45,46]
  hotN := ["_law_refusal"]
  mutN := ["_law_draw", "_law_point"]
  root := "NearbyError"
  errs := [("SizeError", 2, "count"), ("NumberError", 3, "number"), ("EndError", 4, "end")]
  cons := [("MOST_AMOUNT", 1000), ("MOST_LETTERS", 6)]
  frees := ["len", "isinstance", "int", "bool", "str", "list", "tuple", "zip", "enumerate", "range", "abs", "sum", "max", "min"]
theorem sta : pg.sta = true := by kernel_rfl
abbrev R : PySem.W.OpenRow := PySem.W.OpenLaw.row PySem.Challenge.rw_nearbydown_k01_near_steps_and_distance
abbrev hk : PySem.W.Hook := pg.hook 5
def ob (s : PySem.W.SharedT) : Pg.Al := pg.obsH 5 (HandSHeadRun.getT s)
theorem ob_eq (s : PySem.W.SharedT) : ob s = hk.obs s.abs := pg.obsH_eq (HandSHeadRun.getT_eq s)
def loose : List PySem.Str := (["NearbyError", "SizeError", "NumberError", "EndError", "MOST_AMOUNT", "look_number", "look_count", "look_numbers", "look_point", "look_index", "look_end", "look_step", "MOST_LETTERS", "ends", "end_amounts", "amount_at", "near_steps", "moved", "stepped", "more_less"] : List PySem.Str) ++ (["steps_apart", "distance", "_law_numbers", "_law_draw", "_law_same", "_law_refusal", "_law_told", "_law_ends", "_law_steps", "_law_all", "_law_moved", "_law_far", "_law_sides", "_law_same_ends", "_law_point", "_law_other_form", "_law_right", "_law_right_sides", "_law_right_neighbours", "_law_right_walk"] : List PySem.Str) ++ (["_law_wrong_rows", "_law_edge_rows"] : List PySem.Str)
theorem run (w : World) : HandSHeadRun.RunEq R (PySem.W.view R.prog [46]) hk ob 4000 loose w := by
  intro os
  kernel_rfl
end K01
namespace K01
open PySem PySem.Spec PyProof.Rows L2 NB
def lawF : Nat := 36
theorem walk (main : ∀ ns : List Int, ns.length ≤ 63 → (∀ z ∈ ns, Builtin.Int.intBits z ≤ 1048576) → NB.run pg.tab (mkxOf pg.tab) 1000 pg.fns 20 36 [.val (.scr ns)] = .ok (.val (.bl true), [])) :
    PySem.Challenge.rw_nearbydown_k01_near_steps_and_distance.Holds := by
  w_on; o_law
  refine HandSHeadRun.head_any (r := PySem.W.OpenLaw.row PySem.Challenge.rw_nearbydown_k01_near_steps_and_distance) (q := PySem.W.view (PySem.W.OpenLaw.row PySem.Challenge.rw_nearbydown_k01_near_steps_and_distance).prog [46]) (H := hk) (ob := ob) (M := 4000) (loose := loose) (d := HandSHeadRun.topDef (PySem.W.OpenLaw.row PySem.Challenge.rw_nearbydown_k01_near_steps_and_distance).prog 46) (kwd := []) ob_eq
    (by kernel_rfl) (fun s => by kernel_rfl) run (by kernel_rfl) (by kernel_rfl) (by kernel_rfl) (by rfl) (by first | assumption | decide +kernel) (by decide +kernel) ⟨rfl, rfl, rfl, rfl, rfl, by decide +kernel⟩ ?hw ?hc
  case hw => w_witness2
  case hc =>
    refine LamX.walk_ofTsE (l := PySem.Challenge.rw_nearbydown_k01_near_steps_and_distance) (n := 63) (k := 24) (x := "script") (CX := fun w => L2N.CX pg.prog w) rfl (by decide) (by kernel_rfl) ⟨rfl, by decide, by decide⟩ ?F (fun w H s e s' z => cx_false z)
    intro w mg fa h Y G hmg0
    obtain ⟨K, KX, c⟩ := Y
    have hmg : mg ("law" : PySem.Str) = some (.ref fa) := by
      have e : (HandSHeadRun.topDef (PySem.W.OpenLaw.row PySem.Challenge.rw_nearbydown_k01_near_steps_and_distance).prog 46).name = ("law" : PySem.Str) := by kernel_rfl
      rw [← e]
      exact hmg0
    exact ⟨K, KX, lawAt (p := pg) (f := 36) (k := 20) (fuel := 1000) rfl sta KX G (dyn_of c) (by kernel_rfl) (by kernel_rfl) (by kernel_rfl) hmg main⟩
end K01
end
section
set_option linter.all false
set_option maxRecDepth 10000
/-! NBEv: rewriting rules for the evaluator (written by gen_ev.py). -/
namespace NBE
open NB
section
variable {α β γ δ : Type}
def un2 (f : α → β → γ) (z : α × β) : γ := f z.1 z.2
def un3 (f : α → β → γ → δ) (z : α × β × γ) : δ := f z.1 z.2.1 z.2.2
@[simp] theorem un2_eq (f : α → β → γ) (a : α) (b : β) : un2 f (a, b) = f a b := (rfl)
@[simp] theorem un3_eq (f : α → β → γ → δ) (a : α) (b : β) (c : γ) : un3 f (a, b, c) = f a b c := (rfl)
@[simp] theorem R.bind_ite (c : Prop) [Decidable c] (a b : R α) (f : α → R β) : ((if c then a else b) >>= f) = if c then a >>= f else b >>= f := by split <;> rfl
@[simp] theorem R.of_some' (a : α) : R.of (some a) = .ok a := (rfl)
@[simp] theorem R.of_none' : R.of (none : Option α) = .stuck := (rfl)
end
section
variable (tb : Tab) (Φ : Nat → List D → R (D × List D)) (mkx : Nat → List P → R (List P)) (fuel : Nat) (ε : Env)
/-! ### slots -/
@[simp] theorem fz1_ow (d : D) : fz1 (.ow d) = .ow (.val d.p) := (rfl)
@[simp] theorem fz1_no : fz1 .no = .no := (rfl)
@[simp] theorem fz1_lk (ps : List P) : fz1 (.lk ps) = .lk ps := (rfl)
@[simp] theorem vo1_val (p : P) : vo1 (.ow (.val p)) = .ow (.val p) := (rfl)
@[simp] theorem vo1_lst (ds : List D) : vo1 (.ow (.lst ds)) = .no := (rfl)
@[simp] theorem vo1_tup (ds : List D) : vo1 (.ow (.tup ds)) = .no := (rfl)
@[simp] theorem vo1_no : vo1 .no = .no := (rfl)
@[simp] theorem vo1_lk (ps : List P) : vo1 (.lk ps) = .no := (rfl)
@[simp] theorem vo_nil : vo [] = [] := (rfl)
@[simp] theorem vo_cons (s : Sl) (ε : Env) : vo (s :: ε) = vo1 s :: vo ε := (rfl)
@[simp] theorem fzAll_nil : fzAll [] = [] := (rfl)
@[simp] theorem fzAll_cons (s : Sl) (ε : Env) : fzAll (s :: ε) = fz1 s :: fzAll ε := (rfl)
@[simp] theorem fz_nil (i : Nat) : fz [] i = [] := by unfold fz; simp
@[simp] theorem fz_zero (s : Sl) (ε : Env) : fz (s :: ε) 0 = fz1 s :: ε := (rfl)
@[simp] theorem fz_succ (s : Sl) (ε : Env) (i : Nat) : fz (s :: ε) (i + 1) = s :: fz ε i := by
  unfold fz
  simp only [List.getElem?_cons_succ]
  cases ε[i]? <;> rfl
@[simp] theorem setSl_zero (s : Sl) (ε : Env) (d : D) : setSl (s :: ε) 0 d = .ow d :: ε := (rfl)
@[simp] theorem setSl_succ (s : Sl) (ε : Env) (i : Nat) (d : D) : setSl (s :: ε) (i + 1) d = s :: setSl ε i d := (rfl)
@[simp] theorem setMany_nil : setMany ε [] [] = .ok ε := (rfl)
@[simp] theorem setMany_cons (i : Nat) (is : List Nat) (d : D) (ds : List D) : setMany ε (i :: is) (d :: ds) = setMany (setSl ε i d) is ds := (rfl)
@[simp] theorem assign_nm (i : Nat) (d : D) : assign ε (.nm i) d = .ok (setSl ε i d) := (rfl)
@[simp] theorem assign_tupV (is : List Nat) (ps : List P) : assign ε (.tup is) (.val (.tup ps)) = setMany ε is (ps.map .val) := (rfl)
@[simp] theorem assign_tupD (is : List Nat) (ds : List D) : assign ε (.tup is) (.tup ds) = setMany ε is ds := (rfl)
@[simp] theorem wipeE_nil : wipeE ε [] = ε := (rfl)
@[simp] theorem wipeE_cons (i : Nat) (is : List Nat) : wipeE ε (i :: is) = (wipeE ε is).set i .no := (rfl)
@[simp] theorem unwipe_nil (ε0 : Env) : unwipe ε0 ε [] = ε := (rfl)
@[simp] theorem unwipe_cons (ε0 : Env) (i : Nat) (is : List Nat) : unwipe ε0 ε (i :: is) = match ε0[i]? with
  | some s => (unwipe ε0 ε is).set i s
  | none => unwipe ε0 ε is := (rfl)
/-! ### trees -/
@[simp] theorem D.p_val (p : P) : (D.val p).p = p := (rfl)
@[simp] theorem D.p_tup (ds : List D) : (D.tup ds).p = .tup (D.ps ds) := (rfl)
@[simp] theorem D.p_lst (ds : List D) : (D.lst ds).p = .lst (D.ps ds) := (rfl)
@[simp] theorem D.ps_nil : D.ps [] = [] := (rfl)
@[simp] theorem D.ps_cons (d : D) (ds : List D) : D.ps (d :: ds) = d.p :: D.ps ds := (rfl)
@[simp] theorem D.ps_vals (ps : List P) : D.ps (ps.map .val) = ps := by
  induction ps with
  | nil => rfl
  | cons p ps ih => simp [ih]
@[simp] theorem D.ps_append (as bs : List D) : D.ps (as ++ bs) = D.ps as ++ D.ps bs := by
  induction as with
  | nil => rfl
  | cons a as ih => simp [ih]
@[simp] theorem D.clean_val (p : P) : (D.val p).clean = p.flat := (rfl)
@[simp] theorem D.clean_tup (ds : List D) : (D.tup ds).clean = D.cleans ds := (rfl)
@[simp] theorem D.clean_lst (ds : List D) : (D.lst ds).clean = D.cleans ds := (rfl)
@[simp] theorem D.cleans_nil : D.cleans [] = true := (rfl)
@[simp] theorem D.cleans_cons (d : D) (ds : List D) : D.cleans (d :: ds) = (d.clean && D.cleans ds) := (rfl)
@[simp] theorem D.cleans_vals (ps : List P) : D.cleans (ps.map .val) = ps.all P.flat := by
  induction ps with
  | nil => rfl
  | cons p ps ih => simp [ih]
@[simp] theorem D.cleans_append (as bs : List D) : D.cleans (as ++ bs) = (D.cleans as && D.cleans bs) := by
  induction as with
  | nil => rfl
  | cons a as ih => simp [ih, Bool.and_assoc]
@[simp] theorem D.isVal_val (p : P) : (D.val p).isVal = true := (rfl)
@[simp] theorem D.isVal_tup (ds : List D) : (D.tup ds).isVal = false := (rfl)
@[simp] theorem D.isVal_lst (ds : List D) : (D.lst ds).isVal = false := (rfl)
@[simp] theorem D.shallow_val (p : P) : (D.val p).shallow = true := (rfl)
@[simp] theorem D.shallow_tup (ds : List D) : (D.tup ds).shallow = ds.all D.isVal := (rfl)
@[simp] theorem D.shallow_lst (ds : List D) : (D.lst ds).shallow = ds.all D.isVal := (rfl)
@[simp] theorem all_isVal_vals (ps : List P) : (ps.map D.val).all D.isVal = true := by
  induction ps with
  | nil => rfl
  | cons p ps ih => simp
@[simp] theorem flat_non : P.flat .non = true := (rfl)
@[simp] theorem flat_bl (b : Bool) : P.flat (.bl b) = true := (rfl)
@[simp] theorem flat_int (i : Int) : P.flat (.int i) = true := (rfl)
@[simp] theorem flat_str (s : PySem.Str) : P.flat (.str s) = true := (rfl)
@[simp] theorem flat_tup (ps : List P) : P.flat (.tup ps) = false := (rfl)
@[simp] theorem flat_lst (ps : List P) : P.flat (.lst ps) = false := (rfl)
@[simp] theorem flat_exc (c : Nat) (ps : List P) : P.flat (.exc c ps) = false := (rfl)
@[simp] theorem ne_non : P.ne .non = true := (rfl)
@[simp] theorem ne_bl (b : Bool) : P.ne (.bl b) = true := (rfl)
@[simp] theorem ne_int (i : Int) : P.ne (.int i) = true := (rfl)
@[simp] theorem ne_str (s : PySem.Str) : P.ne (.str s) = true := (rfl)
@[simp] theorem ne_tup (ps : List P) : P.ne (.tup ps) = P.nes ps := (rfl)
@[simp] theorem ne_lst (ps : List P) : P.ne (.lst ps) = P.nes ps := (rfl)
@[simp] theorem ne_exc (c : Nat) (ps : List P) : P.ne (.exc c ps) = false := (rfl)
@[simp] theorem nes_nil : P.nes [] = true := (rfl)
@[simp] theorem nes_cons (p : P) (ps : List P) : P.nes (p :: ps) = (p.ne && P.nes ps) := (rfl)
@[simp] theorem slne_no : Sl.ne .no = true := (rfl)
@[simp] theorem slne_ow (d : D) : Sl.ne (.ow d) = d.p.ne := (rfl)
@[simp] theorem slne_lk (ps : List P) : Sl.ne (.lk ps) = P.nes ps := (rfl)
@[simp] theorem flne_nx : Fl.ne .nx = true := (rfl)
@[simp] theorem flne_bk : Fl.ne .bk = true := (rfl)
@[simp] theorem flne_ct : Fl.ne .ct = true := (rfl)
@[simp] theorem flne_rt (d : D) : Fl.ne (.rt d) = d.p.ne := (rfl)
/-! ### operands -/
@[simp] theorem view1_tm (d : D) : view1 ε (.tm d) = .ok (d.p, ε) := (rfl)
@[simp] theorem view1_nm (i : Nat) : view1 ε (.nm i) = match ε[i]? with
    | some (.ow d) => if d.shallow then .ok (d.p, ε) else .ok (d.p, fz ε i)
    | some (.lk ps) => .ok (.lst ps, ε)
    | _ => .stuck := (rfl)
@[simp] theorem views_nil : views [] ε = .ok ([], ε) := (rfl)
@[simp] theorem views_cons (a : Arg) (as : List Arg) : views (a :: as) ε = view1 ε a >>= un2 fun p ε1 => views as ε1 >>= un2 fun ps ε2 => .ok (p :: ps, ε2) := (rfl)
@[simp] theorem fzArgs_nil : fzArgs [] ε = ε := (rfl)
@[simp] theorem fzArgs_tm (d : D) (as : List Arg) : fzArgs (.tm d :: as) ε = fzArgs as ε := (rfl)
@[simp] theorem fzArgs_nm (i : Nat) (as : List Arg) : fzArgs (.nm i :: as) ε = fzArgs as (fz ε i) := (rfl)
@[simp] theorem borrow_tm (d : D) : borrow ε (.tm d) = .ok d.p := (rfl)
@[simp] theorem borrow_nm (i : Nat) : borrow ε (.nm i) = match ε[i]? with
  | some (.ow d) => .ok d.p
  | some (.lk ps) => .ok (.lst ps)
  | _ => .stuck := (rfl)
@[simp] theorem borrows_nil : borrows ε [] = .ok [] := (rfl)
@[simp] theorem borrows_cons (a : Arg) (as : List Arg) : borrows ε (a :: as) = borrow ε a >>= fun p => borrows ε as >>= fun ps => .ok (p :: ps) := (rfl)
@[simp] theorem lkFree_cons_tm (d : D) (as : List Arg) : lkFree ε (.tm d :: as) = lkFree ε as := by simp [lkFree]
theorem coreE_eq (φ : List D → R (D × List D)) (ds0 : List D) (rest : List Arg) (ps : List P) (h : borrows ε rest = .ok ps) : coreE φ ds0 rest ε = match φ (ds0 ++ ps.map .val) with
  | .ok (d, out) => if d.clean && D.cleans out then .ok (d, out, ε) else if lkFree ε rest then .ok (d, out, fzArgs rest ε) else .stuck
  | .exc c fs => if lkFree ε rest || fs.all P.flat then .exc c fs else .stuck
  | .stuck => .stuck := by unfold coreE; rw [h]; rfl
/-- how a call's answer goes on -/
def backE (rest : List Arg) (ε : Env) : R (D × List D) → R (D × List D × Env)
  | .ok (d, out) => if d.clean && D.cleans out then .ok (d, out, ε) else if lkFree ε rest then .ok (d, out, fzArgs rest ε) else .stuck
  | .exc c fs => if lkFree ε rest || fs.all P.flat then .exc c fs else .stuck
  | .stuck => .stuck
theorem coreE_back (φ : List D → R (D × List D)) (ds0 : List D) (rest : List Arg) : coreE φ ds0 rest ε = borrows ε rest >>= fun ps => backE rest ε (φ (ds0 ++ ps.map .val)) := by
  unfold coreE
  cases borrows ε rest with
  | ok ps =>
    show _ = backE rest ε (φ (ds0 ++ ps.map .val))
    simp only [R.ok_bind]
    cases φ (ds0 ++ ps.map .val) <;> rfl
  | exc c fs => rfl
  | stuck => rfl
@[simp] theorem backE_ok (rest : List Arg) (d : D) (out : List D) : backE rest ε (.ok (d, out)) = if d.clean && D.cleans out then .ok (d, out, ε) else if lkFree ε rest then .ok (d, out, fzArgs rest ε) else .stuck := (rfl)
@[simp] theorem backE_exc (rest : List Arg) (c : Nat) (fs : List P) : backE rest ε (.exc c fs) = if lkFree ε rest || fs.all P.flat then .exc c fs else .stuck := (rfl)
@[simp] theorem backE_stuck (rest : List Arg) : backE rest ε .stuck = .stuck := (rfl)
@[simp] theorem backE_ite (rest : List Arg) (c : Prop) [Decidable c] (a b : R (D × List D)) : backE rest ε (if c then a else b) = if c then backE rest ε a else backE rest ε b := by split <;> rfl
@[simp] theorem callE_false (φ : List D → R (D × List D)) (as : List Arg) : callE false φ as ε = borrows ε as >>= fun ps => backE as ε (φ (ps.map .val)) >>= un3 fun d _ ε1 => .ok (d, ε1) := by
  show (coreE φ [] as ε >>= _) = _
  rw [coreE_back]
  cases borrows ε as <;> rfl
theorem callE_true (φ : List D → R (D × List D)) (i : Nat) (rest : List Arg) (d0 : D) (h : ε[i]? = some (.ow d0)) : callE true φ (.nm i :: rest) ε = borrows (ε.set i .no) rest >>= fun ps => backE rest (ε.set i .no) (φ (d0 :: ps.map .val)) >>= un3 fun d out ε1 => match out with
        | [d1] => .ok (d, setSl ε1 i d1)
        | _ => .stuck := by
  unfold callE
  simp only [h]
  rw [coreE_back]
  cases borrows (ε.set i .no) rest <;> rfl
@[simp] theorem done_ok (as : List Arg) (d : D) (al : Bool) : done as ε (.ok (d, al)) = .ok (d, if al then fzArgs as ε else ε) := (rfl)
@[simp] theorem done_exc (as : List Arg) (c : Nat) (fs : List P) : done as ε (.exc c fs) = .exc c fs := (rfl)
@[simp] theorem done_stuck (as : List Arg) : done as ε .stuck = .stuck := (rfl)
@[simp] theorem done_ite (as : List Arg) (c : Prop) [Decidable c] (a b : R (D × Bool)) : done as ε (if c then a else b) = if c then done as ε a else done as ε b := by split <;> rfl
@[simp] theorem flatR_eq (p : P) : flatR p = .ok (.val p, false) := (rfl)
@[simp] theorem tst_bl (k : Bool) : tst (.ok (.val (.bl k), ε)) = .ok (k, ε) := (rfl)
@[simp] theorem tst_exc (c : Nat) (fs : List P) : tst (.exc c fs) = .exc c fs := (rfl)
@[simp] theorem tst_stuck : tst .stuck = .stuck := (rfl)
@[simp] theorem tst_ite (c : Prop) [Decidable c] (a b : R (D × Env)) : tst (if c then a else b) = if c then tst a else tst b := by split <;> rfl
@[simp] theorem et_eq (x : X) : et tb Φ x ε = tst (ev tb Φ x ε) := (rfl)
@[simp] theorem and_bl (c : Prop) [Decidable c] (b : Bool) : (if c then R.ok (D.val (P.bl b), ε) else R.ok (D.val (P.bl false), ε)) = R.ok (D.val (P.bl (decide c && b)), ε) := by split <;> simp [*]
@[simp] theorem or_bl (c : Prop) [Decidable c] (b : Bool) : (if c then R.ok (D.val (P.bl true), ε) else R.ok (D.val (P.bl b), ε)) = R.ok (D.val (P.bl (decide c || b)), ε) := by split <;> simp [*]
@[simp] theorem argOf_v (i : Nat) (r : R (D × Env)) : argOf (.v i) ε r = match ε[i]? with
    | some (.ow _) => .ok (.nm i, ε)
    | some (.lk _) => .ok (.nm i, ε)
    | _ => .stuck := (rfl)
@[simp] theorem moved_v (i : Nat) (r : R (D × Env)) : moved (.v i) ε r = match ε[i]? with
    | some (.ow d) => .ok (d, ε.set i .no)
    | _ => .stuck := (rfl)
@[simp] theorem argOf_c {p} (r : R (D × Env)) : argOf (.c p) ε r = r >>= un2 fun d ε1 => .ok (.tm d, ε1) := (rfl)
@[simp] theorem moved_c {p} (r : R (D × Env)) : moved (.c p) ε r = r := (rfl)
@[simp] theorem evr_c {p} : evr tb Φ (.c p) ε = ev tb Φ (.c p) ε := (rfl)
@[simp] theorem argOf_bin {o a b} (r : R (D × Env)) : argOf (.bin o a b) ε r = r >>= un2 fun d ε1 => .ok (.tm d, ε1) := (rfl)
@[simp] theorem moved_bin {o a b} (r : R (D × Env)) : moved (.bin o a b) ε r = r := (rfl)
@[simp] theorem evr_bin {o a b} : evr tb Φ (.bin o a b) ε = ev tb Φ (.bin o a b) ε := (rfl)
@[simp] theorem argOf_neg {a} (r : R (D × Env)) : argOf (.neg a) ε r = r >>= un2 fun d ε1 => .ok (.tm d, ε1) := (rfl)
@[simp] theorem moved_neg {a} (r : R (D × Env)) : moved (.neg a) ε r = r := (rfl)
@[simp] theorem evr_neg {a} : evr tb Φ (.neg a) ε = ev tb Φ (.neg a) ε := (rfl)
@[simp] theorem argOf_notv {a} (r : R (D × Env)) : argOf (.notv a) ε r = r >>= un2 fun d ε1 => .ok (.tm d, ε1) := (rfl)
@[simp] theorem moved_notv {a} (r : R (D × Env)) : moved (.notv a) ε r = r := (rfl)
@[simp] theorem evr_notv {a} : evr tb Φ (.notv a) ε = ev tb Φ (.notv a) ε := (rfl)
@[simp] theorem argOf_cmp {o a b} (r : R (D × Env)) : argOf (.cmp o a b) ε r = r >>= un2 fun d ε1 => .ok (.tm d, ε1) := (rfl)
@[simp] theorem moved_cmp {o a b} (r : R (D × Env)) : moved (.cmp o a b) ε r = r := (rfl)
@[simp] theorem evr_cmp {o a b} : evr tb Φ (.cmp o a b) ε = ev tb Φ (.cmp o a b) ε := (rfl)
@[simp] theorem argOf_cmp2 {o o' a b c} (r : R (D × Env)) : argOf (.cmp2 o o' a b c) ε r = r >>= un2 fun d ε1 => .ok (.tm d, ε1) := (rfl)
@[simp] theorem moved_cmp2 {o o' a b c} (r : R (D × Env)) : moved (.cmp2 o o' a b c) ε r = r := (rfl)
@[simp] theorem evr_cmp2 {o o' a b c} : evr tb Φ (.cmp2 o o' a b c) ε = ev tb Φ (.cmp2 o o' a b c) ε := (rfl)
@[simp] theorem argOf_and_ {a b} (r : R (D × Env)) : argOf (.and_ a b) ε r = r >>= un2 fun d ε1 => .ok (.tm d, ε1) := (rfl)
@[simp] theorem moved_and_ {a b} (r : R (D × Env)) : moved (.and_ a b) ε r = r := (rfl)
@[simp] theorem evr_and_ {a b} : evr tb Φ (.and_ a b) ε = ev tb Φ (.and_ a b) ε := (rfl)
@[simp] theorem argOf_or_ {a b} (r : R (D × Env)) : argOf (.or_ a b) ε r = r >>= un2 fun d ε1 => .ok (.tm d, ε1) := (rfl)
@[simp] theorem moved_or_ {a b} (r : R (D × Env)) : moved (.or_ a b) ε r = r := (rfl)
@[simp] theorem evr_or_ {a b} : evr tb Φ (.or_ a b) ε = ev tb Φ (.or_ a b) ε := (rfl)
@[simp] theorem argOf_ife {t a b} (r : R (D × Env)) : argOf (.ife t a b) ε r = r >>= un2 fun d ε1 => .ok (.tm d, ε1) := (rfl)
@[simp] theorem moved_ife {t a b} (r : R (D × Env)) : moved (.ife t a b) ε r = r := (rfl)
@[simp] theorem evr_ife {t a b} : evr tb Φ (.ife t a b) ε = ev tb Φ (.ife t a b) ε := (rfl)
@[simp] theorem argOf_tup {xs} (r : R (D × Env)) : argOf (.tup xs) ε r = r >>= un2 fun d ε1 => .ok (.tm d, ε1) := (rfl)
@[simp] theorem moved_tup {xs} (r : R (D × Env)) : moved (.tup xs) ε r = r := (rfl)
@[simp] theorem argOf_lst {xs} (r : R (D × Env)) : argOf (.lst xs) ε r = r >>= un2 fun d ε1 => .ok (.tm d, ε1) := (rfl)
@[simp] theorem moved_lst {xs} (r : R (D × Env)) : moved (.lst xs) ε r = r := (rfl)
@[simp] theorem evr_lst {xs} : evr tb Φ (.lst xs) ε = ev tb Φ (.lst xs) ε := (rfl)
@[simp] theorem argOf_ix {a i} (r : R (D × Env)) : argOf (.ix a i) ε r = r >>= un2 fun d ε1 => .ok (.tm d, ε1) := (rfl)
@[simp] theorem moved_ix {a i} (r : R (D × Env)) : moved (.ix a i) ε r = r := (rfl)
@[simp] theorem evr_ix {a i} : evr tb Φ (.ix a i) ε = ev tb Φ (.ix a i) ε := (rfl)
@[simp] theorem argOf_sl {a lo hi} (r : R (D × Env)) : argOf (.sl a lo hi) ε r = r >>= un2 fun d ε1 => .ok (.tm d, ε1) := (rfl)
@[simp] theorem moved_sl {a lo hi} (r : R (D × Env)) : moved (.sl a lo hi) ε r = r := (rfl)
@[simp] theorem evr_sl {a lo hi} : evr tb Φ (.sl a lo hi) ε = ev tb Φ (.sl a lo hi) ε := (rfl)
@[simp] theorem argOf_call {f xs} (r : R (D × Env)) : argOf (.call f xs) ε r = r >>= un2 fun d ε1 => .ok (.tm d, ε1) := (rfl)
@[simp] theorem moved_call {f xs} (r : R (D × Env)) : moved (.call f xs) ε r = r := (rfl)
@[simp] theorem evr_call {f xs} : evr tb Φ (.call f xs) ε = ev tb Φ (.call f xs) ε := (rfl)
@[simp] theorem argOf_bi {b xs} (r : R (D × Env)) : argOf (.bi b xs) ε r = r >>= un2 fun d ε1 => .ok (.tm d, ε1) := (rfl)
@[simp] theorem moved_bi {b xs} (r : R (D × Env)) : moved (.bi b xs) ε r = r := (rfl)
@[simp] theorem evr_bi {b xs} : evr tb Φ (.bi b xs) ε = ev tb Φ (.bi b xs) ε := (rfl)
@[simp] theorem argOf_isi {a cs} (r : R (D × Env)) : argOf (.isi a cs) ε r = r >>= un2 fun d ε1 => .ok (.tm d, ε1) := (rfl)
@[simp] theorem moved_isi {a cs} (r : R (D × Env)) : moved (.isi a cs) ε r = r := (rfl)
@[simp] theorem evr_isi {a cs} : evr tb Φ (.isi a cs) ε = ev tb Φ (.isi a cs) ε := (rfl)
@[simp] theorem argOf_attr {a f} (r : R (D × Env)) : argOf (.attr a f) ε r = r >>= un2 fun d ε1 => .ok (.tm d, ε1) := (rfl)
@[simp] theorem moved_attr {a f} (r : R (D × Env)) : moved (.attr a f) ε r = r := (rfl)
@[simp] theorem evr_attr {a f} : evr tb Φ (.attr a f) ε = ev tb Φ (.attr a f) ε := (rfl)
@[simp] theorem argOf_lc {g own it ifs e} (r : R (D × Env)) : argOf (.lc g own it ifs e) ε r = r >>= un2 fun d ε1 => .ok (.tm d, ε1) := (rfl)
@[simp] theorem moved_lc {g own it ifs e} (r : R (D × Env)) : moved (.lc g own it ifs e) ε r = r := (rfl)
@[simp] theorem evr_lc {g own it ifs e} : evr tb Φ (.lc g own it ifs e) ε = ev tb Φ (.lc g own it ifs e) ε := (rfl)
@[simp] theorem argOf_lc2 {g own it g1 i1 ifs e} (r : R (D × Env)) : argOf (.lc2 g own it g1 i1 ifs e) ε r = r >>= un2 fun d ε1 => .ok (.tm d, ε1) := (rfl)
@[simp] theorem moved_lc2 {g own it g1 i1 ifs e} (r : R (D × Env)) : moved (.lc2 g own it g1 i1 ifs e) ε r = r := (rfl)
@[simp] theorem evr_lc2 {g own it g1 i1 ifs e} : evr tb Φ (.lc2 g own it g1 i1 ifs e) ε = ev tb Φ (.lc2 g own it g1 i1 ifs e) ε := (rfl)
@[simp] theorem argOf_meth {m i xs} (r : R (D × Env)) : argOf (.meth m i xs) ε r = r >>= un2 fun d ε1 => .ok (.tm d, ε1) := (rfl)
@[simp] theorem moved_meth {m i xs} (r : R (D × Env)) : moved (.meth m i xs) ε r = r := (rfl)
@[simp] theorem evr_meth {m i xs} : evr tb Φ (.meth m i xs) ε = ev tb Φ (.meth m i xs) ε := (rfl)
@[simp] theorem argOf_methP {m i path c} (r : R (D × Env)) : argOf (.methP m i path c) ε r = r >>= un2 fun d ε1 => .ok (.tm d, ε1) := (rfl)
@[simp] theorem moved_methP {m i path c} (r : R (D × Env)) : moved (.methP m i path c) ε r = r := (rfl)
@[simp] theorem evr_methP {m i path c} : evr tb Φ (.methP m i path c) ε = ev tb Φ (.methP m i path c) ε := (rfl)
@[simp] theorem argOf_hold {e} (r : R (D × Env)) : argOf (.hold e) ε r = r >>= un2 fun d ε1 => .ok (.tm d, ε1) := (rfl)
@[simp] theorem moved_hold {e} (r : R (D × Env)) : moved (.hold e) ε r = r := (rfl)
@[simp] theorem evr_hold {e} : evr tb Φ (.hold e) ε = ev tb Φ (.hold e) ε := (rfl)
@[simp] theorem evr_v (i : Nat) : evr tb Φ (.v i) ε = match ε[i]? with
    | some (.ow d) => .ok (d, ε.set i .no)
    | _ => .stuck := (rfl)
@[simp] theorem evr_tup (xs : XL) : evr tb Φ (.tup xs) ε = evm tb Φ xs ε >>= un2 fun ds ε1 => if ds.length ≤ cap then .ok (.tup ds, ε1) else .stuck := (rfl)
@[simp] theorem evm_nil : evm tb Φ .nil ε = .ok ([], ε) := (rfl)
@[simp] theorem evm_cons (x : X) (xs : XL) : evm tb Φ (.cons x xs) ε = moved x ε (ev tb Φ x ε) >>= un2 fun d ε1 => evm tb Φ xs ε1 >>= un2 fun ds ε2 => .ok (d :: ds, ε2) := (rfl)
/-! ### expressions -/
@[simp] theorem ev_v (i : Nat) : ev tb Φ (.v i) ε = match ε[i]? with
    | some (.ow d) => .ok (.val d.p, fz ε i)
    | _ => .stuck := (rfl)
@[simp] theorem ev_c (p : P) : ev tb Φ (.c p) ε = .ok (.val p, ε) := (rfl)
@[simp] theorem ev_bin (o : BOp) (a b : X) : ev tb Φ (.bin o a b) ε = argOf a ε (ev tb Φ a ε) >>= un2 fun x ε1 => argOf b ε1 (ev tb Φ b ε1) >>= un2 fun y ε2 => view1 ε2 x >>= un2 fun p ε3 => view1 ε3 y >>= un2 fun q ε4 => done [x, y] ε4 (binop o p q) := (rfl)
@[simp] theorem ev_neg (a : X) : ev tb Φ (.neg a) ε = argOf a ε (ev tb Φ a ε) >>= un2 fun x ε1 => view1 ε1 x >>= un2 fun p ε2 => done [x] ε2 (negop p) := (rfl)
/-- not -/
def notD (r : R (D × Env)) : R (D × Env) := r >>= un2 fun d ε1 => match d with
    | .val (.bl b) => .ok (.val (.bl (!b)), ε1)
    | _ => .stuck
@[simp] theorem notD_bl (b : Bool) : notD (.ok (.val (.bl b), ε)) = .ok (.val (.bl (!b)), ε) := (rfl)
@[simp] theorem notD_exc (c : Nat) (fs : List P) : notD (.exc c fs) = .exc c fs := (rfl)
@[simp] theorem notD_ite (c : Prop) [Decidable c] (a b : R (D × Env)) : notD (if c then a else b) = if c then notD a else notD b := by split <;> rfl
@[simp] theorem ev_notv (a : X) : ev tb Φ (.notv a) ε = notD (ev tb Φ a ε) := (rfl)
@[simp] theorem ev_cmp (o : COp) (a b : X) : ev tb Φ (.cmp o a b) ε = argOf a ε (ev tb Φ a ε) >>= un2 fun x ε1 => argOf b ε1 (ev tb Φ b ε1) >>= un2 fun y ε2 => view1 ε2 x >>= un2 fun p ε3 => view1 ε3 y >>= un2 fun q ε4 => done [x, y] ε4 (cmpR o p q) := (rfl)
@[simp] theorem ev_cmp2 (o o' : COp) (a b c : X) : ev tb Φ (.cmp2 o o' a b c) ε = argOf a ε (ev tb Φ a ε) >>= un2 fun x ε1 => argOf b ε1 (ev tb Φ b ε1) >>= un2 fun y ε2 => view1 ε2 x >>= un2 fun p ε3 => view1 ε3 y >>= un2 fun q ε4 => match p, q with
    | .int i, .int j => cmpI o i j >>= fun k =>
      if k then argOf c ε4 (ev tb Φ c ε4) >>= un2 fun z ε5 => view1 ε5 z >>= un2 fun r ε6 => match r with
        | .int l => cmpI o' j l >>= fun k' => .ok (.val (.bl k'), ε6)
        | _ => .stuck
      else .ok (.val (.bl false), ε4)
    | _, _ => .stuck := (rfl)
/-- and, or -/
def andD (r : R (D × Env)) (f : Env → R (D × Env)) : R (D × Env) := r >>= un2 fun d ε1 => match d with
    | .val (.bl k) => if k then f ε1 else .ok (.val (.bl false), ε1)
    | _ => .stuck
def orD (r : R (D × Env)) (f : Env → R (D × Env)) : R (D × Env) := r >>= un2 fun d ε1 => match d with
    | .val (.bl k) => if k then .ok (.val (.bl true), ε1) else f ε1
    | _ => .stuck
@[simp] theorem andD_bl (k : Bool) (f : Env → R (D × Env)) : andD (.ok (.val (.bl k), ε)) f = if k then f ε else .ok (.val (.bl false), ε) := (rfl)
@[simp] theorem orD_bl (k : Bool) (f : Env → R (D × Env)) : orD (.ok (.val (.bl k), ε)) f = if k then .ok (.val (.bl true), ε) else f ε := (rfl)
@[simp] theorem andD_exc (c : Nat) (fs : List P) (f : Env → R (D × Env)) : andD (.exc c fs) f = .exc c fs := (rfl)
@[simp] theorem orD_exc (c : Nat) (fs : List P) (f : Env → R (D × Env)) : orD (.exc c fs) f = .exc c fs := (rfl)
@[simp] theorem ev_and (a b : X) : ev tb Φ (.and_ a b) ε = andD (ev tb Φ a ε) (ev tb Φ b) := (rfl)
@[simp] theorem ev_or (a b : X) : ev tb Φ (.or_ a b) ε = orD (ev tb Φ a ε) (ev tb Φ b) := (rfl)
@[simp] theorem ev_ife (t a b : X) : ev tb Φ (.ife t a b) ε = tst (ev tb Φ t ε) >>= un2 fun k ε1 => if k then ev tb Φ a ε1 else ev tb Φ b ε1 := (rfl)
@[simp] theorem ev_tup (xs : XL) : ev tb Φ (.tup xs) ε = evs tb Φ xs ε >>= un2 fun ds ε1 => if ds.length ≤ cap then .ok (.tup ds, ε1) else .stuck := (rfl)
@[simp] theorem ev_lst (xs : XL) : ev tb Φ (.lst xs) ε = evs tb Φ xs ε >>= un2 fun ds ε1 => if ds.length ≤ cap then .ok (.lst ds, ε1) else .stuck := (rfl)
@[simp] theorem ev_ix (a i : X) : ev tb Φ (.ix a i) ε = argOf a ε (ev tb Φ a ε) >>= un2 fun x ε1 => argOf i ε1 (ev tb Φ i ε1) >>= un2 fun y ε2 => view1 ε2 x >>= un2 fun p ε3 => view1 ε3 y >>= un2 fun q ε4 => done [x, y] ε4 (index p q >>= flatR) := (rfl)
@[simp] theorem ev_sl (a : X) (lo hi : XO) : ev tb Φ (.sl a lo hi) ε = argOf a ε (ev tb Φ a ε) >>= un2 fun x ε1 => evo tb Φ lo ε1 >>= un2 fun l ε2 => evo tb Φ hi ε2 >>= un2 fun h ε3 => view1 ε3 x >>= un2 fun p ε4 => done [x] ε4 (slice p l h) := (rfl)
@[simp] theorem ev_call (f : Nat) (xs : XL) : ev tb Φ (.call f xs) ε = eargs tb Φ xs ε >>= un2 fun as ε1 => callE (tb.muts f) (Φ f) as ε1 := (rfl)
@[simp] theorem ev_bi (b : BI) (xs : XL) : ev tb Φ (.bi b xs) ε = eargs tb Φ xs ε >>= un2 fun as ε1 => views as ε1 >>= un2 fun ps ε2 => done as ε2 (bltn b ps) := (rfl)
@[simp] theorem ev_isi (a : X) (cs : List Cl) : ev tb Φ (.isi a cs) ε = argOf a ε (ev tb Φ a ε) >>= un2 fun x ε1 => view1 ε1 x >>= un2 fun p ε2 => R.of (isiAny tb.sub p cs) >>= fun k => .ok (.val (.bl k), ε2) := (rfl)
@[simp] theorem ev_attr (a : X) (f : PySem.Str) : ev tb Φ (.attr a f) ε = argOf a ε (ev tb Φ a ε) >>= un2 fun x ε1 => view1 ε1 x >>= un2 fun p ε2 => match p with
    | .exc c fs => R.of ((((tb.flds c).zip fs).lookup f)) >>= fun r => .ok (.val r, ε2)
    | _ => .stuck := (rfl)
/-- a comprehension's turn -/
def lcTurn (ifs : XO) (e : X) (ε : Env) : R (Option D × Env) := eif tb Φ ifs ε >>= un2 fun k ε3 => if k then ev tb Φ e ε3 >>= un2 fun d ε4 => .ok (some d, ε4) else .ok (none, ε3)
@[simp] theorem ev_lc (g : Pt) (own : List Nat) (it : It) (ifs : XO) (e : X) : ev tb Φ (.lc g own it ifs e) ε = eit tb Φ it ε >>= un3 fun ps us ε1 => if ps.length ≤ cap then lcLoop g own (lcTurn tb Φ ifs e) ps (wipeE ε1 own) >>= un2 fun ds ε2 => .ok (.lst ds, unlocks us (unwipe ε1 ε2 own)) else .stuck := (rfl)
def lc2Turn (g1 : Pt) (i1 : Nat) (ifs : XO) (e : X) (ε : Env) : R (List D × Env) := match (ε[i1]? : Option Sl) with
      | some (.lk ps1) => lcLoop g1 g1.idx (lcTurn tb Φ ifs e) ps1 (wipeE ε g1.idx)
      | _ => .stuck
theorem lc2Turn_lk {g1 : Pt} {i1 : Nat} {ifs : XO} {e : X} {ε : Env} {ps1 : List P} (h : (ε[i1]? : Option Sl) = some (.lk ps1)) : lc2Turn tb Φ g1 i1 ifs e ε = lcLoop g1 g1.idx (lcTurn tb Φ ifs e) ps1 (wipeE ε g1.idx) := by
  unfold lc2Turn
  rw [h]
def lc2End (us : List (Arg × Env)) (ε1 : Env) (own : List Nat) : R (List D × Env) → R (D × Env)
  | .ok (ds, ε2) => if ds.length ≤ cap then .ok (.lst ds, unlocks us (unwipe ε1 ε2 own)) else .stuck
  | _ => .stuck
@[simp] theorem lc2End_ok (us : List (Arg × Env)) (ε1 : Env) (own : List Nat) (ds : List D) (ε2 : Env) : lc2End us ε1 own (.ok (ds, ε2)) = if ds.length ≤ cap then .ok (.lst ds, unlocks us (unwipe ε1 ε2 own)) else .stuck := (rfl)
@[simp] theorem ev_lc2 (g : Pt) (own : List Nat) (it : It) (g1 : Pt) (i1 : Nat) (ifs : XO) (e : X) : ev tb Φ (.lc2 g own it g1 i1 ifs e) ε = eit tb Φ it ε >>= un3 fun ps us ε1 => lc2End us ε1 own (lcLoop2 g own (lc2Turn tb Φ g1 i1 ifs e) ps (wipeE ε1 own)) := by
  show (eit tb Φ it ε >>= fun x => _) = _
  cases eit tb Φ it ε with
  | ok z =>
    obtain ⟨ps, us, ε1⟩ := z
    simp only [R.ok_bind, un3_eq]
    show (match lcLoop2 g own (lc2Turn tb Φ g1 i1 ifs e) ps (wipeE ε1 own) with | .ok (ds, ε2) => _ | _ => _) = _
    cases lcLoop2 g own (lc2Turn tb Φ g1 i1 ifs e) ps (wipeE ε1 own) <;> rfl
  | exc c fs => rfl
  | stuck => rfl
@[simp] theorem ev_meth (m : Mth) (i : Nat) (xs : XL) : ev tb Φ (.meth m i xs) ε = match ε[i]? with
    | some (.ow (.lst _)) => evs tb Φ xs ε >>= un2 fun ds ε2 => match ε2[i]? with
      | some (.ow (.lst items)) => methD m items ds >>= un2 fun r items' => .ok (r, setSl ε2 i (.lst items'))
      | _ => .stuck
    | _ => .stuck := (rfl)
@[simp] theorem ev_methP (m : Mth) (i : Nat) (path : List Int) (c : List P) : ev tb Φ (.methP m i path c) ε = match ε[i]? with
    | some (.ow d) => atPath (fun items => methD m items (c.map .val)) path d >>= un2 fun r d' => .ok (r, setSl ε i d')
    | _ => .stuck := (rfl)
/-- hold -/
def holdE (f : Env → R (D × Env)) (ε : Env) : R (D × Env) := match f (fzAll ε) with
    | .ok (d, _) => if d.clean then .ok (d, ε) else f ε
    | .exc c fs => .exc c fs
    | .stuck => .stuck
/-- .. by the answer at the frozen slots -/
def holdB (r : R (D × Env)) (f : Env → R (D × Env)) (ε : Env) : R (D × Env) := match r with
    | .ok (d, _) => if d.clean then .ok (d, ε) else f ε
    | .exc c fs => .exc c fs
    | .stuck => .stuck
@[simp] theorem holdE_eq (f : Env → R (D × Env)) : holdE f ε = holdB (f (fzAll ε)) f ε := (rfl)
@[simp] theorem holdB_bl (b : Bool) (ε' : Env) (f : Env → R (D × Env)) : holdB (.ok (.val (.bl b), ε')) f ε = .ok (.val (.bl b), ε) := (rfl)
@[simp] theorem holdB_exc (c : Nat) (fs : List P) (f : Env → R (D × Env)) : holdB (.exc c fs) f ε = .exc c fs := (rfl)
@[simp] theorem ev_hold (e : X) : ev tb Φ (.hold e) ε = holdE (ev tb Φ e) ε := (rfl)
theorem holdE_bl (f : Env → R (D × Env)) (b : Bool) (ε' : Env) (h : f (fzAll ε) = .ok (.val (.bl b), ε')) : holdE f ε = .ok (.val (.bl b), ε) := by
  unfold holdE; rw [h]; rfl
theorem holdE_exc (f : Env → R (D × Env)) (c : Nat) (fs : List P) (h : f (fzAll ε) = .exc c fs) : holdE f ε = .exc c fs := by
  unfold holdE; rw [h]
@[simp] theorem evs_nil : evs tb Φ .nil ε = .ok ([], ε) := (rfl)
@[simp] theorem evs_cons (x : X) (xs : XL) : evs tb Φ (.cons x xs) ε = ev tb Φ x ε >>= un2 fun d ε1 => evs tb Φ xs ε1 >>= un2 fun ds ε2 => .ok (d :: ds, ε2) := (rfl)
@[simp] theorem eargs_nil : eargs tb Φ .nil ε = .ok ([], ε) := (rfl)
@[simp] theorem eargs_cons (x : X) (xs : XL) : eargs tb Φ (.cons x xs) ε = argOf x ε (ev tb Φ x ε) >>= un2 fun a ε1 => eargs tb Φ xs ε1 >>= un2 fun as ε2 => .ok (a :: as, ε2) := (rfl)
@[simp] theorem evo_none : evo tb Φ .none ε = .ok (none, ε) := (rfl)
@[simp] theorem evo_some (x : X) : evo tb Φ (.some x) ε = ev tb Φ x ε >>= un2 fun d ε1 => match d with
    | .val (.int i) => .ok (some i, ε1)
    | _ => .stuck := (rfl)
@[simp] theorem eif_none : eif tb Φ .none ε = .ok (true, ε) := (rfl)
@[simp] theorem eif_some (x : X) : eif tb Φ (.some x) ε = tst (ev tb Φ x ε) := (rfl)
theorem eit_rng (a b : X) : eit tb Φ (.rng a b) ε = ev tb Φ a ε >>= un2 fun d ε1 => ev tb Φ b ε1 >>= un2 fun d' ε2 => match d, d' with
    | .val (.int lo), .val (.int hi) => if -(2 ^ 62) ≤ lo ∧ lo < 2 ^ 62 ∧ -(2 ^ 62) ≤ hi ∧ hi < 2 ^ 62 then .ok (rangeP lo hi, [], ε2) else .stuck
    | _, _ => .stuck := (rfl)
@[simp] theorem eit_seq (a : X) : eit tb Φ (.seq a) ε = argOf a ε (ev tb Φ a ε) >>= un2 fun x ε1 => lockV ε1 x >>= un3 fun p ε2 ε3 => itemsOf p >>= fun ps => .ok (ps, [(x, ε2)], ε3) := (rfl)
@[simp] theorem eit_zip (xs : XL) : eit tb Φ (.zip xs) ε = eargs tb Φ xs ε >>= un2 fun as ε1 => locksV as ε1 >>= un3 fun ps us ε2 => zipItems ps >>= fun ts => .ok (ts, us, ε2) := (rfl)
@[simp] theorem eit_enum (a : X) : eit tb Φ (.enum a) ε = argOf a ε (ev tb Φ a ε) >>= un2 fun x ε1 => lockV ε1 x >>= un3 fun p ε2 ε3 => match p with
    | .lst ps => .ok (enumP 0 ps, [(x, ε2)], ε3)
    | _ => .stuck := (rfl)
@[simp] theorem itemsOf_lst (xs : List P) : itemsOf (.lst xs) = .ok xs := (rfl)
@[simp] theorem itemsOf_tup (xs : List P) : itemsOf (.tup xs) = .ok xs := (rfl)
@[simp] theorem lockV_tm (d : D) : lockV ε (.tm d) = .ok (d.p, ε, ε) := (rfl)
@[simp] theorem lockV_nm (i : Nat) : lockV ε (.nm i) = match ε[i]? with
    | some (.ow (.lst ds)) => if ds.all D.isVal then .ok (.lst (D.ps ds), ε, ε.set i (.lk (D.ps ds))) else .ok (.lst (D.ps ds), fz ε i, fz ε i)
    | some (.ow d) => .ok (d.p, fz ε i, fz ε i)
    | some (.lk ps) => .ok (.lst ps, ε, ε)
    | _ => .stuck := (rfl)
@[simp] theorem locksV_nil : locksV [] ε = .ok ([], [], ε) := (rfl)
@[simp] theorem locksV_cons (a : Arg) (as : List Arg) : locksV (a :: as) ε = lockV ε a >>= un3 fun p ε1 ε2 => locksV as ε2 >>= un3 fun ps us ε3 => .ok (p :: ps, (a, ε1) :: us, ε3) := (rfl)
@[simp] theorem unlocks_nil : unlocks [] ε = ε := (rfl)
@[simp] theorem unlocks_cons (a : Arg) (ε0 : Env) (us : List (Arg × Env)) : unlocks ((a, ε0) :: us) ε = unlock1 ε0 (unlocks us ε) a := (rfl)
@[simp] theorem unlock1_tm (ε0 : Env) (d : D) : unlock1 ε0 ε (.tm d) = ε := (rfl)
@[simp] theorem unlock1_nm (ε0 : Env) (i : Nat) : unlock1 ε0 ε (.nm i) = match ε0[i]?, ε[i]? with
    | some (.ow (.lst ds)), some (.lk _) => ε.set i (.ow (.lst ds))
    | _, _ => ε := (rfl)
@[simp] theorem lcLoop_nil (g : Pt) (own : List Nat) (body : Env → R (Option D × Env)) : lcLoop g own body [] ε = .ok ([], ε) := (rfl)
theorem lcLoop_cons (g : Pt) (own : List Nat) (body : Env → R (Option D × Env)) (p : P) (ps : List P) : lcLoop g own body (p :: ps) ε = assign ε g (.val p) >>= fun ε1 => body ε1 >>= un2 fun o ε2 => lcLoop g own body ps (wipeE ε2 own) >>= un2 fun ds ε3 => .ok (match o with | some d => (d :: ds, ε3) | none => (ds, ε3)) := (rfl)
/-! ### statements -/
@[simp] theorem lift_ok {α : Type} (a : α) (f : α → RS) : lift ε (.ok a) f = f a := (rfl)
@[simp] theorem lift_exc {α : Type} (c : Nat) (fs : List P) (f : α → RS) : lift ε (.exc c fs) f = .exc c fs (vo ε) := (rfl)
@[simp] theorem lift_stuck {α : Type} (f : α → RS) : lift ε .stuck f = .stuck := (rfl)
@[simp] theorem lift_ite {α : Type} (c : Prop) [Decidable c] (a b : R α) (f : α → RS) : lift ε (if c then a else b) f = if c then lift ε a f else lift ε b f := by split <;> rfl
def lf2 {α β : Type} (ε : Env) (r : R (α × β)) (f : α → β → RS) : RS := lift ε r (un2 f)
def lf3 {α β γ : Type} (ε : Env) (r : R (α × β × γ)) (f : α → β → γ → RS) : RS := lift ε r (un3 f)
@[simp] theorem lf2_ok {α β : Type} (a : α) (b : β) (f : α → β → RS) : lf2 ε (.ok (a, b)) f = f a b := (rfl)
@[simp] theorem lf2_exc {α β : Type} (c : Nat) (fs : List P) (f : α → β → RS) : lf2 ε (.exc c fs) f = .exc c fs (vo ε) := (rfl)
@[simp] theorem lf2_stuck {α β : Type} (f : α → β → RS) : lf2 ε .stuck f = .stuck := (rfl)
@[simp] theorem lf2_ite {α β : Type} (c : Prop) [Decidable c] (a b : R (α × β)) (f : α → β → RS) : lf2 ε (if c then a else b) f = if c then lf2 ε a f else lf2 ε b f := by split <;> rfl
@[simp] theorem lf3_ok {α β γ : Type} (a : α) (b : β) (c : γ) (f : α → β → γ → RS) : lf3 ε (.ok (a, b, c)) f = f a b c := (rfl)
@[simp] theorem lf3_exc {α β γ : Type} (c : Nat) (fs : List P) (f : α → β → γ → RS) : lf3 ε (.exc c fs) f = .exc c fs (vo ε) := (rfl)
@[simp] theorem lf3_ite {α β γ : Type} (c : Prop) [Decidable c] (a b : R (α × β × γ)) (f : α → β → γ → RS) : lf3 ε (if c then a else b) f = if c then lf3 ε a f else lf3 ε b f := by split <;> rfl
@[simp] theorem next_nx (f : Env → RS) : (RS.ok .nx ε).next f = f ε := (rfl)
@[simp] theorem next_rt (d : D) (f : Env → RS) : (RS.ok (.rt d) ε).next f = .ok (.rt d) ε := (rfl)
@[simp] theorem next_bk (f : Env → RS) : (RS.ok .bk ε).next f = .ok .bk ε := (rfl)
@[simp] theorem next_ct (f : Env → RS) : (RS.ok .ct ε).next f = .ok .ct ε := (rfl)
@[simp] theorem next_exc (c : Nat) (fs : List P) (f : Env → RS) : (RS.exc c fs ε).next f = .exc c fs ε := (rfl)
@[simp] theorem next_stuck (f : Env → RS) : (RS.stuck).next f = .stuck := (rfl)
@[simp] theorem next_ite (c : Prop) [Decidable c] (a b : RS) (f : Env → RS) : (if c then a else b).next f = if c then a.next f else b.next f := by split <;> rfl
@[simp] theorem after_nx (f : Env → Env) : (RS.ok .nx ε).after f = .ok .nx (f ε) := (rfl)
@[simp] theorem after_rt (d : D) (f : Env → Env) : (RS.ok (.rt d) ε).after f = .ok (.rt d) (f ε) := (rfl)
@[simp] theorem after_exc (c : Nat) (fs : List P) (f : Env → Env) : (RS.exc c fs ε).after f = .exc c fs ε := (rfl)
@[simp] theorem after_ite (c : Prop) [Decidable c] (a b : RS) (f : Env → Env) : (if c then a else b).after f = if c then a.after f else b.after f := by split <;> rfl
@[simp] theorem ess_nil : ess tb Φ mkx fuel .nil ε = .ok .nx ε := (rfl)
@[simp] theorem ess_cons (s : S) (ss : SS) : ess tb Φ mkx fuel (.cons s ss) ε = (es tb Φ mkx fuel s ε).next fun ε1 => ess tb Φ mkx fuel ss ε1 := (rfl)
@[simp] theorem es_asg (g : Pt) (e : X) : es tb Φ mkx fuel (.asg g e) ε = lf2 ε (ev tb Φ e ε) fun d ε1 => lift ε1 (assign ε1 g d) fun ε2 => .ok .nx ε2 := (rfl)
@[simp] theorem es_ex (e : X) : es tb Φ mkx fuel (.ex e) ε = lf2 ε (ev tb Φ e ε) fun _ ε1 => .ok .nx ε1 := (rfl)
@[simp] theorem es_ret (e : X) : es tb Φ mkx fuel (.ret e) ε = lf2 ε (evr tb Φ e ε) fun d ε1 => .ok (.rt d) ε1 := (rfl)
@[simp] theorem es_retN : es tb Φ mkx fuel .retN ε = .ok (.rt (.val .non)) ε := (rfl)
@[simp] theorem es_iff (t : X) (a b : SS) : es tb Φ mkx fuel (.iff t a b) ε = lf2 ε (tst (ev tb Φ t ε)) fun k ε1 => if k then ess tb Φ mkx fuel a ε1 else ess tb Φ mkx fuel b ε1 := (rfl)
/-- a loop's body -/
def essF (body : SS) : Env → RS := fun ε => ess tb Φ mkx fuel body ε
@[simp] theorem essF_ap (body : SS) : essF tb Φ mkx fuel body ε = ess tb Φ mkx fuel body ε := (rfl)
@[simp] theorem es_for (g : Pt) (it : It) (body : SS) : es tb Φ mkx fuel (.for_ g it body) ε = lf3 ε (eit tb Φ it ε) fun ps us ε1 => (forLoop g (essF tb Φ mkx fuel body) ps ε1).after (unlocks us) := (rfl)
@[simp] theorem es_raise (c : Nat) (xs : XL) : es tb Φ mkx fuel (.raise c xs) ε = lift ε (evs tb Φ xs ε >>= un2 fun ds _ => mkx c (D.ps ds)) fun fs => .exc c fs (vo ε) := (rfl)
@[simp] theorem es_aug (i : Nat) (o : BOp) (e : X) : es tb Φ mkx fuel (.aug i o e) ε = match ε[i]? with
    | some (.ow _) => lf2 ε (ev tb Φ e ε) fun d ε1 => (match ε1[i]?, d with
      | some (.ow (.val (.int a))), .val (.int b) => (match binop o (.int a) (.int b) with
        | .ok (r, _) => .ok .nx (setSl ε1 i r)
        | _ => .stuck)
      | _, _ => .stuck)
    | _ => .stuck := (rfl)
@[simp] theorem es_setix (i : Nat) (k e : X) : es tb Φ mkx fuel (.setix i k e) ε = lf2 ε (ev tb Φ e ε) fun d ε1 => (match ε1[i]? with
    | some (.ow _) => lf2 ε1 (ev tb Φ k ε1) fun kd ε3 => (match kd, ε3[i]? with
      | .val (.int k), some (.ow (.lst items)) => (match ixP items.length k with
        | some j => .ok .nx (setSl ε3 i (.lst (items.set j d)))
        | none => .stuck)
      | _, _ => .stuck)
    | _ => .stuck) := (rfl)
@[simp] theorem es_augix (i : Nat) (k : X) (o : BOp) (e : X) : es tb Φ mkx fuel (.augix i k o e) ε = match ε[i]? with
    | some (.ow _) => lf2 ε (ev tb Φ k ε) fun kd ε2 => (match kd, ε2[i]? with
      | .val (.int k), some (.ow (.lst items)) => (match (ixP items.length k).bind fun j => items[j]? with
        | some (.val (.int a)) => lf2 ε2 (ev tb Φ e ε2) fun d ε3 => (match d, ε3[i]? with
          | .val (.int b), some (.ow (.lst items3)) => (match ixP items3.length k, binop o (.int a) (.int b) with
            | some j3, .ok (r, _) => .ok .nx (setSl ε3 i (.lst (items3.set j3 r)))
            | _, _ => .stuck)
          | _, _ => .stuck)
        | _ => .stuck)
      | _, _ => .stuck)
    | _ => .stuck := (rfl)
@[simp] theorem forLoop_nil (g : Pt) (body : Env → RS) : forLoop g body [] ε = .ok .nx ε := (rfl)
theorem forLoop_cons (g : Pt) (body : Env → RS) (p : P) (ps : List P) : forLoop g body (p :: ps) ε = lift ε (assign ε g (.val p)) fun ε1 => match body ε1 with
    | .ok .nx ε2 => forLoop g body ps ε2
    | .ok .ct ε2 => forLoop g body ps ε2
    | .ok .bk ε2 => .ok .nx ε2
    | r => r := (rfl)
/-- try -/
def tryE (h : Env → RS) (c i : Nat) : RS → RS
  | .exc c' fs ε1 => if tb.sub c' c then (match h (ε1.set i (.ow (.val (.exc c' fs)))) with
      | .ok f ε2 => if f.ne && (ε2.set i .no).all Sl.ne then .ok f (ε2.set i .no) else .stuck
      | _ => .stuck) else .exc c' fs ε1
  | r => r
@[simp] theorem es_try (body : SS) (c i : Nat) (h : SS) : es tb Φ mkx fuel (.try_ body c i h) ε = tryE tb (ess tb Φ mkx fuel h) c i (ess tb Φ mkx fuel body ε) := by
  show (match ess tb Φ mkx fuel body ε with | .exc c' fs ε1 => _ | r => r) = _
  cases ess tb Φ mkx fuel body ε <;> rfl
@[simp] theorem tryE_ok (h : Env → RS) (c i : Nat) (f : Fl) : tryE tb h c i (.ok f ε) = .ok f ε := (rfl)
@[simp] theorem tryE_ite (h : Env → RS) (c i : Nat) (b : Prop) [Decidable b] (x y : RS) : tryE tb h c i (if b then x else y) = if b then tryE tb h c i x else tryE tb h c i y := by split <;> rfl
theorem tryE_exc (h : Env → RS) (c i c' : Nat) (fs : List P) : tryE tb h c i (.exc c' fs ε) = if tb.sub c' c then (match h (ε.set i (.ow (.val (.exc c' fs)))) with
      | .ok f ε2 => if f.ne && (ε2.set i .no).all Sl.ne then .ok f (ε2.set i .no) else .stuck
      | _ => .stuck) else .exc c' fs ε := (rfl)
variable {tb Φ mkx fuel} in
theorem stp {s : S} {ss : SS} {ε ε' : Env} (h : es tb Φ mkx fuel s ε = .ok .nx ε') : ess tb Φ mkx fuel (.cons s ss) ε = ess tb Φ mkx fuel ss ε' := by rw [ess_cons, h, next_nx]
/-! ### defs -/
def fin (mu : Bool) : RS → R (D × List D)
  | .ok (.rt d) ε => outs mu ε >>= fun out => .ok (d, out)
  | .ok .nx ε => outs mu ε >>= fun out => .ok (.val .non, out)
  | .exc c fs _ => .exc c fs
  | _ => .stuck
@[simp] theorem fin_rt (mu : Bool) (d : D) : fin mu (.ok (.rt d) ε) = outs mu ε >>= fun out => .ok (d, out) := (rfl)
@[simp] theorem fin_nx (mu : Bool) : fin mu (.ok .nx ε) = outs mu ε >>= fun out => .ok (.val .non, out) := (rfl)
@[simp] theorem fin_exc (mu : Bool) (c : Nat) (fs : List P) : fin mu (.exc c fs ε) = .exc c fs := (rfl)
@[simp] theorem fin_stuck (mu : Bool) : fin mu .stuck = .stuck := (rfl)
@[simp] theorem fin_ite (mu : Bool) (c : Prop) [Decidable c] (a b : RS) : fin mu (if c then a else b) = if c then fin mu a else fin mu b := by split <;> rfl
@[simp] theorem outs_false : outs false ε = .ok [] := (rfl)
@[simp] theorem outs_true (d : D) (ε : Env) : outs true (.ow d :: ε) = .ok [d] := (rfl)
theorem runFn_eq (mu : Bool) (F : Fn) (ds : List D) (h : ds.length = F.ps) : runFn tb Φ mkx fuel mu F ds = fin mu (ess tb Φ mkx fuel F.body (ds.map Sl.ow ++ List.replicate (F.n - F.ps) Sl.no)) := by
  unfold runFn
  rw [if_pos h]
  cases ess tb Φ mkx fuel F.body (ds.map Sl.ow ++ List.replicate (F.n - F.ps) Sl.no) with
  | ok f ε => cases f <;> rfl
  | exc c fs ε => rfl
  | stuck => rfl
/-! ### operations -/
@[simp] theorem binop_add (i j : Int) : binop .add (.int i) (.int j) = .ok (.val (.int (i + j)), false) := (rfl)
@[simp] theorem binop_sub (i j : Int) : binop .sub (.int i) (.int j) = .ok (.val (.int (i - j)), false) := (rfl)
theorem binop_mul (i j : Int) : binop .mul (.int i) (.int j) = if i.natAbs.log2 + j.natAbs.log2 < 1000000 then .ok (.val (.int (i * j)), false) else .stuck := (rfl)
theorem binop_fdiv (i j : Int) : binop .fdiv (.int i) (.int j) = if 0 < j ∧ j.natAbs.log2 < 9000 then .ok (.val (.int (i / j)), false) else .stuck := (rfl)
theorem binop_mod (i j : Int) : binop .mod (.int i) (.int j) = if 0 < j then .ok (.val (.int (i % j)), false) else .stuck := (rfl)
@[simp] theorem binop_addL (xs ys : List P) : binop .add (.lst xs) (.lst ys) = if (xs ++ ys).length ≤ cap then .ok (.lst ((xs ++ ys).map .val), false) else .stuck := (rfl)
theorem binop_mulL (xs : List P) (k : Int) : binop .mul (.lst xs) (.int k) = if -(2 ^ 63) ≤ k ∧ k < 2 ^ 63 ∧ xs.length * k.toNat ≤ cap then newL (List.replicate k.toNat xs).flatten else .stuck := (rfl)
@[simp] theorem negop_int (i : Int) : negop (.int i) = .ok (.val (.int (-i)), false) := (rfl)
@[simp] theorem cmpI_lt (i j : Int) : cmpI .lt i j = .ok (decide (i < j)) := (rfl)
@[simp] theorem cmpI_le (i j : Int) : cmpI .le i j = .ok (decide (i ≤ j)) := (rfl)
@[simp] theorem cmpI_gt (i j : Int) : cmpI .gt i j = .ok (decide (i > j)) := (rfl)
@[simp] theorem cmpI_ge (i j : Int) : cmpI .ge i j = .ok (decide (i ≥ j)) := (rfl)
@[simp] theorem cmpR_lt (i j : Int) : cmpR .lt (.int i) (.int j) = .ok (.val (.bl (decide (i < j))), false) := (rfl)
@[simp] theorem cmpR_le (i j : Int) : cmpR .le (.int i) (.int j) = .ok (.val (.bl (decide (i ≤ j))), false) := (rfl)
@[simp] theorem cmpR_gt (i j : Int) : cmpR .gt (.int i) (.int j) = .ok (.val (.bl (decide (i > j))), false) := (rfl)
@[simp] theorem cmpR_ge (i j : Int) : cmpR .ge (.int i) (.int j) = .ok (.val (.bl (decide (i ≥ j))), false) := (rfl)
@[simp] theorem cmpOk_int (n : Nat) (i : Int) : P.cmpOk (n + 1) (.int i) = true := (rfl)
@[simp] theorem cmpOk_bl (n : Nat) (i : Bool) : P.cmpOk (n + 1) (.bl i) = true := (rfl)
@[simp] theorem cmpOk_non (n : Nat) : P.cmpOk (n + 1) .non = true := (rfl)
@[simp] theorem cmpOk_str (n : Nat) (x : PySem.Str) : P.cmpOk (n + 1) (.str x) = PySem.PyData.strOk x := (rfl)
@[simp] theorem cmpOk_lst (n : Nat) (xs : List P) : P.cmpOk (n + 1) (.lst xs) = P.cmpOks n xs := (rfl)
@[simp] theorem cmpOk_tup (n : Nat) (xs : List P) : P.cmpOk (n + 1) (.tup xs) = P.cmpOks n xs := (rfl)
@[simp] theorem cmpOks_nil (n : Nat) : P.cmpOks n [] = true := by cases n <;> rfl
@[simp] theorem cmpOks_cons (n : Nat) (p : P) (ps : List P) : P.cmpOks n (p :: ps) = (P.cmpOk n p && P.cmpOks n ps) := by cases n <;> rfl
@[simp] theorem eqv_int (i j : Int) : P.eqv (.int i) (.int j) = decide (i = j) := by
  show (i == j) = _
  by_cases h : i = j <;> simp [h]
@[simp] theorem eqv_str (i j : PySem.Str) : P.eqv (.str i) (.str j) = (i == j) := (rfl)
@[simp] theorem eqv_bl (i j : Bool) : P.eqv (.bl i) (.bl j) = (i == j) := (rfl)
@[simp] theorem eqv_lst (xs ys : List P) : P.eqv (.lst xs) (.lst ys) = P.eqvs xs ys := (rfl)
@[simp] theorem eqv_tup (xs ys : List P) : P.eqv (.tup xs) (.tup ys) = P.eqvs xs ys := (rfl)
@[simp] theorem eqvs_nil : P.eqvs [] [] = true := (rfl)
@[simp] theorem eqvs_cons (x y : P) (xs ys : List P) : P.eqvs (x :: xs) (y :: ys) = (P.eqv x y && P.eqvs xs ys) := (rfl)
@[simp] theorem eqvs_consn (x : P) (xs : List P) : P.eqvs (x :: xs) [] = false := (rfl)
@[simp] theorem eqvs_ncons (x : P) (xs : List P) : P.eqvs [] (x :: xs) = false := (rfl)
@[simp] theorem cmpR_eqI (i j : Int) : cmpR .eq (.int i) (.int j) = .ok (.val (.bl (decide (i = j))), false) := by
  show (NB.R.ok (P.eqv (.int i) (.int j)) >>= fun k => flatR (.bl k)) = _
  rw [eqv_int]
  rfl
@[simp] theorem cmpR_neI (i j : Int) : cmpR .ne (.int i) (.int j) = .ok (.val (.bl (!decide (i = j))), false) := by
  show (NB.R.ok (!P.eqv (.int i) (.int j)) >>= fun k => flatR (.bl k)) = _
  rw [eqv_int]
  rfl
theorem cmpR_eq (p q : P) (h1 : P.cmpOk 20 p = true) (h2 : P.cmpOk 20 q = true) : cmpR .eq p q = .ok (.val (.bl (P.eqv p q)), false) := by simp [cmpR, cmpop, h1, h2]
theorem cmpR_ne (p q : P) (h1 : P.cmpOk 20 p = true) (h2 : P.cmpOk 20 q = true) : cmpR .ne p q = .ok (.val (.bl (!P.eqv p q)), false) := by simp [cmpR, cmpop, h1, h2]
/-- is None -/
def _root_.NB.P.isNon : P → Bool
  | .non => true
  | _ => false
@[simp] theorem isNon_non : P.isNon .non = true := (rfl)
@[simp] theorem isNon_int (i : Int) : P.isNon (.int i) = false := (rfl)
@[simp] theorem isNon_bl (i : Bool) : P.isNon (.bl i) = false := (rfl)
@[simp] theorem isNon_str (i : PySem.Str) : P.isNon (.str i) = false := (rfl)
@[simp] theorem isNon_tup (i : List P) : P.isNon (.tup i) = false := (rfl)
@[simp] theorem isNon_lst (i : List P) : P.isNon (.lst i) = false := (rfl)
@[simp] theorem cmpR_isnone (p : P) : cmpR .is p .non = .ok (.val (.bl p.isNon), false) := by cases p <;> rfl
@[simp] theorem cmpR_isnotnone (p : P) : cmpR .isnot p .non = .ok (.val (.bl (!p.isNon)), false) := by cases p <;> rfl
theorem ofInts (f : List P → R (D × Bool)) : True := trivial
@[simp] theorem len_lst (xs : List P) : bltn .len [.lst xs] = .ok (.val (.int xs.length), false) := (rfl)
@[simp] theorem len_tup (xs : List P) : bltn .len [.tup xs] = .ok (.val (.int xs.length), false) := (rfl)
@[simp] theorem abs_int (i : Int) : bltn .abs [.int i] = .ok (.val (.int (if i < 0 then -i else i)), false) := (rfl)
@[simp] theorem int_int (i : Int) : bltn .int_ [.int i] = .ok (.val (.int i), false) := (rfl)
@[simp] theorem max_ints (i j : Int) : bltn .max_ [.int i, .int j] = .ok (.val (.int (if j > i then j else i)), false) := (rfl)
@[simp] theorem min_ints (i j : Int) : bltn .min_ [.int i, .int j] = .ok (.val (.int (if j < i then j else i)), false) := (rfl)
@[simp] theorem lkFree_nil : lkFree ε [] = true := (rfl)
def notLk : Option Sl → Bool
  | some (.lk _) => false
  | _ => true
@[simp] theorem notLk_ow (d : D) : notLk (some (.ow d)) = true := (rfl)
@[simp] theorem notLk_lk (ps : List P) : notLk (some (.lk ps)) = false := (rfl)
@[simp] theorem lkFree_cons_nm (i : Nat) (as : List Arg) : lkFree ε (.nm i :: as) = (notLk ε[i]? && lkFree ε as) := by
  unfold lkFree
  rw [List.all_cons]
  congr 1
@[simp] theorem list_lst (xs : List P) : bltn .list_ [.lst xs] = if xs.length ≤ cap then .ok (.lst (xs.map .val), false) else .stuck := (rfl)
@[simp] theorem list_tup (xs : List P) : bltn .list_ [.tup xs] = if xs.length ≤ cap then .ok (.lst (xs.map .val), false) else .stuck := (rfl)
@[simp] theorem tuple_lst (xs : List P) : bltn .tuple_ [.lst xs] = if xs.length ≤ cap then .ok (.tup (xs.map .val), false) else .stuck := (rfl)
@[simp] theorem tuple_tup (xs : List P) : bltn .tuple_ [.tup xs] = .ok (.val (.tup xs), true) := (rfl)
theorem range2_eq (lo hi : Int) : bltn .range2 [.int lo, .int hi] = if -(2 ^ 62) ≤ lo ∧ lo < 2 ^ 62 ∧ -(2 ^ 62) ≤ hi ∧ hi < 2 ^ 62 then newL (rangeP lo hi) else .stuck := (rfl)
@[simp] theorem ints_ints (xs : List Int) : ints? (xs.map P.int) = some xs := by
  induction xs with
  | nil => rfl
  | cons x xs ih => simp [ints?, ih]
@[simp] theorem sum_lst (xs : List Int) : bltn .sum_ [.lst (xs.map P.int)] = .ok (.val (.int xs.sum), false) := by simp [bltn]
@[simp] theorem sum_tup (xs : List Int) : bltn .sum_ [.tup (xs.map P.int)] = .ok (.val (.int xs.sum), false) := by simp [bltn]
@[simp] theorem methD_append (ds : List D) (d : D) : methD .append ds [d] = if ds.length < cap then .ok (.val .non, ds ++ [d]) else .stuck := (rfl)
end
end NBE
end
section
set_option linter.all false
set_option maxRecDepth 10000
/-! NBLoop: loops of the evaluator. -/
namespace NBE
open NB
/-- a comprehension's answers, one by one -/
def travR (h : P → R (Option D)) : List P → R (List D)
  | [] => .ok []
  | p :: ps => h p >>= fun o => travR h ps >>= fun ds => .ok (match o with | some d => d :: ds | none => ds)
theorem lc_trav {g : Pt} {own : List Nat} {body : Env → R (Option D × Env)} {ε : Env} (h : P → R (Option D)) (he : ∀ p c fs, h p = .exc c fs → ∃ ε1, assign ε g (.val p) = .ok ε1 ∧ body ε1 = .exc c fs) : ∀ {ps : List P}, (∀ p ∈ ps, ∀ o, h p = .ok o → ∃ ε1 ε2, assign ε g (.val p) = .ok ε1 ∧ body ε1 = .ok (o, ε2) ∧ wipeE ε2 own = ε) → (∀ p ∈ ps, h p ≠ .stuck) →
    lcLoop g own body ps ε = travR h ps >>= fun ds => .ok (ds, ε)
  | [], _, _ => rfl
  | p :: ps, H, S => by
    rw [lcLoop_cons]
    simp only [travR]
    cases e : h p with
    | stuck => exact absurd e (S p (by simp))
    | exc c fs =>
      obtain ⟨ε1, h1, h2⟩ := he p c fs e
      rw [h1]
      simp only [R.ok_bind, R.exc_bind, un2_eq]
      rw [h2]
      rfl
    | ok o =>
      obtain ⟨ε1, ε2, h1, h2, h3⟩ := H p (by simp) o e
      rw [h1]
      simp only [R.ok_bind, un2_eq]
      rw [h2]
      simp only [R.ok_bind, un2_eq]
      rw [h3, lc_trav h he (fun q hq => H q (List.mem_cons_of_mem _ hq)) (fun q hq => S q (List.mem_cons_of_mem _ hq))]
      cases travR h ps with
      | ok ds => cases o <;> rfl
      | exc c fs => rfl
      | stuck => rfl
theorem travR_map {h : P → R (Option D)} {f : P → D} : ∀ {ps : List P}, (∀ p ∈ ps, h p = .ok (some (f p))) → travR h ps = .ok (ps.map f)
  | [], _ => rfl
  | p :: ps, H => by
    simp only [travR, H p (by simp), R.ok_bind, travR_map fun q hq => H q (List.mem_cons_of_mem _ hq)]
    rfl
/-- a comprehension without errors -/
theorem lc_map {g : Pt} {own : List Nat} {body : Env → R (Option D × Env)} {ε : Env} (f : P → D) {ps : List P} (H : ∀ p ∈ ps, ∃ ε1 ε2, assign ε g (.val p) = .ok ε1 ∧ body ε1 = .ok (some (f p), ε2) ∧ wipeE ε2 own = ε) : lcLoop g own body ps ε = .ok (ps.map f, ε) := by
  induction ps with
  | nil => rfl
  | cons p ps ih =>
    obtain ⟨ε1, ε2, h1, h2, h3⟩ := H p (by simp)
    rw [lcLoop_cons, h1]
    simp only [R.ok_bind, un2_eq]
    rw [h2]
    simp only [R.ok_bind, un2_eq]
    rw [h3, ih fun q hq => H q (List.mem_cons_of_mem _ hq)]
    rfl
theorem lc_fmap {g : Pt} {own : List Nat} {body : Env → R (Option D × Env)} {ε : Env} (f : P → Option D) {ps : List P} (H : ∀ p ∈ ps, ∃ ε1 ε2, assign ε g (.val p) = .ok ε1 ∧ body ε1 = .ok (f p, ε2) ∧ wipeE ε2 own = ε) : lcLoop g own body ps ε = .ok (ps.filterMap f, ε) := by
  induction ps with
  | nil => rfl
  | cons p ps ih =>
    obtain ⟨ε1, ε2, h1, h2, h3⟩ := H p (by simp)
    rw [lcLoop_cons, h1]
    simp only [R.ok_bind, un2_eq]
    rw [h2]
    simp only [R.ok_bind, un2_eq]
    rw [h3, ih fun q hq => H q (List.mem_cons_of_mem _ hq), List.filterMap_cons]
    simp only [R.ok_bind, un2_eq]
    cases f p <;> rfl
/-- a comprehension whose slots change: E i ahead of the i-th turn -/
theorem lc_st {g : Pt} {own : List Nat} {body : Env → R (Option D × Env)} {σ : Type} (E : σ → Env) (f : σ → P → σ) (v : σ → P → D) : ∀ {ps : List P} {s : σ}, (∀ s p, p ∈ ps → ∃ ε1 ε2, assign (E s) g (.val p) = .ok ε1 ∧ body ε1 = .ok (some (v s p), ε2) ∧ wipeE ε2 own = E (f s p)) →
    ∃ ds, lcLoop g own body ps (E s) = .ok (ds, E (ps.foldl f s)) ∧ ds.length = ps.length
  | [], s, _ => ⟨[], rfl, rfl⟩
  | p :: ps, s, H => by
    obtain ⟨ε1, ε2, h1, h2, h3⟩ := H s p (by simp)
    obtain ⟨ds, e, l⟩ := lc_st E f v (ps := ps) (s := f s p) fun s q hq => H s q (List.mem_cons_of_mem _ hq)
    refine ⟨v s p :: ds, ?_, by simp [l]⟩
    rw [lcLoop_cons, h1]
    simp only [R.ok_bind, un2_eq]
    rw [h2]
    simp only [R.ok_bind, un2_eq]
    rw [h3, e]
    rfl
/-- a for loop, its invariant over what is left -/
theorem for_inv {g : Pt} {body : Env → RS} (Inv : List P → Env → Prop) (H : ∀ p ps ε, Inv (p :: ps) ε → ∃ ε1 ε2, assign ε g (.val p) = .ok ε1 ∧ (body ε1 = .ok .nx ε2 ∨ body ε1 = .ok .ct ε2) ∧ Inv ps ε2) : ∀ {ps : List P} {ε : Env}, Inv ps ε → ∃ ε', forLoop g body ps ε = .ok .nx ε' ∧ Inv [] ε'
  | [], ε, h => ⟨ε, rfl, h⟩
  | p :: ps, ε, h => by
    obtain ⟨ε1, ε2, h1, h2, h3⟩ := H p ps ε h
    obtain ⟨ε', e, h4⟩ := for_inv Inv H h3
    refine ⟨ε', ?_, h4⟩
    rw [forLoop_cons, h1, lift_ok]
    rcases h2 with h2 | h2 <;> (rw [h2]; exact e)
/-- .. by its state: E ps s, done and left -/
theorem for_st {g : Pt} {body : Env → RS} {σ : Type} (E : σ → Env → Prop) (f : σ → P → σ) : ∀ {ps : List P} {s : σ} {ε : Env}, (∀ s p ε, p ∈ ps → E s ε → ∃ ε1 ε2, assign ε g (.val p) = .ok ε1 ∧ body ε1 = .ok .nx ε2 ∧ E (f s p) ε2) → E s ε → ∃ ε', forLoop g body ps ε = .ok .nx ε' ∧ E (ps.foldl f s) ε'
  | [], s, ε, _, h => ⟨ε, rfl, h⟩
  | p :: ps, s, ε, H, h => by
    obtain ⟨ε1, ε2, h1, h2, h3⟩ := H s p ε (by simp) h
    obtain ⟨ε', e, h4⟩ := for_st E f (ps := ps) (fun s q ε hq => H s q ε (List.mem_cons_of_mem _ hq)) h3
    refine ⟨ε', ?_, h4⟩
    rw [forLoop_cons, h1, lift_ok, h2]
    exact e
/-! ### ints and ends -/
def PI (xs : List Int) : List P := xs.map P.int
def VI (xs : List Int) : List D := xs.map fun x => D.val (P.int x)
/-- an end: None or an int -/
def EP : Option Int → P
  | none => .non
  | some i => .int i
def PE (es : List (Option Int)) : List P := es.map EP
def VE (es : List (Option Int)) : List D := es.map fun e => D.val (EP e)
@[simp] theorem EP_none : EP none = .non := rfl
@[simp] theorem EP_some (i : Int) : EP (some i) = .int i := rfl
@[simp] theorem EP_flat (e : Option Int) : (EP e).flat = true := by cases e <;> rfl
@[simp] theorem EP_ne (e : Option Int) : (EP e).ne = true := by cases e <;> rfl
@[simp] theorem EP_cmpOk (n : Nat) (e : Option Int) : P.cmpOk (n + 1) (EP e) = true := by cases e <;> rfl
@[simp] theorem EP_isNon (e : Option Int) : (EP e).isNon = e.isNone := by cases e <;> rfl
@[simp] theorem EP_eqv (a b : Option Int) : P.eqv (EP a) (EP b) = decide (a = b) := by
  cases a <;> cases b <;> simp [EP, P.eqv]
@[simp] theorem PI_len (xs : List Int) : (PI xs).length = xs.length := by simp [PI]
@[simp] theorem VI_len (xs : List Int) : (VI xs).length = xs.length := by simp [VI]
@[simp] theorem PE_len (xs : List (Option Int)) : (PE xs).length = xs.length := by simp [PE]
@[simp] theorem VE_len (xs : List (Option Int)) : (VE xs).length = xs.length := by simp [VE]
@[simp] theorem PI_nil : PI [] = [] := rfl
@[simp] theorem VI_nil : VI [] = [] := rfl
@[simp] theorem PE_nil : PE [] = [] := rfl
@[simp] theorem VE_nil : VE [] = [] := rfl
theorem PI_cons (x : Int) (xs : List Int) : PI (x :: xs) = .int x :: PI xs := rfl
theorem VI_cons (x : Int) (xs : List Int) : VI (x :: xs) = .val (.int x) :: VI xs := rfl
theorem PE_cons (x : Option Int) (xs : List (Option Int)) : PE (x :: xs) = EP x :: PE xs := rfl
theorem VE_cons (x : Option Int) (xs : List (Option Int)) : VE (x :: xs) = .val (EP x) :: VE xs := rfl
theorem PI_append (xs ys : List Int) : PI (xs ++ ys) = PI xs ++ PI ys := by simp [PI]
theorem VI_append (xs ys : List Int) : VI (xs ++ ys) = VI xs ++ VI ys := by simp [VI]
theorem PE_append (xs ys : List (Option Int)) : PE (xs ++ ys) = PE xs ++ PE ys := by simp [PE]
theorem VE_append (xs ys : List (Option Int)) : VE (xs ++ ys) = VE xs ++ VE ys := by simp [VE]
@[simp] theorem PI_snoc (xs : List Int) (x : Int) : PI xs ++ [P.int x] = PI (xs ++ [x]) := by simp [PI]
@[simp] theorem VI_snoc (xs : List Int) (x : Int) : VI xs ++ [D.val (P.int x)] = VI (xs ++ [x]) := by simp [VI]
@[simp] theorem VE_snoc (xs : List (Option Int)) (x : Option Int) : VE xs ++ [D.val (EP x)] = VE (xs ++ [x]) := by simp [VE]
@[simp] theorem PI_vals (xs : List Int) : (PI xs).map D.val = VI xs := by simp [PI, VI]
@[simp] theorem PE_vals (xs : List (Option Int)) : (PE xs).map D.val = VE xs := by simp [PE, VE]
@[simp] theorem PI_flat (xs : List Int) : (PI xs).all P.flat = true := by simp [PI]
@[simp] theorem PE_flat (xs : List (Option Int)) : (PE xs).all P.flat = true := by simp [PE]
@[simp] theorem ps_VI (xs : List Int) : D.ps (VI xs) = PI xs := by rw [← PI_vals, D.ps_vals]
@[simp] theorem ps_VE (xs : List (Option Int)) : D.ps (VE xs) = PE xs := by rw [← PE_vals, D.ps_vals]
@[simp] theorem cleans_VI (xs : List Int) : D.cleans (VI xs) = true := by rw [← PI_vals, D.cleans_vals]; simp
@[simp] theorem cleans_VE (xs : List (Option Int)) : D.cleans (VE xs) = true := by rw [← PE_vals, D.cleans_vals]; simp
@[simp] theorem isVal_VI (xs : List Int) : (VI xs).all D.isVal = true := by simp [VI]
@[simp] theorem isVal_VE (xs : List (Option Int)) : (VE xs).all D.isVal = true := by simp [VE]
@[simp] theorem ints_PI (xs : List Int) : ints? (PI xs) = some xs := ints_ints xs
@[simp] theorem sum_lstI (xs : List Int) : bltn .sum_ [.lst (PI xs)] = .ok (.val (.int xs.sum), false) := sum_lst xs
@[simp] theorem sum_tupI (xs : List Int) : bltn .sum_ [.tup (PI xs)] = .ok (.val (.int xs.sum), false) := sum_tup xs
@[simp] theorem nes_PI (xs : List Int) : P.nes (PI xs) = true := by
  induction xs with
  | nil => rfl
  | cons x xs ih => simp [PI_cons, ih]
@[simp] theorem nes_PE (xs : List (Option Int)) : P.nes (PE xs) = true := by
  induction xs with
  | nil => rfl
  | cons x xs ih => simp [PE_cons, ih]
theorem PI_get {xs : List Int} {i : Nat} (h : i < xs.length) : (PI xs)[i]'(by simpa using h) = .int xs[i] := by simp [PI]
theorem VI_get {xs : List Int} {i : Nat} (h : i < xs.length) : (VI xs)[i]? = some (.val (.int xs[i])) := by simp [VI, h]
theorem VI_set (xs : List Int) (i : Nat) (x : Int) : (VI xs).set i (.val (.int x)) = VI (xs.set i x) := by simp [VI, List.map_set]
theorem cmpOks_PI (n : Nat) (xs : List Int) : P.cmpOks (n + 1) (PI xs) = true := by
  induction xs with
  | nil => rfl
  | cons x xs ih => simp [PI_cons, P.cmpOks, P.cmpOk, ih]
theorem cmpOks_PE (n : Nat) (xs : List (Option Int)) : P.cmpOks (n + 1) (PE xs) = true := by
  induction xs with
  | nil => rfl
  | cons x xs ih => simp [PE_cons, P.cmpOks, ih]
theorem eqvs_PI (xs ys : List Int) : P.eqvs (PI xs) (PI ys) = decide (xs = ys) := by
  induction xs generalizing ys with
  | nil => cases ys <;> simp [PI_cons, P.eqvs]
  | cons x xs ih =>
    cases ys with
    | nil => simp [PI_cons, P.eqvs]
    | cons y ys =>
      simp only [PI_cons, P.eqvs, P.eqv, ih]
      by_cases h1 : x = y <;> by_cases h2 : xs = ys <;> simp [h1, h2]
theorem eqvs_PE (xs ys : List (Option Int)) : P.eqvs (PE xs) (PE ys) = decide (xs = ys) := by
  induction xs generalizing ys with
  | nil => cases ys <;> simp [PE_cons, P.eqvs]
  | cons x xs ih =>
    cases ys with
    | nil => simp [PE_cons, P.eqvs]
    | cons y ys =>
      simp only [PE_cons, P.eqvs, EP_eqv, ih]
      by_cases h1 : x = y <;> by_cases h2 : xs = ys <;> simp [h1, h2]
/-- a list or a tuple of ints -/
inductive IsPt : P → List Int → Prop where
  | lst (xs : List Int) : IsPt (.lst (PI xs)) xs
  | tup (xs : List Int) : IsPt (.tup (PI xs)) xs
/-! ### places -/
theorem ixP_nat {n : Nat} {i : Int} (h0 : 0 ≤ i) (h1 : i < n) : ixP n i = some i.toNat := by
  show L2.ixN n i = _
  unfold L2.ixN
  first
    | (rw [if_pos (by omega)]; done)
    | (simp; omega)
    | (split <;> simp_all <;> omega)
@[simp] theorem index_lst0 (p : P) (ps : List P) : index (.lst (p :: ps)) (.int 0) = .ok p := by
  show R.of ((ixP (ps.length + 1) 0).bind fun j => (p :: ps)[j]?) = _
  rw [ixP_nat (by omega) (by omega)]; rfl
@[simp] theorem index_tup0 (p : P) (ps : List P) : index (.tup (p :: ps)) (.int 0) = .ok p := by
  show R.of ((ixP (ps.length + 1) 0).bind fun j => (p :: ps)[j]?) = _
  rw [ixP_nat (by omega) (by omega)]; rfl
@[simp] theorem index_lst1 (p q : P) (ps : List P) : index (.lst (p :: q :: ps)) (.int 1) = .ok q := by
  show R.of ((ixP (ps.length + 1 + 1) 1).bind fun j => (p :: q :: ps)[j]?) = _
  rw [ixP_nat (by omega) (by omega)]; rfl
@[simp] theorem index_tup1 (p q : P) (ps : List P) : index (.tup (p :: q :: ps)) (.int 1) = .ok q := by
  show R.of ((ixP (ps.length + 1 + 1) 1).bind fun j => (p :: q :: ps)[j]?) = _
  rw [ixP_nat (by omega) (by omega)]; rfl
theorem index_lst {xs : List P} {i : Int} (h0 : 0 ≤ i) (h1 : i < xs.length) : index (.lst xs) (.int i) = .ok (xs[i.toNat]'(by omega)) := by
  show R.of ((ixP xs.length i).bind fun j => xs[j]?) = _
  rw [ixP_nat h0 h1]
  simp only [Option.bind_some]
  rw [List.getElem?_eq_getElem (by omega)]
  rfl
theorem index_tup {xs : List P} {i : Int} (h0 : 0 ≤ i) (h1 : i < xs.length) : index (.tup xs) (.int i) = .ok (xs[i.toNat]'(by omega)) := by
  show R.of ((ixP xs.length i).bind fun j => xs[j]?) = _
  rw [ixP_nat h0 h1]
  simp only [Option.bind_some]
  rw [List.getElem?_eq_getElem (by omega)]
  rfl
theorem pop_first (d : D) (ds : List D) : methD .popAt (d :: ds) [.val (.int 0)] = .ok (d, ds) := by
  have h : ixP (d :: ds).length 0 = some 0 := ixP_nat (by omega) (by simp)
  show (if -(2 ^ 63 : Int) ≤ 0 ∧ (0 : Int) < 2 ^ 63 then (match ixP (d :: ds).length 0 with
    | some k => (match (d :: ds)[k]? with
      | some e => NB.R.ok (e, (d :: ds).eraseIdx k)
      | none => .stuck)
    | none => .stuck) else .stuck) = _
  rw [if_pos ⟨by decide, by decide⟩, h]
  rfl
/-! ### bounds -/
@[simp] theorem cap_1 : 1 ≤ cap := by unfold cap; decide
@[simp] theorem cap_2 : 2 ≤ cap := by unfold cap; decide
@[simp] theorem cap_3 : 3 ≤ cap := by unfold cap; decide
@[simp] theorem cap_4 : 4 ≤ cap := by unfold cap; decide
@[simp] theorem cap_5 : 5 ≤ cap := by unfold cap; decide
@[simp] theorem cap_6 : 6 ≤ cap := by unfold cap; decide
@[simp] theorem cap_7 : 7 ≤ cap := by unfold cap; decide
@[simp] theorem cap_8 : 8 ≤ cap := by unfold cap; decide
@[simp] theorem cap_9 : 9 ≤ cap := by unfold cap; decide
@[simp] theorem cap_10 : 10 ≤ cap := by unfold cap; decide
@[simp] theorem cap_11 : 11 ≤ cap := by unfold cap; decide
@[simp] theorem cap_12 : 12 ≤ cap := by unfold cap; decide
@[simp] theorem cap_pos : 0 < cap := by unfold cap; decide
@[simp] theorem caplt_0 : 0 < cap := by unfold cap; decide
@[simp] theorem caplt_1 : 1 < cap := by unfold cap; decide
@[simp] theorem caplt_2 : 2 < cap := by unfold cap; decide
@[simp] theorem caplt_3 : 3 < cap := by unfold cap; decide
@[simp] theorem caplt_4 : 4 < cap := by unfold cap; decide
@[simp] theorem caplt_5 : 5 < cap := by unfold cap; decide
@[simp] theorem caplt_6 : 6 < cap := by unfold cap; decide
@[simp] theorem caplt_7 : 7 < cap := by unfold cap; decide
@[simp] theorem caplt_8 : 8 < cap := by unfold cap; decide
@[simp] theorem caplt_9 : 9 < cap := by unfold cap; decide
@[simp] theorem caplt_10 : 10 < cap := by unfold cap; decide
@[simp] theorem caplt_11 : 11 < cap := by unfold cap; decide
@[simp] theorem caplt_12 : 12 < cap := by unfold cap; decide
theorem cap_of {n : Nat} (h : n ≤ 1000) : n ≤ cap := by unfold cap; omega
theorem range2_nat {n : Nat} (h : n ≤ 1000) : bltn .range2 [.int 0, .int n] = .ok (.lst ((rangeP 0 n).map .val), false) := by
  rw [range2_eq, if_pos ⟨by omega, by omega, by omega, by omega⟩]
  unfold newL
  rw [if_pos (cap_of (by simp [rangeP]; omega))]
theorem eit_rngN (tb : Tab) (Φ : Nat → List D → R (D × List D)) (ε ε1 ε2 : Env) (a b : X) (lo hi : Int) (ha : ev tb Φ a ε = .ok (.val (.int lo), ε1)) (hb : ev tb Φ b ε1 = .ok (.val (.int hi), ε2)) (h1 : -1000 ≤ lo ∧ lo ≤ 1000) (h2 : -1000 ≤ hi ∧ hi ≤ 1000) : eit tb Φ (.rng a b) ε = .ok (rangeP lo hi, [], ε2) := by
  rw [eit_rng, ha]
  simp only [R.ok_bind, un2_eq]
  rw [hb]
  simp only [R.ok_bind, un2_eq]
  rw [if_pos ⟨by omega, by omega, by omega, by omega⟩]
/-! ### two clauses -/
theorem lc2_map {g : Pt} {own : List Nat} {body : Env → R (List D × Env)} {ε : Env} (f : P → List D) {ps : List P} (H : ∀ p ∈ ps, ∃ ε1 ε2, assign ε g (.val p) = .ok ε1 ∧ body ε1 = .ok (f p, ε2) ∧ wipeE ε2 own = ε) : lcLoop2 g own body ps ε = .ok (ps.flatMap f, ε) := by
  induction ps with
  | nil => rfl
  | cons p ps ih =>
    obtain ⟨ε1, ε2, h1, h2, h3⟩ := H p (by simp)
    have ih := ih fun q hq => H q (List.mem_cons_of_mem _ hq)
    have e : lcLoop2 g own body (p :: ps) ε = assign ε g (.val p) >>= fun ε1 => body ε1 >>= fun (d1, ε2) => lcLoop2 g own body ps (wipeE ε2 own) >>= fun (ds, ε3) => .ok (d1 ++ ds, ε3) := rfl
    rw [e, h1]
    simp only [R.ok_bind, un2_eq]
    rw [h2]
    simp only [R.ok_bind, un2_eq]
    rw [h3, ih]
    simp
/-- a call's answer that may be handed on -/
inductive Good : R (D × List D) → Prop where
  | ok (d : D) (h : d.clean = true) : Good (.ok (d, []))
  | exc (c : Nat) (q : P) (h : q.flat = true) : Good (.exc c [q])
end NBE
end
section
set_option Elab.async false
set_option linter.all false
set_option maxRecDepth 100000
/-! the compiled defs (written by gen_fns.py) -/
namespace K01
open PySem NB NBE
abbrev T := pg.tab
abbrev M := mkxOf pg.tab
abbrev rn := NB.run T M 1000 pg.fns
theorem run_eq {k f : Nat} {F : Fn} {ds : List D} (h : pg.fns f = some F) (hl : ds.length = F.ps) : rn (k + 1) f ds = fin (pg.tab.muts f) (ess T (rn k) M 1000 F.body (ds.map Sl.ow ++ List.replicate (F.n - F.ps) Sl.no)) := by
  show NB.run T M 1000 pg.fns (k + 1) f ds = _
  simp only [NB.run, h]
  exact runFn_eq _ _ _ _ _ _ _ hl

/-- look_number -/
def B0 : SS := (.cons (.iff (.hold (.notv (.cmp2 .le .le (.v 1) (.v 0) (.v 2)))) (.cons (.raise 2 (.cons (.v 0) .nil)) .nil) .nil) (.cons (.ret (.v 0)) .nil))
theorem f0 : pg.fns 0 = some ⟨3, 3, B0⟩ := by kernel_rfl
@[simp] theorem mu0 : pg.tab.muts 0 = false := by kernel_rfl
theorem run0 (k : Nat) (a0 a1 a2 : D) : rn (k + 1) 0 [a0, a1, a2] = fin false (ess T (rn k) M 1000 B0 [.ow a0, .ow a1, .ow a2]) := by
  rw [run_eq f0 rfl, mu0]
  rfl

/-- look_count -/
def B1 : SS := (.cons (.iff (.hold (.notv (.cmp2 .le .le (.v 1) (.v 0) (.v 2)))) (.cons (.raise 1 (.cons (.v 0) .nil)) .nil) .nil) (.cons (.ret (.v 0)) .nil))
theorem f1 : pg.fns 1 = some ⟨3, 3, B1⟩ := by kernel_rfl
@[simp] theorem mu1 : pg.tab.muts 1 = false := by kernel_rfl
theorem run1 (k : Nat) (a0 a1 a2 : D) : rn (k + 1) 1 [a0, a1, a2] = fin false (ess T (rn k) M 1000 B1 [.ow a0, .ow a1, .ow a2]) := by
  rw [run_eq f1 rfl, mu1]
  rfl

/-- look_numbers -/
def B2 : SS := (.cons (.ex (.call 1 (.cons (.bi .len (.cons (.v 1) .nil)) (.cons (.v 0) (.cons (.v 0) .nil))))) (.cons (.ret (.bi .tuple_ (.cons (.lc (.nm 4) [4] (.seq (.v 1)) .none (.call 0 (.cons (.v 4) (.cons (.v 2) (.cons (.v 3) .nil))))) .nil))) .nil))
theorem f2 : pg.fns 2 = some ⟨5, 4, B2⟩ := by kernel_rfl
@[simp] theorem mu2 : pg.tab.muts 2 = false := by kernel_rfl
theorem run2 (k : Nat) (a0 a1 a2 a3 : D) : rn (k + 1) 2 [a0, a1, a2, a3] = fin false (ess T (rn k) M 1000 B2 [.ow a0, .ow a1, .ow a2, .ow a3, .no]) := by
  rw [run_eq f2 rfl, mu2]
  rfl

/-- look_point -/
def B3 : SS := (.cons (.ret (.call 2 (.cons (.v 0) (.cons (.v 1) (.cons (.neg (.c (.int 1000))) (.cons (.c (.int 1000)) .nil)))))) .nil)
theorem f3 : pg.fns 3 = some ⟨2, 2, B3⟩ := by kernel_rfl
@[simp] theorem mu3 : pg.tab.muts 3 = false := by kernel_rfl
theorem run3 (k : Nat) (a0 a1 : D) : rn (k + 1) 3 [a0, a1] = fin false (ess T (rn k) M 1000 B3 [.ow a0, .ow a1]) := by
  rw [run_eq f3 rfl, mu3]
  rfl

/-- look_index -/
def B4 : SS := (.cons (.iff (.hold (.notv (.cmp2 .le .lt (.c (.int 0)) (.v 1) (.v 0)))) (.cons (.raise 3 (.cons (.v 1) .nil)) .nil) .nil) (.cons (.ret (.v 1)) .nil))
theorem f4 : pg.fns 4 = some ⟨2, 2, B4⟩ := by kernel_rfl
@[simp] theorem mu4 : pg.tab.muts 4 = false := by kernel_rfl
theorem run4 (k : Nat) (a0 a1 : D) : rn (k + 1) 4 [a0, a1] = fin false (ess T (rn k) M 1000 B4 [.ow a0, .ow a1]) := by
  rw [run_eq f4 rfl, mu4]
  rfl

/-- look_end -/
def B5 : SS := (.cons (.iff (.hold (.cmp .is (.v 1) (.c .non))) (.cons (.ret (.c .non)) .nil) .nil) (.cons (.ret (.call 4 (.cons (.v 0) (.cons (.v 1) .nil)))) .nil))
theorem f5 : pg.fns 5 = some ⟨2, 2, B5⟩ := by kernel_rfl
@[simp] theorem mu5 : pg.tab.muts 5 = false := by kernel_rfl
theorem run5 (k : Nat) (a0 a1 : D) : rn (k + 1) 5 [a0, a1] = fin false (ess T (rn k) M 1000 B5 [.ow a0, .ow a1]) := by
  rw [run_eq f5 rfl, mu5]
  rfl

/-- look_step -/
def B6 : SS := (.cons (.ex (.call 1 (.cons (.bi .len (.cons (.v 1) .nil)) (.cons (.c (.int 2)) (.cons (.c (.int 2)) .nil))))) (.cons (.asg (.nm 2) (.call 5 (.cons (.v 0) (.cons (.ix (.v 1) (.c (.int 0))) .nil)))) (.cons (.asg (.nm 3) (.call 5 (.cons (.v 0) (.cons (.ix (.v 1) (.c (.int 1))) .nil)))) (.cons (.iff (.hold (.cmp .eq (.v 2) (.v 3))) (.cons (.raise 3 (.cons (.v 3) .nil)) .nil) .nil) (.cons (.ret (.tup (.cons (.v 2) (.cons (.v 3) .nil)))) .nil)))))
theorem f6 : pg.fns 6 = some ⟨4, 2, B6⟩ := by kernel_rfl
@[simp] theorem mu6 : pg.tab.muts 6 = false := by kernel_rfl
theorem run6 (k : Nat) (a0 a1 : D) : rn (k + 1) 6 [a0, a1] = fin false (ess T (rn k) M 1000 B6 [.ow a0, .ow a1, .no, .no]) := by
  rw [run_eq f6 rfl, mu6]
  rfl

/-- ends -/
def B7 : SS := (.cons (.ex (.call 0 (.cons (.v 0) (.cons (.c (.int 0)) (.cons (.c (.int 6)) .nil))))) (.cons (.ret (.bin .add (.bi .range2 (.cons (.c (.int 0)) (.cons (.v 0) .nil))) (.lst (.cons (.c .non) .nil)))) .nil))
theorem f7 : pg.fns 7 = some ⟨1, 1, B7⟩ := by kernel_rfl
@[simp] theorem mu7 : pg.tab.muts 7 = false := by kernel_rfl
theorem run7 (k : Nat) (a0 : D) : rn (k + 1) 7 [a0] = fin false (ess T (rn k) M 1000 B7 [.ow a0]) := by
  rw [run_eq f7 rfl, mu7]
  rfl

/-- end_amounts -/
def B8 : SS := (.cons (.ret (.bin .add (.bi .list_ (.cons (.v 0) .nil)) (.lst (.cons (.neg (.bi .sum_ (.cons (.v 0) .nil))) .nil)))) .nil)
theorem f8 : pg.fns 8 = some ⟨1, 1, B8⟩ := by kernel_rfl
@[simp] theorem mu8 : pg.tab.muts 8 = false := by kernel_rfl
theorem run8 (k : Nat) (a0 : D) : rn (k + 1) 8 [a0] = fin false (ess T (rn k) M 1000 B8 [.ow a0]) := by
  rw [run_eq f8 rfl, mu8]
  rfl

/-- amount_at -/
def B9 : SS := (.cons (.ex (.call 0 (.cons (.v 0) (.cons (.c (.int 0)) (.cons (.c (.int 6)) .nil))))) (.cons (.asg (.nm 3) (.call 3 (.cons (.v 0) (.cons (.v 1) .nil)))) (.cons (.ex (.call 5 (.cons (.v 0) (.cons (.v 2) .nil)))) (.cons (.iff (.hold (.cmp .is (.v 2) (.c .non))) (.cons (.ret (.neg (.bi .sum_ (.cons (.v 3) .nil)))) .nil) .nil) (.cons (.ret (.ix (.v 3) (.v 2))) .nil)))))
theorem f9 : pg.fns 9 = some ⟨4, 3, B9⟩ := by kernel_rfl
@[simp] theorem mu9 : pg.tab.muts 9 = false := by kernel_rfl
theorem run9 (k : Nat) (a0 a1 a2 : D) : rn (k + 1) 9 [a0, a1, a2] = fin false (ess T (rn k) M 1000 B9 [.ow a0, .ow a1, .ow a2, .no]) := by
  rw [run_eq f9 rfl, mu9]
  rfl

/-- near_steps -/
def B10 : SS := (.cons (.asg (.nm 1) (.call 7 (.cons (.v 0) .nil))) (.cons (.ret (.lc2 (.nm 2) [2, 3] (.seq (.v 1)) (.nm 3) 1 (.some (.cmp .ne (.v 2) (.v 3))) (.tup (.cons (.v 2) (.cons (.v 3) .nil))))) .nil))
theorem f10 : pg.fns 10 = some ⟨4, 1, B10⟩ := by kernel_rfl
@[simp] theorem mu10 : pg.tab.muts 10 = false := by kernel_rfl
theorem run10 (k : Nat) (a0 : D) : rn (k + 1) 10 [a0] = fin false (ess T (rn k) M 1000 B10 [.ow a0, .no, .no, .no]) := by
  rw [run_eq f10 rfl, mu10]
  rfl

/-- moved -/
def B11 : SS := (.cons (.asg (.nm 3) (.bi .list_ (.cons (.v 0) .nil))) (.cons (.iff (.hold (.cmp .isnot (.v 1) (.c .non))) (.cons (.augix 3 (.v 1) .sub (.c (.int 1))) .nil) .nil) (.cons (.iff (.hold (.cmp .isnot (.v 2) (.c .non))) (.cons (.augix 3 (.v 2) .add (.c (.int 1))) .nil) .nil) (.cons (.ret (.bi .tuple_ (.cons (.v 3) .nil))) .nil))))
theorem f11 : pg.fns 11 = some ⟨4, 3, B11⟩ := by kernel_rfl
@[simp] theorem mu11 : pg.tab.muts 11 = false := by kernel_rfl
theorem run11 (k : Nat) (a0 a1 a2 : D) : rn (k + 1) 11 [a0, a1, a2] = fin false (ess T (rn k) M 1000 B11 [.ow a0, .ow a1, .ow a2, .no]) := by
  rw [run_eq f11 rfl, mu11]
  rfl

/-- stepped -/
def B12 : SS := (.cons (.ex (.call 0 (.cons (.v 0) (.cons (.c (.int 0)) (.cons (.c (.int 6)) .nil))))) (.cons (.asg (.nm 3) (.call 3 (.cons (.v 0) (.cons (.v 1) .nil)))) (.cons (.asg (.tup [4, 5]) (.call 6 (.cons (.v 0) (.cons (.v 2) .nil)))) (.cons (.ret (.call 11 (.cons (.v 3) (.cons (.v 4) (.cons (.v 5) .nil))))) .nil))))
theorem f12 : pg.fns 12 = some ⟨6, 3, B12⟩ := by kernel_rfl
@[simp] theorem mu12 : pg.tab.muts 12 = false := by kernel_rfl
theorem run12 (k : Nat) (a0 a1 a2 : D) : rn (k + 1) 12 [a0, a1, a2] = fin false (ess T (rn k) M 1000 B12 [.ow a0, .ow a1, .ow a2, .no, .no, .no]) := by
  rw [run_eq f12 rfl, mu12]
  rfl

/-- more_less -/
def B13 : SS := (.cons (.ex (.call 0 (.cons (.v 0) (.cons (.c (.int 0)) (.cons (.c (.int 6)) .nil))))) (.cons (.asg (.nm 3) (.call 3 (.cons (.v 0) (.cons (.v 1) .nil)))) (.cons (.asg (.nm 4) (.call 3 (.cons (.v 0) (.cons (.v 2) .nil)))) (.cons (.asg (.nm 5) (.lst .nil)) (.cons (.asg (.nm 6) (.lst .nil)) (.cons (.for_ (.tup [7, 8, 9]) (.zip (.cons (.call 7 (.cons (.v 0) .nil)) (.cons (.call 8 (.cons (.v 3) .nil)) (.cons (.call 8 (.cons (.v 4) .nil)) .nil)))) (.cons (.ex (.meth .extend 5 (.cons (.bin .mul (.lst (.cons (.v 7) .nil)) (.bi .max_ (.cons (.c (.int 0)) (.cons (.bin .sub (.v 8) (.v 9)) .nil)))) .nil))) (.cons (.ex (.meth .extend 6 (.cons (.bin .mul (.lst (.cons (.v 7) .nil)) (.bi .max_ (.cons (.c (.int 0)) (.cons (.bin .sub (.v 9) (.v 8)) .nil)))) .nil))) .nil))) (.cons (.ret (.tup (.cons (.v 5) (.cons (.v 6) .nil)))) .nil)))))))
theorem f13 : pg.fns 13 = some ⟨10, 3, B13⟩ := by kernel_rfl
@[simp] theorem mu13 : pg.tab.muts 13 = false := by kernel_rfl
theorem run13 (k : Nat) (a0 a1 a2 : D) : rn (k + 1) 13 [a0, a1, a2] = fin false (ess T (rn k) M 1000 B13 [.ow a0, .ow a1, .ow a2, .no, .no, .no, .no, .no, .no, .no]) := by
  rw [run_eq f13 rfl, mu13]
  rfl

/-- steps_apart -/
def B14 : SS := (.cons (.ret (.bin .fdiv (.bi .sum_ (.cons (.lc (.tup [2, 3]) [2, 3] (.zip (.cons (.call 8 (.cons (.v 0) .nil)) (.cons (.call 8 (.cons (.v 1) .nil)) .nil))) .none (.bi .abs (.cons (.bin .sub (.v 2) (.v 3)) .nil))) .nil)) (.c (.int 2)))) .nil)
theorem f14 : pg.fns 14 = some ⟨4, 2, B14⟩ := by kernel_rfl
@[simp] theorem mu14 : pg.tab.muts 14 = false := by kernel_rfl
theorem run14 (k : Nat) (a0 a1 : D) : rn (k + 1) 14 [a0, a1] = fin false (ess T (rn k) M 1000 B14 [.ow a0, .ow a1, .no, .no]) := by
  rw [run_eq f14 rfl, mu14]
  rfl

/-- distance -/
def B15 : SS := (.cons (.ex (.call 0 (.cons (.v 0) (.cons (.c (.int 0)) (.cons (.c (.int 6)) .nil))))) (.cons (.asg (.nm 3) (.call 3 (.cons (.v 0) (.cons (.v 1) .nil)))) (.cons (.asg (.nm 4) (.call 3 (.cons (.v 0) (.cons (.v 2) .nil)))) (.cons (.ret (.call 14 (.cons (.v 3) (.cons (.v 4) .nil)))) .nil))))
theorem f15 : pg.fns 15 = some ⟨5, 3, B15⟩ := by kernel_rfl
@[simp] theorem mu15 : pg.tab.muts 15 = false := by kernel_rfl
theorem run15 (k : Nat) (a0 a1 a2 : D) : rn (k + 1) 15 [a0, a1, a2] = fin false (ess T (rn k) M 1000 B15 [.ow a0, .ow a1, .ow a2, .no, .no]) := by
  rw [run_eq f15 rfl, mu15]
  rfl

/-- _law_numbers -/
def B16 : SS := (.cons (.ret (.lc (.nm 1) [1] (.seq (.sl (.v 0) .none (.some (.c (.int 63))))) .none (.bin .mod (.bi .abs (.cons (.bi .int_ (.cons (.v 1) .nil)) .nil)) (.bin .pow (.c (.int 10)) (.c (.int 40)))))) .nil)
theorem f16 : pg.fns 16 = some ⟨2, 1, B16⟩ := by kernel_rfl
@[simp] theorem mu16 : pg.tab.muts 16 = false := by kernel_rfl
theorem run16 (k : Nat) (a0 : D) : rn (k + 1) 16 [a0] = fin false (ess T (rn k) M 1000 B16 [.ow a0, .no]) := by
  rw [run_eq f16 rfl, mu16]
  rfl

/-- _law_draw -/
def B17 : SS := (.cons (.iff (.hold (.cmp .eq (.bi .len (.cons (.v 0) .nil)) (.c (.int 0)))) (.cons (.ret (.c (.int 0))) .nil) .nil) (.cons (.asg (.nm 2) (.ix (.v 0) (.c (.int 0)))) (.cons (.iff (.hold (.cmp .lt (.v 2) (.v 1))) (.cons (.ex (.meth .popAt 0 (.cons (.c (.int 0)) .nil))) .nil) (.cons (.setix 0 (.c (.int 0)) (.bin .fdiv (.v 2) (.v 1))) .nil)) (.cons (.ret (.bin .mod (.bi .int_ (.cons (.v 2) .nil)) (.v 1))) .nil))))
theorem f17 : pg.fns 17 = some ⟨3, 2, B17⟩ := by kernel_rfl
@[simp] theorem mu17 : pg.tab.muts 17 = true := by kernel_rfl
theorem run17 (k : Nat) (a0 a1 : D) : rn (k + 1) 17 [a0, a1] = fin true (ess T (rn k) M 1000 B17 [.ow a0, .ow a1, .no]) := by
  rw [run_eq f17 rfl, mu17]
  rfl

/-- _law_same -/
def B18 : SS := (.cons (.iff (.hold (.and_ (.isi (.v 1) [.tuple_]) (.notv (.isi (.v 0) [.tuple_])))) (.cons (.ret (.c (.bl false))) .nil) .nil) (.cons (.iff (.hold (.and_ (.isi (.v 1) [.list_]) (.notv (.isi (.v 0) [.list_])))) (.cons (.ret (.c (.bl false))) .nil) .nil) (.cons (.iff (.hold (.isi (.v 1) [.list_, .tuple_])) (.cons (.iff (.hold (.cmp .ne (.bi .len (.cons (.v 0) .nil)) (.bi .len (.cons (.v 1) .nil)))) (.cons (.ret (.c (.bl false))) .nil) .nil) (.cons (.for_ (.tup [2, 3]) (.zip (.cons (.v 0) (.cons (.v 1) .nil))) (.cons (.iff (.hold (.notv (.call 18 (.cons (.v 2) (.cons (.v 3) .nil))))) (.cons (.ret (.c (.bl false))) .nil) .nil) .nil)) (.cons (.ret (.c (.bl true))) .nil))) .nil) (.cons (.iff (.hold (.cmp .is (.v 1) (.c .non))) (.cons (.ret (.cmp .is (.v 0) (.c .non))) .nil) .nil) (.cons (.iff (.hold (.cmp .is (.v 1) (.c (.bl true)))) (.cons (.ret (.cmp .is (.v 0) (.c (.bl true)))) .nil) .nil) (.cons (.iff (.hold (.cmp .is (.v 1) (.c (.bl false)))) (.cons (.ret (.cmp .is (.v 0) (.c (.bl false)))) .nil) .nil) (.cons (.iff (.hold (.isi (.v 1) [.str_])) (.cons (.ret (.and_ (.isi (.v 0) [.str_]) (.cmp .eq (.v 0) (.v 1)))) .nil) .nil) (.cons (.ret (.and_ (.isi (.v 0) [.int_]) (.and_ (.notv (.isi (.v 0) [.bool_])) (.cmp .eq (.v 0) (.v 1))))) .nil))))))))
theorem f18 : pg.fns 18 = some ⟨4, 2, B18⟩ := by kernel_rfl
@[simp] theorem mu18 : pg.tab.muts 18 = false := by kernel_rfl
theorem run18 (k : Nat) (a0 a1 : D) : rn (k + 1) 18 [a0, a1] = fin false (ess T (rn k) M 1000 B18 [.ow a0, .ow a1, .no, .no]) := by
  rw [run_eq f18 rfl, mu18]
  rfl

/-- _law_refusal -/
def B19 : SS := (.cons (.asg (.nm 1) (.lst (.cons (.isi (.v 0) [(.own 1)]) (.cons (.isi (.v 0) [(.own 2)]) (.cons (.isi (.v 0) [(.own 3)]) .nil))))) (.cons (.iff (.hold (.cmp .eq (.v 1) (.lst (.cons (.c (.bl true)) (.cons (.c (.bl false)) (.cons (.c (.bl false)) .nil)))))) (.cons (.ret (.tup (.cons (.c (.str "refused")) (.cons (.c (.str "size")) (.cons (.attr (.v 0) "count") .nil))))) .nil) .nil) (.cons (.iff (.hold (.cmp .eq (.v 1) (.lst (.cons (.c (.bl false)) (.cons (.c (.bl true)) (.cons (.c (.bl false)) .nil)))))) (.cons (.ret (.tup (.cons (.c (.str "refused")) (.cons (.c (.str "number")) (.cons (.attr (.v 0) "number") .nil))))) .nil) .nil) (.cons (.iff (.hold (.cmp .eq (.v 1) (.lst (.cons (.c (.bl false)) (.cons (.c (.bl false)) (.cons (.c (.bl true)) .nil)))))) (.cons (.ret (.tup (.cons (.c (.str "refused")) (.cons (.c (.str "end")) (.cons (.attr (.v 0) "end") .nil))))) .nil) .nil) (.cons (.ret (.tup (.cons (.c (.str "refused")) (.cons (.c (.str "another")) (.cons (.c (.int 0)) .nil))))) .nil)))))
theorem f19 : pg.fns 19 = some ⟨2, 1, B19⟩ := by kernel_rfl
@[simp] theorem mu19 : pg.tab.muts 19 = false := by kernel_rfl
theorem run19 (k : Nat) (a0 : D) : rn (k + 1) 19 [a0] = fin false (ess T (rn k) M 1000 B19 [.ow a0, .no]) := by
  rw [run_eq f19 rfl, mu19]
  rfl

/-- _law_told -/
def B20 : SS := (.cons (.try_ (.cons (.iff (.hold (.cmp .eq (.v 0) (.c (.int 0)))) (.cons (.ret (.tup (.cons (.c (.str "told")) (.cons (.call 7 (.cons (.v 1) .nil)) .nil)))) .nil) .nil) (.cons (.iff (.hold (.cmp .eq (.v 0) (.c (.int 1)))) (.cons (.ret (.tup (.cons (.c (.str "told")) (.cons (.call 10 (.cons (.v 1) .nil)) .nil)))) .nil) .nil) (.cons (.iff (.hold (.cmp .eq (.v 0) (.c (.int 2)))) (.cons (.ret (.tup (.cons (.c (.str "told")) (.cons (.call 9 (.cons (.v 1) (.cons (.v 2) (.cons (.v 3) .nil)))) .nil)))) .nil) .nil) (.cons (.iff (.hold (.cmp .eq (.v 0) (.c (.int 3)))) (.cons (.ret (.tup (.cons (.c (.str "told")) (.cons (.call 12 (.cons (.v 1) (.cons (.v 2) (.cons (.v 3) .nil)))) .nil)))) .nil) .nil) (.cons (.iff (.hold (.cmp .eq (.v 0) (.c (.int 4)))) (.cons (.ret (.tup (.cons (.c (.str "told")) (.cons (.call 13 (.cons (.v 1) (.cons (.v 2) (.cons (.v 3) .nil)))) .nil)))) .nil) .nil) (.cons (.ret (.tup (.cons (.c (.str "told")) (.cons (.call 15 (.cons (.v 1) (.cons (.v 2) (.cons (.v 3) .nil)))) .nil)))) .nil)))))) 0 4 (.cons (.ret (.call 19 (.cons (.v 4) .nil))) .nil)) .nil)
theorem f20 : pg.fns 20 = some ⟨5, 4, B20⟩ := by kernel_rfl
@[simp] theorem mu20 : pg.tab.muts 20 = false := by kernel_rfl
theorem run20 (k : Nat) (a0 a1 a2 a3 : D) : rn (k + 1) 20 [a0, a1, a2, a3] = fin false (ess T (rn k) M 1000 B20 [.ow a0, .ow a1, .ow a2, .ow a3, .no]) := by
  rw [run_eq f20 rfl, mu20]
  rfl

/-- _law_ends -/
def B21 : SS := (.cons (.ret (.bin .add (.bi .range2 (.cons (.c (.int 0)) (.cons (.v 0) .nil))) (.lst (.cons (.c .non) .nil)))) .nil)
theorem f21 : pg.fns 21 = some ⟨1, 1, B21⟩ := by kernel_rfl
@[simp] theorem mu21 : pg.tab.muts 21 = false := by kernel_rfl
theorem run21 (k : Nat) (a0 : D) : rn (k + 1) 21 [a0] = fin false (ess T (rn k) M 1000 B21 [.ow a0]) := by
  rw [run_eq f21 rfl, mu21]
  rfl

/-- _law_steps -/
def B22 : SS := (.cons (.asg (.nm 1) (.lst .nil)) (.cons (.for_ (.nm 2) (.seq (.call 21 (.cons (.v 0) .nil))) (.cons (.for_ (.nm 3) (.seq (.call 21 (.cons (.v 0) .nil))) (.cons (.iff (.hold (.cmp .ne (.v 2) (.v 3))) (.cons (.ex (.meth .append 1 (.cons (.tup (.cons (.v 2) (.cons (.v 3) .nil))) .nil))) .nil) .nil) .nil)) .nil)) (.cons (.ret (.v 1)) .nil)))
theorem f22 : pg.fns 22 = some ⟨4, 1, B22⟩ := by kernel_rfl
@[simp] theorem mu22 : pg.tab.muts 22 = false := by kernel_rfl
theorem run22 (k : Nat) (a0 : D) : rn (k + 1) 22 [a0] = fin false (ess T (rn k) M 1000 B22 [.ow a0, .no, .no, .no]) := by
  rw [run_eq f22 rfl, mu22]
  rfl

/-- _law_all -/
def B23 : SS := (.cons (.ret (.bin .add (.bi .list_ (.cons (.v 0) .nil)) (.lst (.cons (.neg (.bi .sum_ (.cons (.v 0) .nil))) .nil)))) .nil)
theorem f23 : pg.fns 23 = some ⟨1, 1, B23⟩ := by kernel_rfl
@[simp] theorem mu23 : pg.tab.muts 23 = false := by kernel_rfl
theorem run23 (k : Nat) (a0 : D) : rn (k + 1) 23 [a0] = fin false (ess T (rn k) M 1000 B23 [.ow a0]) := by
  rw [run_eq f23 rfl, mu23]
  rfl

/-- _law_moved -/
def B24 : SS := (.cons (.asg (.nm 2) (.bi .list_ (.cons (.v 0) .nil))) (.cons (.for_ (.tup [3, 4]) (.seq (.lst (.cons (.tup (.cons (.ix (.v 1) (.c (.int 0))) (.cons (.neg (.c (.int 1))) .nil))) (.cons (.tup (.cons (.ix (.v 1) (.c (.int 1))) (.cons (.c (.int 1)) .nil))) .nil)))) (.cons (.iff (.hold (.cmp .isnot (.v 3) (.c .non))) (.cons (.setix 2 (.v 3) (.bin .add (.ix (.v 2) (.v 3)) (.v 4))) .nil) .nil) .nil)) (.cons (.ret (.bi .tuple_ (.cons (.v 2) .nil))) .nil)))
theorem f24 : pg.fns 24 = some ⟨5, 2, B24⟩ := by kernel_rfl
@[simp] theorem mu24 : pg.tab.muts 24 = false := by kernel_rfl
theorem run24 (k : Nat) (a0 a1 : D) : rn (k + 1) 24 [a0, a1] = fin false (ess T (rn k) M 1000 B24 [.ow a0, .ow a1, .no, .no, .no]) := by
  rw [run_eq f24 rfl, mu24]
  rfl

/-- _law_far -/
def B25 : SS := (.cons (.asg (.nm 2) (.lc (.tup [3, 4]) [3, 4] (.zip (.cons (.call 23 (.cons (.v 0) .nil)) (.cons (.call 23 (.cons (.v 1) .nil)) .nil))) .none (.bi .abs (.cons (.bin .sub (.v 3) (.v 4)) .nil)))) (.cons (.ret (.bin .fdiv (.bi .sum_ (.cons (.v 2) .nil)) (.c (.int 2)))) .nil))
theorem f25 : pg.fns 25 = some ⟨5, 2, B25⟩ := by kernel_rfl
@[simp] theorem mu25 : pg.tab.muts 25 = false := by kernel_rfl
theorem run25 (k : Nat) (a0 a1 : D) : rn (k + 1) 25 [a0, a1] = fin false (ess T (rn k) M 1000 B25 [.ow a0, .ow a1, .no, .no, .no]) := by
  rw [run_eq f25 rfl, mu25]
  rfl

/-- _law_sides -/
def B26 : SS := (.cons (.asg (.nm 2) (.lst .nil)) (.cons (.asg (.nm 3) (.lst .nil)) (.cons (.for_ (.tup [4, 5, 6]) (.zip (.cons (.call 21 (.cons (.bi .len (.cons (.v 0) .nil)) .nil)) (.cons (.call 23 (.cons (.v 0) .nil)) (.cons (.call 23 (.cons (.v 1) .nil)) .nil)))) (.cons (.ex (.meth .extend 2 (.cons (.bin .mul (.lst (.cons (.v 4) .nil)) (.bi .max_ (.cons (.c (.int 0)) (.cons (.bin .sub (.v 5) (.v 6)) .nil)))) .nil))) (.cons (.ex (.meth .extend 3 (.cons (.bin .mul (.lst (.cons (.v 4) .nil)) (.bi .max_ (.cons (.c (.int 0)) (.cons (.bin .sub (.v 6) (.v 5)) .nil)))) .nil))) .nil))) (.cons (.ret (.tup (.cons (.v 2) (.cons (.v 3) .nil)))) .nil))))
theorem f26 : pg.fns 26 = some ⟨7, 2, B26⟩ := by kernel_rfl
@[simp] theorem mu26 : pg.tab.muts 26 = false := by kernel_rfl
theorem run26 (k : Nat) (a0 a1 : D) : rn (k + 1) 26 [a0, a1] = fin false (ess T (rn k) M 1000 B26 [.ow a0, .ow a1, .no, .no, .no, .no, .no]) := by
  rw [run_eq f26 rfl, mu26]
  rfl

/-- _law_same_ends -/
def B27 : SS := (.cons (.iff (.hold (.or_ (.notv (.isi (.v 0) [.list_])) (.cmp .ne (.v 0) (.v 1)))) (.cons (.ret (.c (.bl false))) .nil) .nil) (.cons (.asg (.nm 2) (.lc (.nm 3) [3] (.seq (.v 0)) (.some (.cmp .isnot (.v 3) (.c .non))) (.v 3))) (.cons (.ret (.cmp .eq (.lc (.nm 3) [3] (.seq (.v 2)) (.some (.or_ (.isi (.v 3) [.bool_]) (.notv (.isi (.v 3) [.int_])))) (.v 3)) (.lst .nil))) .nil)))
theorem f27 : pg.fns 27 = some ⟨4, 2, B27⟩ := by kernel_rfl
@[simp] theorem mu27 : pg.tab.muts 27 = false := by kernel_rfl
theorem run27 (k : Nat) (a0 a1 : D) : rn (k + 1) 27 [a0, a1] = fin false (ess T (rn k) M 1000 B27 [.ow a0, .ow a1, .no, .no]) := by
  rw [run_eq f27 rfl, mu27]
  rfl

/-- _law_point -/
def B28 : SS := (.cons (.asg (.nm 4) (.lst .nil)) (.cons (.for_ (.nm 5) (.rng (.c (.int 0)) (.v 1)) (.cons (.asg (.nm 6) (.bin .sub (.bin .mod (.bi .int_ (.cons (.bin .add (.bin .add (.call 17 (.cons (.v 0) (.cons (.c (.int 7)) .nil))) (.c (.int 4))) (.bin .mul (.v 3) (.bin .add (.v 5) (.c (.int 1))))) .nil)) (.c (.int 7))) (.c (.int 3)))) (.cons (.iff (.hold (.v 2)) (.cons (.asg (.nm 7) (.lst (.cons (.c (.int 1000)) (.cons (.neg (.c (.int 1000))) (.cons (.v 6) (.cons (.bin .sub (.call 17 (.cons (.v 0) (.cons (.c (.int 2001)) .nil))) (.c (.int 1000))) .nil)))))) (.cons (.asg (.nm 6) (.ix (.v 7) (.call 17 (.cons (.v 0) (.cons (.c (.int 4)) .nil))))) .nil)) .nil) (.cons (.ex (.meth .append 4 (.cons (.v 6) .nil))) .nil)))) (.cons (.ret (.v 4)) .nil)))
theorem f28 : pg.fns 28 = some ⟨8, 4, B28⟩ := by kernel_rfl
@[simp] theorem mu28 : pg.tab.muts 28 = true := by kernel_rfl
theorem run28 (k : Nat) (a0 a1 a2 a3 : D) : rn (k + 1) 28 [a0, a1, a2, a3] = fin true (ess T (rn k) M 1000 B28 [.ow a0, .ow a1, .ow a2, .ow a3, .no, .no, .no, .no]) := by
  rw [run_eq f28 rfl, mu28]
  rfl

/-- _law_other_form -/
def B29 : SS := (.cons (.iff (.hold (.isi (.v 0) [.list_])) (.cons (.ret (.bi .tuple_ (.cons (.v 0) .nil))) .nil) .nil) (.cons (.iff (.hold (.isi (.v 0) [.tuple_])) (.cons (.ret (.bi .list_ (.cons (.v 0) .nil))) .nil) .nil) (.cons (.ret (.v 0)) .nil)))
theorem f29 : pg.fns 29 = some ⟨1, 1, B29⟩ := by kernel_rfl
@[simp] theorem mu29 : pg.tab.muts 29 = false := by kernel_rfl
theorem run29 (k : Nat) (a0 : D) : rn (k + 1) 29 [a0] = fin false (ess T (rn k) M 1000 B29 [.ow a0]) := by
  rw [run_eq f29 rfl, mu29]
  rfl

/-- _law_right -/
def B30 : SS := (.cons (.asg (.nm 3) (.call 25 (.cons (.v 1) (.cons (.v 2) .nil)))) (.cons (.asg (.nm 4) (.lst (.cons (.tup (.cons (.c (.int 0)) (.cons (.v 1) (.cons (.v 2) (.cons (.call 21 (.cons (.v 0) .nil)) .nil))))) (.cons (.tup (.cons (.c (.int 1)) (.cons (.v 1) (.cons (.v 2) (.cons (.call 22 (.cons (.v 0) .nil)) .nil))))) .nil)))) (.cons (.ex (.meth .append 4 (.cons (.tup (.cons (.c (.int 5)) (.cons (.v 1) (.cons (.v 2) (.cons (.v 3) .nil))))) .nil))) (.cons (.ex (.meth .append 4 (.cons (.tup (.cons (.c (.int 5)) (.cons (.v 2) (.cons (.v 1) (.cons (.v 3) .nil))))) .nil))) (.cons (.ex (.meth .append 4 (.cons (.tup (.cons (.c (.int 5)) (.cons (.v 2) (.cons (.v 2) (.cons (.c (.int 0)) .nil))))) .nil))) (.cons (.for_ (.tup [5, 6]) (.zip (.cons (.call 21 (.cons (.v 0) .nil)) (.cons (.call 23 (.cons (.v 1) .nil)) .nil))) (.cons (.ex (.meth .append 4 (.cons (.tup (.cons (.c (.int 2)) (.cons (.v 1) (.cons (.v 5) (.cons (.v 6) .nil))))) .nil))) .nil)) (.cons (.for_ (.tup [5, 6]) (.zip (.cons (.call 21 (.cons (.v 0) .nil)) (.cons (.call 23 (.cons (.v 2) .nil)) .nil))) (.cons (.ex (.meth .append 4 (.cons (.tup (.cons (.c (.int 2)) (.cons (.v 2) (.cons (.v 5) (.cons (.v 6) .nil))))) .nil))) .nil)) (.cons (.for_ (.nm 7) (.seq (.call 22 (.cons (.v 0) .nil))) (.cons (.ex (.meth .append 4 (.cons (.tup (.cons (.c (.int 3)) (.cons (.v 1) (.cons (.v 7) (.cons (.call 24 (.cons (.v 1) (.cons (.v 7) .nil))) .nil))))) .nil))) .nil)) (.cons (.for_ (.nm 8) (.rng (.c (.int 0)) (.c (.int 2))) (.cons (.for_ (.tup [9, 6, 10, 11]) (.seq (.v 4)) (.cons (.iff (.hold (.cmp .eq (.v 8) (.c (.int 1)))) (.cons (.asg (.nm 6) (.call 29 (.cons (.v 6) .nil))) (.cons (.asg (.nm 10) (.call 29 (.cons (.v 10) .nil))) .nil)) .nil) (.cons (.asg (.nm 12) (.call 20 (.cons (.v 9) (.cons (.v 0) (.cons (.v 6) (.cons (.v 10) .nil)))))) (.cons (.iff (.hold (.notv (.call 18 (.cons (.v 12) (.cons (.tup (.cons (.c (.str "told")) (.cons (.v 11) .nil))) .nil))))) (.cons (.ret (.c (.bl false))) .nil) .nil) (.cons (.iff (.hold (.cmp .lt (.v 9) (.c (.int 2)))) (.cons (.ex (.methP .append 12 [1] [(.int 7)])) .nil) .nil) .nil))))) .nil)) (.cons (.ret (.c (.bl true))) .nil))))))))))
theorem f30 : pg.fns 30 = some ⟨13, 3, B30⟩ := by kernel_rfl
@[simp] theorem mu30 : pg.tab.muts 30 = false := by kernel_rfl
theorem run30 (k : Nat) (a0 a1 a2 : D) : rn (k + 1) 30 [a0, a1, a2] = fin false (ess T (rn k) M 1000 B30 [.ow a0, .ow a1, .ow a2, .no, .no, .no, .no, .no, .no, .no, .no, .no, .no]) := by
  rw [run_eq f30 rfl, mu30]
  rfl

/-- _law_right_sides -/
def B31 : SS := (.cons (.for_ (.tup [3, 4]) (.seq (.lst (.cons (.tup (.cons (.v 1) (.cons (.v 2) .nil))) (.cons (.tup (.cons (.v 2) (.cons (.v 1) .nil))) (.cons (.tup (.cons (.bi .tuple_ (.cons (.v 1) .nil)) (.cons (.bi .tuple_ (.cons (.v 2) .nil)) .nil))) .nil))))) (.cons (.asg (.tup [5, 6]) (.call 26 (.cons (.v 3) (.cons (.v 4) .nil)))) (.cons (.asg (.nm 7) (.call 20 (.cons (.c (.int 4)) (.cons (.v 0) (.cons (.v 3) (.cons (.v 4) .nil)))))) (.cons (.iff (.hold (.or_ (.cmp .ne (.ix (.v 7) (.c (.int 0))) (.c (.str "told"))) (.notv (.isi (.ix (.v 7) (.c (.int 1))) [.tuple_])))) (.cons (.ret (.c (.bl false))) .nil) .nil) (.cons (.iff (.hold (.cmp .ne (.bi .len (.cons (.ix (.v 7) (.c (.int 1))) .nil)) (.c (.int 2)))) (.cons (.ret (.c (.bl false))) .nil) .nil) (.cons (.iff (.hold (.notv (.call 27 (.cons (.ix (.ix (.v 7) (.c (.int 1))) (.c (.int 0))) (.cons (.v 5) .nil))))) (.cons (.ret (.c (.bl false))) .nil) .nil) (.cons (.iff (.hold (.notv (.call 27 (.cons (.ix (.ix (.v 7) (.c (.int 1))) (.c (.int 1))) (.cons (.v 6) .nil))))) (.cons (.ret (.c (.bl false))) .nil) .nil) (.cons (.ex (.methP .append 7 [1, 0] [(.int 7)])) (.cons (.ex (.methP .append 7 [1, 1] [(.int 7)])) .nil))))))))) (.cons (.ret (.c (.bl true))) .nil))
theorem f31 : pg.fns 31 = some ⟨8, 3, B31⟩ := by kernel_rfl
@[simp] theorem mu31 : pg.tab.muts 31 = false := by kernel_rfl
theorem run31 (k : Nat) (a0 a1 a2 : D) : rn (k + 1) 31 [a0, a1, a2] = fin false (ess T (rn k) M 1000 B31 [.ow a0, .ow a1, .ow a2, .no, .no, .no, .no, .no]) := by
  rw [run_eq f31 rfl, mu31]
  rfl

/-- _law_right_neighbours -/
def B32 : SS := (.cons (.asg (.nm 3) (.call 25 (.cons (.v 1) (.cons (.v 2) .nil)))) (.cons (.for_ (.nm 4) (.seq (.call 22 (.cons (.v 0) .nil))) (.cons (.asg (.nm 5) (.call 24 (.cons (.v 1) (.cons (.v 4) .nil)))) (.cons (.asg (.nm 6) (.tup (.cons (.c (.str "told")) (.cons (.call 25 (.cons (.v 5) (.cons (.v 2) .nil))) .nil)))) (.cons (.asg (.nm 7) (.lc (.nm 9) [9] (.seq (.v 5)) (.some (.cmp .gt (.bi .abs (.cons (.v 9) .nil)) (.c (.int 1000)))) (.v 9))) (.cons (.iff (.hold (.cmp .gt (.bi .len (.cons (.v 7) .nil)) (.c (.int 0)))) (.cons (.asg (.nm 6) (.tup (.cons (.c (.str "refused")) (.cons (.c (.str "number")) (.cons (.ix (.v 7) (.c (.int 0))) .nil))))) .nil) .nil) (.cons (.asg (.nm 8) (.call 20 (.cons (.c (.int 5)) (.cons (.v 0) (.cons (.v 5) (.cons (.v 2) .nil)))))) (.cons (.iff (.hold (.notv (.call 18 (.cons (.v 8) (.cons (.v 6) .nil))))) (.cons (.ret (.c (.bl false))) .nil) .nil) (.cons (.iff (.hold (.and_ (.cmp .eq (.ix (.v 8) (.c (.int 0))) (.c (.str "told"))) (.cmp .gt (.bi .abs (.cons (.bin .sub (.ix (.v 8) (.c (.int 1))) (.v 3)) .nil)) (.c (.int 1))))) (.cons (.ret (.c (.bl false))) .nil) .nil) .nil)))))))) (.cons (.ret (.c (.bl true))) .nil)))
theorem f32 : pg.fns 32 = some ⟨10, 3, B32⟩ := by kernel_rfl
@[simp] theorem mu32 : pg.tab.muts 32 = false := by kernel_rfl
theorem run32 (k : Nat) (a0 a1 a2 : D) : rn (k + 1) 32 [a0, a1, a2] = fin false (ess T (rn k) M 1000 B32 [.ow a0, .ow a1, .ow a2, .no, .no, .no, .no, .no, .no, .no]) := by
  rw [run_eq f32 rfl, mu32]
  rfl

/-- _law_right_walk -/
def B33 : SS := (.cons (.asg (.tup [3, 4]) (.call 26 (.cons (.v 1) (.cons (.v 2) .nil)))) (.cons (.asg (.nm 5) (.bi .tuple_ (.cons (.v 1) .nil))) (.cons (.for_ (.nm 6) (.rng (.c (.int 0)) (.bi .min_ (.cons (.bi .len (.cons (.v 3) .nil)) (.cons (.c (.int 60)) .nil)))) (.cons (.asg (.nm 7) (.tup (.cons (.ix (.v 3) (.v 6)) (.cons (.ix (.v 4) (.v 6)) .nil)))) (.cons (.asg (.nm 8) (.call 20 (.cons (.c (.int 3)) (.cons (.v 0) (.cons (.v 5) (.cons (.v 7) .nil)))))) (.cons (.asg (.nm 5) (.call 24 (.cons (.v 5) (.cons (.v 7) .nil)))) (.cons (.iff (.hold (.notv (.call 18 (.cons (.v 8) (.cons (.tup (.cons (.c (.str "told")) (.cons (.v 5) .nil))) .nil))))) (.cons (.ret (.c (.bl false))) .nil) .nil) (.cons (.asg (.nm 8) (.call 20 (.cons (.c (.int 5)) (.cons (.v 0) (.cons (.ix (.v 8) (.c (.int 1))) (.cons (.v 2) .nil)))))) (.cons (.iff (.hold (.notv (.call 18 (.cons (.v 8) (.cons (.tup (.cons (.c (.str "told")) (.cons (.bin .sub (.bin .sub (.bi .len (.cons (.v 3) .nil)) (.c (.int 1))) (.v 6)) .nil))) .nil))))) (.cons (.ret (.c (.bl false))) .nil) .nil) .nil))))))) (.cons (.ret (.or_ (.cmp .gt (.bi .len (.cons (.v 3) .nil)) (.c (.int 60))) (.cmp .eq (.v 5) (.bi .tuple_ (.cons (.v 2) .nil))))) .nil))))
theorem f33 : pg.fns 33 = some ⟨9, 3, B33⟩ := by kernel_rfl
@[simp] theorem mu33 : pg.tab.muts 33 = false := by kernel_rfl
theorem run33 (k : Nat) (a0 a1 a2 : D) : rn (k + 1) 33 [a0, a1, a2] = fin false (ess T (rn k) M 1000 B33 [.ow a0, .ow a1, .ow a2, .no, .no, .no, .no, .no, .no]) := by
  rw [run_eq f33 rfl, mu33]
  rfl

/-- _law_wrong_rows -/
def B34 : SS := (.cons (.asg (.nm 4) (.ix (.lst (.cons (.c (.int 7)) (.cons (.neg (.c (.int 1))) (.cons (.c (.int 8)) (.cons (.c (.int 60)) .nil))))) (.ix (.v 3) (.c (.int 0))))) (.cons (.asg (.nm 5) (.ix (.lst (.cons (.c (.int 1001)) (.cons (.neg (.c (.int 1001))) (.cons (.bin .pow (.c (.int 10)) (.c (.int 9))) (.cons (.neg (.bin .pow (.c (.int 10)) (.c (.int 20)))) .nil))))) (.ix (.v 3) (.c (.int 1))))) (.cons (.asg (.nm 6) (.ix (.lst (.cons (.v 0) (.cons (.neg (.c (.int 1))) (.cons (.bin .add (.v 0) (.c (.int 7))) (.cons (.bin .pow (.c (.int 10)) (.c (.int 9))) .nil))))) (.ix (.v 3) (.c (.int 2))))) (.cons (.asg (.nm 7) (.bin .add (.v 1) (.lst (.cons (.v 5) .nil)))) (.cons (.asg (.nm 8) (.bin .add (.v 2) (.lst (.cons (.v 5) .nil)))) (.cons (.asg (.nm 9) (.lst (.cons (.v 2) (.cons (.v 2) (.cons (.v 6) (.cons (.tup (.cons (.v 6) (.cons (.v 6) .nil))) (.cons (.v 8) (.cons (.v 8) .nil)))))))) (.cons (.asg (.nm 10) (.lst .nil)) (.cons (.for_ (.tup [11, 12]) (.enum (.v 9)) (.cons (.ex (.meth .append 10 (.cons (.tup (.cons (.v 11) (.cons (.v 4) (.cons (.v 7) (.cons (.v 12) (.cons (.tup (.cons (.c (.str "refused")) (.cons (.c (.str "number")) (.cons (.v 4) .nil)))) .nil)))))) .nil))) (.cons (.iff (.hold (.cmp .gt (.v 11) (.c (.int 1)))) (.cons (.ex (.meth .append 10 (.cons (.tup (.cons (.v 11) (.cons (.v 0) (.cons (.v 7) (.cons (.v 12) (.cons (.tup (.cons (.c (.str "refused")) (.cons (.c (.str "size")) (.cons (.bin .add (.v 0) (.c (.int 1))) .nil)))) .nil)))))) .nil))) .nil) .nil) (.cons (.iff (.hold (.cmp .gt (.v 11) (.c (.int 3)))) (.cons (.ex (.meth .append 10 (.cons (.tup (.cons (.v 11) (.cons (.v 0) (.cons (.v 1) (.cons (.v 12) (.cons (.tup (.cons (.c (.str "refused")) (.cons (.c (.str "size")) (.cons (.bin .add (.v 0) (.c (.int 1))) .nil)))) .nil)))))) .nil))) .nil) .nil) .nil)))) (.cons (.ex (.meth .append 10 (.cons (.tup (.cons (.c (.int 2)) (.cons (.v 0) (.cons (.v 1) (.cons (.v 6) (.cons (.tup (.cons (.c (.str "refused")) (.cons (.c (.str "end")) (.cons (.v 6) .nil)))) .nil)))))) .nil))) (.cons (.ex (.meth .append 10 (.cons (.tup (.cons (.c (.int 3)) (.cons (.v 0) (.cons (.v 1) (.cons (.tup (.cons (.v 6) (.cons (.c .non) .nil))) (.cons (.tup (.cons (.c (.str "refused")) (.cons (.c (.str "end")) (.cons (.v 6) .nil)))) .nil)))))) .nil))) (.cons (.ex (.meth .append 10 (.cons (.tup (.cons (.c (.int 3)) (.cons (.v 0) (.cons (.v 1) (.cons (.lst (.cons (.c .non) (.cons (.v 6) .nil))) (.cons (.tup (.cons (.c (.str "refused")) (.cons (.c (.str "end")) (.cons (.v 6) .nil)))) .nil)))))) .nil))) (.cons (.ex (.meth .append 10 (.cons (.tup (.cons (.c (.int 3)) (.cons (.v 0) (.cons (.v 1) (.cons (.tup (.cons (.v 6) (.cons (.bin .add (.v 0) (.c (.int 3))) .nil))) (.cons (.tup (.cons (.c (.str "refused")) (.cons (.c (.str "end")) (.cons (.v 6) .nil)))) .nil)))))) .nil))) (.cons (.ex (.meth .append 10 (.cons (.tup (.cons (.c (.int 3)) (.cons (.v 0) (.cons (.v 1) (.cons (.tup (.cons (.bin .add (.v 0) (.c (.int 3))) (.cons (.v 6) .nil))) (.cons (.tup (.cons (.c (.str "refused")) (.cons (.c (.str "end")) (.cons (.bin .add (.v 0) (.c (.int 3))) .nil)))) .nil)))))) .nil))) (.cons (.for_ (.nm 13) (.seq (.call 21 (.cons (.v 0) .nil))) (.cons (.ex (.meth .append 10 (.cons (.tup (.cons (.c (.int 3)) (.cons (.v 0) (.cons (.v 1) (.cons (.tup (.cons (.v 13) (.cons (.v 13) .nil))) (.cons (.tup (.cons (.c (.str "refused")) (.cons (.c (.str "end")) (.cons (.v 13) .nil)))) .nil)))))) .nil))) .nil)) (.cons (.ret (.v 10)) .nil)))))))))))))))
theorem f34 : pg.fns 34 = some ⟨14, 4, B34⟩ := by kernel_rfl
@[simp] theorem mu34 : pg.tab.muts 34 = false := by kernel_rfl
theorem run34 (k : Nat) (a0 a1 a2 a3 : D) : rn (k + 1) 34 [a0, a1, a2, a3] = fin false (ess T (rn k) M 1000 B34 [.ow a0, .ow a1, .ow a2, .ow a3, .no, .no, .no, .no, .no, .no, .no, .no, .no, .no]) := by
  rw [run_eq f34 rfl, mu34]
  rfl

/-- _law_edge_rows -/
def B35 : SS := (.cons (.asg (.nm 4) (.ix (.lst (.cons (.c (.int 1001)) (.cons (.neg (.c (.int 1001))) (.cons (.bin .pow (.c (.int 10)) (.c (.int 9))) (.cons (.neg (.bin .pow (.c (.int 10)) (.c (.int 20)))) .nil))))) (.ix (.v 3) (.c (.int 1))))) (.cons (.asg (.nm 5) (.ix (.lst (.cons (.v 0) (.cons (.neg (.c (.int 1))) (.cons (.bin .add (.v 0) (.c (.int 7))) (.cons (.bin .pow (.c (.int 10)) (.c (.int 9))) .nil))))) (.ix (.v 3) (.c (.int 2))))) (.cons (.asg (.nm 6) (.ix (.lst (.cons (.c (.int 1000)) (.cons (.neg (.c (.int 1000))) (.cons (.c (.int 1000)) (.cons (.neg (.c (.int 1000))) .nil))))) (.ix (.v 3) (.c (.int 1))))) (.cons (.asg (.nm 7) (.ix (.v 3) (.c (.int 3)))) (.cons (.asg (.nm 8) (.bin .add (.bin .add (.sl (.v 1) .none (.some (.v 7))) (.lst (.cons (.v 4) .nil))) (.lc (.nm 16) [16] (.rng (.bin .add (.v 7) (.c (.int 1))) (.v 0)) .none (.neg (.v 4))))) (.cons (.asg (.nm 9) (.bin .add (.bin .add (.sl (.v 2) .none (.some (.v 7))) (.lst (.cons (.neg (.v 4)) .nil))) (.sl (.v 2) (.some (.bin .add (.v 7) (.c (.int 1)))) .none))) (.cons (.asg (.nm 10) (.bin .add (.bin .add (.sl (.v 1) .none (.some (.v 7))) (.lst (.cons (.v 6) .nil))) (.sl (.v 1) (.some (.bin .add (.v 7) (.c (.int 1)))) .none))) (.cons (.asg (.nm 11) (.lst (.cons (.c (.int 0)) (.cons (.c (.int 0)) (.cons (.v 5) (.cons (.tup (.cons (.v 5) (.cons (.v 5) .nil))) (.cons (.v 9) (.cons (.v 9) .nil)))))))) (.cons (.asg (.nm 12) (.lst .nil)) (.cons (.for_ (.nm 13) (.rng (.c (.int 2)) (.c (.int 6))) (.cons (.asg (.nm 14) (.ix (.v 11) (.v 13))) (.cons (.ex (.meth .append 12 (.cons (.tup (.cons (.v 13) (.cons (.v 0) (.cons (.v 8) (.cons (.v 14) (.cons (.tup (.cons (.c (.str "refused")) (.cons (.c (.str "number")) (.cons (.v 4) .nil)))) .nil)))))) .nil))) (.cons (.ex (.meth .append 12 (.cons (.tup (.cons (.v 13) (.cons (.v 0) (.cons (.sl (.v 1) (.some (.c (.int 1))) .none) (.cons (.v 14) (.cons (.tup (.cons (.c (.str "refused")) (.cons (.c (.str "size")) (.cons (.bin .sub (.v 0) (.c (.int 1))) .nil)))) .nil)))))) .nil))) .nil)))) (.cons (.for_ (.nm 13) (.rng (.c (.int 4)) (.c (.int 6))) (.cons (.ex (.meth .append 12 (.cons (.tup (.cons (.v 13) (.cons (.v 0) (.cons (.v 1) (.cons (.v 9) (.cons (.tup (.cons (.c (.str "refused")) (.cons (.c (.str "number")) (.cons (.neg (.v 4)) .nil)))) .nil)))))) .nil))) (.cons (.ex (.meth .append 12 (.cons (.tup (.cons (.v 13) (.cons (.v 0) (.cons (.v 10) (.cons (.sl (.v 2) (.some (.c (.int 1))) .none) (.cons (.tup (.cons (.c (.str "refused")) (.cons (.c (.str "size")) (.cons (.bin .sub (.v 0) (.c (.int 1))) .nil)))) .nil)))))) .nil))) .nil))) (.cons (.ex (.meth .append 12 (.cons (.tup (.cons (.c (.int 2)) (.cons (.v 0) (.cons (.v 10) (.cons (.v 7) (.cons (.tup (.cons (.c (.str "told")) (.cons (.v 6) .nil))) .nil)))))) .nil))) (.cons (.ex (.meth .append 12 (.cons (.tup (.cons (.c (.int 5)) (.cons (.v 0) (.cons (.v 10) (.cons (.v 10) (.cons (.tup (.cons (.c (.str "told")) (.cons (.c (.int 0)) .nil))) .nil)))))) .nil))) (.cons (.ex (.meth .append 12 (.cons (.tup (.cons (.c (.int 4)) (.cons (.v 0) (.cons (.v 10) (.cons (.v 10) (.cons (.tup (.cons (.c (.str "told")) (.cons (.tup (.cons (.lst .nil) (.cons (.lst .nil) .nil))) .nil))) .nil)))))) .nil))) (.cons (.for_ (.nm 15) (.seq (.lst (.cons (.tup (.cons (.c .non) (.cons (.v 7) .nil))) (.cons (.tup (.cons (.v 7) (.cons (.c .non) .nil))) .nil)))) (.cons (.ex (.meth .append 12 (.cons (.tup (.cons (.c (.int 3)) (.cons (.v 0) (.cons (.v 10) (.cons (.v 15) (.cons (.tup (.cons (.c (.str "told")) (.cons (.call 24 (.cons (.v 10) (.cons (.v 15) .nil))) .nil))) .nil)))))) .nil))) .nil)) (.cons (.ret (.v 12)) .nil))))))))))))))))
theorem f35 : pg.fns 35 = some ⟨17, 4, B35⟩ := by kernel_rfl
@[simp] theorem mu35 : pg.tab.muts 35 = false := by kernel_rfl
theorem run35 (k : Nat) (a0 a1 a2 a3 : D) : rn (k + 1) 35 [a0, a1, a2, a3] = fin false (ess T (rn k) M 1000 B35 [.ow a0, .ow a1, .ow a2, .ow a3, .no, .no, .no, .no, .no, .no, .no, .no, .no, .no, .no, .no, .no]) := by
  rw [run_eq f35 rfl, mu35]
  rfl

/-- law -/
def B36 : SS := (.cons (.asg (.nm 1) (.call 16 (.cons (.v 0) .nil))) (.cons (.asg (.nm 2) (.call 17 (.cons (.v 1) (.cons (.c (.int 8)) .nil)))) (.cons (.asg (.nm 3) (.ix (.lst (.cons (.c (.int 2)) (.cons (.c (.int 3)) (.cons (.c (.int 1)) (.cons (.c (.int 4)) (.cons (.c (.int 0)) (.cons (.c (.int 6)) (.cons (.c (.int 5)) .nil)))))))) (.call 17 (.cons (.v 1) (.cons (.c (.int 7)) .nil))))) (.cons (.asg (.nm 4) (.lc (.nm 14) [14] (.rng (.c (.int 0)) (.c (.int 3))) .none (.call 17 (.cons (.v 1) (.cons (.c (.int 4)) .nil))))) (.cons (.ex (.meth .append 4 (.cons (.call 17 (.cons (.v 1) (.cons (.bi .max_ (.cons (.c (.int 1)) (.cons (.v 3) .nil))) .nil))) .nil))) (.cons (.asg (.nm 5) (.call 28 (.cons (.v 1) (.cons (.v 3) (.cons (.cmp .gt (.v 2) (.c (.int 5))) (.cons (.c (.int 0)) .nil)))))) (.cons (.asg (.nm 6) (.call 28 (.cons (.v 1) (.cons (.v 3) (.cons (.cmp .gt (.v 2) (.c (.int 5))) (.cons (.c (.int 3)) .nil)))))) (.cons (.iff (.hold (.or_ (.cmp .eq (.v 2) (.c (.int 3))) (.cmp .eq (.v 2) (.c (.int 4))))) (.cons (.asg (.nm 6) (.lc (.nm 7) [7] (.seq (.v 5)) .none (.bin .sub (.bin .add (.v 7) (.call 17 (.cons (.v 1) (.cons (.c (.int 3)) .nil)))) (.c (.int 1))))) .nil) .nil) (.cons (.iff (.hold (.cmp .eq (.v 2) (.c (.int 5)))) (.cons (.asg (.nm 6) (.bi .list_ (.cons (.v 5) .nil))) .nil) .nil) (.cons (.asg (.nm 8) (.tup (.cons (.bi .tuple_ (.cons (.v 5) .nil)) (.cons (.bi .tuple_ (.cons (.v 6) .nil)) .nil)))) (.cons (.iff (.hold (.or_ (.notv (.call 18 (.cons (.c (.int 6)) (.cons (.c (.int 6)) .nil)))) (.notv (.call 30 (.cons (.v 3) (.cons (.v 5) (.cons (.v 6) .nil))))))) (.cons (.ret (.c (.bl false))) .nil) .nil) (.cons (.iff (.hold (.or_ (.notv (.call 31 (.cons (.v 3) (.cons (.v 5) (.cons (.v 6) .nil))))) (.notv (.call 32 (.cons (.v 3) (.cons (.v 5) (.cons (.v 6) .nil))))))) (.cons (.ret (.c (.bl false))) .nil) .nil) (.cons (.iff (.hold (.notv (.call 33 (.cons (.v 3) (.cons (.v 5) (.cons (.v 6) .nil)))))) (.cons (.ret (.c (.bl false))) .nil) .nil) (.cons (.asg (.nm 9) (.call 34 (.cons (.v 3) (.cons (.v 5) (.cons (.v 6) (.cons (.v 4) .nil)))))) (.cons (.iff (.hold (.cmp .gt (.v 3) (.c (.int 0)))) (.cons (.asg (.nm 9) (.bin .add (.v 9) (.call 35 (.cons (.v 3) (.cons (.v 5) (.cons (.v 6) (.cons (.v 4) .nil))))))) .nil) .nil) (.cons (.for_ (.tup [10, 11, 7, 12, 13]) (.seq (.v 9)) (.cons (.iff (.hold (.notv (.call 18 (.cons (.call 20 (.cons (.v 10) (.cons (.v 11) (.cons (.v 7) (.cons (.v 12) .nil))))) (.cons (.v 13) .nil))))) (.cons (.ret (.c (.bl false))) .nil) .nil) .nil)) (.cons (.ret (.cmp .eq (.tup (.cons (.bi .tuple_ (.cons (.v 5) .nil)) (.cons (.bi .tuple_ (.cons (.v 6) .nil)) .nil))) (.v 8))) .nil)))))))))))))))))
theorem f36 : pg.fns 36 = some ⟨15, 1, B36⟩ := by kernel_rfl
@[simp] theorem mu36 : pg.tab.muts 36 = false := by kernel_rfl
theorem run36 (k : Nat) (a0 : D) : rn (k + 1) 36 [a0] = fin false (ess T (rn k) M 1000 B36 [.ow a0, .no, .no, .no, .no, .no, .no, .no, .no, .no, .no, .no, .no, .no, .no]) := by
  rw [run_eq f36 rfl, mu36]
  rfl

end K01
end
section
set_option Elab.async false
set_option linter.all false
set_option maxRecDepth 100000
namespace K01
open PySem NB NBE
@[simp] theorem M1 (p : P) : M 1 [p] = .ok [p] := by kernel_rfl
@[simp] theorem M2 (p : P) : M 2 [p] = .ok [p] := by kernel_rfl
@[simp] theorem M3 (p : P) : M 3 [p] = .ok [p] := by kernel_rfl
theorem look_number (k : Nat) (n lo hi : Int) : rn (k + 1) 0 [.val (.int n), .val (.int lo), .val (.int hi)] = if lo ≤ n ∧ n ≤ hi then .ok (.val (.int n), []) else .exc 2 [.int n] := by
  rw [run0]
  simp [B0]
  split <;> split <;> simp_all <;> omega
theorem look_count (k : Nat) (n lo hi : Int) : rn (k + 1) 1 [.val (.int n), .val (.int lo), .val (.int hi)] = if lo ≤ n ∧ n ≤ hi then .ok (.val (.int n), []) else .exc 1 [.int n] := by
  rw [run1]
  simp [B1]
  split <;> split <;> simp_all <;> omega
theorem look_index (k : Nat) (c i : Int) : rn (k + 1) 4 [.val (.int c), .val (.int i)] = if 0 ≤ i ∧ i < c then .ok (.val (.int i), []) else .exc 3 [.int i] := by
  rw [run4]
  simp [B4]
  split <;> split <;> simp_all <;> omega
def endOk (w : Int) : Option Int → Bool
  | none => true
  | some i => decide (0 ≤ i) && decide (i < w)
theorem look_end (k : Nat) (w : Int) (e : Option Int) : rn (k + 2) 5 [.val (.int w), .val (EP e)] = if endOk w e then .ok (.val (EP e), []) else .exc 3 [EP e] := by
  rw [run5]
  cases e with
  | none => simp [B5, endOk]
  | some i => simp [B5, look_index, endOk]
/-- a list of ints looked at, one by one -/
def lookL (lo hi : Int) (xs : List Int) : NB.R (List NB.D) := match xs.find? (fun x => !(decide (lo ≤ x) && decide (x ≤ hi))) with
  | some x => .exc 2 [.int x]
  | none => .ok (VI xs)
def lookH (lo hi : Int) : P → NB.R (Option NB.D)
  | .int x => if lo ≤ x ∧ x ≤ hi then .ok (some (.val (.int x))) else .exc 2 [.int x]
  | _ => .stuck
theorem trav_look (lo hi : Int) (xs : List Int) : travR (lookH lo hi) (PI xs) = lookL lo hi xs := by
  induction xs with
  | nil => rfl
  | cons x xs ih =>
    simp only [PI_cons, travR, lookH, lookL, List.find?_cons]
    by_cases h : lo ≤ x ∧ x ≤ hi
    · simp only [h, and_self, if_true, R.ok_bind, decide_true, Bool.and_self, Bool.not_true]
      rw [ih]
      unfold lookL
      cases xs.find? _ <;> rfl
    · rw [if_neg h]
      have : (!(decide (lo ≤ x) && decide (x ≤ hi))) = true := by simp; omega
      rw [this]
      rfl
theorem look_lc (k : Nat) (lo hi : Int) (xs : List Int) (s0 s1 : Sl) : lcLoop (.nm 4) [4] (lcTurn T (rn (k + 1)) .none (.call 0 (.cons (.v 4) (.cons (.v 2) (.cons (.v 3) .nil))))) (PI xs) [s0, s1, .ow (.val (.int lo)), .ow (.val (.int hi)), .no] = lookL lo hi xs >>= fun ds => .ok (ds, [s0, s1, .ow (.val (.int lo)), .ow (.val (.int hi)), .no]) := by
  rw [lc_trav (lookH lo hi), trav_look]
  · intro p c fs h
    cases p with
    | int x =>
      simp only [lookH] at h
      split at h
      · cases h
      · rename_i hx
        cases h
        refine ⟨_, rfl, ?_⟩
        simp [lcTurn, look_number, hx]
    | _ => cases h
  · intro p hp o h
    obtain ⟨x, _, rfl⟩ := List.mem_map.mp (show p ∈ xs.map P.int from hp)
    simp only [lookH] at h
    split at h
    · rename_i hx
      cases h
      exact ⟨_, _, rfl, by simp [lcTurn, look_number, hx]; rfl, rfl⟩
    · cases h
  · intro p hp h
    obtain ⟨x, _, rfl⟩ := List.mem_map.mp (show p ∈ xs.map P.int from hp)
    simp only [lookH] at h
    split at h <;> cases h
def lookN (c lo hi : Int) (xs : List Int) : NB.R (NB.D × List NB.D) := if c = xs.length then lookL lo hi xs >>= fun ds => .ok (.tup ds, []) else .exc 1 [.int xs.length]
theorem lookL_len {lo hi : Int} {xs : List Int} {ds : List NB.D} (h : lookL lo hi xs = .ok ds) : ds = VI xs := by
  unfold lookL at h
  split at h
  · cases h
  · cases h; rfl
theorem look_numbers (k : Nat) (c lo hi : Int) (xs : List Int) (p : P) (hp : IsPt p xs) (hl : xs.length ≤ cap) : rn (k + 2) 2 [.val (.int c), .val p, .val (.int lo), .val (.int hi)] = lookN c lo hi xs := by
  rw [run2]
  unfold lookN
  by_cases hc : c = xs.length
  · subst hc
    cases hp <;> simp [B2, look_count, hl, look_lc] <;> (
      cases e : lookL lo hi xs with
      | stuck => unfold lookL at e; split at e <;> cases e
      | exc c fs => simp
      | ok ds =>
        have := lookL_len e
        subst this
        simp [hl])
  · have : ¬ (c ≤ xs.length ∧ (xs.length : Int) ≤ c) := by omega
    cases hp <;> simp [B2, look_count, this, hc]
end K01
end
section
set_option Elab.async false
set_option linter.all false
set_option maxRecDepth 100000
namespace K01
open PySem NB NBE
theorem lookL_cases (lo hi : Int) (xs : List Int) : lookL lo hi xs = .ok (VI xs) ∨ ∃ x, lookL lo hi xs = .exc 2 [.int x] := by
  unfold lookL
  split
  · exact .inr ⟨_, rfl⟩
  · exact .inl rfl
theorem lookN_cases (c lo hi : Int) (xs : List Int) : lookN c lo hi xs = .ok (.tup (VI xs), []) ∧ c = xs.length ∨ ∃ e x, lookN c lo hi xs = .exc e [.int x] := by
  unfold lookN
  split
  · rename_i h
    rcases lookL_cases lo hi xs with e | ⟨x, e⟩
    · exact .inl ⟨by rw [e]; rfl, h⟩
    · exact .inr ⟨2, x, by rw [e]; rfl⟩
  · exact .inr ⟨1, _, rfl⟩
abbrev lookP (w : Int) (xs : List Int) := lookN w (-1000) 1000 xs
theorem look_point (k : Nat) (w : Int) (xs : List Int) (p : P) (hp : IsPt p xs) (hl : xs.length ≤ cap) : rn (k + 3) 3 [.val (.int w), .val p] = lookP w xs := by
  rw [run3]
  simp [B3, look_numbers _ _ _ _ _ _ hp hl]
  rcases lookN_cases w (-1000) 1000 xs with ⟨e, _⟩ | ⟨c, x, e⟩ <;> simp [e]
def lookS (w : Int) (a b : Option Int) : NB.R (NB.D × List NB.D) := if endOk w a then if endOk w b then if a = b then .exc 3 [EP b] else .ok (.tup [.val (EP a), .val (EP b)], []) else .exc 3 [EP b] else .exc 3 [EP a]
theorem look_step (k : Nat) (w : Int) (a b : Option Int) (p : P) (hp : p = .tup [EP a, EP b] ∨ p = .lst [EP a, EP b]) : rn (k + 3) 6 [.val (.int w), .val p] = lookS w a b := by
  rw [run6]
  unfold lookS
  rcases hp with rfl | rfl <;> simp [B6, look_count, look_end, cmpR_eq]
/-- the ends of a width -/
def endsL (n : Nat) : List (Option Int) := (List.range n).map (fun (i : Nat) => some (i : Int)) ++ [none]
theorem rangeP_ends (n : Nat) : rangeP 0 n ++ [P.non] = PE (endsL n) := by
  simp [rangeP, endsL, EP, PE]
@[simp] theorem endsL_len (n : Nat) : (endsL n).length = n + 1 := by simp [endsL]
theorem ends_ok (k : Nat) (n : Nat) (hn : n ≤ 6) : rn (k + 2) 7 [.val (.int n)] = .ok (.lst (VE (endsL n)), []) := by
  rw [run7]
  have h1 : (n : Int) ≤ 6 := by omega
  have h5 := rangeP_ends n
  have h6 : n + 1 ≤ cap := cap_of (by omega)
  simp [B7, look_number, h1, range2_nat (show n ≤ 1000 by omega), h5, h6]
theorem ends_bad (k : Nat) (w : Int) (hw : ¬ (0 ≤ w ∧ w ≤ 6)) : rn (k + 2) 7 [.val (.int w)] = .exc 2 [.int w] := by
  rw [run7]
  simp [B7, look_number, hw]
/-- a point's amounts at all ends -/
def allL (xs : List Int) : List Int := xs ++ [-xs.sum]
theorem end_amounts (k : Nat) (xs : List Int) (p : P) (hp : IsPt p xs) (hl : xs.length ≤ 1000) : rn (k + 1) 8 [.val p] = .ok (.lst (VI (allL xs)), []) := by
  rw [run8]
  have h1 : xs.length ≤ cap := by unfold cap; omega
  have h2 : xs.length + 1 ≤ cap := by unfold cap; omega
  cases hp <;> simp [B8, h1, h2, allL]
end K01
end
section
set_option Elab.async false
set_option linter.all false
set_option maxRecDepth 100000
namespace K01
open PySem NB NBE
/-- the first look's refusal, or the second answer -/
def thenR (r s : NB.R (NB.D × List NB.D)) : NB.R (NB.D × List NB.D) := match r with
  | .ok _ => s
  | .exc c fs => .exc c fs
  | .stuck => .stuck
@[simp] theorem thenR_ok (a : NB.D × List NB.D) (s : NB.R (NB.D × List NB.D)) : thenR (.ok a) s = s := (rfl)
@[simp] theorem thenR_exc (c : Nat) (fs : List P) (s : NB.R (NB.D × List NB.D)) : thenR (.exc c fs) s = .exc c fs := (rfl)
@[simp] theorem thenR_ite (b : Prop) [Decidable b] (x y s : NB.R (NB.D × List NB.D)) : thenR (if b then x else y) s = if b then thenR x s else thenR y s := by split <;> rfl
theorem VI_getD {xs : List Int} {i : Nat} (h : i < xs.length) : (VI xs)[i]? = some (.val (.int (xs.getD i 0))) := by
  rw [VI_get h, List.getD_eq_getElem?_getD, List.getElem?_eq_getElem h]; rfl
theorem endOk_some {w i : Int} (h : endOk w (some i) = true) : 0 ≤ i ∧ i < w := by simpa [endOk] using h
theorem look_endN (k : Nat) (w : Int) : rn (k + 2) 5 [.val (.int w), .val .non] = .ok (.val .non, []) := by
  have := look_end k w none
  simpa [endOk] using this
theorem look_endI (k : Nat) (w i : Int) : rn (k + 2) 5 [.val (.int w), .val (.int i)] = if endOk w (some i) then .ok (.val (.int i), []) else .exc 3 [.int i] := look_end k w (some i)
def amt (xs : List Int) : Option Int → Int
  | none => -xs.sum
  | some i => xs.getD i.toNat 0
theorem amount_at (k : Nat) (w : Int) (xs : List Int) (p : P) (hp : IsPt p xs) (hl : xs.length ≤ cap) (e : Option Int) : rn (k + 4) 9 [.val (.int w), .val p, .val (EP e)] = if 0 ≤ w ∧ w ≤ 6 then thenR (lookP w xs) (if endOk w e then .ok (.val (.int (amt xs e)), []) else .exc 3 [EP e]) else .exc 2 [.int w] := by
  rw [run9]
  by_cases hw : 0 ≤ w ∧ w ≤ 6
  · rcases lookN_cases w (-1000) 1000 xs with ⟨q, hx⟩ | ⟨c, x, q⟩
    · by_cases he : endOk w e
      · cases e with
        | none => simp [B9, look_number, hw, look_point _ _ _ _ hp hl, q, look_endN, endOk, amt]
        | some i =>
          obtain ⟨h1, h2⟩ := endOk_some he
          have h3 : i.toNat < xs.length := by omega
          simp [B9, look_number, hw, look_point _ _ _ _ hp hl, q, look_endI, he, index_tup (xs := PI xs) h1 (by simp; omega), amt, PI_get h3, List.getElem?_eq_getElem h3]
      · simp [B9, look_number, hw, look_point _ _ _ _ hp hl, q, look_end, he]
    · simp [B9, look_number, hw, look_point _ _ _ _ hp hl, q]
  · simp [B9, look_number, hw]
def bump (xs : List Int) (e : Option Int) (d : Int) : List Int := match e with
  | none => xs
  | some i => xs.set i.toNat (xs.getD i.toNat 0 + d)
@[simp] theorem bump_len (xs : List Int) (e : Option Int) (d : Int) : (bump xs e d).length = xs.length := by cases e <;> simp [bump]
def mv (xs : List Int) (a b : Option Int) : List Int := bump (bump xs a (-1)) b 1
@[simp] theorem mv_len (xs : List Int) (a b : Option Int) : (mv xs a b).length = xs.length := by simp [mv]
theorem moved (k : Nat) (xs : List Int) (hl : xs.length ≤ cap) (a b : Option Int) (ha : endOk xs.length a = true) (hb : endOk xs.length b = true) : rn (k + 1) 11 [.val (.tup (PI xs)), .val (EP a), .val (EP b)] = .ok (.tup (VI (mv xs a b)), []) := by
  rw [run11]
  cases a with
  | none =>
    cases b with
    | none => simp [B11, hl, mv, bump]
    | some j =>
      obtain ⟨h1, h2⟩ := endOk_some hb
      simp [B11, hl, mv, bump, ixP_nat h1 h2, VI_getD (show j.toNat < xs.length by omega), VI_set]
  | some i =>
    obtain ⟨h3, h4⟩ := endOk_some ha
    cases b with
    | none => simp [B11, hl, mv, bump, ixP_nat h3 h4, VI_getD (show i.toNat < xs.length by omega), VI_set, Int.sub_eq_add_neg]
    | some j =>
      obtain ⟨h1, h2⟩ := endOk_some hb
      simp [B11, hl, mv, bump, ixP_nat h3 h4, VI_getD (show i.toNat < xs.length by omega), VI_set, Int.sub_eq_add_neg, ixP_nat h1 h2]
      rw [VI_getD (by simp; omega)]
      simp [VI_set, hl]
end K01
end
section
set_option Elab.async false
set_option linter.all false
set_option maxRecDepth 100000
namespace K01
open PySem NB NBE
theorem stepped (k : Nat) (w : Int) (xs : List Int) (p s : P) (hp : IsPt p xs) (hl : xs.length ≤ cap) (a b : Option Int) (hs : s = .tup [EP a, EP b] ∨ s = .lst [EP a, EP b]) : rn (k + 4) 12 [.val (.int w), .val p, .val s] = if 0 ≤ w ∧ w ≤ 6 then thenR (lookP w xs) (thenR (lookS w a b) (.ok (.tup (VI (mv xs a b)), []))) else .exc 2 [.int w] := by
  rw [run12]
  by_cases hw : 0 ≤ w ∧ w ≤ 6
  · rcases lookN_cases w (-1000) 1000 xs with ⟨q, hx⟩ | ⟨c, x, q⟩
    · simp [B12, look_number, hw, look_point _ _ _ _ hp hl, q, look_step _ _ a b s hs, lookS]
      by_cases ha : endOk w a <;> simp [ha]
      by_cases hb : endOk w b <;> simp [hb]
      by_cases hab : a = b <;> simp [hab]
      rw [hx] at ha hb
      rw [moved _ _ hl a b ha hb]
      simp
    · simp [B12, look_number, hw, look_point _ _ _ _ hp hl, q]
  · simp [B12, look_number, hw]
/-! ### distances -/
theorem zipII (as bs : List Int) : zipItems [.lst (PI as), .lst (PI bs)] = .ok ((as.zip bs).map fun t => P.tup [.int t.1, .int t.2]) := by
  show NB.R.ok (zip2 (PI as) (PI bs)) = _
  unfold zip2 PI
  rw [List.zip_map]
  simp [Function.comp_def]
def gapsL (as bs : List Int) : List Int := (as.zip bs).map fun t => if t.1 - t.2 < 0 then -(t.1 - t.2) else t.1 - t.2
def farL (xs ys : List Int) : Int := (gapsL (allL xs) (allL ys)).sum / 2
theorem gaps_lc (as bs : List Int) (x y : NB.D) (k : Nat) : lcLoop (.tup [2, 3]) [2, 3] (lcTurn T (rn k) .none (.bi .abs (.cons (.bin .sub (.v 2) (.v 3)) .nil))) ((as.zip bs).map fun t => P.tup [.int t.1, .int t.2]) [.ow x, .ow y, .no, .no] = .ok (VI (gapsL as bs), [.ow x, .ow y, .no, .no]) := by
  rw [lc_map fun p => match p with
    | .tup [.int a, .int b] => NB.D.val (.int (if a - b < 0 then -(a - b) else a - b))
    | _ => .val .non]
  · simp [gapsL, VI, Function.comp_def]
  · intro p hp
    obtain ⟨t, _, rfl⟩ := List.mem_map.mp hp
    exact ⟨_, _, rfl, by simp [lcTurn]; rfl, rfl⟩
theorem steps_apart (k : Nat) (xs ys : List Int) (hx : xs.length ≤ 1000) (hy : ys.length ≤ 1000) : rn (k + 2) 14 [.val (.tup (PI xs)), .val (.tup (PI ys))] = .ok (.val (.int (farL xs ys)), []) := by
  rw [run14]
  have h1 : ((allL xs).zip (allL ys)).length ≤ cap := by simp [allL, cap]; omega
  have h2 : min (allL xs).length (allL ys).length ≤ cap := by simpa using h1
  simp [B14, end_amounts _ _ _ (.tup xs) hx, end_amounts _ _ _ (.tup ys) hy, zipII, h2, gaps_lc, binop_fdiv, farL, show Nat.log2 2 < 9000 by decide +kernel]
theorem distance (k : Nat) (w : Int) (xs ys : List Int) (p q : P) (hp : IsPt p xs) (hq : IsPt q ys) (hx : xs.length ≤ 1000) (hy : ys.length ≤ 1000) : rn (k + 4) 15 [.val (.int w), .val p, .val q] = if 0 ≤ w ∧ w ≤ 6 then thenR (lookP w xs) (thenR (lookP w ys) (.ok (.val (.int (farL xs ys)), []))) else .exc 2 [.int w] := by
  rw [run15]
  by_cases hw : 0 ≤ w ∧ w ≤ 6
  · rcases lookN_cases w (-1000) 1000 xs with ⟨e, he⟩ | ⟨c, x, e⟩
    · rcases lookN_cases w (-1000) 1000 ys with ⟨e2, he2⟩ | ⟨c, x, e2⟩
      · simp [B15, look_number, hw, look_point _ _ _ _ hp (cap_of hx), look_point _ _ _ _ hq (cap_of hy), e, e2, steps_apart _ _ _ hx hy]
      · simp [B15, look_number, hw, look_point _ _ _ _ hp (cap_of hx), look_point _ _ _ _ hq (cap_of hy), e, e2]
    · simp [B15, look_number, hw, look_point _ _ _ _ hp (cap_of hx), e]
  · simp [B15, look_number, hw]
/-! ### near steps -/
def stepsL (n : Nat) : List (Option Int × Option Int) := (endsL n).flatMap fun a => ((endsL n).filter fun b => decide (a ≠ b)).map fun b => (a, b)
def stD (s : Option Int × Option Int) : NB.D := .tup [.val (EP s.1), .val (EP s.2)]
def stP (s : Option Int × Option Int) : P := .tup [EP s.1, EP s.2]
@[simp] theorem stD_p (s : Option Int × Option Int) : (stD s).p = stP s := by simp [stD, stP]
@[simp] theorem stD_clean (s : Option Int × Option Int) : (stD s).clean = true := by simp [stD]
theorem endsL_nodup (n : Nat) : (endsL n).Nodup := by
  unfold endsL
  rw [List.nodup_append]
  refine ⟨?_, by simp, by simp⟩
  rw [List.nodup_iff_pairwise_ne]
  refine List.Pairwise.map _ (fun a b h hh => ?_) List.nodup_range
  exact h (Int.ofNat.inj (Option.some.inj hh))
def isE : P → Option Int
  | .int i => some i
  | _ => none
@[simp] theorem isE_EP (e : Option Int) : isE (EP e) = e := by cases e <;> rfl
theorem mem_PE {p : P} {es : List (Option Int)} (h : p ∈ PE es) : ∃ e ∈ es, p = EP e := by
  obtain ⟨e, he, rfl⟩ := List.mem_map.mp (show p ∈ es.map EP from h)
  exact ⟨e, he, rfl⟩
theorem inner_lc (k : Nat) (a : Option Int) (es : List (Option Int)) (s0 s1 : Sl) : lcLoop (.nm 3) [3] (lcTurn T (rn k) (.some (.cmp .ne (.v 2) (.v 3))) (.tup (.cons (.v 2) (.cons (.v 3) .nil)))) (PE es) [s0, s1, .ow (.val (EP a)), .no] = .ok ((es.filter fun b => decide (a ≠ b)).map fun b => stD (a, b), [s0, s1, .ow (.val (EP a)), .no]) := by
  rw [lc_fmap fun p => if a = isE p then none else some (stD (a, isE p))]
  · congr 2
    unfold PE
    rw [List.filterMap_map]
    induction es with
    | nil => rfl
    | cons e es ih =>
      simp only [List.filterMap_cons, Function.comp_def, isE_EP, List.filter_cons]
      by_cases h : a = e
      · simp only [h, if_true]
        simpa [h, Function.comp_def] using ih
      · simp only [h, if_false]
        simpa [h, Function.comp_def] using ih
  · intro p hp
    obtain ⟨e, _, rfl⟩ := mem_PE hp
    by_cases h : a = e
    · subst h
      exact ⟨_, _, rfl, by simp [lcTurn, cmpR_ne]; rfl, rfl⟩
    · exact ⟨_, _, rfl, by simp [lcTurn, cmpR_ne, h, stD]; rfl, rfl⟩
theorem cleans_map {α : Type} {f : α → NB.D} (h : ∀ a, (f a).clean = true) : ∀ l : List α, NB.D.cleans (l.map f) = true
  | [] => rfl
  | a :: l => by simp [h a, cleans_map h l]
theorem stepsL_len (n : Nat) (h : n ≤ 6) : (stepsL n).length ≤ 42 := by
  have : n = 0 ∨ n = 1 ∨ n = 2 ∨ n = 3 ∨ n = 4 ∨ n = 5 ∨ n = 6 := by omega
  rcases this with rfl | rfl | rfl | rfl | rfl | rfl | rfl <;> decide +kernel
theorem near_steps (k : Nat) (n : Nat) (hn : n ≤ 6) : rn (k + 3) 10 [.val (.int n)] = .ok (.lst ((stepsL n).map stD), []) := by
  rw [run10]
  have key : ∀ (s0 : Sl), lcLoop2 (.nm 2) [2, 3] (lc2Turn T (rn (k + 2)) (.nm 3) 1 (.some (.cmp .ne (.v 2) (.v 3))) (.tup (.cons (.v 2) (.cons (.v 3) .nil)))) (PE (endsL n)) [s0, .lk (PE (endsL n)), .no, .no] = .ok ((stepsL n).map stD, [s0, .lk (PE (endsL n)), .no, .no]) := fun s0 => by
    rw [lc2_map fun p => ((endsL n).filter fun b => decide (isE p ≠ b)).map fun b => stD (isE p, b)]
    · congr 2
      unfold stepsL PE
      simp [List.flatMap_map, List.map_flatMap, Function.comp_def]
    · intro p hp
      obtain ⟨e, _, rfl⟩ := mem_PE hp
      refine ⟨_, [s0, .lk (PE (endsL n)), .ow (.val (EP e)), .no], rfl, ?_, rfl⟩
      rw [lc2Turn_lk (ps1 := PE (endsL n)) _ _ rfl]
      show lcLoop (.nm 3) [3] _ (PE (endsL n)) [s0, .lk (PE (endsL n)), .ow (.val (EP e)), .no] = _
      rw [inner_lc]
      simp
  have hc : ((stepsL n).map stD).length ≤ cap := cap_of (by simp; have := stepsL_len n hn; omega)
  have hc2 : (stepsL n).length ≤ cap := by simpa using hc
  simp [B10, ends_ok _ _ hn]
  rw [key]
  simp [hc2, cleans_map stD_clean]
end K01
end
section
set_option Elab.async false
set_option linter.all false
set_option maxRecDepth 100000
namespace K01
open PySem NB NBE
abbrev Tri := Option Int × Int × Int
def tP (t : Tri) : P := .tup [EP t.1, .int t.2.1, .int t.2.2]
def sideT (t : Tri) : List (Option Int) := List.replicate (t.2.1 - t.2.2).toNat t.1
def swT (t : Tri) : Tri := (t.1, t.2.2, t.2.1)
def moreL (ts : List Tri) : List (Option Int) := ts.flatMap sideT
def lessL (ts : List Tri) : List (Option Int) := ts.flatMap fun t => sideT (swT t)
def trisL (n : Nat) (xs ys : List Int) : List Tri := (endsL n).zip ((allL xs).zip (allL ys))
theorem zip3_tri (es : List (Option Int)) (as bs : List Int) : zipItems [.lst (PE es), .lst (PI as), .lst (PI bs)] = .ok ((es.zip (as.zip bs)).map tP) := by
  show NB.R.ok (zip3 (PE es) (PI as) (PI bs)) = _
  unfold zip3 PI PE
  rw [List.zip_map, List.zip_map]
  simp [Function.comp_def, tP]
theorem more_bound {B : Nat} {ts : List Tri} (h : ∀ t ∈ ts, (t.2.1 - t.2.2).natAbs ≤ B) : (moreL ts).length ≤ B * ts.length ∧ (lessL ts).length ≤ B * ts.length := by
  induction ts with
  | nil => simp [moreL, lessL]
  | cons t ts ih =>
    have ih := ih fun u hu => h u (List.mem_cons_of_mem _ hu)
    have h0 := h t (by simp)
    simp only [moreL, lessL, List.flatMap_cons, List.length_append, List.length_cons] at ih ⊢
    have e1 : (sideT t).length ≤ B := by simp [sideT]; omega
    have e2 : (sideT (swT t)).length ≤ B := by simp [sideT, swT]; omega
    rw [Nat.mul_add]
    omega
theorem flat_rep {α : Type} (n : Nat) (a : α) : (List.replicate n [a]).flatten = List.replicate n a := by
  induction n with
  | zero => rfl
  | succ n ih => simp [List.replicate_succ, ih]
/-- [e] * max(0, a - b) -/
theorem mul_rep (e : Option Int) (a b : Int) (hd : (a - b).natAbs ≤ 20000) : binop .mul (.lst [EP e]) (.int (if b < a then a - b else 0)) = .ok (.lst (VE (List.replicate (a - b).toNat e)), false) := by
  rw [binop_mulL]
  have h1 : (if b < a then a - b else 0).toNat = (a - b).toNat := by split <;> omega
  rw [if_pos ⟨by split <;> omega, by split <;> omega, by rw [h1]; unfold cap; simp; omega⟩, h1, flat_rep]
  unfold newL
  rw [if_pos (by unfold cap; simp; omega)]
  simp [VE]
theorem extend_VE (m r : List (Option Int)) (d : NB.D) (hd : d.p = .lst (PE r)) (h : m.length + r.length ≤ cap) : methD .extend (VE m) [d] = .ok (.val .non, VE (m ++ r)) := by
  show (match d.p with | .lst ps => _ | _ => _) = _
  rw [hd]
  simp only [VE_len, PE_len, h, if_true, PE_vals, VE_append]
def bodyM : SS := (.cons (.ex (.meth .extend 5 (.cons (.bin .mul (.lst (.cons (.v 7) .nil)) (.bi .max_ (.cons (.c (.int 0)) (.cons (.bin .sub (.v 8) (.v 9)) .nil)))) .nil))) (.cons (.ex (.meth .extend 6 (.cons (.bin .mul (.lst (.cons (.v 7) .nil)) (.bi .max_ (.cons (.c (.int 0)) (.cons (.bin .sub (.v 9) (.v 8)) .nil)))) .nil))) .nil))
theorem more_turn (k : Nat) (s0 s1 s2 s3 s4 : Sl) (m l : List (Option Int)) (t : Tri) (h : (t.2.1 - t.2.2).natAbs ≤ 20000) (hm : m.length ≤ 200000) (hl : l.length ≤ 200000) : ess T (rn k) M 1000 bodyM [s0, s1, s2, s3, s4, .ow (.lst (VE m)), .ow (.lst (VE l)), .ow (.val (EP t.1)), .ow (.val (.int t.2.1)), .ow (.val (.int t.2.2))] = .ok .nx [s0, s1, s2, s3, s4, .ow (.lst (VE (m ++ sideT t))), .ow (.lst (VE (l ++ sideT (swT t)))), .ow (.val (EP t.1)), .ow (.val (.int t.2.1)), .ow (.val (.int t.2.2))] := by
  have h2 : (t.2.2 - t.2.1).natAbs ≤ 20000 := by omega
  have e1 := extend_VE m (sideT t) (.lst (VE (sideT t))) (by simp) (by simp [sideT, cap]; omega)
  have e2 := extend_VE l (sideT (swT t)) (.lst (VE (sideT (swT t)))) (by simp) (by simp [sideT, swT, cap]; omega)
  simp only [sideT, swT] at e1 e2
  simp [bodyM, mul_rep _ _ _ h, mul_rep _ _ _ h2, e1, e2, sideT, swT]
theorem more_for (k : Nat) (s0 s1 s2 s3 s4 s7 s8 s9 : Sl) (all : List Tri) (hall : all.length ≤ 10) (hb : ∀ t ∈ all, (t.2.1 - t.2.2).natAbs ≤ 20000) : ∃ t7 t8 t9, forLoop (.tup [7, 8, 9]) (essF T (rn k) M 1000 bodyM) (all.map tP) [s0, s1, s2, s3, s4, .ow (.lst []), .ow (.lst []), s7, s8, s9] = .ok .nx [s0, s1, s2, s3, s4, .ow (.lst (VE (moreL all))), .ow (.lst (VE (lessL all))), t7, t8, t9] := by
  have step : ∀ p ps ε, (∃ pre : List Tri, ∃ suf, pre ++ suf = all ∧ p :: ps = suf.map tP ∧ ∃ t7 t8 t9, ε = [s0, s1, s2, s3, s4, .ow (.lst (VE (moreL pre))), .ow (.lst (VE (lessL pre))), t7, t8, t9]) → ∃ ε1 ε2, assign ε (.tup [7, 8, 9]) (.val p) = .ok ε1 ∧ (essF T (rn k) M 1000 bodyM ε1 = .ok .nx ε2 ∨ essF T (rn k) M 1000 bodyM ε1 = .ok .ct ε2) ∧ (∃ pre : List Tri, ∃ suf, pre ++ suf = all ∧ ps = suf.map tP ∧ ∃ t7 t8 t9, ε2 = [s0, s1, s2, s3, s4, .ow (.lst (VE (moreL pre))), .ow (.lst (VE (lessL pre))), t7, t8, t9]) := by
    rintro p ps ε ⟨pre, suf, e1, e2, t7, t8, t9, rfl⟩
    cases suf with
    | nil => cases e2
    | cons t suf =>
      simp only [List.map_cons, List.cons.injEq] at e2
      obtain ⟨rfl, rfl⟩ := e2
      have ht : t ∈ all := by rw [← e1]; simp
      have hpl : pre.length ≤ 10 := by rw [← e1] at hall; simp at hall; omega
      obtain ⟨b1, b2⟩ := more_bound (B := 20000) (ts := pre) fun u hu => hb u (by rw [← e1]; simp [hu])
      refine ⟨_, _, by simp only [tP]; rfl, .inl (more_turn k s0 s1 s2 s3 s4 (moreL pre) (lessL pre) t (hb t ht) (by omega) (by omega)), pre ++ [t], suf, by rw [← e1]; simp, rfl, _, _, _, by simp [moreL, lessL]; exact ⟨rfl, rfl, rfl⟩⟩
  obtain ⟨ε', h1, pre, suf, e1, e2, t7, t8, t9, rfl⟩ := for_inv (g := .tup [7, 8, 9]) (body := essF T (rn k) M 1000 bodyM) (fun rest ε => ∃ pre : List Tri, ∃ suf, pre ++ suf = all ∧ rest = suf.map tP ∧ ∃ t7 t8 t9, ε = [s0, s1, s2, s3, s4, .ow (.lst (VE (moreL pre))), .ow (.lst (VE (lessL pre))), t7, t8, t9]) step (ps := all.map tP) (ε := [s0, s1, s2, s3, s4, .ow (.lst []), .ow (.lst []), s7, s8, s9]) ⟨[], all, rfl, rfl, s7, s8, s9, rfl⟩
  have : suf = [] := by
    cases suf with
    | nil => rfl
    | cons a b => cases e2
  subst this
  rw [List.append_nil] at e1
  subst e1
  exact ⟨t7, t8, t9, h1⟩
theorem all_abs {xs : List Int} {n : Nat} (hn : xs.length ≤ n) (h : ∀ x ∈ xs, x.natAbs ≤ 1000) : xs.sum.natAbs ≤ 1000 * n := by
  induction xs generalizing n with
  | nil => simp
  | cons x xs ih =>
    have h0 := h x (by simp)
    cases n with
    | zero => simp at hn
    | succ n =>
      have := ih (n := n) (by simpa using hn) fun y hy => h y (List.mem_cons_of_mem _ hy)
      simp only [List.sum_cons]
      omega
theorem allL_bound {xs : List Int} (hn : xs.length ≤ 6) (h : ∀ x ∈ xs, x.natAbs ≤ 1000) : ∀ x ∈ allL xs, x.natAbs ≤ 6000 := by
  intro x hx
  have := all_abs hn h
  simp only [allL, List.mem_append, List.mem_singleton] at hx
  rcases hx with hx | rfl
  · have := h x hx; omega
  · omega
theorem tris_bound {n : Nat} {xs ys : List Int} (hx : xs.length ≤ 6) (h : ∀ x ∈ xs, x.natAbs ≤ 1000) (hy : ys.length ≤ 6) (h2 : ∀ x ∈ ys, x.natAbs ≤ 1000) : ∀ t ∈ trisL n xs ys, (t.2.1 - t.2.2).natAbs ≤ 20000 := by
  rintro ⟨e, a, b⟩ ht
  have h3 := (List.of_mem_zip ht).2
  have h4 := List.of_mem_zip h3
  have h5 := allL_bound hx h a h4.1
  have h6 := allL_bound hy h2 b h4.2
  show (a - b).natAbs ≤ 20000
  omega
/-- the looks let a point -/
theorem look_ok {w : Int} {xs : List Int} (h : lookP w xs = .ok (.tup (VI xs), [])) : w = xs.length ∧ ∀ x ∈ xs, x.natAbs ≤ 1000 := by
  unfold lookP lookN at h
  split at h
  · rename_i hw
    refine ⟨hw, fun x hx => ?_⟩
    unfold lookL at h
    split at h
    · cases h
    · rename_i hf
      rw [List.find?_eq_none] at hf
      have := hf x hx
      simp at this
      omega
  · cases h
theorem more_less (k : Nat) (w : Int) (xs ys : List Int) (p q : P) (hp : IsPt p xs) (hq : IsPt q ys) (hx : xs.length ≤ 1000) (hy : ys.length ≤ 1000) : rn (k + 4) 13 [.val (.int w), .val p, .val q] = if 0 ≤ w ∧ w ≤ 6 then thenR (lookP w xs) (thenR (lookP w ys) (.ok (.tup [.lst (VE (moreL (trisL w.toNat xs ys))), .lst (VE (lessL (trisL w.toNat xs ys)))], []))) else .exc 2 [.int w] := by
  rw [run13]
  by_cases hw : 0 ≤ w ∧ w ≤ 6
  · rcases lookN_cases w (-1000) 1000 xs with ⟨e, he⟩ | ⟨c, x, e⟩
    · rcases lookN_cases w (-1000) 1000 ys with ⟨e2, he2⟩ | ⟨c, x, e2⟩
      · obtain ⟨n, rfl⟩ : ∃ n : Nat, w = n := ⟨w.toNat, by omega⟩
        have hn : n ≤ 6 := by omega
        obtain ⟨f1, f2⟩ := look_ok e
        obtain ⟨g1, g2⟩ := look_ok e2
        have hxl : xs.length ≤ 6 := by omega
        have hyl : ys.length ≤ 6 := by omega
        obtain ⟨t7, t8, t9, hf⟩ := more_for (k + 3) (.ow (.val (.int n))) (.ow (.val p)) (.ow (.val q)) (.ow (.tup (VI xs))) (.ow (.tup (VI ys))) .no .no .no (trisL n xs ys) (by simp [trisL]; omega) (tris_bound hxl f2 hyl g2)
        have hn' : (n : Int) ≤ 6 := by omega
        unfold bodyM at hf
        simp [B13, look_number, hn', look_point _ _ _ _ hp (cap_of hx), look_point _ _ _ _ hq (cap_of hy), e, e2, ends_ok _ _ hn, end_amounts _ _ _ (.tup xs) hx, end_amounts _ _ _ (.tup ys) hy, zip3_tri]
        rw [show (endsL n).zip ((allL xs).zip (allL ys)) = trisL n xs ys from rfl, hf]
        simp
      · simp [B13, look_number, hw, look_point _ _ _ _ hp (cap_of hx), look_point _ _ _ _ hq (cap_of hy), e, e2]
    · simp [B13, look_number, hw, look_point _ _ _ _ hp (cap_of hx), e]
  · simp [B13, look_number, hw]
end K01
end
section
set_option Elab.async false
set_option linter.all false
set_option maxRecDepth 100000
namespace K01
open PySem NB NBE
def cell (z : Int) : Int := (if z < 0 then -z else z) % 10 ^ 40
theorem cell_nonneg (z : Int) : 0 ≤ cell z := Int.emod_nonneg _ (by decide)
theorem cut63 (ns : List Int) (h : ns.length ≤ 63) : slice (.scr ns) none (some 63) = .ok (.lst (VI ns), false) := by
  show newL (cutP (ns.map P.int) none (some 63)) = _
  have : cutP (ns.map P.int) none (some 63) = PI ns := by
    unfold cutP PI
    have e1 : HT.sIx (ns.map P.int).length 0 none = 0 := by
      unfold HT.sIx
      first | rfl | simp
    have e2 : HT.sIx (ns.map P.int).length (ns.map P.int).length (some 63) = ns.length := by
      unfold HT.sIx
      simp
      omega
    rw [e1, e2, List.drop_zero, Nat.sub_zero, List.take_of_length_le (by simp)]
  rw [this]
  unfold newL
  rw [if_pos (cap_of (by simp; omega))]
  simp
theorem law_numbers (k : Nat) (ns : List Int) (h : ns.length ≤ 63) : rn (k + 1) 16 [.val (.scr ns)] = .ok (.lst (VI (ns.map cell)), []) := by
  rw [run16]
  have key : ∀ (s0 : Sl), lcLoop (.nm 1) [1] (lcTurn T (rn k) .none (.bin .mod (.bi .abs (.cons (.bi .int_ (.cons (.v 1) .nil)) .nil)) (.bin .pow (.c (.int 10)) (.c (.int 40))))) (PI ns) [s0, .no] = .ok (VI (ns.map cell), [s0, .no]) := fun s0 => by
    rw [lc_map fun p => match p with
      | .int z => NB.D.val (.int (cell z))
      | _ => .val .non]
    · simp [PI, VI, Function.comp_def]
    · intro p hp
      obtain ⟨z, _, rfl⟩ := List.mem_map.mp (show p ∈ ns.map P.int from hp)
      have hpow : binop .pow (.int 10) (.int 40) = .ok (.val (.int (10 ^ 40)), false) := by
        show (if 0 ≤ (40:Int) ∧ (40:Int) ≤ 1000 ∧ (10:Int).natAbs < 2 ^ 64 then flatR (.int ((10:Int) ^ (40:Int).toNat)) else .stuck) = _
        rw [if_pos ⟨by decide, by decide, by decide⟩]
        rfl
      exact ⟨_, _, rfl, by simp only [lcTurn, eif_none, R.ok_bind, un2_eq, if_true, ev_bin, argOf_bi, ev_bi, eargs_cons, argOf_v, setSl_succ, setSl_zero, List.getElem?_cons_succ, List.getElem?_cons_zero, eargs_nil, views_cons, view1_nm, D.shallow_val, D.p_val, views_nil, int_int, done_ok, Bool.false_eq_true, if_false, view1_tm, abs_int, argOf_bin, ev_c, argOf_c, hpow, binop_mod, show (0:Int) < 10 ^ 40 from by decide]; rfl, rfl⟩
  have h2 : ns.length ≤ cap := cap_of (by omega)
  simp [B16, cut63 ns h, h2]
  rw [key]
  simp
/-! ### the pool -/
def drawR (cs : List Int) (m : Int) : Int := match cs with
  | [] => 0
  | c :: _ => c % m
def drawP (cs : List Int) (m : Int) : List Int := match cs with
  | [] => []
  | c :: cs => if c < m then cs else c / m :: cs
def Nn (cs : List Int) : Prop := ∀ c ∈ cs, 0 ≤ c
theorem drawR_ge {cs : List Int} {m : Int} (hm : 0 < m) : 0 ≤ drawR cs m := by
  cases cs with
  | nil => exact Int.le_refl _
  | cons c cs => exact Int.emod_nonneg _ (by omega)
theorem drawR_lt {cs : List Int} {m : Int} (hm : 0 < m) : drawR cs m < m := by
  cases cs with
  | nil => exact hm
  | cons c cs => exact Int.emod_lt_of_pos _ hm
theorem law_draw (k : Nat) (cs : List Int) (m : Int) (hm : 0 < m) (hm2 : m ≤ 3000) : rn (k + 1) 17 [.lst (VI cs), .val (.int m)] = .ok (.val (.int (drawR cs m)), [.lst (VI (drawP cs m))]) := by
  rw [run17]
  have hlog : m.natAbs.log2 < 9000 := by
    have : m.natAbs.log2 ≤ m.natAbs := Nat.log2_le_self _
    omega
  cases cs with
  | nil => simp [B17, drawR, drawP]
  | cons c cs =>
    have h1 : ¬ ((cs.length : Int) + 1 = 0) := by omega
    by_cases hc : c < m
    · simp [B17, drawR, drawP, h1, PI_cons, VI_cons, hc, pop_first, binop_mod, hm]
    · simp [B17, drawR, drawP, h1, PI_cons, VI_cons, hc, binop_mod, binop_fdiv, hm, hlog, ixP_nat]
theorem drawP_nn {cs : List Int} {m : Int} (hm : 0 < m) (h : Nn cs) : Nn (drawP cs m) := by
  cases cs with
  | nil => exact h
  | cons c cs =>
    show Nn (if c < m then cs else c / m :: cs)
    split
    · exact fun x hx => h x (List.mem_cons_of_mem _ hx)
    · intro x hx
      rcases List.mem_cons.mp hx with rfl | hx
      · exact Int.ediv_nonneg (h c (by simp)) (by omega)
      · exact h x (List.mem_cons_of_mem _ hx)
/-- one amount: k the letter's number -/
def ptA (cs : List Int) (turn : Int) (k : Int) : Int := (drawR cs 7 + 4 + turn * (k + 1)) % 7 - 3
def ptB (cs : List Int) (a : Int) : Int := [1000, -1000, a, drawR cs 2001 - 1000].getD (drawR (drawP cs 2001) 4).toNat 0
def ptStep (g : Bool) (turn : Int) (s : List Int × List Int) (k : Int) : List Int × List Int :=
  let c1 := drawP s.1 7
  if g then (drawP (drawP c1 2001) 4, s.2 ++ [ptB c1 (ptA s.1 turn k)]) else (c1, s.2 ++ [ptA s.1 turn k])
def ptF (g : Bool) (turn : Int) (cs : List Int) (n : Nat) : List Int × List Int := (List.range n).foldl (fun (s : List Int × List Int) (k : Nat) => ptStep g turn s (k : Int)) (cs, [])
theorem ptA_bound (cs : List Int) (turn k : Int) : -3 ≤ ptA cs turn k ∧ ptA cs turn k ≤ 3 := by
  have h1 := Int.emod_nonneg (drawR cs 7 + 4 + turn * (k + 1)) (show (7 : Int) ≠ 0 by decide)
  have h2 := Int.emod_lt_of_pos (drawR cs 7 + 4 + turn * (k + 1)) (show (0 : Int) < 7 by decide)
  unfold ptA
  omega
theorem ptB_bound (cs : List Int) (a : Int) (ha : a.natAbs ≤ 1000) : (ptB cs a).natAbs ≤ 1000 := by
  have h1 : 0 ≤ drawR cs 2001 := drawR_ge (by decide)
  have h2 : drawR cs 2001 < 2001 := drawR_lt (by decide)
  have h3 : 0 ≤ drawR (drawP cs 2001) 4 := drawR_ge (by decide)
  have h4 : drawR (drawP cs 2001) 4 < 4 := drawR_lt (by decide)
  unfold ptB
  generalize drawR (drawP cs 2001) 4 = i at h3 h4 ⊢
  have : i = 0 ∨ i = 1 ∨ i = 2 ∨ i = 3 := by omega
  rcases this with rfl | rfl | rfl | rfl <;> simp <;> omega
theorem foldl_range {σ : Type} (f : σ → Nat → σ) (s : σ) (n : Nat) : (List.range (n + 1)).foldl f s = f ((List.range n).foldl f s) n := by
  rw [List.range_succ, List.foldl_append]; rfl
theorem ptF_facts (g : Bool) (turn : Int) (cs : List Int) (n : Nat) : (ptF g turn cs n).2.length = n ∧ (∀ a ∈ (ptF g turn cs n).2, a.natAbs ≤ 1000 ∧ (g = false → a.natAbs ≤ 3)) ∧ (Nn cs → Nn (ptF g turn cs n).1) := by
  induction n with
  | zero => exact ⟨rfl, ⟨fun a ha => absurd (show a ∈ ([] : List Int) from ha) (by simp), fun h => h⟩⟩
  | succ n ih =>
    obtain ⟨i1, i2, i3⟩ := ih
    unfold ptF at i1 i2 i3 ⊢
    rw [foldl_range]
    generalize (List.range n).foldl (fun (s : List Int × List Int) (k : Nat) => ptStep g turn s (k : Int)) (cs, []) = s at i1 i2 i3 ⊢
    have hA := ptA_bound s.1 turn n
    have hB := ptB_bound (drawP s.1 7) (ptA s.1 turn n) (by omega)
    cases g with
    | true =>
      refine ⟨by simp [ptStep, i1], fun a ha => ?_, fun h => drawP_nn (by decide) (drawP_nn (by decide) (drawP_nn (by decide) (i3 h)))⟩
      simp only [ptStep, if_true, List.mem_append, List.mem_singleton] at ha
      rcases ha with ha | rfl
      · exact i2 a ha
      · exact ⟨hB, fun z => by cases z⟩
    | false =>
      refine ⟨by simp [ptStep, i1], fun a ha => ?_, fun h => drawP_nn (by decide) (i3 h)⟩
      simp only [ptStep, Bool.false_eq_true, if_false, List.mem_append, List.mem_singleton] at ha
      rcases ha with ha | rfl
      · exact i2 a ha
      · exact ⟨by omega, fun _ => by omega⟩
theorem idx_menu (a b c d : Int) (i : Int) (h0 : 0 ≤ i) (h1 : i < 4) : index (.lst [.int a, .int b, .int c, .int d]) (.int i) = .ok (.int ([a, b, c, d].getD i.toNat 0)) := by
  have : i = 0 ∨ i = 1 ∨ i = 2 ∨ i = 3 := by omega
  rcases this with rfl | rfl | rfl | rfl <;> rfl
def bodyP : SS := (.cons (.asg (.nm 6) (.bin .sub (.bin .mod (.bi .int_ (.cons (.bin .add (.bin .add (.call 17 (.cons (.v 0) (.cons (.c (.int 7)) .nil))) (.c (.int 4))) (.bin .mul (.v 3) (.bin .add (.v 5) (.c (.int 1))))) .nil)) (.c (.int 7))) (.c (.int 3)))) (.cons (.iff (.hold (.v 2)) (.cons (.asg (.nm 7) (.lst (.cons (.c (.int 1000)) (.cons (.neg (.c (.int 1000))) (.cons (.v 6) (.cons (.bin .sub (.call 17 (.cons (.v 0) (.cons (.c (.int 2001)) .nil))) (.c (.int 1000))) .nil)))))) (.cons (.asg (.nm 6) (.ix (.v 7) (.call 17 (.cons (.v 0) (.cons (.c (.int 4)) .nil))))) .nil)) .nil) (.cons (.ex (.meth .append 4 (.cons (.v 6) .nil))) .nil)))
theorem point_turn (k : Nat) (cs xs : List Int) (s1 s7 s6 : Sl) (g : Bool) (turn i : Int) (ht : turn = 0 ∨ turn = 3) (hi : 0 ≤ i ∧ i ≤ 6) (hx : xs.length ≤ 6) : ∃ t6 t7, ess T (rn (k + 1)) M 1000 bodyP [.ow (.lst (VI cs)), s1, .ow (.val (.bl g)), .ow (.val (.int turn)), .ow (.lst (VI xs)), .ow (.val (.int i)), s6, s7] = .ok .nx [.ow (.lst (VI (ptStep g turn (cs, xs) i).1)), s1, .ow (.val (.bl g)), .ow (.val (.int turn)), .ow (.lst (VI (ptStep g turn (cs, xs) i).2)), .ow (.val (.int i)), t6, t7] := by
  have hl : turn.natAbs.log2 + (i + 1).natAbs.log2 < 1000000 := by
    have h1 : turn.natAbs.log2 ≤ turn.natAbs := Nat.log2_le_self _
    have h2 : (i + 1).natAbs.log2 ≤ (i + 1).natAbs := Nat.log2_le_self _
    omega
  have h7 := law_draw k cs 7 (by decide) (by decide)
  have h21 := law_draw k (drawP cs 7) 2001 (by decide) (by decide)
  have h4 := law_draw k (drawP (drawP cs 7) 2001) 4 (by decide) (by decide)
  have hlen : xs.length < cap := by unfold cap; omega
  cases g with
  | false =>
    refine ⟨.ow (.val (.int (ptA cs turn i))), s7, ?_⟩
    simp [bodyP, callE_true, h7, binop_mul, hl, binop_mod, hlen, ptStep, ptA]
  | true =>
    refine ⟨.ow (.val (.int (ptB (drawP cs 7) (ptA cs turn i)))), .ow (.lst [.val (.int 1000), .val (.int (-1000)), .val (.int (ptA cs turn i)), .val (.int (drawR (drawP cs 7) 2001 - 1000))]), ?_⟩
    simp [bodyP, callE_true, h7, h21, h4, binop_mul, hl, binop_mod, hlen, ptStep, ptA, ptB, idx_menu _ _ _ _ _ (drawR_ge (cs := drawP (drawP cs 7) 2001) (show (0 : Int) < 4 by decide)) (drawR_lt (cs := drawP (drawP cs 7) 2001) (show (0 : Int) < 4 by decide))]
theorem rangeP_nat (n : Nat) : rangeP 0 n = (List.range n).map fun (k : Nat) => P.int (k : Int) := by
  simp [rangeP]
theorem law_point (k : Nat) (cs : List Int) (n : Nat) (hn : n ≤ 6) (g : Bool) (turn : Int) (ht : turn = 0 ∨ turn = 3) : rn (k + 2) 28 [.lst (VI cs), .val (.int n), .val (.bl g), .val (.int turn)] = .ok (.lst (VI (ptF g turn cs n).2), [.lst (VI (ptF g turn cs n).1)]) := by
  rw [run28]
  have hn2 : (n : Int) ≤ 6 := by omega
  have key : ∃ t5 t6 t7, forLoop (.nm 5) (essF T (rn (k + 1)) M 1000 bodyP) (rangeP 0 n) [.ow (.lst (VI cs)), .ow (.val (.int n)), .ow (.val (.bl g)), .ow (.val (.int turn)), .ow (.lst []), .no, .no, .no] = .ok .nx [.ow (.lst (VI (ptF g turn cs n).1)), .ow (.val (.int n)), .ow (.val (.bl g)), .ow (.val (.int turn)), .ow (.lst (VI (ptF g turn cs n).2)), t5, t6, t7] := by
    obtain ⟨ε', h1, pre, suf, e1, e2, t5, t6, t7, rfl⟩ := for_inv (g := .nm 5) (body := essF T (rn (k + 1)) M 1000 bodyP)
      (fun rest ε => ∃ (m j : Nat), m + j = n ∧ rest = (List.range' m j).map (fun (i : Nat) => P.int (i : Int)) ∧ ∃ t5 t6 t7, ε = [.ow (.lst (VI (ptF g turn cs m).1)), .ow (.val (.int n)), .ow (.val (.bl g)), .ow (.val (.int turn)), .ow (.lst (VI (ptF g turn cs m).2)), t5, t6, t7])
      (by
        rintro p ps ε ⟨m, j, e1, e2, t5, t6, t7, rfl⟩
        cases j with
        | zero => cases e2
        | succ j =>
          rw [List.range'_succ] at e2
          simp only [List.map_cons, List.cons.injEq] at e2
          obtain ⟨rfl, rfl⟩ := e2
          have hlen := (ptF_facts g turn cs m).1
          obtain ⟨u6, u7, hb⟩ := point_turn k (ptF g turn cs m).1 (ptF g turn cs m).2 (.ow (.val (.int n))) t7 t6 g turn (m : Int) ht ⟨by omega, by omega⟩ (by omega)
          refine ⟨_, _, rfl, .inl hb, m + 1, j, by omega, rfl, .ow (.val (.int m)), u6, u7, ?_⟩
          have : ptF g turn cs (m + 1) = ptStep g turn (ptF g turn cs m) m := by
            unfold ptF
            rw [foldl_range]
          rw [this])
      (ps := rangeP 0 n) (ε := [.ow (.lst (VI cs)), .ow (.val (.int n)), .ow (.val (.bl g)), .ow (.val (.int turn)), .ow (.lst []), .no, .no, .no]) ⟨0, n, by omega, by rw [rangeP_nat, List.range_eq_range'], .no, .no, .no, rfl⟩
    have hj : suf = 0 := by
      cases suf with
      | zero => rfl
      | succ j => simp [List.range'_succ] at e2
    subst hj
    rw [Nat.add_zero] at e1
    subst e1
    exact ⟨t5, t6, t7, h1⟩
  obtain ⟨t5, t6, t7, hf⟩ := key
  have hr := eit_rngN T (rn (k + 1)) [.ow (.lst (VI cs)), .ow (.val (.int n)), .ow (.val (.bl g)), .ow (.val (.int turn)), .ow (.lst []), .no, .no, .no] _ _ (.c (.int 0)) (.v 1) 0 n rfl (by simp; rfl) ⟨by omega, by omega⟩ ⟨by omega, by omega⟩
  unfold bodyP at hf
  simp only [B28, ess_cons, es_asg, ev_lst, evs_nil, R.ok_bind, un2_eq, List.length_nil, Nat.zero_le, if_true, lf2_ok, assign_nm, setSl_succ, setSl_zero, lift_ok, next_nx, es_for, hr, lf3_ok, hf, after_nx, unlocks_nil, es_ret, evr_v, List.getElem?_cons_succ, List.getElem?_cons_zero, next_rt, fin_rt, outs_true, List.set_cons_succ, List.set_cons_zero]
end K01
end
section
set_option Elab.async false
set_option linter.all false
set_option maxRecDepth 100000
namespace K01
open PySem NB NBE
theorem isi_cons (sub : Nat → Nat → Bool) (p : P) (c : Cl) (cs : List Cl) : isiAny sub p (c :: cs) = match isiOne sub p c with
    | some true => some true
    | some false => isiAny sub p cs
    | none => none := (rfl)
theorem isi_nil (sub : Nat → Nat → Bool) (p : P) : isiAny sub p [] = some false := (rfl)
/-- a value that _law_same takes apart within n calls -/
def sm : Nat → P → Bool
  | 0, _ => false
  | _ + 1, .non => true
  | _ + 1, .int _ => true
  | _ + 1, .str x => PyData.strOk x
  | n + 1, .tup ps => decide (ps.length ≤ cap) && ps.all (sm n)
  | n + 1, .lst ps => decide (ps.length ≤ cap) && ps.all (sm n)
  | _ + 1, _ => false
def bodyS : SS := (.cons (.iff (.hold (.notv (.call 18 (.cons (.v 2) (.cons (.v 3) .nil))))) (.cons (.ret (.c (.bl false))) .nil) .nil) .nil)
theorem zip_self (xs : List P) : zip2 xs xs = xs.map fun x => P.tup [x, x] := by
  unfold zip2
  induction xs with
  | nil => rfl
  | cons x xs ih => simp at ih ⊢; exact ih
theorem same_for (K : Nat) (n : Nat) (ih : ∀ p, sm n p = true → rn K 18 [.val p, .val p] = .ok (.val (.bl true), [])) (s0 s1 : Sl) (xs : List P) (s2 s3 : Sl) (h : ∀ x ∈ xs, sm n x = true) : ∃ t2 t3, forLoop (.tup [2, 3]) (essF T (rn K) M 1000 bodyS) (xs.map fun x => P.tup [x, x]) [s0, s1, s2, s3] = .ok .nx [s0, s1, t2, t3] := by
  obtain ⟨ε', h1, suf, e2, _, t2, t3, rfl⟩ := for_inv (g := .tup [2, 3]) (body := essF T (rn K) M 1000 bodyS) (fun rest ε => ∃ suf : List P, rest = suf.map (fun x => P.tup [x, x]) ∧ (∀ x ∈ suf, sm n x = true) ∧ ∃ t2 t3, ε = [s0, s1, t2, t3]) (by
    rintro p ps ε ⟨suf, e2, hs, t2, t3, rfl⟩
    cases suf with
    | nil => cases e2
    | cons x suf =>
      simp only [List.map_cons, List.cons.injEq] at e2
      obtain ⟨rfl, rfl⟩ := e2
      have hx := ih x (hs x (by simp))
      refine ⟨_, [s0, s1, .ow (.val x), .ow (.val x)], rfl, .inl ?_, suf, rfl, fun y hy => hs y (List.mem_cons_of_mem _ hy), _, _, rfl⟩
      simp [bodyS, hx]) (ps := xs.map fun x => P.tup [x, x]) (ε := [s0, s1, s2, s3]) ⟨xs, rfl, h, s2, s3, rfl⟩
  exact ⟨t2, t3, h1⟩
theorem same_refl : ∀ (n : Nat) (p : P), sm n p = true → ∀ k, rn (k + n) 18 [.val p, .val p] = .ok (.val (.bl true), []) := by
  intro n
  induction n with
  | zero => intro p h; simp [sm] at h
  | succ n ih =>
    intro p h k
    rw [show k + (n + 1) = (k + n) + 1 from rfl, run18]
    cases p with
    | non => simp [B18, isi_cons, isi_nil, isiOne]
    | int i => simp [B18, isi_cons, isi_nil, isiOne, cmpR, cmpop]
    | str x =>
      have hx : PyData.strOk x = true := h
      simp [B18, isi_cons, isi_nil, isiOne, cmpR_eq, hx, cmpR, cmpop]
    | bl b => simp [sm] at h
    | exc c fs => simp [sm] at h
    | scr ns => simp [sm] at h
    | tup xs =>
      simp only [sm, Bool.and_eq_true, decide_eq_true_eq, List.all_eq_true] at h
      obtain ⟨t2, t3, hf⟩ := same_for (k + n) n (fun p hp => ih p hp k) (.ow (.val (.tup xs))) (.ow (.val (.tup xs))) xs .no .no h.2
      unfold bodyS at hf
      simp [B18, isi_cons, isi_nil, isiOne, zipItems, zip_self, hf]
    | lst xs =>
      simp only [sm, Bool.and_eq_true, decide_eq_true_eq, List.all_eq_true] at h
      obtain ⟨t2, t3, hf⟩ := same_for (k + n) n (fun p hp => ih p hp k) (.ow (.val (.lst xs))) (.ow (.val (.lst xs))) xs .no .no h.2
      unfold bodyS at hf
      simp [B18, isi_cons, isi_nil, isiOne, zipItems, zip_self, hf]
/-! ### the other form -/
theorem other_lst (k : Nat) (xs : List P) (h : xs.length ≤ cap) : rn (k + 1) 29 [.val (.lst xs)] = .ok (.tup (xs.map .val), []) := by
  rw [run29]
  simp [B29, isi_cons, isi_nil, isiOne, h]
theorem other_tup (k : Nat) (xs : List P) (h : xs.length ≤ cap) : rn (k + 1) 29 [.val (.tup xs)] = .ok (.lst (xs.map .val), []) := by
  rw [run29]
  simp [B29, isi_cons, isi_nil, isiOne, h]
theorem other_int (k : Nat) (i : Int) : rn (k + 1) 29 [.val (.int i)] = .ok (.val (.int i), []) := by
  rw [run29]
  simp [B29, isi_cons, isi_nil, isiOne]
theorem other_non (k : Nat) : rn (k + 1) 29 [.val .non] = .ok (.val .non, []) := by
  rw [run29]
  simp [B29, isi_cons, isi_nil, isiOne]
end K01
end
section
set_option Elab.async false
set_option linter.all false
set_option maxRecDepth 100000
namespace K01
open PySem NB NBE
theorem flat_ne {p : P} (h : p.flat = true) : p.ne = true := by cases p <;> first | rfl | cases h
@[simp] theorem sub10 : T.sub 1 0 = true := by kernel_rfl
@[simp] theorem sub20 : T.sub 2 0 = true := by kernel_rfl
@[simp] theorem sub30 : T.sub 3 0 = true := by kernel_rfl
@[simp] theorem sub11 : T.sub 1 1 = true := by kernel_rfl
@[simp] theorem sub12 : T.sub 1 2 = false := by kernel_rfl
@[simp] theorem sub13 : T.sub 1 3 = false := by kernel_rfl
@[simp] theorem sub21 : T.sub 2 1 = false := by kernel_rfl
@[simp] theorem sub22 : T.sub 2 2 = true := by kernel_rfl
@[simp] theorem sub23 : T.sub 2 3 = false := by kernel_rfl
@[simp] theorem sub31 : T.sub 3 1 = false := by kernel_rfl
@[simp] theorem sub32 : T.sub 3 2 = false := by kernel_rfl
@[simp] theorem sub33 : T.sub 3 3 = true := by kernel_rfl
@[simp] theorem flds1 : T.flds 1 = [("count" : Str)] := by kernel_rfl
@[simp] theorem flds2 : T.flds 2 = [("number" : Str)] := by kernel_rfl
@[simp] theorem flds3 : T.flds 3 = [("end" : Str)] := by kernel_rfl
def kindS : Nat → Str
  | 1 => "size"
  | 2 => "number"
  | _ => "end"
def refD (c : Nat) (q : P) : NB.D := .tup [.val (.str "refused"), .val (.str (kindS c)), .val q]
theorem refusal (k : Nat) (c : Nat) (q : P) (hc : c = 1 ∨ c = 2 ∨ c = 3) : rn (k + 1) 19 [.val (.exc c [q])] = .ok (refD c q, []) := by
  rw [run19]
  rcases hc with rfl | rfl | rfl <;> simp [B19, isi_cons, isi_nil, isiOne, cmpR_eq, refD, kindS]
/-- an answer that _law_told tells -/
inductive Fine : NB.R (NB.D × List NB.D) → NB.D → Prop where
  | ok (d : NB.D) (h : d.clean = true) : Fine (.ok (d, [])) (.tup [.val (.str "told"), d])
  | exc (c : Nat) (q : P) (hc : c = 1 ∨ c = 2 ∨ c = 3) (h : q.flat = true) : Fine (.exc c [q]) (refD c q)
section
variable {k : Nat} {w : P} {a b : P} {r : NB.R (NB.D × List NB.D)} {d : NB.D}
theorem refD_ne (c : Nat) (q : P) (h : q.flat = true) : (refD c q).p.ne = true := by simp [refD, flat_ne h]
theorem refD_clean (c : Nat) (q : P) (h : q.flat = true) : (refD c q).clean = true := by simp [refD, h]
theorem told0 (hw : w.ne = true) (ha : a.ne = true) (hb : b.ne = true) (h : rn (k + 1) 7 [.val w] = r) (f : Fine r d) : rn (k + 2) 20 [.val (.int 0), .val w, .val a, .val b] = .ok (d, []) := by
  rw [run20]
  cases f with
  | ok d hd => simp [B20, h, hd]
  | exc c q hc hq => rcases hc with rfl | rfl | rfl <;> simp [B20, h, hq, tryE_exc, refusal, refD_clean, refD_ne, hw, ha, hb]
theorem told1 (hw : w.ne = true) (ha : a.ne = true) (hb : b.ne = true) (h : rn (k + 1) 10 [.val w] = r) (f : Fine r d) : rn (k + 2) 20 [.val (.int 1), .val w, .val a, .val b] = .ok (d, []) := by
  rw [run20]
  cases f with
  | ok d hd => simp [B20, h, hd]
  | exc c q hc hq => rcases hc with rfl | rfl | rfl <;> simp [B20, h, hq, tryE_exc, refusal, refD_clean, refD_ne, hw, ha, hb]
theorem told2 (hw : w.ne = true) (ha : a.ne = true) (hb : b.ne = true) (h : rn (k + 1) 9 [.val w, .val a, .val b] = r) (f : Fine r d) : rn (k + 2) 20 [.val (.int 2), .val w, .val a, .val b] = .ok (d, []) := by
  rw [run20]
  cases f with
  | ok d hd => simp [B20, h, hd]
  | exc c q hc hq => rcases hc with rfl | rfl | rfl <;> simp [B20, h, hq, tryE_exc, refusal, refD_clean, refD_ne, hw, ha, hb]
theorem told3 (hw : w.ne = true) (ha : a.ne = true) (hb : b.ne = true) (h : rn (k + 1) 12 [.val w, .val a, .val b] = r) (f : Fine r d) : rn (k + 2) 20 [.val (.int 3), .val w, .val a, .val b] = .ok (d, []) := by
  rw [run20]
  cases f with
  | ok d hd => simp [B20, h, hd]
  | exc c q hc hq => rcases hc with rfl | rfl | rfl <;> simp [B20, h, hq, tryE_exc, refusal, refD_clean, refD_ne, hw, ha, hb]
theorem told4 (hw : w.ne = true) (ha : a.ne = true) (hb : b.ne = true) (h : rn (k + 1) 13 [.val w, .val a, .val b] = r) (f : Fine r d) : rn (k + 2) 20 [.val (.int 4), .val w, .val a, .val b] = .ok (d, []) := by
  rw [run20]
  cases f with
  | ok d hd => simp [B20, h, hd]
  | exc c q hc hq => rcases hc with rfl | rfl | rfl <;> simp [B20, h, hq, tryE_exc, refusal, refD_clean, refD_ne, hw, ha, hb]
theorem told5 (hw : w.ne = true) (ha : a.ne = true) (hb : b.ne = true) (h : rn (k + 1) 15 [.val w, .val a, .val b] = r) (f : Fine r d) : rn (k + 2) 20 [.val (.int 5), .val w, .val a, .val b] = .ok (d, []) := by
  rw [run20]
  cases f with
  | ok d hd => simp [B20, h, hd]
  | exc c q hc hq => rcases hc with rfl | rfl | rfl <;> simp [B20, h, hq, tryE_exc, refusal, refD_clean, refD_ne, hw, ha, hb]
end
end K01
end
section
set_option Elab.async false
set_option linter.all false
set_option maxRecDepth 100000
namespace K01
open PySem NB NBE
theorem law_ends (k : Nat) (n : Nat) (hn : n ≤ 6) : rn (k + 1) 21 [.val (.int n)] = .ok (.lst (VE (endsL n)), []) := by
  rw [run21]
  have h5 := rangeP_ends n
  have h6 : n + 1 ≤ cap := cap_of (by omega)
  simp [B21, range2_nat (show n ≤ 1000 by omega), h5, h6]
def bodyI : SS := (.cons (.iff (.hold (.cmp .ne (.v 2) (.v 3))) (.cons (.ex (.meth .append 1 (.cons (.tup (.cons (.v 2) (.cons (.v 3) .nil))) .nil))) .nil) .nil) .nil)
theorem steps_inner (k : Nat) (a : Option Int) (s0 : Sl) : ∀ (es : List (Option Int)) (acc : List (Option Int × Option Int)) (s3 : Sl), acc.length + es.length ≤ 1000 → ∃ t3, forLoop (.nm 3) (essF T (rn k) M 1000 bodyI) (PE es) [s0, .ow (.lst (acc.map stD)), .ow (.val (EP a)), s3] = .ok .nx [s0, .ow (.lst ((acc ++ (es.filter fun b => decide (a ≠ b)).map fun b => (a, b)).map stD)), .ow (.val (EP a)), t3]
  | [], acc, s3, _ => ⟨s3, by simp⟩
  | b :: es, acc, s3, h => by
    simp only [List.length_cons] at h
    have hcap : acc.length < cap := by unfold cap; omega
    by_cases hab : a = b
    · obtain ⟨t3, ht⟩ := steps_inner k a s0 es acc (.ow (.val (EP b))) (by omega)
      refine ⟨t3, ?_⟩
      rw [PE_cons, forLoop_cons]
      subst hab
      simpa [bodyI, cmpR_ne] using ht
    · obtain ⟨t3, ht⟩ := steps_inner k a s0 es (acc ++ [(a, b)]) (.ow (.val (EP b))) (by simp; omega)
      refine ⟨t3, ?_⟩
      rw [PE_cons, forLoop_cons]
      simpa [bodyI, cmpR_ne, hab, hcap, stD] using ht
def bodyO : SS := (.cons (.for_ (.nm 3) (.seq (.call 21 (.cons (.v 0) .nil))) bodyI) .nil)
theorem steps_outer (k : Nat) (n : Nat) (hn : n ≤ 6) : ∀ (es : List (Option Int)) (acc : List (Option Int × Option Int)) (s2 s3 : Sl), acc.length + 7 * es.length ≤ 1000 → ∃ t2 t3, forLoop (.nm 2) (essF T (rn (k + 1)) M 1000 bodyO) (PE es) [.ow (.val (.int n)), .ow (.lst (acc.map stD)), s2, s3] = .ok .nx [.ow (.val (.int n)), .ow (.lst ((acc ++ es.flatMap fun a => ((endsL n).filter fun b => decide (a ≠ b)).map fun b => (a, b)).map stD)), t2, t3]
  | [], acc, s2, s3, _ => ⟨s2, s3, by simp⟩
  | a :: es, acc, s2, s3, h => by
    simp only [List.length_cons] at h
    have hb : ((endsL n).filter fun b => decide (a ≠ b)).length ≤ 7 := by
      have := List.length_filter_le (fun b => decide (a ≠ b)) (endsL n)
      simp at this
      simp
      omega
    obtain ⟨u3, hu⟩ := steps_inner (k + 1) a (.ow (.val (.int n))) (endsL n) acc s3 (by simp; omega)
    obtain ⟨t2, t3, ht⟩ := steps_outer k n hn es (acc ++ ((endsL n).filter fun b => decide (a ≠ b)).map fun b => (a, b)) (.ow (.val (EP a))) u3 (by simp at hb ⊢; omega)
    refine ⟨t2, t3, ?_⟩
    rw [PE_cons, forLoop_cons]
    simp only [assign_nm, setSl_succ, setSl_zero, lift_ok, essF_ap]
    have hbody : ess T (rn (k + 1)) M 1000 bodyO [.ow (.val (.int n)), .ow (.lst (acc.map stD)), .ow (.val (EP a)), s3] = .ok .nx [.ow (.val (.int n)), .ow (.lst ((acc ++ ((endsL n).filter fun b => decide (a ≠ b)).map fun b => (a, b)).map stD)), .ow (.val (EP a)), u3] := by
      unfold bodyO
      simp only [ess_cons, es_for, eit_seq, argOf_call, ev_call, eargs_cons, argOf_v, List.getElem?_cons_zero, R.ok_bind, un2_eq, eargs_nil, mu21, callE_false, borrows_cons, borrow_nm, borrows_nil, List.map_cons, List.map_nil, D.p_val, law_ends _ _ hn, backE_ok, D.clean_lst, cleans_VE, D.cleans_nil, Bool.and_self, if_true, un3_eq, lockV_tm, D.p_lst, ps_VE, itemsOf_lst, lf3_ok, hu, after_nx, unlocks_cons, unlock1_tm, unlocks_nil, next_nx, ess_nil]
    rw [hbody]
    simp only [ht]
    simp
theorem law_steps (k : Nat) (n : Nat) (hn : n ≤ 6) : rn (k + 2) 22 [.val (.int n)] = .ok (.lst ((stepsL n).map stD), []) := by
  rw [run22]
  obtain ⟨t2, t3, h⟩ := steps_outer k n hn (endsL n) [] .no .no (by simp; omega)
  unfold bodyO bodyI at h
  simp only [List.map_nil, List.nil_append] at h
  simp [B22, law_ends _ _ hn, h, stepsL]
theorem law_all (k : Nat) (xs : List Int) (p : P) (hp : IsPt p xs) (hl : xs.length ≤ 1000) : rn (k + 1) 23 [.val p] = .ok (.lst (VI (allL xs)), []) := by
  rw [run23]
  have h1 : xs.length ≤ cap := by unfold cap; omega
  have h2 : xs.length + 1 ≤ cap := by unfold cap; omega
  cases hp <;> simp [B23, h1, h2, allL]
theorem law_moved (k : Nat) (xs : List Int) (p : P) (hp : IsPt p xs) (hl : xs.length ≤ cap) (a b : Option Int) (ha : endOk xs.length a = true) (hb : endOk xs.length b = true) : rn (k + 1) 24 [.val p, .val (.tup [EP a, EP b])] = .ok (.tup (VI (mv xs a b)), []) := by
  rw [run24]
  cases a with
  | none =>
    cases b with
    | none => cases hp <;> simp [B24, hl, forLoop_cons, mv, bump]
    | some j =>
      obtain ⟨h1, h2⟩ := endOk_some hb
      have h3 : j.toNat < xs.length := by omega
      cases hp <;> simp [B24, hl, forLoop_cons, mv, bump, ixP_nat h1 h2, index_lst (xs := PI xs) h1 (by simpa using h2), PI_get h3, VI_set, List.getElem?_eq_getElem h3]
  | some i =>
    obtain ⟨h4, h5⟩ := endOk_some ha
    have h6 : i.toNat < xs.length := by omega
    cases b with
    | none => cases hp <;> simp [B24, hl, forLoop_cons, mv, bump, ixP_nat h4 h5, index_lst (xs := PI xs) h4 (by simpa using h5), PI_get h6, VI_set, List.getElem?_eq_getElem h6]
    | some j =>
      obtain ⟨h1, h2⟩ := endOk_some hb
      have h3 : j.toNat < xs.length := by omega
      have h7 : j.toNat < (xs.set i.toNat (xs[i.toNat] + -1)).length := by simpa using h3
      cases hp <;> simp [B24, hl, forLoop_cons, mv, bump, ixP_nat h4 h5, ixP_nat h1 h2, index_lst (xs := PI xs) h4 (by simpa using h5), PI_get h6, VI_set, List.getElem?_eq_getElem h6, index_lst (xs := PI (xs.set i.toNat (xs[i.toNat] + -1))) h1 (by simpa using h2), PI_get h7, List.getElem?_eq_getElem h7, h3]
end K01
end
section
set_option Elab.async false
set_option linter.all false
set_option maxRecDepth 100000
namespace K01
open PySem NB NBE
theorem far_lc (as bs : List Int) (x y : Sl) (k : Nat) : lcLoop (.tup [3, 4]) [3, 4] (lcTurn T (rn k) .none (.bi .abs (.cons (.bin .sub (.v 3) (.v 4)) .nil))) ((as.zip bs).map fun t => P.tup [.int t.1, .int t.2]) [x, y, .no, .no, .no] = .ok (VI (gapsL as bs), [x, y, .no, .no, .no]) := by
  rw [lc_map fun p => match p with
    | .tup [.int a, .int b] => NB.D.val (.int (if a - b < 0 then -(a - b) else a - b))
    | _ => .val .non]
  · simp [gapsL, VI, Function.comp_def]
  · intro p hp
    obtain ⟨t, _, rfl⟩ := List.mem_map.mp hp
    exact ⟨_, _, rfl, by simp [lcTurn]; rfl, rfl⟩
theorem law_far (k : Nat) (xs ys : List Int) (p q : P) (hp : IsPt p xs) (hq : IsPt q ys) (hx : xs.length ≤ 1000) (hy : ys.length ≤ 1000) : rn (k + 2) 25 [.val p, .val q] = .ok (.val (.int (farL xs ys)), []) := by
  rw [run25]
  have h1 : ((allL xs).zip (allL ys)).length ≤ cap := by simp [allL, cap]; omega
  have h2 : min (allL xs).length (allL ys).length ≤ cap := by simpa using h1
  simp [B25, law_all _ _ _ hp hx, law_all _ _ _ hq hy, zipII, h2, far_lc, binop_fdiv, farL, show Nat.log2 2 < 9000 by decide +kernel]
def bodyN : SS := (.cons (.ex (.meth .extend 2 (.cons (.bin .mul (.lst (.cons (.v 4) .nil)) (.bi .max_ (.cons (.c (.int 0)) (.cons (.bin .sub (.v 5) (.v 6)) .nil)))) .nil))) (.cons (.ex (.meth .extend 3 (.cons (.bin .mul (.lst (.cons (.v 4) .nil)) (.bi .max_ (.cons (.c (.int 0)) (.cons (.bin .sub (.v 6) (.v 5)) .nil)))) .nil))) .nil))
theorem side_turn (k : Nat) (s0 s1 : Sl) (m l : List (Option Int)) (t : Tri) (h : (t.2.1 - t.2.2).natAbs ≤ 20000) (hm : m.length ≤ 200000) (hl : l.length ≤ 200000) : ess T (rn k) M 1000 bodyN [s0, s1, .ow (.lst (VE m)), .ow (.lst (VE l)), .ow (.val (EP t.1)), .ow (.val (.int t.2.1)), .ow (.val (.int t.2.2))] = .ok .nx [s0, s1, .ow (.lst (VE (m ++ sideT t))), .ow (.lst (VE (l ++ sideT (swT t)))), .ow (.val (EP t.1)), .ow (.val (.int t.2.1)), .ow (.val (.int t.2.2))] := by
  have h2 : (t.2.2 - t.2.1).natAbs ≤ 20000 := by omega
  have e1 := extend_VE m (sideT t) (.lst (VE (sideT t))) (by simp) (by simp [sideT, cap]; omega)
  have e2 := extend_VE l (sideT (swT t)) (.lst (VE (sideT (swT t)))) (by simp) (by simp [sideT, swT, cap]; omega)
  simp only [sideT, swT] at e1 e2
  simp [bodyN, mul_rep _ _ _ h, mul_rep _ _ _ h2, e1, e2, sideT, swT]
theorem side_for (k : Nat) (s0 s1 s7 s8 s9 : Sl) (all : List Tri) (hall : all.length ≤ 10) (hb : ∀ t ∈ all, (t.2.1 - t.2.2).natAbs ≤ 20000) : ∃ t7 t8 t9, forLoop (.tup [4, 5, 6]) (essF T (rn k) M 1000 bodyN) (all.map tP) [s0, s1, .ow (.lst []), .ow (.lst []), s7, s8, s9] = .ok .nx [s0, s1, .ow (.lst (VE (moreL all))), .ow (.lst (VE (lessL all))), t7, t8, t9] := by
  have step : ∀ p ps ε, (∃ pre : List Tri, ∃ suf, pre ++ suf = all ∧ p :: ps = suf.map tP ∧ ∃ t7 t8 t9, ε = [s0, s1, .ow (.lst (VE (moreL pre))), .ow (.lst (VE (lessL pre))), t7, t8, t9]) → ∃ ε1 ε2, assign ε (.tup [4, 5, 6]) (.val p) = .ok ε1 ∧ (essF T (rn k) M 1000 bodyN ε1 = .ok .nx ε2 ∨ essF T (rn k) M 1000 bodyN ε1 = .ok .ct ε2) ∧ (∃ pre : List Tri, ∃ suf, pre ++ suf = all ∧ ps = suf.map tP ∧ ∃ t7 t8 t9, ε2 = [s0, s1, .ow (.lst (VE (moreL pre))), .ow (.lst (VE (lessL pre))), t7, t8, t9]) := by
    rintro p ps ε ⟨pre, suf, e1, e2, t7, t8, t9, rfl⟩
    cases suf with
    | nil => cases e2
    | cons t suf =>
      simp only [List.map_cons, List.cons.injEq] at e2
      obtain ⟨rfl, rfl⟩ := e2
      have ht : t ∈ all := by rw [← e1]; simp
      have hpl : pre.length ≤ 10 := by rw [← e1] at hall; simp at hall; omega
      obtain ⟨b1, b2⟩ := more_bound (B := 20000) (ts := pre) fun u hu => hb u (by rw [← e1]; simp [hu])
      refine ⟨_, _, by simp only [tP]; rfl, .inl (side_turn k s0 s1 (moreL pre) (lessL pre) t (hb t ht) (by omega) (by omega)), pre ++ [t], suf, by rw [← e1]; simp, rfl, _, _, _, by simp [moreL, lessL]; exact ⟨rfl, rfl, rfl⟩⟩
  obtain ⟨ε', h1, pre, suf, e1, e2, t7, t8, t9, rfl⟩ := for_inv (g := .tup [4, 5, 6]) (body := essF T (rn k) M 1000 bodyN) (fun rest ε => ∃ pre : List Tri, ∃ suf, pre ++ suf = all ∧ rest = suf.map tP ∧ ∃ t7 t8 t9, ε = [s0, s1, .ow (.lst (VE (moreL pre))), .ow (.lst (VE (lessL pre))), t7, t8, t9]) step (ps := all.map tP) (ε := [s0, s1, .ow (.lst []), .ow (.lst []), s7, s8, s9]) ⟨[], all, rfl, rfl, s7, s8, s9, rfl⟩
  have : suf = [] := by
    cases suf with
    | nil => rfl
    | cons a b => cases e2
  subst this
  rw [List.append_nil] at e1
  subst e1
  exact ⟨t7, t8, t9, h1⟩
theorem law_sides (k : Nat) (n : Nat) (hn : n ≤ 6) (xs ys : List Int) (p q : P) (hp : IsPt p xs) (hq : IsPt q ys) (hx : xs.length = n) (hy : ys.length = n) (hx2 : ∀ x ∈ xs, x.natAbs ≤ 1000) (hy2 : ∀ x ∈ ys, x.natAbs ≤ 1000) : rn (k + 2) 26 [.val p, .val q] = .ok (.tup [.lst (VE (moreL (trisL n xs ys))), .lst (VE (lessL (trisL n xs ys)))], []) := by
  rw [run26]
  subst hx
  obtain ⟨t7, t8, t9, hf⟩ := side_for (k + 1) (.ow (.val p)) (.ow (.val q)) .no .no .no (trisL xs.length xs ys) (by simp [trisL]; omega) (tris_bound hn hx2 (by omega) hy2)
  unfold bodyN at hf
  have e1 := law_all k xs p hp (by omega)
  have e2 := law_all k ys q hq (by omega)
  cases hp <;> (
    simp [B26, law_ends _ _ hn, e1, e2, zip3_tri]
    rw [show (endsL xs.length).zip ((allL xs).zip (allL ys)) = trisL xs.length xs ys from rfl, hf]
    simp)
theorem same_lc1 (k : Nat) (es : List (Option Int)) (s0 s1 : Sl) : lcLoop (.nm 3) [3] (lcTurn T (rn k) (.some (.cmp .isnot (.v 3) (.c .non))) (.v 3)) (PE es) [s0, s1, .no, .no] = .ok (VE (es.filter (·.isSome)), [s0, s1, .no, .no]) := by
  rw [lc_fmap fun p => if (isE p).isSome then some (NB.D.val p) else none]
  · congr 2
    unfold PE VE
    rw [List.filterMap_map]
    induction es with
    | nil => rfl
    | cons e es ih =>
      simp only [List.filterMap_cons, Function.comp_def, isE_EP, List.filter_cons]
      cases e <;> simpa [Function.comp_def] using ih
  · intro p hp
    obtain ⟨e, _, rfl⟩ := mem_PE hp
    cases e with
    | none => exact ⟨_, _, rfl, by simp [lcTurn, isE]; rfl, rfl⟩
    | some i => exact ⟨_, _, rfl, by simp [lcTurn, isE]; rfl, rfl⟩
theorem same_lc2 (k : Nat) (es : List (Option Int)) (h : ∀ e ∈ es, e.isSome = true) (s0 s1 s2 : Sl) : lcLoop (.nm 3) [3] (lcTurn T (rn k) (.some (.or_ (.isi (.v 3) [.bool_]) (.notv (.isi (.v 3) [.int_])))) (.v 3)) (PE es) [s0, s1, s2, .no] = .ok ([], [s0, s1, s2, .no]) := by
  rw [lc_fmap fun p => none]
  · simp
  · intro p hp
    obtain ⟨e, he, rfl⟩ := mem_PE hp
    obtain ⟨i, rfl⟩ := Option.isSome_iff_exists.mp (h e he)
    exact ⟨_, _, rfl, by simp [lcTurn, isi_cons, isi_nil, isiOne]; rfl, rfl⟩
theorem same_ends (k : Nat) (es : List (Option Int)) (hl : es.length ≤ cap) : rn (k + 1) 27 [.val (.lst (PE es)), .val (.lst (PE es))] = .ok (.val (.bl true), []) := by
  rw [run27]
  have h1 := cmpOks_PE 18 es
  have h2 : (es.filter (·.isSome)).length ≤ cap := Nat.le_trans (List.length_filter_le _ _) hl
  have h3 := same_lc2 k (es.filter (·.isSome)) (fun e he => (List.mem_filter.mp he).2) 
  simp [B27, isi_cons, isi_nil, isiOne, cmpR_ne, h1, eqvs_PE, hl, same_lc1, h2, h3, cmpR_eq]
end K01
end
section
set_option Elab.async false
set_option linter.all false
set_option maxRecDepth 100000
namespace K01
open PySem NB NBE
/-- a point of the width n -/
structure Pt (n : Nat) (xs : List Int) : Prop where
  w : n ≤ 6
  len : xs.length = n
  bd : ∀ x ∈ xs, x.natAbs ≤ 1000
theorem lookP_ok {n : Nat} {xs : List Int} (h : Pt n xs) : lookP n xs = .ok (.tup (VI xs), []) := by
  unfold lookP lookN
  rw [if_pos (by rw [h.len])]
  have : lookL (-1000) 1000 xs = .ok (VI xs) := by
    unfold lookL
    have hf : xs.find? (fun x => !(decide (-1000 ≤ x) && decide (x ≤ 1000))) = none := by
      rw [List.find?_eq_none]
      intro x hx
      have := h.bd x hx
      simp
      omega
    rw [hf]
  rw [this]
  rfl
theorem Pt.le {n : Nat} {xs : List Int} (h : Pt n xs) : xs.length ≤ 1000 := by rw [h.len]; have := h.w; omega
theorem Pt.wid {n : Nat} {xs : List Int} (h : Pt n xs) : (0 : Int) ≤ n ∧ (n : Int) ≤ 6 := by have := h.w; omega
theorem isPt_ne {p : P} {xs : List Int} (h : IsPt p xs) : p.ne = true := by cases h <;> simp
abbrev told (d : NB.D) : NB.D := .tup [.val (.str "told"), d]
section
variable {n : Nat} {xs ys : List Int} {p q s a b : P}
theorem t0 (k : Nat) (hn : n ≤ 6) (ha : a.ne = true) (hb : b.ne = true) : rn (k + 5) 20 [.val (.int 0), .val (.int n), .val a, .val b] = .ok (told (.lst (VE (endsL n))), []) :=
  told0 rfl ha hb (ends_ok (k + 2) n hn) (.ok _ (by simp))
theorem t1 (k : Nat) (hn : n ≤ 6) (ha : a.ne = true) (hb : b.ne = true) : rn (k + 5) 20 [.val (.int 1), .val (.int n), .val a, .val b] = .ok (told (.lst ((stepsL n).map stD)), []) :=
  told1 rfl ha hb (near_steps (k + 1) n hn) (.ok _ (by simp [cleans_map stD_clean]))
theorem t2 (k : Nat) (hx : Pt n xs) (hp : IsPt p xs) (e : Option Int) (he : endOk n e = true) : rn (k + 5) 20 [.val (.int 2), .val (.int n), .val p, .val (EP e)] = .ok (told (.val (.int (amt xs e))), []) := by
  have h := amount_at k n xs p hp (cap_of hx.le) e
  rw [if_pos hx.wid, lookP_ok hx, thenR_ok, if_pos he] at h
  exact told2 rfl (isPt_ne hp) (by simp) h (.ok _ rfl)
theorem t3 (k : Nat) (hx : Pt n xs) (hp : IsPt p xs) (u v : Option Int) (hs : s = .tup [EP u, EP v] ∨ s = .lst [EP u, EP v]) (hu : endOk n u = true) (hv : endOk n v = true) (huv : u ≠ v) : rn (k + 5) 20 [.val (.int 3), .val (.int n), .val p, .val s] = .ok (told (.tup (VI (mv xs u v))), []) := by
  have h := stepped k n xs p s hp (cap_of hx.le) u v hs
  rw [if_pos hx.wid, lookP_ok hx, thenR_ok, lookS, if_pos hu, if_pos hv, if_neg huv, thenR_ok] at h
  exact told3 rfl (isPt_ne hp) (by rcases hs with rfl | rfl <;> simp) h (.ok _ (by simp))
theorem t4 (k : Nat) (hx : Pt n xs) (hy : Pt n ys) (hp : IsPt p xs) (hq : IsPt q ys) : rn (k + 5) 20 [.val (.int 4), .val (.int n), .val p, .val q] = .ok (told (.tup [.lst (VE (moreL (trisL n xs ys))), .lst (VE (lessL (trisL n xs ys)))]), []) := by
  have h := more_less k n xs ys p q hp hq hx.le hy.le
  rw [if_pos hx.wid, lookP_ok hx, thenR_ok, lookP_ok hy, thenR_ok] at h
  exact told4 rfl (isPt_ne hp) (isPt_ne hq) h (.ok _ (by simp))
theorem t5 (k : Nat) (hx : Pt n xs) (hy : Pt n ys) (hp : IsPt p xs) (hq : IsPt q ys) : rn (k + 5) 20 [.val (.int 5), .val (.int n), .val p, .val q] = .ok (told (.val (.int (farL xs ys))), []) := by
  have h := distance k n xs ys p q hp hq hx.le hy.le
  rw [if_pos hx.wid, lookP_ok hx, thenR_ok, lookP_ok hy, thenR_ok] at h
  exact told5 rfl (isPt_ne hp) (isPt_ne hq) h (.ok _ rfl)
end
/-! ### the rows of _law_right -/
/-- what _law_right asks of a row -/
def Good1 (n : Nat) (wh : Int) (a b due : P) : Prop := ∃ d : NB.D, (∀ k, rn (k + 5) 20 [.val (.int wh), .val (.int n), .val a, .val b] = .ok (told d, [])) ∧ d.p = due ∧ d.clean = true ∧ (wh < 2 → ∃ ds, d = .lst ds ∧ ds.length < cap)
def Other (a : P) (d : NB.D) : Prop := (∀ k, rn (k + 1) 29 [.val a] = .ok (d, [])) ∧ d.clean = true
structure Row where
  wh : Int
  a : P
  b : P
  due : P
def Row.p (r : Row) : P := .tup [.int r.wh, r.a, r.b, r.due]
structure Row.Good (n : Nat) (r : Row) : Prop where
  g0 : Good1 n r.wh r.a r.b r.due
  g1 : ∃ da db, Other r.a da ∧ Other r.b db ∧ Good1 n r.wh da.p db.p r.due
  s : sm 4 r.due = true
def bodyR : SS := (.cons (.iff (.hold (.cmp .eq (.v 8) (.c (.int 1)))) (.cons (.asg (.nm 6) (.call 29 (.cons (.v 6) .nil))) (.cons (.asg (.nm 10) (.call 29 (.cons (.v 10) .nil))) .nil)) .nil) (.cons (.asg (.nm 12) (.call 20 (.cons (.v 9) (.cons (.v 0) (.cons (.v 6) (.cons (.v 10) .nil)))))) (.cons (.iff (.hold (.notv (.call 18 (.cons (.v 12) (.cons (.tup (.cons (.c (.str "told")) (.cons (.v 11) .nil))) .nil))))) (.cons (.ret (.c (.bl false))) .nil) .nil) (.cons (.iff (.hold (.cmp .lt (.v 9) (.c (.int 2)))) (.cons (.ex (.methP .append 12 [1] [(.int 7)])) .nil) .nil) .nil))))
theorem atPath1 (f : List NB.D → NB.R (NB.D × List NB.D)) (x : NB.D) (ds : List NB.D) : atPath f [1] (.tup [x, .lst ds]) = f ds >>= fun z => .ok (z.1, .tup [x, .lst z.2]) := by
  show (NB.R.of (ixP 2 1) >>= fun k => NB.R.of ([x, NB.D.lst ds][k]?) >>= fun d0 => atPath f [] d0 >>= fun z => NB.R.ok (z.1, NB.D.tup ([x, NB.D.lst ds].set k z.2))) = _
  rw [ixP_nat (by omega) (by omega)]
  simp only [R.of_some', R.ok_bind, show (1 : Int).toNat = 1 from rfl, List.getElem?_cons_succ, List.getElem?_cons_zero]
  show ((f ds >>= fun (d, ds') => NB.R.ok (d, NB.D.lst ds')) >>= fun z => NB.R.ok (z.1, NB.D.tup ([x, NB.D.lst ds].set 1 z.2))) = _
  cases f ds with
  | ok z => rfl
  | exc c fs => rfl
  | stuck => rfl
theorem row_end (k : Nat) (n : Nat) (wh : Int) (da db : NB.D) (due : P) (g : Good1 n wh da.p db.p due) (hs : sm 4 due = true) (s1 s2 s3 s4 s5 s7 s8 s12 : Sl) : ∃ t12, ess T (rn (k + 5)) M 1000 (.cons (.asg (.nm 12) (.call 20 (.cons (.v 9) (.cons (.v 0) (.cons (.v 6) (.cons (.v 10) .nil)))))) (.cons (.iff (.hold (.notv (.call 18 (.cons (.v 12) (.cons (.tup (.cons (.c (.str "told")) (.cons (.v 11) .nil))) .nil))))) (.cons (.ret (.c (.bl false))) .nil) .nil) (.cons (.iff (.hold (.cmp .lt (.v 9) (.c (.int 2)))) (.cons (.ex (.methP .append 12 [1] [(.int 7)])) .nil) .nil) .nil))) [.ow (.val (.int n)), s1, s2, s3, s4, s5, .ow da, s7, s8, .ow (.val (.int wh)), .ow db, .ow (.val due), s12] = .ok .nx [.ow (.val (.int n)), s1, s2, s3, s4, s5, .ow da, s7, s8, .ow (.val (.int wh)), .ow db, .ow (.val due), t12] := by
  obtain ⟨d, h1, rfl, hc, h2⟩ := g
  have h1 := h1 k
  have h3 := same_refl 5 (.tup [.str "told", d.p]) (by
    show (decide (2 ≤ cap) && [P.str "told", d.p].all (sm 4)) = true
    simp [hs]
    decide +kernel) k
  by_cases hw : wh < 2
  · obtain ⟨ds, rfl, hl⟩ := h2 hw
    simp at h3 hc
    refine ⟨.ow (told (.lst (ds ++ [.val (.int 7)]))), ?_⟩
    simp [h1, h3, hc, hw, atPath1, hl]
  · refine ⟨.ow (told d), ?_⟩
    simp [h1, h3, hc, hw]
theorem row_turn (k : Nat) (n : Nat) (r : Row) (g : r.Good n) (t : Int) (ht : t = 0 ∨ t = 1) (s1 s2 s3 s4 s5 s7 s12 : Sl) : ∃ t6 t10 t12, ess T (rn (k + 5)) M 1000 bodyR [.ow (.val (.int n)), s1, s2, s3, s4, s5, .ow (.val r.a), s7, .ow (.val (.int t)), .ow (.val (.int r.wh)), .ow (.val r.b), .ow (.val r.due), s12] = .ok .nx [.ow (.val (.int n)), s1, s2, s3, s4, s5, t6, s7, .ow (.val (.int t)), .ow (.val (.int r.wh)), t10, .ow (.val r.due), t12] := by
  rcases ht with rfl | rfl
  · obtain ⟨t12, h⟩ := row_end k n r.wh (.val r.a) (.val r.b) r.due g.g0 g.s s1 s2 s3 s4 s5 s7 (.ow (.val (.int 0))) s12
    refine ⟨.ow (.val r.a), .ow (.val r.b), t12, ?_⟩
    unfold bodyR
    rw [ess_cons]
    refine (congrArg (fun r : RS => r.next _) (?_ : _ = RS.ok .nx [.ow (.val (.int n)), s1, s2, s3, s4, s5, .ow (.val r.a), s7, .ow (.val (.int 0)), .ow (.val (.int r.wh)), .ow (.val r.b), .ow (.val r.due), s12])).trans ?_
    · simp
    · rw [next_nx]
      exact h
  · obtain ⟨da, db, ⟨o1, c1⟩, ⟨o2, c2⟩, g1⟩ := g.g1
    obtain ⟨t12, h⟩ := row_end k n r.wh da db r.due g1 g.s s1 s2 s3 s4 s5 s7 (.ow (.val (.int 1))) s12
    refine ⟨.ow da, .ow db, t12, ?_⟩
    unfold bodyR
    rw [ess_cons]
    refine (congrArg (fun r : RS => r.next _) (?_ : _ = RS.ok .nx [.ow (.val (.int n)), s1, s2, s3, s4, s5, .ow da, s7, .ow (.val (.int 1)), .ow (.val (.int r.wh)), .ow db, .ow (.val r.due), s12])).trans ?_
    · have e1 := o1 (k + 4)
      have e2 := o2 (k + 4)
      simp [e1, e2, c1, c2]
    · rw [next_nx]
      exact h
end K01
end
section
set_option Elab.async false
set_option linter.all false
set_option maxRecDepth 100000
namespace K01
open PySem NB NBE
theorem rows_for (k : Nat) (n : Nat) (t : Int) (ht : t = 0 ∨ t = 1) (s1 s2 s3 s4 s5 s7 : Sl) : ∀ (rs : List Row) (s6 s9 s10 s11 s12 : Sl), (∀ r ∈ rs, r.Good n) → ∃ t6 t9 t10 t11 t12, forLoop (.tup [9, 6, 10, 11]) (essF T (rn (k + 5)) M 1000 bodyR) (rs.map Row.p) [.ow (.val (.int n)), s1, s2, s3, s4, s5, s6, s7, .ow (.val (.int t)), s9, s10, s11, s12] = .ok .nx [.ow (.val (.int n)), s1, s2, s3, s4, s5, t6, s7, .ow (.val (.int t)), t9, t10, t11, t12]
  | [], s6, s9, s10, s11, s12, _ => ⟨s6, s9, s10, s11, s12, rfl⟩
  | r :: rs, s6, s9, s10, s11, s12, h => by
    obtain ⟨u6, u10, u12, hu⟩ := row_turn k n r (h r (by simp)) t ht s1 s2 s3 s4 s5 s7 s12
    obtain ⟨t6, t9, t10, t11, t12, ih⟩ := rows_for k n t ht s1 s2 s3 s4 s5 s7 rs u6 (.ow (.val (.int r.wh))) u10 (.ow (.val r.due)) u12 fun q hq => h q (List.mem_cons_of_mem _ hq)
    refine ⟨t6, t9, t10, t11, t12, ?_⟩
    rw [List.map_cons, forLoop_cons]
    simp only [Row.p, assign_tupV, List.map_cons, List.map_nil, setMany_cons, setMany_nil, setSl_succ, setSl_zero, lift_ok, essF_ap]
    rw [hu]
    exact ih
def bodyT : SS := (.cons (.for_ (.tup [9, 6, 10, 11]) (.seq (.v 4)) bodyR) .nil)
theorem turn_body (k : Nat) (n : Nat) (t : Int) (ht : t = 0 ∨ t = 1) (rs : List Row) (d4 : NB.D) (h4 : d4 = .val (.lst (rs.map Row.p)) ∨ ∃ ds, d4 = .lst ds ∧ NB.D.ps ds = rs.map Row.p ∧ ds.all NB.D.isVal = false) (h : ∀ r ∈ rs, r.Good n) (s1 s2 s3 s5 s6 s7 s9 s10 s11 s12 : Sl) : ∃ t6 t9 t10 t11 t12, ess T (rn (k + 5)) M 1000 bodyT [.ow (.val (.int n)), s1, s2, s3, .ow d4, s5, s6, s7, .ow (.val (.int t)), s9, s10, s11, s12] = .ok .nx [.ow (.val (.int n)), s1, s2, s3, .ow (.val (.lst (rs.map Row.p))), s5, t6, s7, .ow (.val (.int t)), t9, t10, t11, t12] := by
  obtain ⟨t6, t9, t10, t11, t12, hf⟩ := rows_for k n t ht s1 s2 s3 (.ow (.val (.lst (rs.map Row.p)))) s5 s7 rs s6 s9 s10 s11 s12 h
  refine ⟨t6, t9, t10, t11, t12, ?_⟩
  unfold bodyT
  rcases h4 with rfl | ⟨ds, rfl, e1, e2⟩
  · simp [hf]
  · simp [e1, e2, hf]
theorem turns_for (k : Nat) (n : Nat) (rs : List Row) (ds : List NB.D) (h4 : NB.D.ps ds = rs.map Row.p) (h5 : ds.all NB.D.isVal = false) (h : ∀ r ∈ rs, r.Good n) (s1 s2 s3 s5 s6 s7 s8 s9 s10 s11 s12 : Sl) : ∃ ε, forLoop (.nm 8) (essF T (rn (k + 5)) M 1000 bodyT) [.int 0, .int 1] [.ow (.val (.int n)), s1, s2, s3, .ow (.lst ds), s5, s6, s7, s8, s9, s10, s11, s12] = .ok .nx ε := by
  obtain ⟨t6, t9, t10, t11, t12, e1⟩ := turn_body k n 0 (.inl rfl) rs (.lst ds) (.inr ⟨ds, rfl, h4, h5⟩) h s1 s2 s3 s5 s6 s7 s9 s10 s11 s12
  obtain ⟨u6, u9, u10, u11, u12, e2⟩ := turn_body k n 1 (.inr rfl) rs (.val (.lst (rs.map Row.p))) (.inl rfl) h s1 s2 s3 s5 t6 s7 t9 t10 t11 t12
  refine ⟨[.ow (.val (.int n)), s1, s2, s3, .ow (.val (.lst (rs.map Row.p))), s5, u6, s7, .ow (.val (.int 1)), u9, u10, u11, u12], ?_⟩
  rw [forLoop_cons]
  simp only [assign_nm, setSl_succ, setSl_zero, lift_ok, essF_ap, e1]
  rw [forLoop_cons]
  simp only [assign_nm, setSl_succ, setSl_zero, lift_ok, essF_ap, e2]
  rw [forLoop_nil]
/-! ### the rows, as they are laid -/
def rowD (wh : Int) (a b : P) (d : NB.D) : NB.D := .tup [.val (.int wh), .val a, .val b, d]
def bodyA (x : Nat) : SS := (.cons (.ex (.meth .append 4 (.cons (.tup (.cons (.c (.int 2)) (.cons (.v x) (.cons (.v 5) (.cons (.v 6) .nil))))) .nil))) .nil)
theorem lay2 (k : Nat) (x : Nat) (X Y : P) (pX : P) (hx : (x = 1 ∧ pX = X) ∨ (x = 2 ∧ pX = Y)) (s0 s3 s7 s8 s9 s10 s11 s12 : Sl) : ∀ (ts : List (Option Int × Int)) (ds : List NB.D) (s5 s6 : Sl), ds.length + ts.length ≤ 1000 → ∃ t5 t6, forLoop (.tup [5, 6]) (essF T (rn k) M 1000 (bodyA x)) (ts.map fun t => P.tup [EP t.1, .int t.2]) [s0, .ow (.val X), .ow (.val Y), s3, .ow (.lst ds), s5, s6, s7, s8, s9, s10, s11, s12] = .ok .nx [s0, .ow (.val X), .ow (.val Y), s3, .ow (.lst (ds ++ ts.map fun t => rowD 2 pX (EP t.1) (.val (.int t.2)))), t5, t6, s7, s8, s9, s10, s11, s12]
  | [], ds, s5, s6, _ => ⟨s5, s6, by simp⟩
  | t :: ts, ds, s5, s6, h => by
    simp only [List.length_cons] at h
    obtain ⟨t5, t6, ih⟩ := lay2 k x X Y pX hx s0 s3 s7 s8 s9 s10 s11 s12 ts (ds ++ [rowD 2 pX (EP t.1) (.val (.int t.2))]) (.ow (.val (EP t.1))) (.ow (.val (.int t.2))) (by simp; omega)
    refine ⟨t5, t6, ?_⟩
    have hc : ds.length < cap := by unfold cap; omega
    rw [List.map_cons, forLoop_cons]
    rcases hx with ⟨rfl, rfl⟩ | ⟨rfl, rfl⟩
    · simpa [bodyA, hc, rowD] using ih
    · simpa [bodyA, hc, rowD] using ih
def bodyB : SS := (.cons (.ex (.meth .append 4 (.cons (.tup (.cons (.c (.int 3)) (.cons (.v 1) (.cons (.v 7) (.cons (.call 24 (.cons (.v 1) (.cons (.v 7) .nil))) .nil))))) .nil))) .nil)
theorem lay3 (k : Nat) (xs : List Int) (hl : xs.length ≤ cap) (s0 s2 s3 s5 s6 s8 s9 s10 s11 s12 : Sl) : ∀ (ts : List (Option Int × Option Int)) (ds : List NB.D) (s7 : Sl), (∀ t ∈ ts, endOk xs.length t.1 = true ∧ endOk xs.length t.2 = true) → ds.length + ts.length ≤ 1000 → ∃ t7, forLoop (.nm 7) (essF T (rn (k + 1)) M 1000 bodyB) (ts.map stP) [s0, .ow (.val (.lst (PI xs))), s2, s3, .ow (.lst ds), s5, s6, s7, s8, s9, s10, s11, s12] = .ok .nx [s0, .ow (.val (.lst (PI xs))), s2, s3, .ow (.lst (ds ++ ts.map fun t => rowD 3 (.lst (PI xs)) (stP t) (.tup (VI (mv xs t.1 t.2))))), s5, s6, t7, s8, s9, s10, s11, s12]
  | [], ds, s7, _, _ => ⟨s7, by simp⟩
  | t :: ts, ds, s7, hg, h => by
    simp only [List.length_cons] at h
    obtain ⟨t7, ih⟩ := lay3 k xs hl s0 s2 s3 s5 s6 s8 s9 s10 s11 s12 ts (ds ++ [rowD 3 (.lst (PI xs)) (stP t) (.tup (VI (mv xs t.1 t.2)))]) (.ow (.val (stP t))) (fun u hu => hg u (List.mem_cons_of_mem _ hu)) (by simp; omega)
    refine ⟨t7, ?_⟩
    have hc : ds.length < cap := by unfold cap; omega
    have hm := law_moved k xs (.lst (PI xs)) (.lst xs) hl t.1 t.2 (hg t (by simp)).1 (hg t (by simp)).2
    rw [List.map_cons, forLoop_cons]
    simp only [stP] at ih ⊢
    simpa [bodyB, hc, rowD, hm] using ih
/-! ### they are good -/
theorem endOk_mem {n : Nat} {e : Option Int} (h : e ∈ endsL n) : endOk n e = true := by
  unfold endsL at h
  simp only [List.mem_append, List.mem_map, List.mem_range, List.mem_singleton] at h
  rcases h with ⟨i, hi, rfl⟩ | rfl
  · simp [endOk]; omega
  · rfl
theorem steps_mem {n : Nat} {s : Option Int × Option Int} (h : s ∈ stepsL n) : endOk n s.1 = true ∧ endOk n s.2 = true ∧ s.1 ≠ s.2 := by
  unfold stepsL at h
  simp only [List.mem_flatMap, List.mem_map, List.mem_filter, decide_eq_true_eq] at h
  obtain ⟨a, ha, b, ⟨hb, hab⟩, rfl⟩ := h
  exact ⟨endOk_mem ha, endOk_mem hb, hab⟩
theorem zip_amt {n : Nat} {xs : List Int} (hx : xs.length = n) {t : Option Int × Int} (h : t ∈ (endsL n).zip (allL xs)) : endOk n t.1 = true ∧ amt xs t.1 = t.2 := by
  obtain ⟨e, a⟩ := t
  refine ⟨endOk_mem (List.of_mem_zip h).1, ?_⟩
  unfold endsL allL at h
  rw [List.zip_append (by simp [hx])] at h
  simp only [List.mem_append, List.zip_cons_cons, List.zip_nil_right, List.mem_singleton, Prod.mk.injEq] at h
  rcases h with h | ⟨rfl, rfl⟩
  · obtain ⟨i, hi, e2⟩ := List.mem_iff_getElem.mp h
    simp only [List.getElem_zip, List.getElem_map, List.getElem_range, Prod.mk.injEq] at e2
    obtain ⟨rfl, rfl⟩ := e2
    have hi2 : i < xs.length := by simp at hi; omega
    simp [amt, hi2]
  · rfl
theorem gaps_comm (as bs : List Int) : gapsL as bs = gapsL bs as := by
  induction as generalizing bs with
  | nil => cases bs <;> rfl
  | cons a as ih =>
    cases bs with
    | nil => rfl
    | cons b bs =>
      have := ih bs
      unfold gapsL at this ⊢
      simp only [List.zip_cons_cons, List.map_cons, List.cons.injEq]
      refine ⟨?_, this⟩
      split <;> split <;> omega
theorem far_comm (xs ys : List Int) : farL xs ys = farL ys xs := by unfold farL; rw [gaps_comm]
theorem gaps_self (as : List Int) : (gapsL as as).sum = 0 := by
  induction as with
  | nil => rfl
  | cons a as ih =>
    unfold gapsL at ih ⊢
    simp only [List.zip_cons_cons, List.map_cons, List.sum_cons, Int.sub_self, Int.lt_irrefl, if_false]
    omega
theorem far_self (xs : List Int) : farL xs xs = 0 := by unfold farL; rw [gaps_self]; rfl
theorem sm_int (n : Nat) (i : Int) : sm (n + 1) (.int i) = true := (rfl)
theorem sm_EP (n : Nat) (e : Option Int) : sm (n + 1) (EP e) = true := by cases e <;> rfl
theorem sm_lst (n : Nat) (ps : List P) : sm (n + 1) (.lst ps) = (decide (ps.length ≤ cap) && ps.all (sm n)) := (rfl)
theorem sm_tup (n : Nat) (ps : List P) : sm (n + 1) (.tup ps) = (decide (ps.length ≤ cap) && ps.all (sm n)) := (rfl)
theorem sm_PI (n : Nat) (xs : List Int) : (PI xs).all (sm (n + 1)) = true := by
  simp [PI, sm_int]
theorem sm_PE (n : Nat) (xs : List (Option Int)) : (PE xs).all (sm (n + 1)) = true := by
  simp [PE, sm_EP]
theorem o_lst {xs : List Int} (h : xs.length ≤ cap) : Other (.lst (PI xs)) (.tup (VI xs)) := ⟨fun k => by
  have := other_lst k (PI xs) (by simpa using h)
  rwa [PI_vals] at this, by simp⟩
theorem o_EP (e : Option Int) : Other (EP e) (.val (EP e)) := by
  cases e with
  | none => exact ⟨fun k => other_non k, rfl⟩
  | some i => exact ⟨fun k => other_int k i, rfl⟩
theorem o_st (s : Option Int × Option Int) : Other (stP s) (.lst [.val (EP s.1), .val (EP s.2)]) := ⟨fun k => other_tup k [EP s.1, EP s.2] (by simp), by simp⟩
section
variable {n : Nat} {xs ys : List Int}
theorem g0 (hx : Pt n xs) (hy : Pt n ys) : Row.Good n ⟨0, .lst (PI xs), .lst (PI ys), .lst (PE (endsL n))⟩ := by
  have hn := hx.w
  refine ⟨⟨_, fun k => t0 k hn (isPt_ne (.lst xs)) (isPt_ne (.lst ys)), by simp, by simp, fun _ => ⟨_, rfl, by simp [cap]; omega⟩⟩, ⟨_, _, o_lst (cap_of hx.le), o_lst (cap_of hy.le), ⟨_, fun k => t0 k hn (by simp) (by simp), by simp, by simp, fun _ => ⟨_, rfl, by simp [cap]; omega⟩⟩⟩, ?_⟩
  show sm 4 (.lst (PE (endsL n))) = true
  rw [sm_lst, sm_PE]
  simp [cap_of (show n + 1 ≤ 1000 by omega)]
theorem g1 (hx : Pt n xs) (hy : Pt n ys) : Row.Good n ⟨1, .lst (PI xs), .lst (PI ys), .lst ((stepsL n).map stP)⟩ := by
  have hn := hx.w
  have hl := stepsL_len n hn
  have e : NB.D.ps ((stepsL n).map stD) = (stepsL n).map stP := by
    induction stepsL n with
    | nil => rfl
    | cons a l ih => simp [ih]
  refine ⟨⟨_, fun k => t1 k hn (isPt_ne (.lst xs)) (isPt_ne (.lst ys)), by simp [e], by simp [cleans_map stD_clean], fun _ => ⟨_, rfl, by simp [cap]; omega⟩⟩, ⟨_, _, o_lst (cap_of hx.le), o_lst (cap_of hy.le), ⟨_, fun k => t1 k hn (by simp) (by simp), by simp [e], by simp [cleans_map stD_clean], fun _ => ⟨_, rfl, by simp [cap]; omega⟩⟩⟩, ?_⟩
  show sm 4 (.lst ((stepsL n).map stP)) = true
  rw [sm_lst]
  simp [cap_of (show (stepsL n).length ≤ 1000 by omega), stP, sm_tup, sm_EP]
theorem g5 (hx : Pt n xs) (hy : Pt n ys) (f : Int) (hf : farL xs ys = f) : Row.Good n ⟨5, .lst (PI xs), .lst (PI ys), .int f⟩ := by
  subst hf
  exact ⟨⟨_, fun k => t5 k hx hy (.lst xs) (.lst ys), rfl, rfl, fun z => absurd (show (5 : Int) < 2 from z) (by decide)⟩, ⟨_, _, o_lst (cap_of hx.le), o_lst (cap_of hy.le), ⟨_, fun k => by simpa using t5 k hx hy (.tup xs) (.tup ys), rfl, rfl, fun z => absurd (show (5 : Int) < 2 from z) (by decide)⟩⟩, rfl⟩
theorem g2 (hx : Pt n xs) {t : Option Int × Int} (h : t ∈ (endsL n).zip (allL xs)) : Row.Good n ⟨2, .lst (PI xs), EP t.1, .int t.2⟩ := by
  obtain ⟨h1, h2⟩ := zip_amt hx.len h
  rw [← h2]
  exact ⟨⟨_, fun k => t2 k hx (.lst xs) t.1 h1, rfl, rfl, fun z => absurd (show (2 : Int) < 2 from z) (by decide)⟩, ⟨_, _, o_lst (cap_of hx.le), o_EP t.1, ⟨_, fun k => by simpa using t2 k hx (.tup xs) t.1 h1, rfl, rfl, fun z => absurd (show (2 : Int) < 2 from z) (by decide)⟩⟩, rfl⟩
theorem g3 (hx : Pt n xs) {s : Option Int × Option Int} (h : s ∈ stepsL n) : Row.Good n ⟨3, .lst (PI xs), stP s, .tup (PI (mv xs s.1 s.2))⟩ := by
  obtain ⟨h1, h2, h3⟩ := steps_mem h
  refine ⟨⟨_, fun k => t3 k hx (.lst xs) s.1 s.2 (.inl rfl) h1 h2 h3, by simp, by simp, fun z => absurd (show (3 : Int) < 2 from z) (by decide)⟩, ⟨_, _, o_lst (cap_of hx.le), o_st s, ⟨_, fun k => by simpa using t3 k hx (.tup xs) s.1 s.2 (.inr rfl) h1 h2 h3, by simp, by simp, fun z => absurd (show (3 : Int) < 2 from z) (by decide)⟩⟩, ?_⟩
  show sm 4 (.tup (PI (mv xs s.1 s.2))) = true
  rw [sm_tup, sm_PI]
  simp [cap_of hx.le]
end
end K01
end
section
set_option Elab.async false
set_option linter.all false
set_option maxRecDepth 100000
namespace K01
open PySem NB NBE
def rowsL (n : Nat) (xs ys : List Int) : List Row :=
  [⟨0, .lst (PI xs), .lst (PI ys), .lst (PE (endsL n))⟩, ⟨1, .lst (PI xs), .lst (PI ys), .lst ((stepsL n).map stP)⟩, ⟨5, .lst (PI xs), .lst (PI ys), .int (farL xs ys)⟩, ⟨5, .lst (PI ys), .lst (PI xs), .int (farL xs ys)⟩, ⟨5, .lst (PI ys), .lst (PI ys), .int 0⟩] ++
    ((endsL n).zip (allL xs)).map (fun t => ⟨2, .lst (PI xs), EP t.1, .int t.2⟩) ++ ((endsL n).zip (allL ys)).map (fun t => ⟨2, .lst (PI ys), EP t.1, .int t.2⟩) ++ (stepsL n).map fun s => ⟨3, .lst (PI xs), stP s, .tup (PI (mv xs s.1 s.2))⟩
theorem rows_good {n : Nat} {xs ys : List Int} (hx : Pt n xs) (hy : Pt n ys) : ∀ r ∈ rowsL n xs ys, r.Good n := by
  intro r hr
  unfold rowsL at hr
  simp only [List.mem_append, List.mem_cons, List.not_mem_nil, or_false, List.mem_map] at hr
  rcases hr with (((rfl | rfl | rfl | rfl | rfl) | ⟨t, ht, rfl⟩) | ⟨t, ht, rfl⟩) | ⟨s, hs, rfl⟩
  · exact g0 hx hy
  · exact g1 hx hy
  · exact g5 hx hy _ rfl
  · exact g5 hy hx _ (far_comm ys xs)
  · exact g5 hy hy _ (far_self ys)
  · exact g2 hx ht
  · exact g2 hy ht
  · exact g3 hx hs
def rowsD0 (n : Nat) (xs ys : List Int) : List NB.D := [rowD 0 (.lst (PI xs)) (.lst (PI ys)) (.lst (VE (endsL n))), rowD 1 (.lst (PI xs)) (.lst (PI ys)) (.lst ((stepsL n).map stD)), rowD 5 (.lst (PI xs)) (.lst (PI ys)) (.val (.int (farL xs ys))), rowD 5 (.lst (PI ys)) (.lst (PI xs)) (.val (.int (farL xs ys))), rowD 5 (.lst (PI ys)) (.lst (PI ys)) (.val (.int 0))]
theorem ps_map {α : Type} (f : α → NB.D) (g : α → P) (h : ∀ a, (f a).p = g a) : ∀ l : List α, NB.D.ps (l.map f) = l.map g
  | [] => rfl
  | a :: l => by simp [h a, ps_map f g h l]
theorem psR2 (X : P) (l : List (Option Int × Int)) : NB.D.ps (l.map fun t => rowD 2 X (EP t.1) (.val (.int t.2))) = (l.map fun t => (⟨2, X, EP t.1, .int t.2⟩ : Row)).map Row.p := by
  induction l with
  | nil => rfl
  | cons a l ih => simp only [List.map_cons, D.ps_cons, ih]; simp [rowD, Row.p]
theorem psR3 (xs : List Int) (l : List (Option Int × Option Int)) : NB.D.ps (l.map fun t => rowD 3 (.lst (PI xs)) (stP t) (.tup (VI (mv xs t.1 t.2)))) = (l.map fun s => (⟨3, .lst (PI xs), stP s, .tup (PI (mv xs s.1 s.2))⟩ : Row)).map Row.p := by
  induction l with
  | nil => rfl
  | cons a l ih => simp only [List.map_cons, D.ps_cons, ih]; simp [rowD, Row.p]
theorem psD0 (n : Nat) (xs ys : List Int) : NB.D.ps (rowsD0 n xs ys) = ([⟨0, .lst (PI xs), .lst (PI ys), .lst (PE (endsL n))⟩, ⟨1, .lst (PI xs), .lst (PI ys), .lst ((stepsL n).map stP)⟩, ⟨5, .lst (PI xs), .lst (PI ys), .int (farL xs ys)⟩, ⟨5, .lst (PI ys), .lst (PI xs), .int (farL xs ys)⟩, ⟨5, .lst (PI ys), .lst (PI ys), .int 0⟩] : List Row).map Row.p := by
  have e := ps_map stD stP (fun a => by simp) (stepsL n)
  simp only [rowsD0, rowD, Row.p, D.ps_cons, D.ps_nil, D.p_tup, D.p_val, D.p_lst, ps_VE, e, List.map_cons, List.map_nil]
theorem zipEI (es : List (Option Int)) (as : List Int) : zipItems [.lst (PE es), .lst (PI as)] = .ok ((es.zip as).map fun t => P.tup [EP t.1, .int t.2]) := by
  show NB.R.ok (zip2 (PE es) (PI as)) = _
  unfold zip2 PI PE
  rw [List.zip_map]
  simp [Function.comp_def]
theorem law_right (k : Nat) {n : Nat} {xs ys : List Int} (hx : Pt n xs) (hy : Pt n ys) : rn (k + 6) 30 [.val (.int n), .val (.lst (PI xs)), .val (.lst (PI ys))] = .ok (.val (.bl true), []) := by
  rw [run30]
  have hn := hx.w
  have hxl := hx.len
  have hyl := hy.len
  have hst := stepsL_len n hn
  have e25 := law_far (k + 3) xs ys _ _ (.lst xs) (.lst ys) hx.le hy.le
  have e21 := law_ends (k + 4) n hn
  have e22 := law_steps (k + 3) n hn
  have e23x := law_all (k + 4) xs _ (.lst xs) hx.le
  have e23y := law_all (k + 4) ys _ (.lst ys) hy.le
  -- the loops
  have lx : (allL xs).length = n + 1 := by simp [allL, hxl]
  have ly : (allL ys).length = n + 1 := by simp [allL, hyl]
  obtain ⟨a5, a6, h1⟩ := lay2 (k + 5) 1 (.lst (PI xs)) (.lst (PI ys)) _ (.inl ⟨rfl, rfl⟩) (.ow (.val (.int n))) (.ow (.val (.int (farL xs ys)))) .no .no .no .no .no .no ((endsL n).zip (allL xs)) (rowsD0 n xs ys) .no .no (by simp [rowsD0, lx]; omega)
  obtain ⟨b5, b6, h2⟩ := lay2 (k + 5) 2 (.lst (PI xs)) (.lst (PI ys)) _ (.inr ⟨rfl, rfl⟩) (.ow (.val (.int n))) (.ow (.val (.int (farL xs ys)))) .no .no .no .no .no .no ((endsL n).zip (allL ys)) (rowsD0 n xs ys ++ ((endsL n).zip (allL xs)).map fun t => rowD 2 (.lst (PI xs)) (EP t.1) (.val (.int t.2))) a5 a6 (by simp [rowsD0, lx, ly]; omega)
  obtain ⟨c7, h3⟩ := lay3 (k + 4) xs (cap_of hx.le) (.ow (.val (.int n))) (.ow (.val (.lst (PI ys)))) (.ow (.val (.int (farL xs ys)))) b5 b6 .no .no .no .no .no (stepsL n) (rowsD0 n xs ys ++ (((endsL n).zip (allL xs)).map fun t => rowD 2 (.lst (PI xs)) (EP t.1) (.val (.int t.2))) ++ ((endsL n).zip (allL ys)).map fun t => rowD 2 (.lst (PI ys)) (EP t.1) (.val (.int t.2))) .no (fun t ht => by
    obtain ⟨q1, q2, _⟩ := steps_mem ht
    rw [hxl]; exact ⟨q1, q2⟩) (by simp [rowsD0, lx, ly]; omega)
  obtain ⟨ε, h4⟩ := turns_for k n (rowsL n xs ys) (rowsD0 n xs ys ++ (((endsL n).zip (allL xs)).map fun t => rowD 2 (.lst (PI xs)) (EP t.1) (.val (.int t.2))) ++ (((endsL n).zip (allL ys)).map fun t => rowD 2 (.lst (PI ys)) (EP t.1) (.val (.int t.2))) ++ (stepsL n).map fun t => rowD 3 (.lst (PI xs)) (stP t) (.tup (VI (mv xs t.1 t.2))))
    (by
      unfold rowsL
      rw [D.ps_append, D.ps_append, D.ps_append, List.map_append, List.map_append, List.map_append, psR2, psR2, psR3]
      rw [psD0])
    (by simp [rowsD0, rowD]) (rows_good hx hy) (.ow (.val (.lst (PI xs)))) (.ow (.val (.lst (PI ys)))) (.ow (.val (.int (farL xs ys)))) b5 b6 c7 .no .no .no .no .no
  unfold bodyA at h1 h2
  unfold bodyB at h3
  unfold bodyT bodyR at h4
  have q3 := cleans_map stD_clean (stepsL n)
  unfold B30
  refine (congrArg (fin false) ((stp (ε' := [.ow (.val (.int n)), .ow (.val (.lst (PI xs))), .ow (.val (.lst (PI ys))), .ow (.val (.int (farL xs ys))), .no, .no, .no, .no, .no, .no, .no, .no, .no]) (by simp [e25])).trans ?_)).trans (fin_rt ε false (.val (.bl true)))
  refine (stp (ε' := [.ow (.val (.int n)), .ow (.val (.lst (PI xs))), .ow (.val (.lst (PI ys))), .ow (.val (.int (farL xs ys))), .ow (.lst [rowD 0 (.lst (PI xs)) (.lst (PI ys)) (.lst (VE (endsL n))), rowD 1 (.lst (PI xs)) (.lst (PI ys)) (.lst ((stepsL n).map stD))]), .no, .no, .no, .no, .no, .no, .no, .no]) (by simp [e21, e22, q3, rowD])).trans ?_
  refine (stp (ε' := [.ow (.val (.int n)), .ow (.val (.lst (PI xs))), .ow (.val (.lst (PI ys))), .ow (.val (.int (farL xs ys))), .ow (.lst [rowD 0 (.lst (PI xs)) (.lst (PI ys)) (.lst (VE (endsL n))), rowD 1 (.lst (PI xs)) (.lst (PI ys)) (.lst ((stepsL n).map stD)), rowD 5 (.lst (PI xs)) (.lst (PI ys)) (.val (.int (farL xs ys)))]), .no, .no, .no, .no, .no, .no, .no, .no]) (by simp [rowD])).trans ?_
  refine (stp (ε' := [.ow (.val (.int n)), .ow (.val (.lst (PI xs))), .ow (.val (.lst (PI ys))), .ow (.val (.int (farL xs ys))), .ow (.lst [rowD 0 (.lst (PI xs)) (.lst (PI ys)) (.lst (VE (endsL n))), rowD 1 (.lst (PI xs)) (.lst (PI ys)) (.lst ((stepsL n).map stD)), rowD 5 (.lst (PI xs)) (.lst (PI ys)) (.val (.int (farL xs ys))), rowD 5 (.lst (PI ys)) (.lst (PI xs)) (.val (.int (farL xs ys)))]), .no, .no, .no, .no, .no, .no, .no, .no]) (by simp [rowD])).trans ?_
  refine (stp (ε' := [.ow (.val (.int n)), .ow (.val (.lst (PI xs))), .ow (.val (.lst (PI ys))), .ow (.val (.int (farL xs ys))), .ow (.lst (rowsD0 n xs ys)), .no, .no, .no, .no, .no, .no, .no, .no]) (by simp [rowD, rowsD0])).trans ?_
  have zx := zipEI (endsL n) (allL xs)
  have zy := zipEI (endsL n) (allL ys)
  refine (stp (by simp only [es_for, eit_zip, eit_seq, argOf_call, ev_call, eargs_cons, argOf_v, List.getElem?_cons_zero, List.getElem?_cons_succ, R.ok_bind, un2_eq, eargs_nil, mu21, mu23, callE_false, borrows_cons, borrow_nm, borrows_nil, List.map_cons, List.map_nil, D.p_val, e21, e23x, e23y, backE_ok, D.clean_lst, cleans_VE, cleans_VI, D.cleans_nil, Bool.and_self, if_true, locksV_cons, locksV_nil, un3_eq, lockV_tm, D.p_lst, ps_VE, ps_VI, zx, zy, lf3_ok, h1, h2, after_nx, unlocks_cons, unlock1_tm, unlocks_nil]; rfl)).trans ?_
  refine (stp (by simp only [es_for, eit_zip, eit_seq, argOf_call, ev_call, eargs_cons, argOf_v, List.getElem?_cons_zero, List.getElem?_cons_succ, R.ok_bind, un2_eq, eargs_nil, mu21, mu23, callE_false, borrows_cons, borrow_nm, borrows_nil, List.map_cons, List.map_nil, D.p_val, e21, e23x, e23y, backE_ok, D.clean_lst, cleans_VE, cleans_VI, D.cleans_nil, Bool.and_self, if_true, locksV_cons, locksV_nil, un3_eq, lockV_tm, D.p_lst, ps_VE, ps_VI, zx, zy, lf3_ok, h1, h2, after_nx, unlocks_cons, unlock1_tm, unlocks_nil]; rfl)).trans ?_
  have q4 := ps_map stD stP (fun a => by simp) (stepsL n)
  refine (stp (by simp only [es_for, eit_seq, argOf_call, ev_call, eargs_cons, argOf_v, List.getElem?_cons_zero, R.ok_bind, un2_eq, eargs_nil, mu22, callE_false, borrows_cons, borrow_nm, borrows_nil, List.map_cons, List.map_nil, D.p_val, e22, backE_ok, D.clean_lst, q3, D.cleans_nil, Bool.and_self, if_true, un3_eq, lockV_tm, D.p_lst, q4, itemsOf_lst, lf3_ok, h3, after_nx, unlocks_cons, unlock1_tm, unlocks_nil]; rfl)).trans ?_
  refine (stp (by
    rw [es_for, eit_rngN T (rn (k + 5)) _ _ _ (.c (.int 0)) (.c (.int 2)) 0 2 rfl rfl ⟨by decide, by decide⟩ ⟨by decide, by decide⟩, lf3_ok, show rangeP 0 2 = [P.int 0, P.int 1] from rfl, h4, after_nx, unlocks_nil])).trans ?_
  simp
end K01
end
section
set_option Elab.async false
set_option linter.all false
set_option maxRecDepth 100000
namespace K01
open PySem NB NBE
def bodyU : SS := (.cons (.asg (.tup [5, 6]) (.call 26 (.cons (.v 3) (.cons (.v 4) .nil)))) (.cons (.asg (.nm 7) (.call 20 (.cons (.c (.int 4)) (.cons (.v 0) (.cons (.v 3) (.cons (.v 4) .nil)))))) (.cons (.iff (.hold (.or_ (.cmp .ne (.ix (.v 7) (.c (.int 0))) (.c (.str "told"))) (.notv (.isi (.ix (.v 7) (.c (.int 1))) [.tuple_])))) (.cons (.ret (.c (.bl false))) .nil) .nil) (.cons (.iff (.hold (.cmp .ne (.bi .len (.cons (.ix (.v 7) (.c (.int 1))) .nil)) (.c (.int 2)))) (.cons (.ret (.c (.bl false))) .nil) .nil) (.cons (.iff (.hold (.notv (.call 27 (.cons (.ix (.ix (.v 7) (.c (.int 1))) (.c (.int 0))) (.cons (.v 5) .nil))))) (.cons (.ret (.c (.bl false))) .nil) .nil) (.cons (.iff (.hold (.notv (.call 27 (.cons (.ix (.ix (.v 7) (.c (.int 1))) (.c (.int 1))) (.cons (.v 6) .nil))))) (.cons (.ret (.c (.bl false))) .nil) .nil) (.cons (.ex (.methP .append 7 [1, 0] [(.int 7)])) (.cons (.ex (.methP .append 7 [1, 1] [(.int 7)])) .nil))))))))
theorem atPath10 (f : List NB.D → NB.R (NB.D × List NB.D)) (x : NB.D) (ds es : List NB.D) : atPath f [1, 0] (.tup [x, .tup [.lst ds, .lst es]]) = f ds >>= fun z => .ok (z.1, .tup [x, .tup [.lst z.2, .lst es]]) := by
  show (NB.R.of (ixP 2 1) >>= fun k => NB.R.of ([x, NB.D.tup [.lst ds, .lst es]][k]?) >>= fun d0 => atPath f [0] d0 >>= fun z => NB.R.ok (z.1, NB.D.tup ([x, NB.D.tup [.lst ds, .lst es]].set k z.2))) = _
  rw [ixP_nat (by omega) (by omega)]
  simp only [R.of_some', R.ok_bind, show (1 : Int).toNat = 1 from rfl, List.getElem?_cons_succ, List.getElem?_cons_zero]
  show ((NB.R.of (ixP 2 0) >>= fun k => NB.R.of ([NB.D.lst ds, .lst es][k]?) >>= fun d0 => atPath f [] d0 >>= fun z => NB.R.ok (z.1, NB.D.tup ([NB.D.lst ds, .lst es].set k z.2))) >>= fun z => NB.R.ok (z.1, NB.D.tup ([x, NB.D.tup [.lst ds, .lst es]].set 1 z.2))) = _
  rw [ixP_nat (by omega) (by omega)]
  simp only [R.of_some', R.ok_bind, show (0 : Int).toNat = 0 from rfl, List.getElem?_cons_zero]
  show (((f ds >>= fun (d, ds') => NB.R.ok (d, NB.D.lst ds')) >>= fun z => NB.R.ok (z.1, NB.D.tup ([NB.D.lst ds, .lst es].set 0 z.2))) >>= fun z => NB.R.ok (z.1, NB.D.tup ([x, NB.D.tup [.lst ds, .lst es]].set 1 z.2))) = _
  cases f ds <;> rfl
theorem atPath11 (f : List NB.D → NB.R (NB.D × List NB.D)) (x : NB.D) (ds es : List NB.D) : atPath f [1, 1] (.tup [x, .tup [.lst ds, .lst es]]) = f es >>= fun z => .ok (z.1, .tup [x, .tup [.lst ds, .lst z.2]]) := by
  show (NB.R.of (ixP 2 1) >>= fun k => NB.R.of ([x, NB.D.tup [.lst ds, .lst es]][k]?) >>= fun d0 => atPath f [1] d0 >>= fun z => NB.R.ok (z.1, NB.D.tup ([x, NB.D.tup [.lst ds, .lst es]].set k z.2))) = _
  rw [ixP_nat (by omega) (by omega)]
  simp only [R.of_some', R.ok_bind, show (1 : Int).toNat = 1 from rfl, List.getElem?_cons_succ, List.getElem?_cons_zero]
  show ((NB.R.of (ixP 2 1) >>= fun k => NB.R.of ([NB.D.lst ds, .lst es][k]?) >>= fun d0 => atPath f [] d0 >>= fun z => NB.R.ok (z.1, NB.D.tup ([NB.D.lst ds, .lst es].set k z.2))) >>= fun z => NB.R.ok (z.1, NB.D.tup ([x, NB.D.tup [.lst ds, .lst es]].set 1 z.2))) = _
  rw [ixP_nat (by omega) (by omega)]
  simp only [R.of_some', R.ok_bind, show (1 : Int).toNat = 1 from rfl, List.getElem?_cons_succ, List.getElem?_cons_zero]
  show (((f es >>= fun (d, ds') => NB.R.ok (d, NB.D.lst ds')) >>= fun z => NB.R.ok (z.1, NB.D.tup ([NB.D.lst ds, .lst es].set 1 z.2))) >>= fun z => NB.R.ok (z.1, NB.D.tup ([x, NB.D.tup [.lst ds, .lst es]].set 1 z.2))) = _
  cases f es <;> rfl
theorem side_len {n : Nat} {xs ys : List Int} (hx : Pt n xs) (hy : Pt n ys) : (moreL (trisL n xs ys)).length ≤ 200000 ∧ (lessL (trisL n xs ys)).length ≤ 200000 := by
  have hn := hx.w
  obtain ⟨b1, b2⟩ := more_bound (B := 20000) (tris_bound (n := n) (xs := xs) (ys := ys) (by rw [hx.len]; exact hn) hx.bd (by rw [hy.len]; exact hn) hy.bd)
  have : (trisL n xs ys).length ≤ 10 := by simp [trisL]; omega
  omega
@[simp] theorem strOk_told : PyData.strOk "told" = true := by decide +kernel
@[simp] theorem strOk_refused : PyData.strOk "refused" = true := by decide +kernel
@[simp] theorem strOk_number : PyData.strOk "number" = true := by decide +kernel
@[simp] theorem strOk_size : PyData.strOk "size" = true := by decide +kernel
@[simp] theorem strOk_end : PyData.strOk "end" = true := by decide +kernel
theorem ne_told : cmpR .ne (.str "told") (.str "told") = .ok (.val (.bl false), false) := by
  rw [cmpR_ne _ _ (by simp) (by simp)]; simp
theorem sides_turn (k : Nat) {n : Nat} {xs ys : List Int} {p q : P} (hx : Pt n xs) (hy : Pt n ys) (hp : IsPt p xs) (hq : IsPt q ys) (s1 s2 s5 s6 s7 : Sl) : ∃ t5 t6 t7, ess T (rn (k + 5)) M 1000 bodyU [.ow (.val (.int n)), s1, s2, .ow (.val p), .ow (.val q), s5, s6, s7] = .ok .nx [.ow (.val (.int n)), s1, s2, .ow (.val p), .ow (.val q), t5, t6, t7] := by
  obtain ⟨b1, b2⟩ := side_len hx hy
  have c1 : (moreL (trisL n xs ys)).length ≤ cap := by unfold cap; omega
  have c2 : (lessL (trisL n xs ys)).length ≤ cap := by unfold cap; omega
  have c3 : (moreL (trisL n xs ys)).length < cap := by unfold cap; omega
  have c4 : (lessL (trisL n xs ys)).length < cap := by unfold cap; omega
  have e26 := law_sides (k + 3) n hx.w xs ys p q hp hq hx.len hy.len hx.bd hy.bd
  have e20 := t4 k hx hy hp hq
  have e27a := same_ends (k + 4) (moreL (trisL n xs ys)) c1
  have e27b := same_ends (k + 4) (lessL (trisL n xs ys)) c2
  generalize hm : moreL (trisL n xs ys) = m at *
  generalize hl : lessL (trisL n xs ys) = l at *
  refine ⟨.ow (.lst (VE m)), .ow (.lst (VE l)), .ow (told (.tup [.lst (VE m ++ [.val (.int 7)]), .lst (VE l ++ [.val (.int 7)])])), ?_⟩
  unfold bodyU
  refine (stp (ε' := [.ow (.val (.int n)), s1, s2, .ow (.val p), .ow (.val q), .ow (.lst (VE m)), .ow (.lst (VE l)), s7]) (by simp [e26])).trans ?_
  refine (stp (ε' := [.ow (.val (.int n)), s1, s2, .ow (.val p), .ow (.val q), .ow (.lst (VE m)), .ow (.lst (VE l)), .ow (told (.tup [.lst (VE m), .lst (VE l)]))]) (by simp [e20])).trans ?_
  refine (stp (ε' := [.ow (.val (.int n)), s1, s2, .ow (.val p), .ow (.val q), .ow (.lst (VE m)), .ow (.lst (VE l)), .ow (told (.tup [.lst (VE m), .lst (VE l)]))]) (by simp [ne_told, isi_cons, isi_nil, isiOne])).trans ?_
  refine (stp (ε' := [.ow (.val (.int n)), s1, s2, .ow (.val p), .ow (.val q), .ow (.lst (VE m)), .ow (.lst (VE l)), .ow (told (.tup [.lst (VE m), .lst (VE l)]))]) (by simp)).trans ?_
  refine (stp (ε' := [.ow (.val (.int n)), s1, s2, .ow (.val p), .ow (.val q), .ow (.lst (VE m)), .ow (.lst (VE l)), .ow (told (.tup [.lst (VE m), .lst (VE l)]))]) (by simp [e27a])).trans ?_
  refine (stp (ε' := [.ow (.val (.int n)), s1, s2, .ow (.val p), .ow (.val q), .ow (.lst (VE m)), .ow (.lst (VE l)), .ow (told (.tup [.lst (VE m), .lst (VE l)]))]) (by simp [e27b])).trans ?_
  refine (stp (ε' := [.ow (.val (.int n)), s1, s2, .ow (.val p), .ow (.val q), .ow (.lst (VE m)), .ow (.lst (VE l)), .ow (told (.tup [.lst (VE m ++ [.val (.int 7)]), .lst (VE l)]))]) (by simp [atPath10, c3])).trans ?_
  refine (stp (by simp [atPath11, c4]; rfl)).trans ?_
  simp
theorem law_right_sides (k : Nat) {n : Nat} {xs ys : List Int} (hx : Pt n xs) (hy : Pt n ys) : rn (k + 6) 31 [.val (.int n), .val (.lst (PI xs)), .val (.lst (PI ys))] = .ok (.val (.bl true), []) := by
  rw [run31]
  have cx := cap_of hx.le
  have cy := cap_of hy.le
  obtain ⟨a5, a6, a7, h1⟩ := sides_turn k hx hy (.lst xs) (.lst ys) (.ow (.val (.lst (PI xs)))) (.ow (.val (.lst (PI ys)))) .no .no .no
  obtain ⟨b5, b6, b7, h2⟩ := sides_turn k hy hx (.lst ys) (.lst xs) (.ow (.val (.lst (PI xs)))) (.ow (.val (.lst (PI ys)))) a5 a6 a7
  obtain ⟨c5, c6, c7, h3⟩ := sides_turn k hx hy (.tup xs) (.tup ys) (.ow (.val (.lst (PI xs)))) (.ow (.val (.lst (PI ys)))) b5 b6 b7
  unfold bodyU at h1 h2 h3
  have hf : forLoop (.tup [3, 4]) (essF T (rn (k + 5)) M 1000 bodyU) [P.tup [.lst (PI xs), .lst (PI ys)], P.tup [.lst (PI ys), .lst (PI xs)], P.tup [.tup (PI xs), .tup (PI ys)]] [.ow (.val (.int n)), .ow (.val (.lst (PI xs))), .ow (.val (.lst (PI ys))), .no, .no, .no, .no, .no] = .ok .nx [.ow (.val (.int n)), .ow (.val (.lst (PI xs))), .ow (.val (.lst (PI ys))), .ow (.val (.tup (PI xs))), .ow (.val (.tup (PI ys))), c5, c6, c7] := by
    rw [forLoop_cons]
    simp only [assign_tupV, List.map_cons, List.map_nil, setMany_cons, setMany_nil, setSl_succ, setSl_zero, lift_ok, essF_ap, bodyU, h1]
    rw [forLoop_cons]
    simp only [assign_tupV, List.map_cons, List.map_nil, setMany_cons, setMany_nil, setSl_succ, setSl_zero, lift_ok, essF_ap, h2]
    rw [forLoop_cons]
    simp only [assign_tupV, List.map_cons, List.map_nil, setMany_cons, setMany_nil, setSl_succ, setSl_zero, lift_ok, essF_ap, h3]
    rw [forLoop_nil]
  unfold bodyU at hf
  refine (congrArg (fin false) ((stp (by simp [cx, cy, hf]; rfl)).trans ?_)).trans (fin_rt [.ow (.val (.int n)), .ow (.val (.lst (PI xs))), .ow (.val (.lst (PI ys))), .ow (.val (.tup (PI xs))), .ow (.val (.tup (PI ys))), c5, c6, c7] false (.val (.bl true)))
  simp
end K01
end
section
set_option Elab.async false
set_option linter.all false
set_option maxRecDepth 100000
/-! the plain mathematics of points, ends and distances -/
namespace K01
open PySem NB NBE
theorem allL_amt {n : Nat} {xs : List Int} (h : xs.length = n) : allL xs = (endsL n).map (amt xs) := by
  unfold allL endsL
  rw [List.map_append, List.map_map]
  congr 1
  apply List.ext_getElem
  · simp [h]
  · intro i h1 h2
    simp [amt, h1]
theorem gaps_map {α : Type} (f g : α → Int) (l : List α) : gapsL (l.map f) (l.map g) = l.map fun e => if f e - g e < 0 then -(f e - g e) else f e - g e := by
  unfold gapsL
  induction l with
  | nil => rfl
  | cons a l ih => simp only [List.map_cons, List.zip_cons_cons, ih]
theorem gaps_tri (as bs cs : List Int) (h1 : as.length = bs.length) (h2 : bs.length = cs.length) : (gapsL as cs).sum ≤ (gapsL as bs).sum + (gapsL bs cs).sum := by
  induction as generalizing bs cs with
  | nil => cases bs with
    | nil => cases cs with
      | nil => decide
      | cons _ _ => simp at h2
    | cons _ _ => simp at h1
  | cons a as ih =>
    cases bs with
    | nil => simp at h1
    | cons b bs =>
      cases cs with
      | nil => simp at h2
      | cons c cs =>
        have := ih bs cs (by simpa using h1) (by simpa using h2)
        unfold gapsL at this ⊢
        simp only [List.zip_cons_cons, List.map_cons, List.sum_cons]
        split <;> split <;> split <;> omega
theorem gaps_append (as bs : List Int) (a b : Int) (h : as.length = bs.length) : (gapsL (as ++ [a]) (bs ++ [b])).sum = (gapsL as bs).sum + (if a - b < 0 then -(a - b) else a - b) := by
  unfold gapsL
  rw [List.zip_append h]
  simp
theorem sum_set (xs : List Int) (i : Nat) (hi : i < xs.length) (d : Int) : (xs.set i (xs.getD i 0 + d)).sum = xs.sum + d := by
  induction xs generalizing i with
  | nil => simp at hi
  | cons x xs ih =>
    cases i with
    | zero => simp; omega
    | succ i =>
      have := ih i (by simpa using hi)
      simp only [List.set_cons_succ, List.sum_cons, List.getD_cons_succ]
      omega
theorem gaps_set (xs : List Int) (i : Nat) (hi : i < xs.length) (d : Int) : (gapsL xs (xs.set i (xs.getD i 0 + d))).sum = d.natAbs := by
  induction xs generalizing i with
  | nil => simp at hi
  | cons x xs ih =>
    have hs := gaps_self xs
    cases i with
    | zero =>
      unfold gapsL at hs ⊢
      simp only [List.set_cons_zero, List.zip_cons_cons, List.map_cons, List.sum_cons, List.getD_cons_zero, hs]
      split <;> omega
    | succ i =>
      have := ih i (by simpa using hi)
      unfold gapsL at this ⊢
      simp only [List.set_cons_succ, List.zip_cons_cons, List.map_cons, List.sum_cons, List.getD_cons_succ, this, Int.sub_self, Int.lt_irrefl, if_false]
      omega
theorem sum_bump {xs : List Int} {e : Option Int} (h : endOk xs.length e = true) (d : Int) : (bump xs e d).sum = xs.sum + (if e = none then 0 else d) := by
  cases e with
  | none => simp [bump]
  | some i =>
    obtain ⟨h1, h2⟩ := endOk_some h
    simp only [bump, sum_set xs i.toNat (by omega) d]
    simp
theorem gaps_bump {xs : List Int} {e : Option Int} (h : endOk xs.length e = true) (d : Int) : (gapsL xs (bump xs e d)).sum = if e = none then 0 else (d.natAbs : Int) := by
  cases e with
  | none => simp [bump, gaps_self]
  | some i =>
    obtain ⟨h1, h2⟩ := endOk_some h
    simp only [bump, gaps_set xs i.toNat (by omega) d]
    simp
theorem sum_mv {xs : List Int} {a b : Option Int} (ha : endOk xs.length a = true) (hb : endOk xs.length b = true) : (mv xs a b).sum = xs.sum - (if a = none then 0 else 1) + (if b = none then 0 else 1) := by
  unfold mv
  rw [sum_bump (by rw [bump_len]; exact hb), sum_bump ha]
  split <;> split <;> omega
/-- a near step changes a distance by at most 1 -/
theorem far_step {n : Nat} {xs ys : List Int} {a b : Option Int} (hx : xs.length = n) (hy : ys.length = n) (ha : endOk n a = true) (hb : endOk n b = true) (hab : a ≠ b) : (farL (mv xs a b) ys - farL xs ys).natAbs ≤ 1 := by
  subst hx
  have e0 : (gapsL (allL xs) (allL (mv xs a b))).sum ≤ 2 := by
    unfold allL
    rw [gaps_append _ _ _ _ (by simp), sum_mv ha hb]
    have t := gaps_tri xs (bump xs a (-1)) (mv xs a b) (by simp) (by simp [mv])
    rw [gaps_bump ha] at t
    have t2 : (gapsL (bump xs a (-1)) (mv xs a b)).sum = if b = none then 0 else 1 := by
      unfold mv
      rw [gaps_bump (by rw [bump_len]; exact hb)]
      rfl
    rw [t2] at t
    have t3 : ((-1 : Int).natAbs : Int) = 1 := rfl
    rw [t3] at t
    by_cases h1 : a = none <;> by_cases h2 : b = none
    · exact absurd (h1.trans h2.symm) hab
    all_goals (simp only [h1, h2, if_true, if_false] at t ⊢; split <;> omega)
  have l1 : (allL xs).length = (allL (mv xs a b)).length := by simp [allL]
  have l2 : (allL (mv xs a b)).length = (allL ys).length := by simp [allL, hy]
  have g1 := gaps_tri (allL xs) (allL (mv xs a b)) (allL ys) l1 l2
  have g2 := gaps_tri (allL (mv xs a b)) (allL xs) (allL ys) l1.symm (l1.trans l2)
  rw [gaps_comm (allL (mv xs a b)) (allL xs)] at g2
  unfold farL
  generalize (gapsL (allL xs) (allL ys)).sum = G at *
  generalize (gapsL (allL (mv xs a b)) (allL ys)).sum = G' at *
  omega
/-! ### a walk -/
theorem getD_set (xs : List Int) (i j : Nat) (hi : i < xs.length) (v : Int) : (xs.set i v).getD j 0 = if i = j then v else xs.getD j 0 := by
  simp only [List.getD_eq_getElem?_getD, List.getElem?_set]
  by_cases h : i = j
  · subst h; simp [hi]
  · simp [h]
theorem amt_bump {xs : List Int} {e : Option Int} (h : endOk xs.length e = true) (d : Int) (f : Option Int) (hf : endOk xs.length f = true) : amt (bump xs e d) f = amt xs f + (match f with | none => (if e = none then 0 else -d) | some j => if e = some j then d else 0) := by
  cases f with
  | none =>
    simp only [amt, sum_bump h]
    split <;> omega
  | some j =>
    obtain ⟨h3, h4⟩ := endOk_some hf
    cases e with
    | none => simp [bump]
    | some i =>
      obtain ⟨h1, h2⟩ := endOk_some h
      simp only [bump, amt]
      rw [getD_set _ _ _ (by omega)]
      by_cases hij : i = j
      · subst hij; simp
      · rw [if_neg (by omega), if_neg (by simpa using hij)]
        omega
theorem amt_mv {n : Nat} {xs : List Int} (hx : xs.length = n) {a b : Option Int} (ha : endOk n a = true) (hb : endOk n b = true) (hab : a ≠ b) (f : Option Int) (hf : endOk n f = true) : amt (mv xs a b) f = amt xs f - (if f = a then 1 else 0) + (if f = b then 1 else 0) := by
  subst hx
  unfold mv
  rw [amt_bump (by rw [bump_len]; exact hb) 1 f (by rw [bump_len]; exact hf), amt_bump ha (-1) f hf]
  cases f with
  | none =>
    cases a with
    | none =>
      cases b with
      | none => exact absurd rfl hab
      | some j => simp; omega
    | some i =>
      cases b with
      | none => simp
      | some j => simp; omega
  | some j =>
    by_cases h1 : a = some j
    · subst h1
      by_cases h2 : b = some j
      · exact absurd h2.symm hab
      · simp [h2, Ne.symm h2]
        omega
    · by_cases h2 : b = some j
      · subst h2
        simp [h1, Ne.symm h1]
      · simp [h1, h2, Ne.symm h1, Ne.symm h2]
/-- what is left to walk from z to y -/
structure Rem (n : Nat) (z y : List Int) (m l : List (Option Int)) : Prop where
  m1 : ∀ e ∈ m, endOk n e = true
  l1 : ∀ e ∈ l, endOk n e = true
  mc : ∀ e, endOk n e = true → m.count e = (amt z e - amt y e).toNat
  lc : ∀ e, endOk n e = true → l.count e = (amt y e - amt z e).toNat
theorem endsL_of {n : Nat} {e : Option Int} (h : endOk n e = true) : e ∈ endsL n := by
  cases e with
  | none => simp [endsL]
  | some i =>
    obtain ⟨h1, h2⟩ := endOk_some h
    unfold endsL
    simp only [List.mem_append, List.mem_map, List.mem_range]
    exact .inl ⟨i.toNat, by omega, by congr 1; omega⟩
theorem sum_count (es : List (Option Int)) (hn : es.Nodup) : ∀ m : List (Option Int), (∀ e ∈ m, e ∈ es) → (es.map fun e => (m.count e : Int)).sum = m.length
  | [], _ => by
    induction es with
    | nil => rfl
    | cons a es ih => simpa using ih (List.nodup_cons.mp hn).2
  | a :: m, h => by
    have ih := sum_count es hn m fun e he => h e (List.mem_cons_of_mem _ he)
    have key : ∀ es : List (Option Int), es.Nodup → (es.map fun e => ((a :: m).count e : Int)).sum = (es.map fun e => (m.count e : Int)).sum + if a ∈ es then 1 else 0 := by
      intro es
      induction es with
      | nil => intro _; simp
      | cons b es ih =>
        intro hnd
        obtain ⟨h1, h2⟩ := List.nodup_cons.mp hnd
        have := ih h2
        rw [List.map_cons, List.sum_cons, this, List.map_cons, List.sum_cons, List.count_cons]
        simp only [List.mem_cons]
        by_cases hab : a = b
        · subst hab
          simp [h1]
          omega
        · have hab' : (a == b) = false := by simpa using hab
          simp [hab, hab']
          omega
    rw [key es hn, ih, if_pos (h a (by simp))]
    simp
theorem sum_add (es : List (Option Int)) (f g : Option Int → Int) : (es.map fun e => f e + g e).sum = (es.map f).sum + (es.map g).sum := by
  induction es with
  | nil => rfl
  | cons a es ih => simp only [List.map_cons, List.sum_cons, ih]; omega
theorem sum_sub (es : List (Option Int)) (f g : Option Int → Int) : (es.map fun e => f e - g e).sum = (es.map f).sum - (es.map g).sum := by
  induction es with
  | nil => rfl
  | cons a es ih => simp only [List.map_cons, List.sum_cons, ih]; omega
theorem allL_sum (xs : List Int) : (allL xs).sum = 0 := by simp [allL]; omega
theorem sum_map_eq {es : List (Option Int)} {f g : Option Int → Int} (h : ∀ e ∈ es, f e = g e) : (es.map f).sum = (es.map g).sum := by
  rw [List.map_congr_left h]
theorem Rem.len {n : Nat} {z y : List Int} {m l : List (Option Int)} (hz : z.length = n) (hy : y.length = n) (h : Rem n z y m l) : m.length = l.length ∧ farL z y = m.length := by
  have e1 := sum_count (endsL n) (endsL_nodup n) m fun e he => endsL_of (h.m1 e he)
  have e2 := sum_count (endsL n) (endsL_nodup n) l fun e he => endsL_of (h.l1 e he)
  have z0 := allL_sum z
  have y0 := allL_sum y
  rw [allL_amt hz] at z0
  rw [allL_amt hy] at y0
  have d1 := sum_sub (endsL n) (amt z) (amt y)
  have d2 := sum_sub (endsL n) (fun e => (m.count e : Int)) (fun e => (l.count e : Int))
  have d3 : ((endsL n).map fun e => amt z e - amt y e).sum = ((endsL n).map fun e => (m.count e : Int) - (l.count e : Int)).sum := sum_map_eq fun e he => by
    rw [h.mc e (endOk_mem he), h.lc e (endOk_mem he)]
    omega
  have hml : m.length = l.length := by omega
  refine ⟨hml, ?_⟩
  unfold farL
  rw [allL_amt hz, allL_amt hy, gaps_map]
  have d4 : ((endsL n).map fun e => if amt z e - amt y e < 0 then -(amt z e - amt y e) else amt z e - amt y e).sum = ((endsL n).map fun e => (m.count e : Int) + (l.count e : Int)).sum := sum_map_eq fun e he => by
    rw [h.mc e (endOk_mem he), h.lc e (endOk_mem he)]
    split <;> omega
  rw [d4, sum_add, e1, e2]
  omega
theorem Rem.step {n : Nat} {z y : List Int} {a b : Option Int} {m l : List (Option Int)} (hz : z.length = n) (h : Rem n z y (a :: m) (b :: l)) : a ≠ b ∧ Rem n (mv z a b) y m l ∧ amt y a < amt z a ∧ amt z b < amt y b := by
  have ha := h.m1 a (by simp)
  have hb := h.l1 b (by simp)
  have ca := h.mc a ha
  have cb := h.lc b hb
  simp only [List.count_cons_self] at ca cb
  have h1 : amt y a < amt z a := by omega
  have h2 : amt z b < amt y b := by omega
  have hab : a ≠ b := by rintro rfl; omega
  refine ⟨hab, ⟨fun e he => h.m1 e (List.mem_cons_of_mem _ he), fun e he => h.l1 e (List.mem_cons_of_mem _ he), fun e he => ?_, fun e he => ?_⟩, h1, h2⟩
  · have q := h.mc e he
    rw [amt_mv hz ha hb hab e he]
    rw [List.count_cons] at q
    by_cases e1 : e = a
    · subst e1
      simp [hab] at q ⊢
      omega
    · have e1' : (a == e) = false := by simpa using Ne.symm e1
      rw [e1'] at q
      simp only [e1, if_false] at q ⊢
      by_cases e2 : e = b
      · subst e2
        simp at q ⊢
        omega
      · simp only [e2, if_false] at q ⊢
        simp at q
        omega
  · have q := h.lc e he
    rw [amt_mv hz ha hb hab e he]
    rw [List.count_cons] at q
    by_cases e1 : e = b
    · subst e1
      simp [Ne.symm hab] at q ⊢
      omega
    · have e1' : (b == e) = false := by simpa using Ne.symm e1
      rw [e1'] at q
      by_cases e2 : e = a
      · subst e2
        simp [hab] at q ⊢
        omega
      · simp only [e1, e2, if_false] at q ⊢
        simp at q
        omega
theorem Rem.pt {n : Nat} {z y : List Int} {a b : Option Int} {m l : List (Option Int)} (hz : Pt n z) (hy : Pt n y) (h : Rem n z y (a :: m) (b :: l)) : Pt n (mv z a b) := by
  obtain ⟨hab, _, h1, h2⟩ := h.step hz.len
  have ha := h.m1 a (by simp)
  have hb := h.l1 b (by simp)
  refine ⟨hz.w, by rw [mv_len, hz.len], fun x hx => ?_⟩
  obtain ⟨i, hi, rfl⟩ := List.mem_iff_getElem.mp hx
  have hi2 : i < n := by rw [mv_len, hz.len] at hi; exact hi
  have hf : endOk n (some (i : Int)) = true := by simp [endOk]; omega
  have q := amt_mv hz.len ha hb hab (some (i : Int)) hf
  have e1 : amt (mv z a b) (some (i : Int)) = (mv z a b)[i] := by
    show (mv z a b).getD (i : Int).toNat 0 = _
    rw [List.getD_eq_getElem?_getD, Int.toNat_natCast, List.getElem?_eq_getElem hi]
    rfl
  have hzi : i < z.length := by rw [hz.len]; exact hi2
  have hyi : i < y.length := by rw [hy.len]; exact hi2
  have e2 : amt z (some (i : Int)) = z[i] := by simp [amt, hzi]
  have e3 : amt y (some (i : Int)) = y[i] := by simp [amt, hyi]
  have b1 := hz.bd _ (List.getElem_mem hzi)
  have b2 := hy.bd _ (List.getElem_mem hyi)
  rw [e1, e2] at q
  clear e1
  generalize (mv z a b)[i] = v at q ⊢
  by_cases c1 : (some (i : Int)) = a
  · rw [← c1, e2, e3] at h1
    have c2 : ¬ (some (i : Int)) = b := fun z => hab (c1.symm.trans z)
    simp only [c1, if_true] at q
    rw [← c1] at q
    simp only [c2, if_false] at q
    omega
  · by_cases c2 : (some (i : Int)) = b
    · rw [← c2, e2, e3] at h2
      simp only [c1, c2, if_true, if_false] at q
      omega
    · simp only [c1, c2, if_false] at q
      omega
theorem Rem.done {n : Nat} {z y : List Int} {l : List (Option Int)} (hz : z.length = n) (hy : y.length = n) (h : Rem n z y [] l) : z = y := by
  have hl := (h.len hz hy).1
  have : l = [] := by cases l with
    | nil => rfl
    | cons _ _ => simp at hl
  subst this
  apply List.ext_getElem (by rw [hz, hy])
  intro i h1 h2
  have hf : endOk n (some (i : Int)) = true := by simp [endOk]; omega
  have a1 := h.mc _ hf
  have a2 := h.lc _ hf
  have e2 : amt z (some (i : Int)) = z[i] := by simp [amt, h1]
  have e3 : amt y (some (i : Int)) = y[i] := by simp [amt, h2]
  rw [e2, e3] at a1 a2
  simp at a1 a2
  omega
theorem count_more (f : Option Int → Nat) (e : Option Int) : ∀ es : List (Option Int), es.Nodup → (es.flatMap fun a => List.replicate (f a) a).count e = if e ∈ es then f e else 0
  | [], _ => rfl
  | a :: es, h => by
    obtain ⟨h1, h2⟩ := List.nodup_cons.mp h
    rw [List.flatMap_cons, List.count_append, count_more f e es h2, List.count_replicate]
    by_cases hae : a = e
    · subst hae
      simp [h1]
    · have : (a == e) = false := by simpa using hae
      simp [this, Ne.symm hae]
theorem tris_map {n : Nat} {xs ys : List Int} (hx : xs.length = n) (hy : ys.length = n) : trisL n xs ys = (endsL n).map fun e => (e, amt xs e, amt ys e) := by
  unfold trisL
  rw [allL_amt hx, allL_amt hy, List.zip_map', ]
  have : ∀ es : List (Option Int), es.zip (es.map fun a => (amt xs a, amt ys a)) = es.map fun e => (e, amt xs e, amt ys e) := by
    intro es
    induction es with
    | nil => rfl
    | cons a es ih => simp only [List.map_cons, List.zip_cons_cons, ih]
  exact this _
theorem Rem.start {n : Nat} {xs ys : List Int} (hx : xs.length = n) (hy : ys.length = n) : Rem n xs ys (moreL (trisL n xs ys)) (lessL (trisL n xs ys)) := by
  have e1 : moreL (trisL n xs ys) = (endsL n).flatMap fun e => List.replicate (amt xs e - amt ys e).toNat e := by
    rw [tris_map hx hy]
    simp [moreL, sideT, List.flatMap_map]
  have e2 : lessL (trisL n xs ys) = (endsL n).flatMap fun e => List.replicate (amt ys e - amt xs e).toNat e := by
    rw [tris_map hx hy]
    simp [lessL, sideT, swT, List.flatMap_map]
  rw [e1, e2]
  refine ⟨fun e he => ?_, fun e he => ?_, fun e he => ?_, fun e he => ?_⟩
  · obtain ⟨a, ha, hb⟩ := List.mem_flatMap.mp he
    rw [(List.mem_replicate.mp hb).2]
    exact endOk_mem ha
  · obtain ⟨a, ha, hb⟩ := List.mem_flatMap.mp he
    rw [(List.mem_replicate.mp hb).2]
    exact endOk_mem ha
  · rw [count_more (fun e => (amt xs e - amt ys e).toNat) e _ (endsL_nodup n), if_pos (endsL_of he)]
  · rw [count_more (fun e => (amt ys e - amt xs e).toNat) e _ (endsL_nodup n), if_pos (endsL_of he)]
end K01
end
section
set_option Elab.async false
set_option linter.all false
set_option maxRecDepth 100000
namespace K01
open PySem NB NBE
def bey (v : Int) : Bool := decide ((if v < 0 then -v else v) > 1000)
theorem bey_lc (k : Nat) (zs : List Int) (s0 s1 s2 s3 s4 s5 s6 s7 s8 : Sl) : lcLoop (.nm 9) [9] (lcTurn T (rn k) (.some (.cmp .gt (.bi .abs (.cons (.v 9) .nil)) (.c (.int 1000)))) (.v 9)) (PI zs) [s0, s1, s2, s3, s4, s5, s6, s7, s8, .no] = .ok (VI (zs.filter bey), [s0, s1, s2, s3, s4, s5, s6, s7, s8, .no]) := by
  rw [lc_fmap fun p => match p with
    | .int v => if bey v then some (NB.D.val (.int v)) else none
    | _ => none]
  · congr 2
    unfold PI VI
    rw [List.filterMap_map]
    induction zs with
    | nil => rfl
    | cons a zs ih =>
      simp only [List.filterMap_cons, Function.comp_def, List.filter_cons]
      cases bey a <;> simpa [Function.comp_def] using ih
  · intro p hp
    obtain ⟨v, _, rfl⟩ := List.mem_map.mp (show p ∈ zs.map P.int from hp)
    by_cases h : (if v < 0 then -v else v) > 1000
    · exact ⟨_, _, rfl, by simp [lcTurn, bey, h]; rfl, rfl⟩
    · exact ⟨_, _, rfl, by simp [lcTurn, bey, h]; rfl, rfl⟩
theorem look_bey {n : Nat} {zs : List Int} {b : Int} {r : List Int} (hz : zs.length = n) (h : zs.filter bey = b :: r) : lookP n zs = .exc 2 [.int b] := by
  unfold lookP lookN
  rw [if_pos (by rw [hz])]
  have : zs.find? (fun x => !(decide (-1000 ≤ x) && decide (x ≤ 1000))) = some b := by
    have e : (fun x : Int => !(decide (-1000 ≤ x) && decide (x ≤ 1000))) = bey := by
      funext x
      unfold bey
      by_cases h1 : -1000 ≤ x <;> by_cases h2 : x ≤ 1000 <;> simp [h1, h2] <;> split <;> omega
    rw [e, ← List.head?_filter, h]
    rfl
  unfold lookL
  rw [this]
  rfl
theorem bey_none {n : Nat} {zs : List Int} (hn : n ≤ 6) (hz : zs.length = n) (h : zs.filter bey = []) : Pt n zs := by
  refine ⟨hn, hz, fun x hx => ?_⟩
  have := List.filter_eq_nil_iff.mp h x hx
  unfold bey at this
  simp at this
  split at this <;> omega
theorem eq_told : cmpR .eq (.str "told") (.str "told") = .ok (.val (.bl true), false) := by
  rw [cmpR_eq _ _ (by simp) (by simp)]; simp
theorem eq_told2 : cmpR .eq (.str "refused") (.str "told") = .ok (.val (.bl false), false) := by
  rw [cmpR_eq _ _ (by simp) (by simp)]
  have : (("refused" : Str) == ("told" : Str)) = false := by decide +kernel
  simp [this]
def bodyW : SS := (.cons (.asg (.nm 5) (.call 24 (.cons (.v 1) (.cons (.v 4) .nil)))) (.cons (.asg (.nm 6) (.tup (.cons (.c (.str "told")) (.cons (.call 25 (.cons (.v 5) (.cons (.v 2) .nil))) .nil)))) (.cons (.asg (.nm 7) (.lc (.nm 9) [9] (.seq (.v 5)) (.some (.cmp .gt (.bi .abs (.cons (.v 9) .nil)) (.c (.int 1000)))) (.v 9))) (.cons (.iff (.hold (.cmp .gt (.bi .len (.cons (.v 7) .nil)) (.c (.int 0)))) (.cons (.asg (.nm 6) (.tup (.cons (.c (.str "refused")) (.cons (.c (.str "number")) (.cons (.ix (.v 7) (.c (.int 0))) .nil))))) .nil) .nil) (.cons (.asg (.nm 8) (.call 20 (.cons (.c (.int 5)) (.cons (.v 0) (.cons (.v 5) (.cons (.v 2) .nil)))))) (.cons (.iff (.hold (.notv (.call 18 (.cons (.v 8) (.cons (.v 6) .nil))))) (.cons (.ret (.c (.bl false))) .nil) .nil) (.cons (.iff (.hold (.and_ (.cmp .eq (.ix (.v 8) (.c (.int 0))) (.c (.str "told"))) (.cmp .gt (.bi .abs (.cons (.bin .sub (.ix (.v 8) (.c (.int 1))) (.v 3)) .nil)) (.c (.int 1))))) (.cons (.ret (.c (.bl false))) .nil) .nil) .nil)))))))
theorem near_turn (k : Nat) {n : Nat} {xs ys : List Int} (hx : Pt n xs) (hy : Pt n ys) {s : Option Int × Option Int} (hs : s ∈ stepsL n) (s5 s6 s7 s8 : Sl) : ∃ t5 t6 t7 t8, ess T (rn (k + 5)) M 1000 bodyW [.ow (.val (.int n)), .ow (.val (.lst (PI xs))), .ow (.val (.lst (PI ys))), .ow (.val (.int (farL xs ys))), .ow (.val (stP s)), s5, s6, s7, s8, .no] = .ok .nx [.ow (.val (.int n)), .ow (.val (.lst (PI xs))), .ow (.val (.lst (PI ys))), .ow (.val (.int (farL xs ys))), .ow (.val (stP s)), t5, t6, t7, t8, .no] := by
  obtain ⟨ha, hb, hab⟩ := steps_mem hs
  have hn := hx.w
  have hz : (mv xs s.1 s.2).length = n := by rw [mv_len, hx.len]
  have hzl : (mv xs s.1 s.2).length ≤ 1000 := by omega
  have e24 := law_moved (k + 4) xs (.lst (PI xs)) (.lst xs) (cap_of hx.le) s.1 s.2 (by rw [hx.len]; exact ha) (by rw [hx.len]; exact hb)
  have e25 := law_far (k + 3) (mv xs s.1 s.2) ys (.tup (PI (mv xs s.1 s.2))) (.lst (PI ys)) (.tup _) (.lst _) hzl hy.le
  have hf := far_step hx.len hy.len ha hb hab
  have dist := distance (k) n (mv xs s.1 s.2) ys (.tup (PI (mv xs s.1 s.2))) (.lst (PI ys)) (.tup _) (.lst _) hzl hy.le
  have hcap : (mv xs s.1 s.2).length ≤ cap := cap_of hzl
  have hcap2 : xs.length ≤ cap := cap_of hx.le
  rw [if_pos hx.wid] at dist
  have hst : stP s = .tup [EP s.1, EP s.2] := rfl
  generalize mv xs s.1 s.2 = z at *
  have step1 : ∀ R, ess T (rn (k + 5)) M 1000 (.cons (.asg (.nm 5) (.call 24 (.cons (.v 1) (.cons (.v 4) .nil)))) (.cons (.asg (.nm 6) (.tup (.cons (.c (.str "told")) (.cons (.call 25 (.cons (.v 5) (.cons (.v 2) .nil))) .nil)))) (.cons (.asg (.nm 7) (.lc (.nm 9) [9] (.seq (.v 5)) (.some (.cmp .gt (.bi .abs (.cons (.v 9) .nil)) (.c (.int 1000)))) (.v 9))) R))) [.ow (.val (.int n)), .ow (.val (.lst (PI xs))), .ow (.val (.lst (PI ys))), .ow (.val (.int (farL xs ys))), .ow (.val (stP s)), s5, s6, s7, s8, .no] = ess T (rn (k + 5)) M 1000 R [.ow (.val (.int n)), .ow (.val (.lst (PI xs))), .ow (.val (.lst (PI ys))), .ow (.val (.int (farL xs ys))), .ow (.val (stP s)), .ow (.val (.tup (PI z))), .ow (told (.val (.int (farL z ys)))), .ow (.lst (VI (z.filter bey))), s8, .no] := by
    intro R
    refine (stp (ε' := [.ow (.val (.int n)), .ow (.val (.lst (PI xs))), .ow (.val (.lst (PI ys))), .ow (.val (.int (farL xs ys))), .ow (.val (stP s)), .ow (.tup (VI z)), s6, s7, s8, .no]) (by simp [hst, e24])).trans ?_
    refine (stp (ε' := [.ow (.val (.int n)), .ow (.val (.lst (PI xs))), .ow (.val (.lst (PI ys))), .ow (.val (.int (farL xs ys))), .ow (.val (stP s)), .ow (.tup (VI z)), .ow (told (.val (.int (farL z ys)))), s7, s8, .no]) (by simp [e25])).trans ?_
    refine (stp (ε' := [.ow (.val (.int n)), .ow (.val (.lst (PI xs))), .ow (.val (.lst (PI ys))), .ow (.val (.int (farL xs ys))), .ow (.val (stP s)), .ow (.val (.tup (PI z))), .ow (told (.val (.int (farL z ys)))), .ow (.lst (VI (z.filter bey))), s8, .no]) (by simp [hcap, bey_lc])).trans rfl
  unfold bodyW
  rw [step1]
  cases hbz : z.filter bey with
  | nil =>
    have hpz := bey_none hn hz hbz
    rw [lookP_ok hpz, thenR_ok, lookP_ok hy, thenR_ok] at dist
    have e20 := told5 (k := k + 3) (w := .int n) rfl (isPt_ne (.tup z)) (isPt_ne (.lst ys)) dist (.ok _ rfl)
    have e18 := same_refl 2 (.tup [.str "told", .int (farL z ys)]) (by simp [sm_tup, sm_int, sm]) (k + 3)
    refine ⟨.ow (.val (.tup (PI z))), .ow (told (.val (.int (farL z ys)))), .ow (.lst []), .ow (told (.val (.int (farL z ys)))), ?_⟩
    have hg : ¬ ((if farL z ys - farL xs ys < 0 then -(farL z ys - farL xs ys) else farL z ys - farL xs ys) > 1) := by split <;> omega
    have hg2 : decide (1 < (if farL z ys - farL xs ys < 0 then -(farL z ys - farL xs ys) else farL z ys - farL xs ys)) = false := decide_eq_false hg
    refine (stp (ε' := [.ow (.val (.int n)), .ow (.val (.lst (PI xs))), .ow (.val (.lst (PI ys))), .ow (.val (.int (farL xs ys))), .ow (.val (stP s)), .ow (.val (.tup (PI z))), .ow (told (.val (.int (farL z ys)))), .ow (.lst []), s8, .no]) (by simp)).trans ?_
    refine (stp (ε' := [.ow (.val (.int n)), .ow (.val (.lst (PI xs))), .ow (.val (.lst (PI ys))), .ow (.val (.int (farL xs ys))), .ow (.val (stP s)), .ow (.val (.tup (PI z))), .ow (told (.val (.int (farL z ys)))), .ow (.lst []), .ow (told (.val (.int (farL z ys)))), .no]) (by simp [e20])).trans ?_
    refine (stp (ε' := [.ow (.val (.int n)), .ow (.val (.lst (PI xs))), .ow (.val (.lst (PI ys))), .ow (.val (.int (farL xs ys))), .ow (.val (stP s)), .ow (.val (.tup (PI z))), .ow (told (.val (.int (farL z ys)))), .ow (.lst []), .ow (told (.val (.int (farL z ys)))), .no]) (by simp [e18])).trans ?_
    refine (stp (ε' := [.ow (.val (.int n)), .ow (.val (.lst (PI xs))), .ow (.val (.lst (PI ys))), .ow (.val (.int (farL xs ys))), .ow (.val (stP s)), .ow (.val (.tup (PI z))), .ow (told (.val (.int (farL z ys)))), .ow (.lst []), .ow (told (.val (.int (farL z ys)))), .no]) ?_).trans rfl
    simp only [es_iff, ev_hold, holdE_eq, fzAll_cons, fzAll_nil, ev_and, ev_cmp, argOf_ix, ev_ix, argOf_v, List.getElem?_cons_succ, List.getElem?_cons_zero, argOf_c, ev_c, R.ok_bind, un2_eq, view1_nm, view1_tm, fz1_ow, fz1_no, D.p_val, D.p_tup, D.ps_cons, D.ps_nil, D.shallow_val, if_true, index_tup0, flatR_eq, done_ok, Bool.false_eq_true, if_false, eq_told, andD_bl, ev_bi, argOf_bi, eargs_cons, eargs_nil, ev_bin, argOf_bin, index_tup1, binop_sub, views_cons, views_nil, abs_int, cmpR_gt, gt_iff_lt, hg2, holdB_bl, tst_bl, lf2_ok, ess_nil]
  | cons b r =>
    rw [look_bey hz hbz, thenR_exc] at dist
    have e20 := told5 (k := k + 3) (w := .int n) rfl (isPt_ne (.tup z)) (isPt_ne (.lst ys)) dist (.exc 2 (.int b) (.inr (.inl rfl)) rfl)
    have e18 := same_refl 2 (.tup [.str "refused", .str "number", .int b]) (by simp [sm_tup, sm_int, sm]) (k + 3)
    simp only [refD, kindS] at e20
    have hlen : ¬ ((r.length : Int) + 1 ≤ 0) := by omega
    have hlen2 : 0 < (r.length : Int) + 1 := by omega
    refine ⟨.ow (.val (.tup (PI z))), .ow (.tup [.val (.str "refused"), .val (.str "number"), .val (.int b)]), .ow (.lst (VI (b :: r))), .ow (.tup [.val (.str "refused"), .val (.str "number"), .val (.int b)]), ?_⟩
    refine (stp (ε' := [.ow (.val (.int n)), .ow (.val (.lst (PI xs))), .ow (.val (.lst (PI ys))), .ow (.val (.int (farL xs ys))), .ow (.val (stP s)), .ow (.val (.tup (PI z))), .ow (.tup [.val (.str "refused"), .val (.str "number"), .val (.int b)]), .ow (.lst (VI (b :: r))), s8, .no]) (by simp [hlen2, PI_cons])).trans ?_
    refine (stp (ε' := [.ow (.val (.int n)), .ow (.val (.lst (PI xs))), .ow (.val (.lst (PI ys))), .ow (.val (.int (farL xs ys))), .ow (.val (stP s)), .ow (.val (.tup (PI z))), .ow (.tup [.val (.str "refused"), .val (.str "number"), .val (.int b)]), .ow (.lst (VI (b :: r))), .ow (.tup [.val (.str "refused"), .val (.str "number"), .val (.int b)]), .no]) (by simp [e20])).trans ?_
    refine (stp (ε' := [.ow (.val (.int n)), .ow (.val (.lst (PI xs))), .ow (.val (.lst (PI ys))), .ow (.val (.int (farL xs ys))), .ow (.val (stP s)), .ow (.val (.tup (PI z))), .ow (.tup [.val (.str "refused"), .val (.str "number"), .val (.int b)]), .ow (.lst (VI (b :: r))), .ow (.tup [.val (.str "refused"), .val (.str "number"), .val (.int b)]), .no]) (by simp [e18])).trans ?_
    refine (stp (ε' := [.ow (.val (.int n)), .ow (.val (.lst (PI xs))), .ow (.val (.lst (PI ys))), .ow (.val (.int (farL xs ys))), .ow (.val (stP s)), .ow (.val (.tup (PI z))), .ow (.tup [.val (.str "refused"), .val (.str "number"), .val (.int b)]), .ow (.lst (VI (b :: r))), .ow (.tup [.val (.str "refused"), .val (.str "number"), .val (.int b)]), .no]) (by simp [eq_told2])).trans rfl
theorem near_for (k : Nat) {n : Nat} {xs ys : List Int} (hx : Pt n xs) (hy : Pt n ys) : ∀ (ss : List (Option Int × Option Int)) (s4 s5 s6 s7 s8 : Sl), (∀ s ∈ ss, s ∈ stepsL n) → ∃ ε, forLoop (.nm 4) (essF T (rn (k + 5)) M 1000 bodyW) (ss.map stP) [.ow (.val (.int n)), .ow (.val (.lst (PI xs))), .ow (.val (.lst (PI ys))), .ow (.val (.int (farL xs ys))), s4, s5, s6, s7, s8, .no] = .ok .nx ε
  | [], s4, s5, s6, s7, s8, _ => ⟨_, rfl⟩
  | s :: ss, s4, s5, s6, s7, s8, h => by
    obtain ⟨t5, t6, t7, t8, ht⟩ := near_turn k hx hy (h s (by simp)) s5 s6 s7 s8
    obtain ⟨ε, ih⟩ := near_for k hx hy ss (.ow (.val (stP s))) t5 t6 t7 t8 fun q hq => h q (List.mem_cons_of_mem _ hq)
    refine ⟨ε, ?_⟩
    rw [List.map_cons, forLoop_cons]
    simp only [assign_nm, setSl_succ, setSl_zero, lift_ok, essF_ap, ht]
    exact ih
theorem law_neighbours (k : Nat) {n : Nat} {xs ys : List Int} (hx : Pt n xs) (hy : Pt n ys) : rn (k + 6) 32 [.val (.int n), .val (.lst (PI xs)), .val (.lst (PI ys))] = .ok (.val (.bl true), []) := by
  rw [run32]
  have e25 := law_far (k + 3) xs ys _ _ (.lst xs) (.lst ys) hx.le hy.le
  have e22 := law_steps (k + 3) n hx.w
  obtain ⟨ε, h4⟩ := near_for k hx hy (stepsL n) .no .no .no .no .no fun _ h => h
  have q3 := cleans_map stD_clean (stepsL n)
  have q4 := ps_map stD stP (fun a => by simp) (stepsL n)
  unfold B32
  refine (congrArg (fin false) ((stp (ε' := [.ow (.val (.int n)), .ow (.val (.lst (PI xs))), .ow (.val (.lst (PI ys))), .ow (.val (.int (farL xs ys))), .no, .no, .no, .no, .no, .no]) (by simp [e25])).trans ?_)).trans (fin_rt ε false (.val (.bl true)))
  unfold bodyW at h4
  refine (stp (by simp only [es_for, eit_seq, argOf_call, ev_call, eargs_cons, argOf_v, List.getElem?_cons_zero, R.ok_bind, un2_eq, eargs_nil, mu22, callE_false, borrows_cons, borrow_nm, borrows_nil, List.map_cons, List.map_nil, D.p_val, e22, backE_ok, D.clean_lst, q3, D.cleans_nil, Bool.and_self, if_true, un3_eq, lockV_tm, D.p_lst, q4, itemsOf_lst, lf3_ok, h4, after_nx, unlocks_cons, unlock1_tm, unlocks_nil]; rfl)).trans ?_
  simp
end K01
end
section
set_option Elab.async false
set_option linter.all false
set_option maxRecDepth 100000
namespace K01
open PySem NB NBE
def bodyK : SS := (.cons (.asg (.nm 7) (.tup (.cons (.ix (.v 3) (.v 6)) (.cons (.ix (.v 4) (.v 6)) .nil)))) (.cons (.asg (.nm 8) (.call 20 (.cons (.c (.int 3)) (.cons (.v 0) (.cons (.v 5) (.cons (.v 7) .nil)))))) (.cons (.asg (.nm 5) (.call 24 (.cons (.v 5) (.cons (.v 7) .nil)))) (.cons (.iff (.hold (.notv (.call 18 (.cons (.v 8) (.cons (.tup (.cons (.c (.str "told")) (.cons (.v 5) .nil))) .nil))))) (.cons (.ret (.c (.bl false))) .nil) .nil) (.cons (.asg (.nm 8) (.call 20 (.cons (.c (.int 5)) (.cons (.v 0) (.cons (.ix (.v 8) (.c (.int 1))) (.cons (.v 2) .nil)))))) (.cons (.iff (.hold (.notv (.call 18 (.cons (.v 8) (.cons (.tup (.cons (.c (.str "told")) (.cons (.bin .sub (.bin .sub (.bi .len (.cons (.v 3) .nil)) (.c (.int 1))) (.v 6)) .nil))) .nil))))) (.cons (.ret (.c (.bl false))) .nil) .nil) .nil))))))
theorem PE_get {es : List (Option Int)} {i : Nat} (h : i < es.length) : (PE es)[i]'(by simpa using h) = EP es[i] := by simp [PE]
theorem walk_turn (k : Nat) {n : Nat} {z ys : List Int} (hz : Pt n z) (hy : Pt n ys) (m l : List (Option Int)) (j : Nat) (hjm : j < m.length) (hjl : j < l.length) (hr : Rem n z ys (m.drop j) (l.drop j)) (hb : m.length ≤ cap) (s1 s7 s8 : Sl) : ∃ t7 t8, ess T (rn (k + 5)) M 1000 bodyK [.ow (.val (.int n)), s1, .ow (.val (.lst (PI ys))), .ow (.lst (VE m)), .ow (.lst (VE l)), .ow (.tup (VI z)), .ow (.val (.int j)), s7, s8] = .ok .nx [.ow (.val (.int n)), s1, .ow (.val (.lst (PI ys))), .ow (.lst (VE m)), .ow (.lst (VE l)), .ow (.tup (VI (mv z m[j] l[j]))), .ow (.val (.int j)), t7, t8] := by
  have hr0 := hr
  rw [List.drop_eq_getElem_cons hjm, List.drop_eq_getElem_cons hjl] at hr
  obtain ⟨hab, hr2, _, _⟩ := hr.step hz.len
  have hz2 := hr.pt hz hy
  have ha := hr.m1 m[j] List.mem_cons_self
  have hbb := hr.l1 l[j] List.mem_cons_self
  have hfar := (hr2.len hz2.len hy.len).2
  have i1 : index (.lst (PE m)) (.int j) = .ok (EP m[j]) := by
    rw [index_lst (xs := PE m) (by omega) (by simpa using hjm)]
    congr 1
    simp only [Int.toNat_natCast]
    exact PE_get hjm
  have i2 : index (.lst (PE l)) (.int j) = .ok (EP l[j]) := by
    rw [index_lst (xs := PE l) (by omega) (by simpa using hjl)]
    congr 1
    simp only [Int.toNat_natCast]
    exact PE_get hjl
  generalize m[j] = a at *
  generalize l[j] = b at *
  have e3 := t3 k hz (.tup z) a b (.inl rfl) ha hbb hab
  have e24 := law_moved (k + 4) z (.tup (PI z)) (.tup z) (cap_of hz.le) a b (by rw [hz.len]; exact ha) (by rw [hz.len]; exact hbb)
  have e5 := t5 k hz2 hy (.tup _) (.lst ys)
  generalize mv z a b = z' at *
  have e18a := same_refl 3 (.tup [.str "told", .tup (PI z')]) (by
    rw [sm_tup]
    simp [sm_tup, sm_PI, cap_of hz2.le]
    simp [sm]) (k + 2)
  have e18b := same_refl 2 (.tup [.str "told", .int (farL z' ys)]) (by simp [sm_tup, sm_int, sm]) (k + 3)
  have hlen : (m.length : Int) - 1 - j = farL z' ys := by
    rw [hfar]
    simp
    omega
  refine ⟨.ow (.tup [.val (EP a), .val (EP b)]), .ow (told (.val (.int (farL z' ys)))), ?_⟩
  unfold bodyK
  refine (stp (ε' := [.ow (.val (.int n)), s1, .ow (.val (.lst (PI ys))), .ow (.lst (VE m)), .ow (.lst (VE l)), .ow (.tup (VI z)), .ow (.val (.int j)), .ow (.tup [.val (EP a), .val (EP b)]), s8]) (by simp [i1, i2])).trans ?_
  refine (stp (ε' := [.ow (.val (.int n)), s1, .ow (.val (.lst (PI ys))), .ow (.lst (VE m)), .ow (.lst (VE l)), .ow (.tup (VI z)), .ow (.val (.int j)), .ow (.tup [.val (EP a), .val (EP b)]), .ow (told (.tup (VI z')))]) (by simp [e3])).trans ?_
  refine (stp (ε' := [.ow (.val (.int n)), s1, .ow (.val (.lst (PI ys))), .ow (.lst (VE m)), .ow (.lst (VE l)), .ow (.tup (VI z')), .ow (.val (.int j)), .ow (.tup [.val (EP a), .val (EP b)]), .ow (told (.tup (VI z')))]) (by simp [e24])).trans ?_
  refine (stp (ε' := [.ow (.val (.int n)), s1, .ow (.val (.lst (PI ys))), .ow (.lst (VE m)), .ow (.lst (VE l)), .ow (.tup (VI z')), .ow (.val (.int j)), .ow (.tup [.val (EP a), .val (EP b)]), .ow (told (.tup (VI z')))]) (by simp [e18a])).trans ?_
  refine (stp (ε' := [.ow (.val (.int n)), s1, .ow (.val (.lst (PI ys))), .ow (.lst (VE m)), .ow (.lst (VE l)), .ow (.tup (VI z')), .ow (.val (.int j)), .ow (.tup [.val (EP a), .val (EP b)]), .ow (told (.val (.int (farL z' ys))))]) (by simp [e5])).trans ?_
  refine (stp (ε' := [.ow (.val (.int n)), s1, .ow (.val (.lst (PI ys))), .ow (.lst (VE m)), .ow (.lst (VE l)), .ow (.tup (VI z')), .ow (.val (.int j)), .ow (.tup [.val (EP a), .val (EP b)]), .ow (told (.val (.int (farL z' ys))))]) (by simp [hlen, e18b])).trans rfl
theorem walk_for (k : Nat) {n : Nat} {ys : List Int} (hy : Pt n ys) (m l : List (Option Int)) (hml : m.length = l.length) (hb : m.length ≤ cap) (J : Nat) (hJ : J ≤ m.length) (s1 : Sl) : ∀ (c j : Nat) (z : List Int) (s6 s7 s8 : Sl), c + j = J → Pt n z → Rem n z ys (m.drop j) (l.drop j) → ∃ z' t6 t7 t8, forLoop (.nm 6) (essF T (rn (k + 5)) M 1000 bodyK) ((List.range' j c).map fun (i : Nat) => P.int (i : Int)) [.ow (.val (.int n)), s1, .ow (.val (.lst (PI ys))), .ow (.lst (VE m)), .ow (.lst (VE l)), .ow (.tup (VI z)), s6, s7, s8] = .ok .nx [.ow (.val (.int n)), s1, .ow (.val (.lst (PI ys))), .ow (.lst (VE m)), .ow (.lst (VE l)), .ow (.tup (VI z')), t6, t7, t8] ∧ Pt n z' ∧ Rem n z' ys (m.drop J) (l.drop J)
  | 0, j, z, s6, s7, s8, e, hz, hr => ⟨z, s6, s7, s8, rfl, hz, by rw [Nat.zero_add] at e; subst e; exact hr⟩
  | c + 1, j, z, s6, s7, s8, e, hz, hr => by
    have hjm : j < m.length := by omega
    have hjl : j < l.length := by omega
    obtain ⟨u7, u8, hu⟩ := walk_turn k hz hy m l j hjm hjl hr hb s1 s7 s8
    rw [List.drop_eq_getElem_cons hjm, List.drop_eq_getElem_cons hjl] at hr
    obtain ⟨hab, hr2, _, _⟩ := hr.step hz.len
    obtain ⟨z', t6, t7, t8, h1, h2, h3⟩ := walk_for k hy m l hml hb J hJ s1 c (j + 1) (mv z m[j] l[j]) (.ow (.val (.int j))) u7 u8 (by omega) (hr.pt hz hy) hr2
    refine ⟨z', t6, t7, t8, ?_, h2, h3⟩
    rw [List.range'_succ, List.map_cons, forLoop_cons]
    simp only [assign_nm, setSl_succ, setSl_zero, lift_ok, essF_ap, hu]
    exact h1
theorem law_walk (k : Nat) {n : Nat} {xs ys : List Int} (hx : Pt n xs) (hy : Pt n ys) : rn (k + 6) 33 [.val (.int n), .val (.lst (PI xs)), .val (.lst (PI ys))] = .ok (.val (.bl true), []) := by
  rw [run33]
  obtain ⟨b1, b2⟩ := side_len hx hy
  have e26 := law_sides (k + 3) n hx.w xs ys _ _ (.lst xs) (.lst ys) hx.len hy.len hx.bd hy.bd
  have hr := Rem.start hx.len hy.len
  have hml := (hr.len hx.len hy.len).1
  generalize moreL (trisL n xs ys) = m at *
  generalize lessL (trisL n xs ys) = l at *
  have c1 : m.length ≤ cap := by unfold cap; omega
  have cx := cap_of hx.le
  have cy := cap_of hy.le
  obtain ⟨z', t6, t7, t8, h1, h2, h3⟩ := walk_for k hy m l hml c1 (min m.length 60) (by omega) (.ow (.val (.lst (PI xs)))) (min m.length 60) 0 xs .no .no .no (by omega) hx (by simpa using hr)
  have hmin : (if (60 : Int) < (m.length : Int) then (60 : Int) else (m.length : Int)) = ((min m.length 60 : Nat) : Int) := by split <;> omega
  unfold bodyK at h1
  unfold B33
  refine (congrArg (fin false) ((stp (ε' := [.ow (.val (.int n)), .ow (.val (.lst (PI xs))), .ow (.val (.lst (PI ys))), .ow (.lst (VE m)), .ow (.lst (VE l)), .no, .no, .no, .no]) (by simp [e26])).trans ?_)).trans (fin_rt [.ow (.val (.int n)), .ow (.val (.lst (PI xs))), .ow (.val (.lst (PI ys))), .ow (.lst (VE m)), .ow (.lst (VE l)), .ow (.tup (VI z')), t6, t7, t8] false (.val (.bl true)))
  refine (stp (ε' := [.ow (.val (.int n)), .ow (.val (.lst (PI xs))), .ow (.val (.lst (PI ys))), .ow (.lst (VE m)), .ow (.lst (VE l)), .ow (.tup (VI xs)), .no, .no, .no]) (by simp [cx])).trans ?_
  refine (stp (ε' := [.ow (.val (.int n)), .ow (.val (.lst (PI xs))), .ow (.val (.lst (PI ys))), .ow (.lst (VE m)), .ow (.lst (VE l)), .ow (.tup (VI z')), t6, t7, t8]) (by
    rw [es_for, eit_rngN T (rn (k + 5)) _ _ _ (.c (.int 0)) _ 0 ((min m.length 60 : Nat) : Int) rfl (by simp [hmin]; rfl) ⟨by decide, by decide⟩ ⟨by omega, by omega⟩, lf3_ok, rangeP_nat, List.range_eq_range', h1, after_nx, unlocks_nil])).trans ?_
  have q1 := cmpOks_PI 18 z'
  have q2 := cmpOks_PI 18 ys
  by_cases h60 : m.length ≤ 60
  · rw [Nat.min_eq_left h60] at h3
    rw [List.drop_eq_nil_of_le (Nat.le_refl _)] at h3
    have hzy := h3.done h2.len hy.len
    subst hzy
    have : ¬ (60 : Int) < (m.length : Int) := by omega
    simp [this, cy, cmpR_eq, q1, eqvs_PI]
  · have : (60 : Int) < (m.length : Int) := by omega
    simp [this]
end K01
end
section
set_option Elab.async false
set_option linter.all false
set_option maxRecDepth 100000
namespace K01
open PySem NB NBE
/-- a row of the last two lists: it is told as due -/
structure Row5 where
  wh : Int
  wide : Int
  a : P
  b : P
  due : P
def Row5.p (r : Row5) : P := .tup [.int r.wh, .int r.wide, r.a, r.b, r.due]
def Row5.Good (r : Row5) : Prop := ∃ d : NB.D, (∀ k, rn (k + 5) 20 [.val (.int r.wh), .val (.int r.wide), .val r.a, .val r.b] = .ok (d, [])) ∧ d.p = r.due ∧ d.clean = true ∧ sm 6 r.due = true
def refP (c : Nat) (q : P) : P := .tup [.str "refused", .str (kindS c), q]
@[simp] theorem refD_p (c : Nat) (q : P) : (refD c q).p = refP c q := (rfl)
theorem sm_refP (c : Nat) (hc : c = 1 ∨ c = 2 ∨ c = 3) (e : Option Int) : sm 6 (refP c (EP e)) = true := by
  unfold refP
  rw [sm_tup]
  rcases hc with rfl | rfl | rfl <;> simp [sm_EP, kindS, sm]
section
variable {w : Int} {xs ys : List Int} {p q s a b : P}
theorem near_bad (k : Nat) (w : Int) (hw : ¬ (0 ≤ w ∧ w ≤ 6)) : rn (k + 3) 10 [.val (.int w)] = .exc 2 [.int w] := by
  rw [run10]
  simp [B10, ends_bad _ _ hw]
theorem b0 (hw : ¬ (0 ≤ w ∧ w ≤ 6)) (ha : a.ne = true) (hb : b.ne = true) : Row5.Good ⟨0, w, a, b, refP 2 (.int w)⟩ :=
  ⟨_, fun k => told0 rfl ha hb (ends_bad (k + 2) w hw) (.exc 2 (.int w) (.inr (.inl rfl)) rfl), rfl, refD_clean _ _ rfl, sm_refP 2 (.inr (.inl rfl)) (some w)⟩
theorem b1 (hw : ¬ (0 ≤ w ∧ w ≤ 6)) (ha : a.ne = true) (hb : b.ne = true) : Row5.Good ⟨1, w, a, b, refP 2 (.int w)⟩ :=
  ⟨_, fun k => told1 rfl ha hb (near_bad (k + 1) w hw) (.exc 2 (.int w) (.inr (.inl rfl)) rfl), rfl, refD_clean _ _ rfl, sm_refP 2 (.inr (.inl rfl)) (some w)⟩
/-- the width is wrong -/
theorem b2 (hw : ¬ (0 ≤ w ∧ w ≤ 6)) (hp : IsPt p xs) (hl : xs.length ≤ cap) (e : Option Int) : Row5.Good ⟨2, w, p, EP e, refP 2 (.int w)⟩ :=
  ⟨_, fun k => told2 rfl (isPt_ne hp) (by simp) ((amount_at k w xs p hp hl e).trans (if_neg hw)) (.exc 2 (.int w) (.inr (.inl rfl)) rfl), rfl, refD_clean _ _ rfl, sm_refP 2 (.inr (.inl rfl)) (some w)⟩
theorem b3 (hw : ¬ (0 ≤ w ∧ w ≤ 6)) (hp : IsPt p xs) (hl : xs.length ≤ cap) (u v : Option Int) (hs : s = .tup [EP u, EP v] ∨ s = .lst [EP u, EP v]) : Row5.Good ⟨3, w, p, s, refP 2 (.int w)⟩ :=
  ⟨_, fun k => told3 rfl (isPt_ne hp) (by rcases hs with rfl | rfl <;> simp) ((stepped k w xs p s hp hl u v hs).trans (if_neg hw)) (.exc 2 (.int w) (.inr (.inl rfl)) rfl), rfl, refD_clean _ _ rfl, sm_refP 2 (.inr (.inl rfl)) (some w)⟩
theorem b4 (hw : ¬ (0 ≤ w ∧ w ≤ 6)) (hp : IsPt p xs) (hq : IsPt q ys) (hx : xs.length ≤ 1000) (hy : ys.length ≤ 1000) : Row5.Good ⟨4, w, p, q, refP 2 (.int w)⟩ :=
  ⟨_, fun k => told4 rfl (isPt_ne hp) (isPt_ne hq) ((more_less k w xs ys p q hp hq hx hy).trans (if_neg hw)) (.exc 2 (.int w) (.inr (.inl rfl)) rfl), rfl, refD_clean _ _ rfl, sm_refP 2 (.inr (.inl rfl)) (some w)⟩
theorem b5 (hw : ¬ (0 ≤ w ∧ w ≤ 6)) (hp : IsPt p xs) (hq : IsPt q ys) (hx : xs.length ≤ 1000) (hy : ys.length ≤ 1000) : Row5.Good ⟨5, w, p, q, refP 2 (.int w)⟩ :=
  ⟨_, fun k => told5 rfl (isPt_ne hp) (isPt_ne hq) ((distance k w xs ys p q hp hq hx hy).trans (if_neg hw)) (.exc 2 (.int w) (.inr (.inl rfl)) rfl), rfl, refD_clean _ _ rfl, sm_refP 2 (.inr (.inl rfl)) (some w)⟩
/-- the first point is wrong -/
theorem c2 (hw : 0 ≤ w ∧ w ≤ 6) (hp : IsPt p xs) (hl : xs.length ≤ cap) (e : Option Int) {c : Nat} {v : Int} (hc : c = 1 ∨ c = 2 ∨ c = 3) (h : lookP w xs = .exc c [.int v]) : Row5.Good ⟨2, w, p, EP e, refP c (.int v)⟩ :=
  ⟨_, fun k => told2 rfl (isPt_ne hp) (by simp) ((amount_at k w xs p hp hl e).trans (by rw [if_pos hw, h, thenR_exc])) (.exc c (.int v) hc rfl), rfl, refD_clean _ _ rfl, sm_refP c hc (some v)⟩
theorem c3 (hw : 0 ≤ w ∧ w ≤ 6) (hp : IsPt p xs) (hl : xs.length ≤ cap) (u v' : Option Int) (hs : s = .tup [EP u, EP v'] ∨ s = .lst [EP u, EP v']) {c : Nat} {v : Int} (hc : c = 1 ∨ c = 2 ∨ c = 3) (h : lookP w xs = .exc c [.int v]) : Row5.Good ⟨3, w, p, s, refP c (.int v)⟩ :=
  ⟨_, fun k => told3 rfl (isPt_ne hp) (by rcases hs with rfl | rfl <;> simp) ((stepped k w xs p s hp hl u v' hs).trans (by rw [if_pos hw, h, thenR_exc])) (.exc c (.int v) hc rfl), rfl, refD_clean _ _ rfl, sm_refP c hc (some v)⟩
theorem c4 (hw : 0 ≤ w ∧ w ≤ 6) (hp : IsPt p xs) (hq : IsPt q ys) (hx : xs.length ≤ 1000) (hy : ys.length ≤ 1000) {c : Nat} {v : Int} (hc : c = 1 ∨ c = 2 ∨ c = 3) (h : lookP w xs = .exc c [.int v]) : Row5.Good ⟨4, w, p, q, refP c (.int v)⟩ :=
  ⟨_, fun k => told4 rfl (isPt_ne hp) (isPt_ne hq) ((more_less k w xs ys p q hp hq hx hy).trans (by rw [if_pos hw, h, thenR_exc])) (.exc c (.int v) hc rfl), rfl, refD_clean _ _ rfl, sm_refP c hc (some v)⟩
theorem c5 (hw : 0 ≤ w ∧ w ≤ 6) (hp : IsPt p xs) (hq : IsPt q ys) (hx : xs.length ≤ 1000) (hy : ys.length ≤ 1000) {c : Nat} {v : Int} (hc : c = 1 ∨ c = 2 ∨ c = 3) (h : lookP w xs = .exc c [.int v]) : Row5.Good ⟨5, w, p, q, refP c (.int v)⟩ :=
  ⟨_, fun k => told5 rfl (isPt_ne hp) (isPt_ne hq) ((distance k w xs ys p q hp hq hx hy).trans (by rw [if_pos hw, h, thenR_exc])) (.exc c (.int v) hc rfl), rfl, refD_clean _ _ rfl, sm_refP c hc (some v)⟩
end
section
variable {n : Nat} {xs ys : List Int} {p q s a b : P}
/-- the second point is wrong -/
theorem d4 (hx : Pt n xs) (hp : IsPt p xs) (hq : IsPt q ys) (hy : ys.length ≤ 1000) {c : Nat} {v : Int} (hc : c = 1 ∨ c = 2 ∨ c = 3) (h : lookP n ys = .exc c [.int v]) : Row5.Good ⟨4, n, p, q, refP c (.int v)⟩ :=
  ⟨_, fun k => told4 rfl (isPt_ne hp) (isPt_ne hq) ((more_less k n xs ys p q hp hq hx.le hy).trans (by rw [if_pos hx.wid, lookP_ok hx, thenR_ok, h, thenR_exc])) (.exc c (.int v) hc rfl), rfl, refD_clean _ _ rfl, sm_refP c hc (some v)⟩
theorem d5 (hx : Pt n xs) (hp : IsPt p xs) (hq : IsPt q ys) (hy : ys.length ≤ 1000) {c : Nat} {v : Int} (hc : c = 1 ∨ c = 2 ∨ c = 3) (h : lookP n ys = .exc c [.int v]) : Row5.Good ⟨5, n, p, q, refP c (.int v)⟩ :=
  ⟨_, fun k => told5 rfl (isPt_ne hp) (isPt_ne hq) ((distance k n xs ys p q hp hq hx.le hy).trans (by rw [if_pos hx.wid, lookP_ok hx, thenR_ok, h, thenR_exc])) (.exc c (.int v) hc rfl), rfl, refD_clean _ _ rfl, sm_refP c hc (some v)⟩
/-- an end is wrong -/
theorem endBad2 (hx : Pt n xs) (hp : IsPt p xs) (e : Option Int) (he : endOk n e = false) : Row5.Good ⟨2, n, p, EP e, refP 3 (EP e)⟩ :=
  ⟨_, fun k => told2 rfl (isPt_ne hp) (by simp) ((amount_at k n xs p hp (cap_of hx.le) e).trans (by rw [if_pos hx.wid, lookP_ok hx, thenR_ok, if_neg (by simp [he])])) (.exc 3 (EP e) (.inr (.inr rfl)) (by simp)), rfl, refD_clean _ _ (by simp), sm_refP 3 (.inr (.inr rfl)) e⟩
theorem endBad3 (hx : Pt n xs) (hp : IsPt p xs) (u v e : Option Int) (hs : s = .tup [EP u, EP v] ∨ s = .lst [EP u, EP v]) (h : lookS n u v = .exc 3 [EP e]) : Row5.Good ⟨3, n, p, s, refP 3 (EP e)⟩ :=
  ⟨_, fun k => told3 rfl (isPt_ne hp) (by rcases hs with rfl | rfl <;> simp) ((stepped k n xs p s hp (cap_of hx.le) u v hs).trans (by rw [if_pos hx.wid, lookP_ok hx, thenR_ok, h, thenR_exc])) (.exc 3 (EP e) (.inr (.inr rfl)) (by simp)), rfl, refD_clean _ _ (by simp), sm_refP 3 (.inr (.inr rfl)) e⟩
theorem size_bad {w : Int} {zs : List Int} (h : w ≠ zs.length) : lookP w zs = .exc 1 [.int zs.length] := by
  unfold lookP lookN
  rw [if_neg h]
theorem num_bad {w : Int} {as bs : List Int} {v : Int} (hl : w = (as ++ v :: bs).length) (ha : ∀ x ∈ as, x.natAbs ≤ 1000) (hv : 1000 < v.natAbs) : lookP w (as ++ v :: bs) = .exc 2 [.int v] := by
  unfold lookP lookN
  rw [if_pos hl]
  have : (as ++ v :: bs).find? (fun x => !(decide (-1000 ≤ x) && decide (x ≤ 1000))) = some v := by
    rw [List.find?_append]
    have e1 : as.find? (fun x => !(decide (-1000 ≤ x) && decide (x ≤ 1000))) = none := by
      rw [List.find?_eq_none]
      intro x hx
      have := ha x hx
      simp
      omega
    rw [e1, List.find?_cons]
    have e2 : (!(decide (-1000 ≤ v) && decide (v ≤ 1000))) = true := by simp; omega
    simp only [e2]
    rfl
  unfold lookL
  rw [this]
  rfl
end
end K01
end
section
set_option Elab.async false
set_option linter.all false
set_option maxRecDepth 100000
namespace K01
open PySem NB NBE
def wideO (i : Int) : Int := [7, -1, 8, 60].getD i.toNat 0
def farO (i : Int) : Int := [1001, -1001, 1000000000, -100000000000000000000].getD i.toNat 0
def noneO (w i : Int) : Int := [w, -1, w + 7, 1000000000].getD i.toNat 0
theorem idx4 (a b c d : Int) (i : Int) (h0 : 0 ≤ i) (h1 : i < 4) : index (.lst [.int a, .int b, .int c, .int d]) (.int i) = .ok (.int ([a, b, c, d].getD i.toNat 0)) := idx_menu a b c d i h0 h1
theorem wideO_bad {i : Int} (h0 : 0 ≤ i) (h1 : i < 4) : ¬ (0 ≤ wideO i ∧ wideO i ≤ 6) := by
  have : i = 0 ∨ i = 1 ∨ i = 2 ∨ i = 3 := by omega
  rcases this with rfl | rfl | rfl | rfl <;> decide
theorem farO_bad {i : Int} (h0 : 0 ≤ i) (h1 : i < 4) : 1000 < (farO i).natAbs := by
  have : i = 0 ∨ i = 1 ∨ i = 2 ∨ i = 3 := by omega
  rcases this with rfl | rfl | rfl | rfl <;> decide
theorem noneO_bad {n : Nat} (hn : n ≤ 6) {i : Int} (h0 : 0 ≤ i) (h1 : i < 4) : endOk n (some (noneO n i)) = false := by
  have : i = 0 ∨ i = 1 ∨ i = 2 ∨ i = 3 := by omega
  rcases this with rfl | rfl | rfl | rfl <;> simp [noneO, endOk] <;> omega
def wrongR (wide w w1 : Int) (long x : P) (wh : Int) (other : P) : List Row5 :=
  [⟨wh, wide, long, other, refP 2 (.int wide)⟩] ++ (if wh > 1 then [⟨wh, w, long, other, refP 1 (.int w1)⟩] else []) ++ (if wh > 3 then [⟨wh, w, x, other, refP 1 (.int w1)⟩] else [])
def row5D (r : Row5) (d : NB.D) : NB.D := .tup [.val (.int r.wh), .val (.int r.wide), .val r.a, .val r.b, d]
def refR (r : Row5) (c : Nat) (q : P) : NB.D := .tup [.val (.int r.wh), .val (.int r.wide), .val r.a, .val r.b, refD c q]
def bodyX : SS := (.cons (.ex (.meth .append 10 (.cons (.tup (.cons (.v 11) (.cons (.v 4) (.cons (.v 7) (.cons (.v 12) (.cons (.tup (.cons (.c (.str "refused")) (.cons (.c (.str "number")) (.cons (.v 4) .nil)))) .nil)))))) .nil))) (.cons (.iff (.hold (.cmp .gt (.v 11) (.c (.int 1)))) (.cons (.ex (.meth .append 10 (.cons (.tup (.cons (.v 11) (.cons (.v 0) (.cons (.v 7) (.cons (.v 12) (.cons (.tup (.cons (.c (.str "refused")) (.cons (.c (.str "size")) (.cons (.bin .add (.v 0) (.c (.int 1))) .nil)))) .nil)))))) .nil))) .nil) .nil) (.cons (.iff (.hold (.cmp .gt (.v 11) (.c (.int 3)))) (.cons (.ex (.meth .append 10 (.cons (.tup (.cons (.v 11) (.cons (.v 0) (.cons (.v 1) (.cons (.v 12) (.cons (.tup (.cons (.c (.str "refused")) (.cons (.c (.str "size")) (.cons (.bin .add (.v 0) (.c (.int 1))) .nil)))) .nil)))))) .nil))) .nil) .nil) .nil)))
theorem wrong_turn (k : Nat) (w wide : Int) (d1 d7 : NB.D) (s2 s3 s5 s6 s8 s9 s13 : Sl) (ds : List NB.D) (rs : List Row5) (hds : NB.D.ps ds = rs.map Row5.p) (hl : ds.length ≤ 900) (wh : Int) (other : P) : ∃ ds', ess T (rn k) M 1000 bodyX [.ow (.val (.int w)), .ow (.val d1.p), s2, s3, .ow (.val (.int wide)), s5, s6, .ow d7, s8, s9, .ow (.lst ds), .ow (.val (.int wh)), .ow (.val other), s13] = .ok .nx [.ow (.val (.int w)), .ow (.val d1.p), s2, s3, .ow (.val (.int wide)), s5, s6, .ow (.val d7.p), s8, s9, .ow (.lst ds'), .ow (.val (.int wh)), .ow (.val other), s13] ∧ NB.D.ps ds' = (rs ++ wrongR wide w (w + 1) d7.p d1.p wh other).map Row5.p ∧ ds'.length ≤ ds.length + 3 := by
  have c1 : ds.length < cap := by unfold cap; omega
  have c2 : ds.length + 1 < cap := by unfold cap; omega
  have c3 : ds.length + 2 < cap := by unfold cap; omega
  by_cases h1 : wh > 1
  · by_cases h3 : wh > 3
    · refine ⟨ds ++ [refR ⟨wh, wide, d7.p, other, .non⟩ 2 (.int wide), refR ⟨wh, w, d7.p, other, .non⟩ 1 (.int (w + 1)), refR ⟨wh, w, d1.p, other, .non⟩ 1 (.int (w + 1))], ?_, ?_, by simp⟩
      · have h1' : (1 : Int) < wh := h1
        have h3' : (3 : Int) < wh := h3
        simp [bodyX, c1, c2, c3, h1', h3', refR, refD, kindS]
      · simp [hds, wrongR, h1, h3, refR, Row5.p]
    · refine ⟨ds ++ [refR ⟨wh, wide, d7.p, other, .non⟩ 2 (.int wide), refR ⟨wh, w, d7.p, other, .non⟩ 1 (.int (w + 1))], ?_, ?_, by simp⟩
      · have h1' : (1 : Int) < wh := h1
        have h3' : ¬ (3 : Int) < wh := h3
        simp [bodyX, c1, c2, c3, h1', h3', refR, refD, kindS]
      · simp [hds, wrongR, h1, h3, refR, Row5.p]
  · have h3 : ¬ wh > 3 := by omega
    refine ⟨ds ++ [refR ⟨wh, wide, d7.p, other, .non⟩ 2 (.int wide)], ?_, ?_, by simp⟩
    · have h1' : ¬ (1 : Int) < wh := h1
      have h3' : ¬ (3 : Int) < wh := h3
      simp [bodyX, c1, c2, c3, h1', h3', refR, refD, kindS]
    · simp [hds, wrongR, h1, h3, refR, Row5.p]
end K01
end
section
set_option Elab.async false
set_option linter.all false
set_option maxRecDepth 100000
namespace K01
open PySem NB NBE
theorem wrong_for (k : Nat) (w wide : Int) (X L : P) (s2 s3 s5 s6 s8 s9 s13 : Sl) : ∀ (os : List (Int × P)) (d7 : NB.D) (ds : List NB.D) (rs : List Row5) (s11 s12 : Sl), d7.p = L → NB.D.ps ds = rs.map Row5.p → ds.length + 3 * os.length ≤ 900 → ∃ d7' ds' t11 t12, forLoop (.tup [11, 12]) (essF T (rn k) M 1000 bodyX) (os.map fun t => P.tup [.int t.1, t.2]) [.ow (.val (.int w)), .ow (.val X), s2, s3, .ow (.val (.int wide)), s5, s6, .ow d7, s8, s9, .ow (.lst ds), s11, s12, s13] = .ok .nx [.ow (.val (.int w)), .ow (.val X), s2, s3, .ow (.val (.int wide)), s5, s6, .ow d7', s8, s9, .ow (.lst ds'), t11, t12, s13] ∧ d7'.p = L ∧ NB.D.ps ds' = (rs ++ os.flatMap fun t => wrongR wide w (w + 1) L X t.1 t.2).map Row5.p ∧ ds'.length ≤ ds.length + 3 * os.length
  | [], d7, ds, rs, s11, s12, h7, hd, hl => ⟨d7, ds, s11, s12, rfl, h7, by simpa using hd, by simp⟩
  | t :: os, d7, ds, rs, s11, s12, h7, hd, hl => by
    simp only [List.length_cons] at hl
    obtain ⟨ds1, e1, e2, e3⟩ := wrong_turn k w wide (.val X) d7 s2 s3 s5 s6 s8 s9 s13 ds rs hd (by omega) t.1 t.2
    rw [h7] at e1 e2
    obtain ⟨d7', ds', t11, t12, f1, f2, f3, f4⟩ := wrong_for k w wide X L s2 s3 s5 s6 s8 s9 s13 os (.val L) ds1 _ (.ow (.val (.int t.1))) (.ow (.val t.2)) rfl e2 (by omega)
    refine ⟨d7', ds', t11, t12, ?_, f2, ?_, by simp only [List.length_cons]; omega⟩
    · rw [List.map_cons, forLoop_cons]
      simp only [assign_tupV, List.map_cons, List.map_nil, setMany_cons, setMany_nil, setSl_succ, setSl_zero, lift_ok, essF_ap]
      simp only [D.p_val] at e1
      rw [e1]
      exact f1
    · rw [f3]
      simp [List.flatMap_cons]
def bodyY : SS := (.cons (.ex (.meth .append 10 (.cons (.tup (.cons (.c (.int 3)) (.cons (.v 0) (.cons (.v 1) (.cons (.tup (.cons (.v 13) (.cons (.v 13) .nil))) (.cons (.tup (.cons (.c (.str "refused")) (.cons (.c (.str "end")) (.cons (.v 13) .nil)))) .nil)))))) .nil))) .nil)
def endR (n : Int) (X : P) (e : Option Int) : Row5 := ⟨3, n, X, .tup [EP e, EP e], refP 3 (EP e)⟩
theorem end_for (k : Nat) (w : Int) (X : P) (s2 s3 s4 s5 s6 s7 s8 s9 s11 s12 : Sl) : ∀ (es : List (Option Int)) (ds : List NB.D) (rs : List Row5) (s13 : Sl), NB.D.ps ds = rs.map Row5.p → ds.length + es.length ≤ 1000 → ∃ ds' t13, forLoop (.nm 13) (essF T (rn k) M 1000 bodyY) (PE es) [.ow (.val (.int w)), .ow (.val X), s2, s3, s4, s5, s6, s7, s8, s9, .ow (.lst ds), s11, s12, s13] = .ok .nx [.ow (.val (.int w)), .ow (.val X), s2, s3, s4, s5, s6, s7, s8, s9, .ow (.lst ds'), s11, s12, t13] ∧ NB.D.ps ds' = (rs ++ es.map (endR w X)).map Row5.p ∧ ds'.length = ds.length + es.length
  | [], ds, rs, s13, hd, hl => ⟨ds, s13, rfl, by simpa using hd, by simp⟩
  | e :: es, ds, rs, s13, hd, hl => by
    simp only [List.length_cons] at hl
    have hc : ds.length < cap := by unfold cap; omega
    obtain ⟨ds', t13, f1, f2, f3⟩ := end_for k w X s2 s3 s4 s5 s6 s7 s8 s9 s11 s12 es (ds ++ [.tup [.val (.int 3), .val (.int w), .val X, .tup [.val (EP e), .val (EP e)], .tup [.val (.str "refused"), .val (.str "end"), .val (EP e)]]]) (rs ++ [endR w X e]) (.ow (.val (EP e))) (by simp [hd, endR, Row5.p, refP, kindS]) (by simp; omega)
    refine ⟨ds', t13, ?_, by rw [f2]; simp, by rw [f3]; simp; omega⟩
    rw [PE_cons, forLoop_cons]
    simpa [bodyY, hc] using f1
def refX (wh w : Int) (a : P) (b : NB.D) (c : Nat) (q : P) : NB.D := .tup [.val (.int wh), .val (.int w), .val a, b, refD c q]
theorem pow9 : binop .pow (.int 10) (.int 9) = .ok (.val (.int 1000000000), false) := by
  show (if 0 ≤ (9:Int) ∧ (9:Int) ≤ 1000 ∧ (10:Int).natAbs < 2 ^ 64 then flatR (.int ((10:Int) ^ (9:Int).toNat)) else .stuck) = _
  rw [if_pos ⟨by decide, by decide, by decide⟩]
  rfl
theorem pow20 : binop .pow (.int 10) (.int 20) = .ok (.val (.int 100000000000000000000), false) := by
  show (if 0 ≤ (20:Int) ∧ (20:Int) ≤ 1000 ∧ (10:Int).natAbs < 2 ^ 64 then flatR (.int ((10:Int) ^ (20:Int).toNat)) else .stuck) = _
  rw [if_pos ⟨by decide, by decide, by decide⟩]
  rfl
def oddP (a b c d : Int) : P := .lst [.int a, .int b, .int c, .int d]
theorem odd0 (a b c d : Int) : index (oddP a b c d) (.int 0) = .ok (.int a) := (rfl)
theorem odd1 (a b c d : Int) : index (oddP a b c d) (.int 1) = .ok (.int b) := (rfl)
theorem odd2 (a b c d : Int) : index (oddP a b c d) (.int 2) = .ok (.int c) := (rfl)
theorem odd3 (a b c d : Int) : index (oddP a b c d) (.int 3) = .ok (.int d) := (rfl)
def othersL (ys : List Int) (far none : Int) : List (Int × P) := [(0, .lst (PI ys)), (1, .lst (PI ys)), (2, .int none), (3, .tup [.int none, .int none]), (4, .lst (PI (ys ++ [far]))), (5, .lst (PI (ys ++ [far])))]
def wrongL (n : Nat) (xs ys : List Int) (o0 o1 o2 : Int) : List Row5 :=
  (othersL ys (farO o1) (noneO n o2)).flatMap (fun t => wrongR (wideO o0) n (n + 1) (.lst (PI (xs ++ [farO o1]))) (.lst (PI xs)) t.1 t.2) ++
    [⟨2, n, .lst (PI xs), .int (noneO n o2), refP 3 (.int (noneO n o2))⟩, ⟨3, n, .lst (PI xs), .tup [.int (noneO n o2), .non], refP 3 (.int (noneO n o2))⟩, ⟨3, n, .lst (PI xs), .lst [.non, .int (noneO n o2)], refP 3 (.int (noneO n o2))⟩, ⟨3, n, .lst (PI xs), .tup [.int (noneO n o2), .int (n + 3)], refP 3 (.int (noneO n o2))⟩, ⟨3, n, .lst (PI xs), .tup [.int (n + 3), .int (noneO n o2)], refP 3 (.int (n + 3))⟩] ++
    (endsL n).map (endR n (.lst (PI xs)))
theorem wrong_rows (k : Nat) {n : Nat} {xs ys : List Int} (hx : Pt n xs) (hy : Pt n ys) (o0 o1 o2 o3 : Int) (h0 : 0 ≤ o0 ∧ o0 < 4) (h1 : 0 ≤ o1 ∧ o1 < 4) (h2 : 0 ≤ o2 ∧ o2 < 4) : ∃ ds, rn (k + 2) 34 [.val (.int n), .val (.lst (PI xs)), .val (.lst (PI ys)), .val (oddP o0 o1 o2 o3)] = .ok (.lst ds, []) ∧ NB.D.ps ds = (wrongL n xs ys o0 o1 o2).map Row5.p ∧ ds.length ≤ 40 := by
  rw [run34]
  have hn := hx.w
  have e21 := law_ends k n hn
  have cx : xs.length + 1 ≤ cap := cap_of (by rw [hx.len]; omega)
  have cy : ys.length + 1 ≤ cap := cap_of (by rw [hy.len]; omega)
  have i0 := idx4 7 (-1) 8 60 o0 h0.1 h0.2
  have i1 := idx4 1001 (-1001) 1000000000 (-100000000000000000000) o1 h1.1 h1.2
  have i2 := idx4 n (-1) (n + 7) 1000000000 o2 h2.1 h2.2
  have q1 := odd0 o0 o1 o2 o3
  have q2 := odd1 o0 o1 o2 o3
  have q3 := odd2 o0 o1 o2 o3
  generalize oddP o0 o1 o2 o3 = O at *
  obtain ⟨d7, ds, t11, t12, f1, f2, f3, f4⟩ := wrong_for (k + 1) n (wideO o0) (.lst (PI xs)) (.lst (PI (xs ++ [farO o1]))) (.ow (.val (.lst (PI ys)))) (.ow (.val O)) (.ow (.val (.int (farO o1)))) (.ow (.val (.int (noneO n o2)))) (.ow (.val (.lst (PI (ys ++ [farO o1]))))) (.ow (.val (.lst [.lst (PI ys), .lst (PI ys), .int (noneO n o2), .tup [.int (noneO n o2), .int (noneO n o2)], .lst (PI (ys ++ [farO o1])), .lst (PI (ys ++ [farO o1]))]))) .no (othersL ys (farO o1) (noneO n o2)) (.lst (VI (xs ++ [farO o1]))) [] [] .no .no (by simp) rfl (by simp [othersL])
  have hlen : ds.length ≤ 18 := by simpa [othersL] using f4
  have hc0 : ds.length < cap := by unfold cap; omega
  have hc1 : ds.length + 1 < cap := by unfold cap; omega
  have hc2 : ds.length + 2 < cap := by unfold cap; omega
  have hc3 : ds.length + 3 < cap := by unfold cap; omega
  have hc4 : ds.length + 4 < cap := by unfold cap; omega
  have hwide : ([7, -1, 8, 60].getD o0.toNat 0 : Int) = wideO o0 := rfl
  have hfar : ([1001, -1001, 1000000000, -100000000000000000000].getD o1.toNat 0 : Int) = farO o1 := rfl
  have hnone : ([(n : Int), -1, n + 7, 1000000000].getD o2.toNat 0 : Int) = noneO n o2 := rfl
  rw [hwide] at i0
  rw [hfar] at i1
  rw [hnone] at i2
  generalize hWI : wideO o0 = wide at *
  generalize hFA : farO o1 = far at *
  generalize hNO : noneO n o2 = none at *
  obtain ⟨es, t13, g1, g2, g3⟩ := end_for (k + 1) n (.lst (PI xs)) (.ow (.val (.lst (PI ys)))) (.ow (.val O)) (.ow (.val (.int wide))) (.ow (.val (.int far))) (.ow (.val (.int none))) (.ow d7) (.ow (.val (.lst (PI (ys ++ [far]))))) (.ow (.val (.lst [.lst (PI ys), .lst (PI ys), .int none, .tup [.int none, .int none], .lst (PI (ys ++ [far])), .lst (PI (ys ++ [far]))]))) t11 t12 (endsL n)
    (ds ++ [refX 2 n (.lst (PI xs)) (.val (.int none)) 3 (.int none), refX 3 n (.lst (PI xs)) (.tup [.val (.int none), .val .non]) 3 (.int none), refX 3 n (.lst (PI xs)) (.lst [.val .non, .val (.int none)]) 3 (.int none), refX 3 n (.lst (PI xs)) (.tup [.val (.int none), .val (.int (n + 3))]) 3 (.int none), refX 3 n (.lst (PI xs)) (.tup [.val (.int (n + 3)), .val (.int none)]) 3 (.int (n + 3))])
    ((othersL ys far none).flatMap (fun t => wrongR wide n (n + 1) (.lst (PI (xs ++ [far]))) (.lst (PI xs)) t.1 t.2) ++
    [⟨2, n, .lst (PI xs), .int none, refP 3 (.int none)⟩, ⟨3, n, .lst (PI xs), .tup [.int none, .non], refP 3 (.int none)⟩, ⟨3, n, .lst (PI xs), .lst [.non, .int none], refP 3 (.int none)⟩, ⟨3, n, .lst (PI xs), .tup [.int none, .int (n + 3)], refP 3 (.int none)⟩, ⟨3, n, .lst (PI xs), .tup [.int (n + 3), .int none], refP 3 (.int (n + 3))⟩]) .no (by
      rw [D.ps_append, f3]
      simp [refX, Row5.p]) (by simp; omega)
  refine ⟨es, ?_, by rw [g2, wrongL, hFA, hWI, hNO], by rw [g3]; simp; omega⟩
  unfold bodyX at f1
  unfold bodyY at g1
  unfold B34
  -- s1 .. s7
  refine (congrArg (fin false) ((stp (ε' := [.ow (.val (.int n)), .ow (.val (.lst (PI xs))), .ow (.val (.lst (PI ys))), .ow (.val O), .ow (.val (.int wide)), .no, .no, .no, .no, .no, .no, .no, .no, .no]) (by simp [q1, i0])).trans ?_)).trans (?_ : fin false (.ok (.rt (.lst es)) [.ow (.val (.int n)), .ow (.val (.lst (PI xs))), .ow (.val (.lst (PI ys))), .ow (.val O), .ow (.val (.int wide)), .ow (.val (.int far)), .ow (.val (.int none)), .ow d7, .ow (.val (.lst (PI (ys ++ [far])))), .ow (.val (.lst [.lst (PI ys), .lst (PI ys), .int none, .tup [.int none, .int none], .lst (PI (ys ++ [far])), .lst (PI (ys ++ [far]))])), .no, t11, t12, t13]) = _)
  rotate_left
  · simp
  refine (stp (ε' := [.ow (.val (.int n)), .ow (.val (.lst (PI xs))), .ow (.val (.lst (PI ys))), .ow (.val O), .ow (.val (.int wide)), .ow (.val (.int far)), .no, .no, .no, .no, .no, .no, .no, .no]) (by simp [q2, i1, pow9, pow20])).trans ?_
  refine (stp (ε' := [.ow (.val (.int n)), .ow (.val (.lst (PI xs))), .ow (.val (.lst (PI ys))), .ow (.val O), .ow (.val (.int wide)), .ow (.val (.int far)), .ow (.val (.int none)), .no, .no, .no, .no, .no, .no, .no]) (by simp [q3, i2, pow9])).trans ?_
  refine (stp (ε' := [.ow (.val (.int n)), .ow (.val (.lst (PI xs))), .ow (.val (.lst (PI ys))), .ow (.val O), .ow (.val (.int wide)), .ow (.val (.int far)), .ow (.val (.int none)), .ow (.lst (VI (xs ++ [far]))), .no, .no, .no, .no, .no, .no]) (by simp [cx])).trans ?_
  refine (stp (ε' := [.ow (.val (.int n)), .ow (.val (.lst (PI xs))), .ow (.val (.lst (PI ys))), .ow (.val O), .ow (.val (.int wide)), .ow (.val (.int far)), .ow (.val (.int none)), .ow (.lst (VI (xs ++ [far]))), .ow (.lst (VI (ys ++ [far]))), .no, .no, .no, .no, .no]) (by simp [cy])).trans ?_
  refine (stp (ε' := [.ow (.val (.int n)), .ow (.val (.lst (PI xs))), .ow (.val (.lst (PI ys))), .ow (.val O), .ow (.val (.int wide)), .ow (.val (.int far)), .ow (.val (.int none)), .ow (.lst (VI (xs ++ [far]))), .ow (.val (.lst (PI (ys ++ [far])))), .ow (.lst [.val (.lst (PI ys)), .val (.lst (PI ys)), .val (.int none), .tup [.val (.int none), .val (.int none)], .val (.lst (PI (ys ++ [far]))), .val (.lst (PI (ys ++ [far])))]), .no, .no, .no, .no]) (by simp)).trans ?_
  refine (stp (ε' := [.ow (.val (.int n)), .ow (.val (.lst (PI xs))), .ow (.val (.lst (PI ys))), .ow (.val O), .ow (.val (.int wide)), .ow (.val (.int far)), .ow (.val (.int none)), .ow (.lst (VI (xs ++ [far]))), .ow (.val (.lst (PI (ys ++ [far])))), .ow (.lst [.val (.lst (PI ys)), .val (.lst (PI ys)), .val (.int none), .tup [.val (.int none), .val (.int none)], .val (.lst (PI (ys ++ [far]))), .val (.lst (PI (ys ++ [far])))]), .ow (.lst []), .no, .no, .no]) (by simp)).trans ?_
  -- s8
  have hen : enumP 0 [.lst (PI ys), .lst (PI ys), .int none, .tup [.int none, .int none], .lst (PI (ys ++ [far])), .lst (PI (ys ++ [far]))] = (othersL ys far none).map fun t => P.tup [.int t.1, t.2] := rfl
  refine (stp (ε' := [.ow (.val (.int n)), .ow (.val (.lst (PI xs))), .ow (.val (.lst (PI ys))), .ow (.val O), .ow (.val (.int wide)), .ow (.val (.int far)), .ow (.val (.int none)), .ow d7, .ow (.val (.lst (PI (ys ++ [far])))), .ow (.val (.lst [.lst (PI ys), .lst (PI ys), .int none, .tup [.int none, .int none], .lst (PI (ys ++ [far])), .lst (PI (ys ++ [far]))])), .ow (.lst ds), t11, t12, .no]) (by simp [hen, f1])).trans ?_
  -- s9 .. s13
  refine (stp (ε' := [.ow (.val (.int n)), .ow (.val (.lst (PI xs))), .ow (.val (.lst (PI ys))), .ow (.val O), .ow (.val (.int wide)), .ow (.val (.int far)), .ow (.val (.int none)), .ow d7, .ow (.val (.lst (PI (ys ++ [far])))), .ow (.val (.lst [.lst (PI ys), .lst (PI ys), .int none, .tup [.int none, .int none], .lst (PI (ys ++ [far])), .lst (PI (ys ++ [far]))])), .ow (.lst (ds ++ [refX 2 n (.lst (PI xs)) (.val (.int none)) 3 (.int none)])), t11, t12, .no]) (by simp [hc0, refX, refD, kindS])).trans ?_
  refine (stp (ε' := [.ow (.val (.int n)), .ow (.val (.lst (PI xs))), .ow (.val (.lst (PI ys))), .ow (.val O), .ow (.val (.int wide)), .ow (.val (.int far)), .ow (.val (.int none)), .ow d7, .ow (.val (.lst (PI (ys ++ [far])))), .ow (.val (.lst [.lst (PI ys), .lst (PI ys), .int none, .tup [.int none, .int none], .lst (PI (ys ++ [far])), .lst (PI (ys ++ [far]))])), .ow (.lst (ds ++ [refX 2 n (.lst (PI xs)) (.val (.int none)) 3 (.int none), refX 3 n (.lst (PI xs)) (.tup [.val (.int none), .val .non]) 3 (.int none)])), t11, t12, .no]) (by simp [hc1, refX, refD, kindS])).trans ?_
  refine (stp (ε' := [.ow (.val (.int n)), .ow (.val (.lst (PI xs))), .ow (.val (.lst (PI ys))), .ow (.val O), .ow (.val (.int wide)), .ow (.val (.int far)), .ow (.val (.int none)), .ow d7, .ow (.val (.lst (PI (ys ++ [far])))), .ow (.val (.lst [.lst (PI ys), .lst (PI ys), .int none, .tup [.int none, .int none], .lst (PI (ys ++ [far])), .lst (PI (ys ++ [far]))])), .ow (.lst (ds ++ [refX 2 n (.lst (PI xs)) (.val (.int none)) 3 (.int none), refX 3 n (.lst (PI xs)) (.tup [.val (.int none), .val .non]) 3 (.int none), refX 3 n (.lst (PI xs)) (.lst [.val .non, .val (.int none)]) 3 (.int none)])), t11, t12, .no]) (by simp [hc2, refX, refD, kindS])).trans ?_
  refine (stp (ε' := [.ow (.val (.int n)), .ow (.val (.lst (PI xs))), .ow (.val (.lst (PI ys))), .ow (.val O), .ow (.val (.int wide)), .ow (.val (.int far)), .ow (.val (.int none)), .ow d7, .ow (.val (.lst (PI (ys ++ [far])))), .ow (.val (.lst [.lst (PI ys), .lst (PI ys), .int none, .tup [.int none, .int none], .lst (PI (ys ++ [far])), .lst (PI (ys ++ [far]))])), .ow (.lst (ds ++ [refX 2 n (.lst (PI xs)) (.val (.int none)) 3 (.int none), refX 3 n (.lst (PI xs)) (.tup [.val (.int none), .val .non]) 3 (.int none), refX 3 n (.lst (PI xs)) (.lst [.val .non, .val (.int none)]) 3 (.int none), refX 3 n (.lst (PI xs)) (.tup [.val (.int none), .val (.int (n + 3))]) 3 (.int none)])), t11, t12, .no]) (by simp [hc3, refX, refD, kindS])).trans ?_
  refine (stp (ε' := [.ow (.val (.int n)), .ow (.val (.lst (PI xs))), .ow (.val (.lst (PI ys))), .ow (.val O), .ow (.val (.int wide)), .ow (.val (.int far)), .ow (.val (.int none)), .ow d7, .ow (.val (.lst (PI (ys ++ [far])))), .ow (.val (.lst [.lst (PI ys), .lst (PI ys), .int none, .tup [.int none, .int none], .lst (PI (ys ++ [far])), .lst (PI (ys ++ [far]))])), .ow (.lst (ds ++ [refX 2 n (.lst (PI xs)) (.val (.int none)) 3 (.int none), refX 3 n (.lst (PI xs)) (.tup [.val (.int none), .val .non]) 3 (.int none), refX 3 n (.lst (PI xs)) (.lst [.val .non, .val (.int none)]) 3 (.int none), refX 3 n (.lst (PI xs)) (.tup [.val (.int none), .val (.int (n + 3))]) 3 (.int none), refX 3 n (.lst (PI xs)) (.tup [.val (.int (n + 3)), .val (.int none)]) 3 (.int (n + 3))])), t11, t12, .no]) (by simp [hc4, refX, refD, kindS])).trans ?_
  refine (stp (ε' := [.ow (.val (.int n)), .ow (.val (.lst (PI xs))), .ow (.val (.lst (PI ys))), .ow (.val O), .ow (.val (.int wide)), .ow (.val (.int far)), .ow (.val (.int none)), .ow d7, .ow (.val (.lst (PI (ys ++ [far])))), .ow (.val (.lst [.lst (PI ys), .lst (PI ys), .int none, .tup [.int none, .int none], .lst (PI (ys ++ [far])), .lst (PI (ys ++ [far]))])), .ow (.lst es), t11, t12, t13]) (by
    simp only [es_for, eit_seq, argOf_call, ev_call, eargs_cons, argOf_v, List.getElem?_cons_zero, R.ok_bind, un2_eq, eargs_nil, mu21, callE_false, borrows_cons, borrow_nm, borrows_nil, List.map_cons, List.map_nil, D.p_val, e21, backE_ok, D.clean_lst, cleans_VE, D.cleans_nil, Bool.and_self, if_true, un3_eq, lockV_tm, D.p_lst, ps_VE, itemsOf_lst, lf3_ok, g1, after_nx, unlocks_cons, unlock1_tm, unlocks_nil])).trans ?_
  simp
end K01
end
section
set_option Elab.async false
set_option linter.all false
set_option maxRecDepth 100000
namespace K01
open PySem NB NBE
theorem size_long {n : Nat} {xs : List Int} (hx : xs.length = n) (v : Int) : lookP n (xs ++ [v]) = .exc 1 [.int (n + 1)] := by
  have h : (n : Int) ≠ (xs ++ [v]).length := by simp [hx]; omega
  have := size_bad h
  simpa [hx] using this
theorem wrong_good {n : Nat} {xs ys : List Int} (hx : Pt n xs) (hy : Pt n ys) (o0 o1 o2 : Int) (h0 : 0 ≤ o0 ∧ o0 < 4) (h1 : 0 ≤ o1 ∧ o1 < 4) (h2 : 0 ≤ o2 ∧ o2 < 4) : ∀ r ∈ wrongL n xs ys o0 o1 o2, r.Good := by
  have hw := wideO_bad h0.1 h0.2
  have hn := noneO_bad hx.w h2.1 h2.2
  have hn3 : endOk n (some ((n : Int) + 3)) = false := by simp [endOk]; omega
  have lx : (xs ++ [farO o1]).length ≤ 1000 := by have := hx.w; simp [hx.len]; omega
  have ly : (ys ++ [farO o1]).length ≤ 1000 := by have := hx.w; simp [hy.len]; omega
  have sx := size_long hx.len (farO o1)
  have sy := size_long hy.len (farO o1)
  intro r hr
  unfold wrongL at hr
  generalize wideO o0 = wide at *
  generalize noneO n o2 = none at *
  generalize farO o1 = far at *
  simp only [List.mem_append, List.mem_flatMap, List.mem_map] at hr
  rcases hr with (⟨t, ht, hr⟩ | hr) | ⟨e, he, rfl⟩
  · simp only [othersL, List.mem_cons, List.not_mem_nil, or_false] at ht
    rcases ht with rfl | rfl | rfl | rfl | rfl | rfl
    · simp [wrongR] at hr
      subst hr
      exact b0 hw (isPt_ne (.lst _)) (isPt_ne (.lst _))
    · simp [wrongR] at hr
      subst hr
      exact b1 hw (isPt_ne (.lst _)) (isPt_ne (.lst _))
    · simp [wrongR] at hr
      rcases hr with rfl | rfl
      · exact b2 hw (.lst _) (cap_of lx) (some none)
      · exact c2 hx.wid (.lst _) (cap_of lx) (some none) (.inl rfl) sx
    · simp [wrongR] at hr
      rcases hr with rfl | rfl
      · exact b3 hw (.lst _) (cap_of lx) (some none) (some none) (.inl rfl)
      · exact c3 hx.wid (.lst _) (cap_of lx) (some none) (some none) (.inl rfl) (.inl rfl) sx
    · simp [wrongR] at hr
      rcases hr with rfl | rfl | rfl
      · exact b4 hw (.lst _) (.lst _) lx ly
      · exact c4 hx.wid (.lst _) (.lst _) lx ly (.inl rfl) sx
      · exact d4 hx (.lst _) (.lst _) ly (.inl rfl) sy
    · simp [wrongR] at hr
      rcases hr with rfl | rfl | rfl
      · exact b5 hw (.lst _) (.lst _) lx ly
      · exact c5 hx.wid (.lst _) (.lst _) lx ly (.inl rfl) sx
      · exact d5 hx (.lst _) (.lst _) ly (.inl rfl) sy
  · simp only [List.mem_cons, List.not_mem_nil, or_false] at hr
    rcases hr with rfl | rfl | rfl | rfl | rfl
    · exact endBad2 hx (.lst _) (some none) hn
    · exact endBad3 hx (.lst _) (some none) Option.none (some none) (.inl rfl) (by simp [lookS, hn])
    · exact endBad3 hx (.lst _) Option.none (some none) (some none) (.inr rfl) (by unfold lookS; rw [if_pos (show endOk n Option.none = true from rfl), if_neg (by simp [hn])])
    · exact endBad3 hx (.lst _) (some none) (some (n + 3)) (some none) (.inl rfl) (by simp [lookS, hn])
    · exact endBad3 hx (.lst _) (some (n + 3)) (some none) (some (n + 3)) (.inl rfl) (by simp [lookS, hn3])
  · have h3 := endOk_mem he
    exact endBad3 hx (.lst _) e e e (.inl rfl) (by simp [lookS, h3])
/-! ### the rows at the edge -/
def edgeO (i : Int) : Int := [1000, -1000, 1000, -1000].getD i.toNat 0
theorem edgeO_ok {i : Int} (h0 : 0 ≤ i) (h1 : i < 4) : (edgeO i).natAbs ≤ 1000 := by
  have : i = 0 ∨ i = 1 ∨ i = 2 ∨ i = 3 := by omega
  rcases this with rfl | rfl | rfl | rfl <;> decide
def badL (xs : List Int) (at_ : Nat) (far : Int) : List Int := xs.take at_ ++ far :: List.replicate (xs.length - (at_ + 1)) (-far)
def putL (xs : List Int) (at_ : Nat) (v : Int) : List Int := xs.take at_ ++ v :: xs.drop (at_ + 1)
theorem badL_len {xs : List Int} {a : Nat} (h : a < xs.length) (v : Int) : (badL xs a v).length = xs.length := by simp [badL]; omega
theorem putL_len {xs : List Int} {a : Nat} (h : a < xs.length) (v : Int) : (putL xs a v).length = xs.length := by simp [putL]; omega
theorem bad_look {n : Nat} {xs : List Int} (hx : Pt n xs) {a : Nat} (h : a < n) {v : Int} (hv : 1000 < v.natAbs) : lookP n (badL xs a v) = .exc 2 [.int v] :=
  num_bad (by show (n : Int) = (badL xs a v).length; rw [badL_len (by rw [hx.len]; exact h), hx.len]) (fun x hm => hx.bd x (List.mem_of_mem_take hm)) hv
theorem put_look {n : Nat} {xs : List Int} (hx : Pt n xs) {a : Nat} (h : a < n) {v : Int} (hv : 1000 < v.natAbs) : lookP n (putL xs a v) = .exc 2 [.int v] :=
  num_bad (by show (n : Int) = (putL xs a v).length; rw [putL_len (by rw [hx.len]; exact h), hx.len]) (fun x hm => hx.bd x (List.mem_of_mem_take hm)) hv
theorem put_pt {n : Nat} {xs : List Int} (hx : Pt n xs) {a : Nat} (h : a < n) {v : Int} (hv : v.natAbs ≤ 1000) : Pt n (putL xs a v) := by
  refine ⟨hx.w, by rw [putL_len (by rw [hx.len]; exact h), hx.len], fun x hm => ?_⟩
  simp only [putL, List.mem_append, List.mem_cons] at hm
  rcases hm with hm | rfl | hm
  · exact hx.bd x (List.mem_of_mem_take hm)
  · exact hv
  · exact hx.bd x (List.mem_of_mem_drop hm)
theorem put_amt {xs : List Int} {a : Nat} (h : a < xs.length) (v : Int) : amt (putL xs a v) (some (a : Int)) = v := by
  have : (xs.take a).length = a := by simp; omega
  simp only [amt, putL, Int.toNat_natCast, List.getD_eq_getElem?_getD]
  rw [List.getElem?_append_right (by omega)]
  simp [this]
theorem drop_size {n : Nat} {xs : List Int} (hx : xs.length = n) (hn : 0 < n) : lookP n (xs.drop 1) = .exc 1 [.int (n - 1)] := by
  have e : ((xs.drop 1).length : Int) = (n : Int) - 1 := by simp [hx]; omega
  have h : (n : Int) ≠ (xs.drop 1).length := by omega
  have := size_bad h
  rwa [e] at this
/-- told as due -/
theorem k2 {n : Nat} {xs : List Int} (hx : Pt n xs) (e : Option Int) (he : endOk n e = true) {v : Int} (hv : amt xs e = v) : Row5.Good ⟨2, n, .lst (PI xs), EP e, .tup [.str "told", .int v]⟩ := by
  subst hv
  exact ⟨_, fun k => t2 k hx (.lst xs) e he, rfl, rfl, by simp [sm]⟩
theorem k3 {n : Nat} {xs : List Int} (hx : Pt n xs) (u v : Option Int) (hu : endOk n u = true) (hv : endOk n v = true) (huv : u ≠ v) : Row5.Good ⟨3, n, .lst (PI xs), .tup [EP u, EP v], .tup [.str "told", .tup (PI (mv xs u v))]⟩ :=
  ⟨_, fun k => t3 k hx (.lst xs) u v (.inl rfl) hu hv huv, by simp, by simp, by
    rw [sm_tup]
    have : (PI (mv xs u v)).all (sm 4) = true := sm_PI 3 _
    simp [sm_tup, this, cap_of hx.le]
    simp [sm]⟩
theorem k5 {n : Nat} {xs : List Int} (hx : Pt n xs) : Row5.Good ⟨5, n, .lst (PI xs), .lst (PI xs), .tup [.str "told", .int 0]⟩ :=
  ⟨_, fun k => t5 k hx hx (.lst xs) (.lst xs), by simp [far_self], rfl, by simp [sm]⟩
theorem Rem.self {n : Nat} {xs : List Int} (hx : xs.length = n) : moreL (trisL n xs xs) = [] ∧ lessL (trisL n xs xs) = [] := by
  have h := Rem.start hx hx
  have h2 := h.len hx hx
  rw [far_self] at h2
  have e1 : (moreL (trisL n xs xs)).length = 0 := by omega
  have e2 : (lessL (trisL n xs xs)).length = 0 := by omega
  exact ⟨List.eq_nil_of_length_eq_zero e1, List.eq_nil_of_length_eq_zero e2⟩
theorem k4 {n : Nat} {xs : List Int} (hx : Pt n xs) : Row5.Good ⟨4, n, .lst (PI xs), .lst (PI xs), .tup [.str "told", .tup [.lst [], .lst []]]⟩ := by
  obtain ⟨e1, e2⟩ := Rem.self hx.len
  refine ⟨_, fun k => t4 k hx hx (.lst xs) (.lst xs), by simp [e1, e2], by simp, ?_⟩
  simp [sm]
def edgeR (n : Nat) (xs : List Int) (bad : List Int) (far : Int) (wh : Int) (other : P) : List Row5 := [⟨wh, n, .lst (PI bad), other, refP 2 (.int far)⟩, ⟨wh, n, .lst (PI (xs.drop 1)), other, refP 1 (.int (n - 1))⟩]
def edgeR2 (n : Nat) (xs ys worse full : List Int) (far : Int) (wh : Int) : List Row5 := [⟨wh, n, .lst (PI xs), .lst (PI worse), refP 2 (.int (-far))⟩, ⟨wh, n, .lst (PI full), .lst (PI (ys.drop 1)), refP 1 (.int (n - 1))⟩]
def edgeL (n : Nat) (xs ys : List Int) (far none edge : Int) (at_ : Nat) : List Row5 :=
  (edgeR n xs (badL xs at_ far) far 2 (.int none) ++ edgeR n xs (badL xs at_ far) far 3 (.tup [.int none, .int none]) ++ edgeR n xs (badL xs at_ far) far 4 (.lst (PI (putL ys at_ (-far)))) ++ edgeR n xs (badL xs at_ far) far 5 (.lst (PI (putL ys at_ (-far))))) ++
    (edgeR2 n xs ys (putL ys at_ (-far)) (putL xs at_ edge) far 4 ++ edgeR2 n xs ys (putL ys at_ (-far)) (putL xs at_ edge) far 5) ++
    [⟨2, n, .lst (PI (putL xs at_ edge)), .int at_, .tup [.str "told", .int edge]⟩, ⟨5, n, .lst (PI (putL xs at_ edge)), .lst (PI (putL xs at_ edge)), .tup [.str "told", .int 0]⟩, ⟨4, n, .lst (PI (putL xs at_ edge)), .lst (PI (putL xs at_ edge)), .tup [.str "told", .tup [.lst [], .lst []]]⟩] ++
    [⟨3, n, .lst (PI (putL xs at_ edge)), .tup [.non, .int at_], .tup [.str "told", .tup (PI (mv (putL xs at_ edge) Option.none (some at_)))]⟩, ⟨3, n, .lst (PI (putL xs at_ edge)), .tup [.int at_, .non], .tup [.str "told", .tup (PI (mv (putL xs at_ edge) (some at_) Option.none))]⟩]
theorem edge_good {n : Nat} {xs ys : List Int} (hx : Pt n xs) (hy : Pt n ys) (far none edge : Int) (at_ : Nat) (ha : at_ < n) (hf : 1000 < far.natAbs) (he : edge.natAbs ≤ 1000) : ∀ r ∈ edgeL n xs ys far none edge at_, r.Good := by
  have hn := hx.w
  have l1 : (badL xs at_ far).length ≤ 1000 := by rw [badL_len (by rw [hx.len]; exact ha), hx.len]; omega
  have l2 : (xs.drop 1).length ≤ 1000 := by simp [hx.len]; omega
  have l3 : (putL ys at_ (-far)).length ≤ 1000 := by rw [putL_len (by rw [hy.len]; exact ha), hy.len]; omega
  have l4 : (ys.drop 1).length ≤ 1000 := by simp [hy.len]; omega
  have s1 := bad_look hx ha hf
  have s2 := drop_size hx.len (show 0 < n by omega)
  have s3 := put_look hy ha (v := -far) (by omega)
  have s4 := drop_size hy.len (show 0 < n by omega)
  have pf := put_pt hx ha he
  have hat : endOk n (some (at_ : Int)) = true := by simp [endOk]; omega
  have am := put_amt (xs := xs) (a := at_) (by rw [hx.len]; exact ha) edge
  intro r hr
  unfold edgeL at hr
  generalize badL xs at_ far = bad at *
  generalize putL ys at_ (-far) = worse at *
  generalize putL xs at_ edge = full at *
  simp only [edgeR, edgeR2, List.mem_append, List.mem_cons, List.not_mem_nil, or_false] at hr
  rcases hr with ((((((rfl | rfl) | (rfl | rfl)) | (rfl | rfl)) | (rfl | rfl)) | ((rfl | rfl) | (rfl | rfl))) | (rfl | rfl | rfl)) | (rfl | rfl)
  · exact c2 hx.wid (.lst _) (cap_of l1) (some none) (.inr (.inl rfl)) s1
  · exact c2 hx.wid (.lst _) (cap_of l2) (some none) (.inl rfl) s2
  · exact c3 hx.wid (.lst _) (cap_of l1) (some none) (some none) (.inl rfl) (.inr (.inl rfl)) s1
  · exact c3 hx.wid (.lst _) (cap_of l2) (some none) (some none) (.inl rfl) (.inl rfl) s2
  · exact c4 hx.wid (.lst _) (.lst _) l1 l3 (.inr (.inl rfl)) s1
  · exact c4 hx.wid (.lst _) (.lst _) l2 l3 (.inl rfl) s2
  · exact c5 hx.wid (.lst _) (.lst _) l1 l3 (.inr (.inl rfl)) s1
  · exact c5 hx.wid (.lst _) (.lst _) l2 l3 (.inl rfl) s2
  · exact d4 hx (.lst _) (.lst _) l3 (.inr (.inl rfl)) s3
  · exact d4 pf (.lst _) (.lst _) l4 (.inl rfl) s4
  · exact d5 hx (.lst _) (.lst _) l3 (.inr (.inl rfl)) s3
  · exact d5 pf (.lst _) (.lst _) l4 (.inl rfl) s4
  · exact k2 pf (some at_) hat am
  · exact k5 pf
  · exact k4 pf
  · exact k3 pf Option.none (some at_) rfl hat (by simp)
  · exact k3 pf (some at_) Option.none hat rfl (by simp)
end K01
end
section
set_option Elab.async false
set_option linter.all false
set_option maxRecDepth 100000
namespace K01
open PySem NB NBE
theorem sl_take (xs : List Int) (a : Nat) (h : xs.length ≤ 1000) : slice (.lst (PI xs)) none (some (a : Int)) = .ok (.lst (VI (xs.take a)), false) := by
  show newL (cutP (PI xs) none (some (a : Int))) = _
  have e : cutP (PI xs) none (some (a : Int)) = PI (xs.take a) := by
    unfold cutP
    rw [HT.sIx_none, HT.sIx_nat, List.drop_zero, Nat.sub_zero, PI_len]
    unfold PI
    rw [← List.map_take]
    congr 1
    rw [List.take_eq_take_iff]
    omega
  rw [e]
  unfold newL
  rw [if_pos (cap_of (by simp; omega))]
  simp
theorem sl_drop (xs : List Int) (a : Nat) (h : xs.length ≤ 1000) : slice (.lst (PI xs)) (some (a : Int)) none = .ok (.lst (VI (xs.drop a)), false) := by
  show newL (cutP (PI xs) (some (a : Int)) none) = _
  have e : cutP (PI xs) (some (a : Int)) none = PI (xs.drop a) := by
    unfold cutP
    rw [HT.sIx_none, HT.sIx_nat, PI_len]
    unfold PI
    rw [← List.map_drop, ← List.map_take]
    congr 1
    rw [List.take_of_length_le (by simp)]
    rcases Nat.le_total a xs.length with q | q
    · rw [Nat.min_eq_left q]
    · rw [Nat.min_eq_right q, List.drop_eq_nil_of_le (Nat.le_refl _), List.drop_eq_nil_of_le q]
  rw [e]
  unfold newL
  rw [if_pos (cap_of (by simp; omega))]
  simp
def bodyE : SS := (.cons (.asg (.nm 14) (.ix (.v 11) (.v 13))) (.cons (.ex (.meth .append 12 (.cons (.tup (.cons (.v 13) (.cons (.v 0) (.cons (.v 8) (.cons (.v 14) (.cons (.tup (.cons (.c (.str "refused")) (.cons (.c (.str "number")) (.cons (.v 4) .nil)))) .nil)))))) .nil))) (.cons (.ex (.meth .append 12 (.cons (.tup (.cons (.v 13) (.cons (.v 0) (.cons (.sl (.v 1) (.some (.c (.int 1))) .none) (.cons (.v 14) (.cons (.tup (.cons (.c (.str "refused")) (.cons (.c (.str "size")) (.cons (.bin .sub (.v 0) (.c (.int 1))) .nil)))) .nil)))))) .nil))) .nil)))
theorem edge_turn (k : Nat) (w far : Int) (xs bad : List Int) (hxs : xs.length ≤ 1000) (d8 d11 : NB.D) (h8 : d8.p = .lst (PI bad)) (s2 s3 s5 s6 s7 s9 s10 s14 s15 s16 : Sl) (ds : List NB.D) (hl : ds.length ≤ 900) (wh : Int) (other : P) (hi : index d11.p (.int wh) = .ok other) : ∃ d11', d11'.p = d11.p ∧ ess T (rn k) M 1000 bodyE [.ow (.val (.int w)), .ow (.val (.lst (PI xs))), s2, s3, .ow (.val (.int far)), s5, s6, s7, .ow d8, s9, s10, .ow d11, .ow (.lst ds), .ow (.val (.int wh)), s14, s15, s16] = .ok .nx [.ow (.val (.int w)), .ow (.val (.lst (PI xs))), s2, s3, .ow (.val (.int far)), s5, s6, s7, .ow (.val (.lst (PI bad))), s9, s10, .ow d11', .ow (.lst (ds ++ [.tup [.val (.int wh), .val (.int w), .val (.lst (PI bad)), .val other, refD 2 (.int far)], .tup [.val (.int wh), .val (.int w), .lst (VI (xs.drop 1)), .val other, refD 1 (.int (w - 1))]])), .ow (.val (.int wh)), .ow (.val other), s15, s16] := by
  have c1 : ds.length < cap := by unfold cap; omega
  have c2 : ds.length + 1 < cap := by unfold cap; omega
  have sd := sl_drop xs 1 hxs
  rw [show ((1 : Nat) : Int) = 1 from rfl] at sd
  by_cases hs : d11.shallow = true
  · refine ⟨d11, rfl, ?_⟩
    simp [bodyE, hs, hi, c1, c2, h8, sd, refD, kindS]
  · refine ⟨.val d11.p, rfl, ?_⟩
    simp [bodyE, hs, hi, c1, c2, h8, sd, refD, kindS]
theorem edge_for (k : Nat) (n : Nat) (far : Int) (xs bad : List Int) (hxs : xs.length ≤ 1000) (O11 : P) (s2 s3 s5 s6 s7 s9 s10 s15 s16 : Sl) : ∀ (ws : List (Int × P)) (d8 d11 : NB.D) (ds : List NB.D) (rs : List Row5) (s13 s14 : Sl), (∀ t ∈ ws, index O11 (.int t.1) = .ok t.2) → d8.p = .lst (PI bad) → d11.p = O11 → NB.D.ps ds = rs.map Row5.p → ds.length + 2 * ws.length ≤ 900 → ∃ d8' d11' ds' t13 t14, forLoop (.nm 13) (essF T (rn k) M 1000 bodyE) (ws.map fun t => P.int t.1) [.ow (.val (.int n)), .ow (.val (.lst (PI xs))), s2, s3, .ow (.val (.int far)), s5, s6, s7, .ow d8, s9, s10, .ow d11, .ow (.lst ds), s13, s14, s15, s16] = .ok .nx [.ow (.val (.int n)), .ow (.val (.lst (PI xs))), s2, s3, .ow (.val (.int far)), s5, s6, s7, .ow d8', s9, s10, .ow d11', .ow (.lst ds'), t13, t14, s15, s16] ∧ NB.D.ps ds' = (rs ++ ws.flatMap fun t => edgeR n xs bad far t.1 t.2).map Row5.p ∧ ds'.length = ds.length + 2 * ws.length
  | [], d8, d11, ds, rs, s13, s14, _, h8, h11, hd, hl => ⟨d8, d11, ds, s13, s14, rfl, by simpa using hd, by simp⟩
  | t :: ws, d8, d11, ds, rs, s13, s14, hi, h8, h11, hd, hl => by
    simp only [List.length_cons] at hl
    obtain ⟨e11, e1, e2⟩ := edge_turn k n far xs bad hxs d8 d11 h8 s2 s3 s5 s6 s7 s9 s10 s14 s15 s16 ds (by omega) t.1 t.2 (by rw [h11]; exact hi t (by simp))
    obtain ⟨d8', d11', ds', t13, t14, f1, f2, f3⟩ := edge_for k n far xs bad hxs O11 s2 s3 s5 s6 s7 s9 s10 s15 s16 ws (.val (.lst (PI bad))) e11 (ds ++ [.tup [.val (.int t.1), .val (.int n), .val (.lst (PI bad)), .val t.2, refD 2 (.int far)], .tup [.val (.int t.1), .val (.int n), .lst (VI (xs.drop 1)), .val t.2, refD 1 (.int (n - 1))]]) (rs ++ edgeR n xs bad far t.1 t.2) (.ow (.val (.int t.1))) (.ow (.val t.2)) (fun u hu => hi u (List.mem_cons_of_mem _ hu)) rfl (e1.trans h11) (by simp [hd, edgeR, Row5.p]) (by simp; omega)
    refine ⟨d8', d11', ds', t13, t14, ?_, by rw [f2]; simp, by rw [f3]; simp; omega⟩
    rw [List.map_cons, forLoop_cons]
    simp only [assign_nm, setSl_succ, setSl_zero, lift_ok, essF_ap, e2]
    exact f1
def bodyF : SS := (.cons (.ex (.meth .append 12 (.cons (.tup (.cons (.v 13) (.cons (.v 0) (.cons (.v 1) (.cons (.v 9) (.cons (.tup (.cons (.c (.str "refused")) (.cons (.c (.str "number")) (.cons (.neg (.v 4)) .nil)))) .nil)))))) .nil))) (.cons (.ex (.meth .append 12 (.cons (.tup (.cons (.v 13) (.cons (.v 0) (.cons (.v 10) (.cons (.sl (.v 2) (.some (.c (.int 1))) .none) (.cons (.tup (.cons (.c (.str "refused")) (.cons (.c (.str "size")) (.cons (.bin .sub (.v 0) (.c (.int 1))) .nil)))) .nil)))))) .nil))) .nil))
theorem edge2_for (k : Nat) (n : Nat) (far : Int) (xs ys worse full : List Int) (hys : ys.length ≤ 1000) (s3 s5 s6 s7 s8 s11 s14 s15 s16 : Sl) : ∀ (ws : List Int) (d9 d10 : NB.D) (ds : List NB.D) (rs : List Row5) (s13 : Sl), d9.p = .lst (PI worse) → d10.p = .lst (PI full) → NB.D.ps ds = rs.map Row5.p → ds.length + 2 * ws.length ≤ 900 → ∃ d9' d10' ds' t13, forLoop (.nm 13) (essF T (rn k) M 1000 bodyF) (PI ws) [.ow (.val (.int n)), .ow (.val (.lst (PI xs))), .ow (.val (.lst (PI ys))), s3, .ow (.val (.int far)), s5, s6, s7, s8, .ow d9, .ow d10, s11, .ow (.lst ds), s13, s14, s15, s16] = .ok .nx [.ow (.val (.int n)), .ow (.val (.lst (PI xs))), .ow (.val (.lst (PI ys))), s3, .ow (.val (.int far)), s5, s6, s7, s8, .ow d9', .ow d10', s11, .ow (.lst ds'), t13, s14, s15, s16] ∧ d9'.p = .lst (PI worse) ∧ d10'.p = .lst (PI full) ∧ NB.D.ps ds' = (rs ++ ws.flatMap fun t => edgeR2 n xs ys worse full far t).map Row5.p ∧ ds'.length = ds.length + 2 * ws.length
  | [], d9, d10, ds, rs, s13, h9, h10, hd, hl => ⟨d9, d10, ds, s13, rfl, h9, h10, by simpa using hd, by simp⟩
  | t :: ws, d9, d10, ds, rs, s13, h9, h10, hd, hl => by
    simp only [List.length_cons] at hl
    have c1 : ds.length < cap := by unfold cap; omega
    have c2 : ds.length + 1 < cap := by unfold cap; omega
    have sd := sl_drop ys 1 hys
    rw [show ((1 : Nat) : Int) = 1 from rfl] at sd
    obtain ⟨d9', d10', ds', t13, f1, g9, g10, f2, f3⟩ := edge2_for k n far xs ys worse full hys s3 s5 s6 s7 s8 s11 s14 s15 s16 ws (.val (.lst (PI worse))) (.val (.lst (PI full))) (ds ++ [.tup [.val (.int t), .val (.int n), .val (.lst (PI xs)), .val (.lst (PI worse)), refD 2 (.int (-far))], .tup [.val (.int t), .val (.int n), .val (.lst (PI full)), .lst (VI (ys.drop 1)), refD 1 (.int (n - 1))]]) (rs ++ edgeR2 n xs ys worse full far t) (.ow (.val (.int t))) rfl rfl (by simp [hd, edgeR2, Row5.p]) (by simp; omega)
    refine ⟨d9', d10', ds', t13, ?_, g9, g10, by rw [f2]; simp, by rw [f3]; simp; omega⟩
    rw [PI_cons, forLoop_cons]
    simpa [bodyF, c1, c2, h9, h10, sd, refD, kindS] using f1
end K01
end
section
set_option Elab.async false
set_option linter.all false
set_option maxRecDepth 100000
namespace K01
open PySem NB NBE
def bodyG : SS := (.cons (.ex (.meth .append 12 (.cons (.tup (.cons (.c (.int 3)) (.cons (.v 0) (.cons (.v 10) (.cons (.v 15) (.cons (.tup (.cons (.c (.str "told")) (.cons (.call 24 (.cons (.v 10) (.cons (.v 15) .nil))) .nil))) .nil)))))) .nil))) .nil)
theorem neg_lc (k : Nat) (far : Int) (ps : List P) (s0 s1 s2 s3 s5 s6 s7 s8 s9 s10 s11 s12 s13 s14 s15 : Sl) : lcLoop (.nm 16) [16] (lcTurn T (rn k) .none (.neg (.v 4))) ps [s0, s1, s2, s3, .ow (.val (.int far)), s5, s6, s7, s8, s9, s10, s11, s12, s13, s14, s15, .no] = .ok (VI (List.replicate ps.length (-far)), [s0, s1, s2, s3, .ow (.val (.int far)), s5, s6, s7, s8, s9, s10, s11, s12, s13, s14, s15, .no]) := by
  rw [lc_map fun _ => NB.D.val (.int (-far))]
  · simp [VI, List.map_const']
  · intro p hp
    exact ⟨_, _, rfl, by simp [lcTurn]; rfl, rfl⟩
theorem edge_rows (k : Nat) {n : Nat} {xs ys : List Int} (hx : Pt n xs) (hy : Pt n ys) (o0 o1 o2 : Int) (at_ : Nat) (h1 : 0 ≤ o1 ∧ o1 < 4) (h2 : 0 ≤ o2 ∧ o2 < 4) (ha : at_ < n) : ∃ ds, rn (k + 2) 35 [.val (.int n), .val (.lst (PI xs)), .val (.lst (PI ys)), .val (oddP o0 o1 o2 at_)] = .ok (.lst ds, []) ∧ NB.D.ps ds = (edgeL n xs ys (farO o1) (noneO n o2) (edgeO o1) at_).map Row5.p ∧ ds.length ≤ 40 := by
  rw [run35]
  have hn := hx.w
  have hxl := hx.le
  have hyl := hy.le
  have q2 := odd1 o0 o1 o2 at_
  have q3 := odd2 o0 o1 o2 at_
  have q4 := odd3 o0 o1 o2 at_
  generalize oddP o0 o1 o2 at_ = O at *
  have i1 := idx4 1001 (-1001) 1000000000 (-100000000000000000000) o1 h1.1 h1.2
  have i2 := idx4 n (-1) (n + 7) 1000000000 o2 h2.1 h2.2
  have i3 := idx4 1000 (-1000) 1000 (-1000) o1 h1.1 h1.2
  have he := edgeO_ok h1.1 h1.2
  rw [show ([1001, -1001, 1000000000, -100000000000000000000].getD o1.toNat 0 : Int) = farO o1 from rfl] at i1
  rw [show ([(n : Int), -1, n + 7, 1000000000].getD o2.toNat 0 : Int) = noneO n o2 from rfl] at i2
  rw [show ([1000, -1000, 1000, -1000].getD o1.toNat 0 : Int) = edgeO o1 from rfl] at i3
  have pf := put_pt hx ha he
  generalize farO o1 = far at *
  generalize noneO n o2 = none at *
  generalize edgeO o1 = edge at *
  have tx := sl_take xs at_ hxl
  have ty := sl_take ys at_ hyl
  have dx := sl_drop xs (at_ + 1) hxl
  have dy := sl_drop ys (at_ + 1) hyl
  rw [show ((at_ + 1 : Nat) : Int) = (at_ : Int) + 1 by omega] at dx dy
  have hrl : (rangeP ((at_ : Int) + 1) n).length = xs.length - (at_ + 1) := by simp [rangeP, hx.len]; omega
  have eb : VI (xs.take at_ ++ [far] ++ List.replicate (xs.length - (at_ + 1)) (-far)) = VI (badL xs at_ far) := by simp [badL]
  have ew : VI (ys.take at_ ++ [-far] ++ ys.drop (at_ + 1)) = VI (putL ys at_ (-far)) := by simp [putL]
  have ef : VI (xs.take at_ ++ [edge] ++ xs.drop (at_ + 1)) = VI (putL xs at_ edge) := by simp [putL]
  have em1 := law_moved k (putL xs at_ edge) _ (.lst _) (cap_of pf.le) Option.none (some at_) rfl (by rw [pf.len]; simp [endOk]; omega)
  have em2 := law_moved k (putL xs at_ edge) _ (.lst _) (cap_of pf.le) (some at_) Option.none (by rw [pf.len]; simp [endOk]; omega) rfl
  simp only [EP_none, EP_some] at em1 em2
  unfold edgeL
  generalize badL xs at_ far = bad at *
  generalize putL ys at_ (-far) = worse at *
  generalize putL xs at_ edge = full at *
  obtain ⟨d8, d11, ds1, a13, a14, f1, f2, f3⟩ := edge_for (k + 1) n far xs bad hxl (.lst [.int 0, .int 0, .int none, .tup [.int none, .int none], .lst (PI worse), .lst (PI worse)]) (.ow (.val (.lst (PI ys)))) (.ow (.val O)) (.ow (.val (.int none))) (.ow (.val (.int edge))) (.ow (.val (.int at_))) (.ow (.val (.lst (PI worse)))) (.ow (.lst (VI full))) .no .no [(2, .int none), (3, .tup [.int none, .int none]), (4, .lst (PI worse)), (5, .lst (PI worse))] (.lst (VI bad)) (.lst [.val (.int 0), .val (.int 0), .val (.int none), .tup [.val (.int none), .val (.int none)], .val (.lst (PI worse)), .val (.lst (PI worse))]) [] [] .no .no
    (by simp only [List.mem_cons, List.not_mem_nil, or_false]; rintro t (rfl | rfl | rfl | rfl) <;> rfl) (by simp) (by simp) rfl (by simp)
  obtain ⟨d9, d10, ds2, b13, g1, g9, g10, g2, g3⟩ := edge2_for (k + 1) n far xs ys worse full hyl (.ow (.val O)) (.ow (.val (.int none))) (.ow (.val (.int edge))) (.ow (.val (.int at_))) (.ow d8) (.ow d11) a14 .no .no [4, 5] (.val (.lst (PI worse))) (.lst (VI full)) ds1 _ a13 rfl (by simp) f2 (by simp at f3 ⊢; omega)
  have hl1 : ds1.length = 8 := by simpa using f3
  have hl2 : ds2.length = 12 := by rw [g3, hl1]; rfl
  have hc0 : ds2.length < cap := by unfold cap; omega
  have hc1 : ds2.length + 1 < cap := by unfold cap; omega
  have hc2 : ds2.length + 2 < cap := by unfold cap; omega
  have hc3 : ds2.length + 3 < cap := by unfold cap; omega
  have hc4 : ds2.length + 4 < cap := by unfold cap; omega
  let r1 : NB.D := .tup [.val (.int 2), .val (.int n), .val (.lst (PI full)), .val (.int at_), told (.val (.int edge))]
  let r2 : NB.D := .tup [.val (.int 5), .val (.int n), .val (.lst (PI full)), .val (.lst (PI full)), told (.val (.int 0))]
  let r3 : NB.D := .tup [.val (.int 4), .val (.int n), .val (.lst (PI full)), .val (.lst (PI full)), told (.tup [.lst [], .lst []])]
  let r4 : NB.D := .tup [.val (.int 3), .val (.int n), .val (.lst (PI full)), .val (.tup [.non, .int at_]), told (.tup (VI (mv full Option.none (some at_))))]
  let r5 : NB.D := .tup [.val (.int 3), .val (.int n), .val (.lst (PI full)), .val (.tup [.int at_, .non]), told (.tup (VI (mv full (some at_) Option.none)))]
  refine ⟨ds2 ++ [r1, r2, r3, r4, r5], ?_, ?_, by simp [hl2]⟩
  rotate_left
  · rw [D.ps_append, g2]
    simp [r1, r2, r3, r4, r5, Row5.p]
  unfold bodyE at f1
  unfold bodyF at g1
  unfold B35
  have b1 : (xs.take at_).length + 1 ≤ cap := cap_of (by simp; omega)
  have b2 : (ys.take at_).length + 1 ≤ cap := cap_of (by simp; omega)
  have b3 : (xs.take at_).length + (1 + (xs.length - (at_ + 1))) ≤ cap := cap_of (by simp; omega)
  refine (congrArg (fin false) ((stp (ε' := [.ow (.val (.int n)), .ow (.val (.lst (PI xs))), .ow (.val (.lst (PI ys))), .ow (.val O), .ow (.val (.int far)), .no, .no, .no, .no, .no, .no, .no, .no, .no, .no, .no, .no]) (by simp [q2, i1, pow9, pow20])).trans ?_)).trans (?_ : fin false (.ok (.rt (.lst (ds2 ++ [r1, r2, r3, r4, r5]))) [.ow (.val (.int n)), .ow (.val (.lst (PI xs))), .ow (.val (.lst (PI ys))), .ow (.val O), .ow (.val (.int far)), .ow (.val (.int none)), .ow (.val (.int edge)), .ow (.val (.int at_)), .ow d8, .ow d9, .ow (.val (.lst (PI full))), .ow d11, .no, b13, a14, .ow (.val (.tup [.int at_, .non])), .no]) = _)
  rotate_left
  · simp
  refine (stp (ε' := [.ow (.val (.int n)), .ow (.val (.lst (PI xs))), .ow (.val (.lst (PI ys))), .ow (.val O), .ow (.val (.int far)), .ow (.val (.int none)), .no, .no, .no, .no, .no, .no, .no, .no, .no, .no, .no]) (by simp [q3, i2, pow9])).trans ?_
  refine (stp (ε' := [.ow (.val (.int n)), .ow (.val (.lst (PI xs))), .ow (.val (.lst (PI ys))), .ow (.val O), .ow (.val (.int far)), .ow (.val (.int none)), .ow (.val (.int edge)), .no, .no, .no, .no, .no, .no, .no, .no, .no, .no]) (by simp [q2, i3])).trans ?_
  refine (stp (ε' := [.ow (.val (.int n)), .ow (.val (.lst (PI xs))), .ow (.val (.lst (PI ys))), .ow (.val O), .ow (.val (.int far)), .ow (.val (.int none)), .ow (.val (.int edge)), .ow (.val (.int at_)), .no, .no, .no, .no, .no, .no, .no, .no, .no]) (by simp [q4])).trans ?_
  refine (stp (ε' := [.ow (.val (.int n)), .ow (.val (.lst (PI xs))), .ow (.val (.lst (PI ys))), .ow (.val O), .ow (.val (.int far)), .ow (.val (.int none)), .ow (.val (.int edge)), .ow (.val (.int at_)), .ow (.lst (VI bad)), .no, .no, .no, .no, .no, .no, .no, .no]) (by
    have rr : eit T (rn (k + 1)) (.rng (.bin .add (.v 7) (.c (.int 1))) (.v 0)) [.ow (.val (.int n)), .ow (.val (.lst (PI xs))), .ow (.val (.lst (PI ys))), .ow (.val O), .ow (.val (.int far)), .ow (.val (.int none)), .ow (.val (.int edge)), .ow (.val (.int at_)), .no, .no, .no, .no, .no, .no, .no, .no, .no] = .ok (rangeP ((at_ : Int) + 1) n, [], _) := eit_rngN T (rn (k + 1)) _ _ _ _ _ _ _ (by simp; rfl) (by simp; rfl) ⟨by omega, by omega⟩ ⟨by omega, by omega⟩
    have z1 : min at_ xs.length + 1 ≤ cap := cap_of (by omega)
    have z2 : xs.length - (at_ + 1) ≤ cap := cap_of (by omega)
    simp [tx, rr, neg_lc, hrl, z1, z2]
    rw [if_pos (cap_of (by omega)), ← VI_append, eb])).trans ?_
  refine (stp (ε' := [.ow (.val (.int n)), .ow (.val (.lst (PI xs))), .ow (.val (.lst (PI ys))), .ow (.val O), .ow (.val (.int far)), .ow (.val (.int none)), .ow (.val (.int edge)), .ow (.val (.int at_)), .ow (.lst (VI bad)), .ow (.lst (VI worse)), .no, .no, .no, .no, .no, .no, .no]) (by
    have z1 : min at_ ys.length + 1 ≤ cap := cap_of (by omega)
    simp [ty, dy, z1]
    rw [if_pos (cap_of (by omega)), ← VI_append, ew])).trans ?_
  refine (stp (ε' := [.ow (.val (.int n)), .ow (.val (.lst (PI xs))), .ow (.val (.lst (PI ys))), .ow (.val O), .ow (.val (.int far)), .ow (.val (.int none)), .ow (.val (.int edge)), .ow (.val (.int at_)), .ow (.lst (VI bad)), .ow (.lst (VI worse)), .ow (.lst (VI full)), .no, .no, .no, .no, .no, .no]) (by
    have z1 : min at_ xs.length + 1 ≤ cap := cap_of (by omega)
    simp [tx, dx, z1]
    rw [if_pos (cap_of (by omega)), ← VI_append, ef])).trans ?_
  refine (stp (ε' := [.ow (.val (.int n)), .ow (.val (.lst (PI xs))), .ow (.val (.lst (PI ys))), .ow (.val O), .ow (.val (.int far)), .ow (.val (.int none)), .ow (.val (.int edge)), .ow (.val (.int at_)), .ow (.lst (VI bad)), .ow (.val (.lst (PI worse))), .ow (.lst (VI full)), .ow (.lst [.val (.int 0), .val (.int 0), .val (.int none), .tup [.val (.int none), .val (.int none)], .val (.lst (PI worse)), .val (.lst (PI worse))]), .no, .no, .no, .no, .no]) (by simp)).trans ?_
  refine (stp (ε' := [.ow (.val (.int n)), .ow (.val (.lst (PI xs))), .ow (.val (.lst (PI ys))), .ow (.val O), .ow (.val (.int far)), .ow (.val (.int none)), .ow (.val (.int edge)), .ow (.val (.int at_)), .ow (.lst (VI bad)), .ow (.val (.lst (PI worse))), .ow (.lst (VI full)), .ow (.lst [.val (.int 0), .val (.int 0), .val (.int none), .tup [.val (.int none), .val (.int none)], .val (.lst (PI worse)), .val (.lst (PI worse))]), .ow (.lst []), .no, .no, .no, .no]) (by simp)).trans ?_
  refine (stp (ε' := [.ow (.val (.int n)), .ow (.val (.lst (PI xs))), .ow (.val (.lst (PI ys))), .ow (.val O), .ow (.val (.int far)), .ow (.val (.int none)), .ow (.val (.int edge)), .ow (.val (.int at_)), .ow d8, .ow (.val (.lst (PI worse))), .ow (.lst (VI full)), .ow d11, .ow (.lst ds1), a13, a14, .no, .no]) (by 
    rw [es_for, eit_rngN T (rn (k + 1)) _ _ _ (.c (.int 2)) (.c (.int 6)) 2 6 rfl rfl ⟨by decide, by decide⟩ ⟨by decide, by decide⟩, lf3_ok, show rangeP 2 6 = ([(2, P.int none), (3, .tup [.int none, .int none]), (4, .lst (PI worse)), (5, .lst (PI worse))] : List (Int × P)).map (fun t => P.int t.1) from rfl, f1, after_nx, unlocks_nil])).trans ?_
  refine (stp (ε' := [.ow (.val (.int n)), .ow (.val (.lst (PI xs))), .ow (.val (.lst (PI ys))), .ow (.val O), .ow (.val (.int far)), .ow (.val (.int none)), .ow (.val (.int edge)), .ow (.val (.int at_)), .ow d8, .ow d9, .ow d10, .ow d11, .ow (.lst ds2), b13, a14, .no, .no]) (by 
    rw [es_for, eit_rngN T (rn (k + 1)) _ _ _ (.c (.int 4)) (.c (.int 6)) 4 6 rfl rfl ⟨by decide, by decide⟩ ⟨by decide, by decide⟩, lf3_ok, show rangeP 4 6 = PI [4, 5] from rfl, g1, after_nx, unlocks_nil])).trans ?_
  refine (stp (ε' := [.ow (.val (.int n)), .ow (.val (.lst (PI xs))), .ow (.val (.lst (PI ys))), .ow (.val O), .ow (.val (.int far)), .ow (.val (.int none)), .ow (.val (.int edge)), .ow (.val (.int at_)), .ow d8, .ow d9, .ow (.val (.lst (PI full))), .ow d11, .ow (.lst (ds2 ++ [r1])), b13, a14, .no, .no]) (by simp [hc0, g10, r1])).trans ?_
  refine (stp (ε' := [.ow (.val (.int n)), .ow (.val (.lst (PI xs))), .ow (.val (.lst (PI ys))), .ow (.val O), .ow (.val (.int far)), .ow (.val (.int none)), .ow (.val (.int edge)), .ow (.val (.int at_)), .ow d8, .ow d9, .ow (.val (.lst (PI full))), .ow d11, .ow (.lst (ds2 ++ [r1, r2])), b13, a14, .no, .no]) (by simp [hc1, r2])).trans ?_
  refine (stp (ε' := [.ow (.val (.int n)), .ow (.val (.lst (PI xs))), .ow (.val (.lst (PI ys))), .ow (.val O), .ow (.val (.int far)), .ow (.val (.int none)), .ow (.val (.int edge)), .ow (.val (.int at_)), .ow d8, .ow d9, .ow (.val (.lst (PI full))), .ow d11, .ow (.lst (ds2 ++ [r1, r2, r3])), b13, a14, .no, .no]) (by simp [hc2, r3])).trans ?_
  refine (stp (ε' := [.ow (.val (.int n)), .ow (.val (.lst (PI xs))), .ow (.val (.lst (PI ys))), .ow (.val O), .ow (.val (.int far)), .ow (.val (.int none)), .ow (.val (.int edge)), .ow (.val (.int at_)), .ow d8, .ow d9, .ow (.val (.lst (PI full))), .ow d11, .ow (.lst (ds2 ++ [r1, r2, r3, r4, r5])), b13, a14, .ow (.val (.tup [.int at_, .non])), .no]) (by simp [forLoop_cons, em1, em2, hc3, hc4, r4, r5])).trans ?_
  simp
end K01
end
section
set_option Elab.async false
set_option linter.all false
set_option maxRecDepth 100000
namespace K01
open PySem NB NBE
/-- a list of ints, frozen or not -/
def dF (fr : Bool) (xs : List Int) : NB.D := if fr then .val (.lst (PI xs)) else .lst (VI xs)
@[simp] theorem dF_p (fr : Bool) (xs : List Int) : (dF fr xs).p = .lst (PI xs) := by cases fr <;> simp [dF]
@[simp] theorem dF_sh (fr : Bool) (xs : List Int) : (dF fr xs).shallow = true := by cases fr <;> simp [dF]
theorem dF_true (xs : List Int) : dF true xs = .val (.lst (PI xs)) := rfl
def bodyZ : SS := (.cons (.iff (.hold (.notv (.call 18 (.cons (.call 20 (.cons (.v 10) (.cons (.v 11) (.cons (.v 7) (.cons (.v 12) .nil))))) (.cons (.v 13) .nil))))) (.cons (.ret (.c (.bl false))) .nil) .nil) .nil)
theorem check_for (k : Nat) (s0 s1 s2 s3 s4 s5 s6 s8 s9 s14 : Sl) : ∀ (rs : List Row5) (s7 s10 s11 s12 s13 : Sl), (∀ r ∈ rs, r.Good) → ∃ t7 t10 t11 t12 t13, forLoop (.tup [10, 11, 7, 12, 13]) (essF T (rn (k + 6)) M 1000 bodyZ) (rs.map Row5.p) [s0, s1, s2, s3, s4, s5, s6, s7, s8, s9, s10, s11, s12, s13, s14] = .ok .nx [s0, s1, s2, s3, s4, s5, s6, t7, s8, s9, t10, t11, t12, t13, s14]
  | [], s7, s10, s11, s12, s13, _ => ⟨s7, s10, s11, s12, s13, rfl⟩
  | r :: rs, s7, s10, s11, s12, s13, h => by
    obtain ⟨t7, t10, t11, t12, t13, ih⟩ := check_for k s0 s1 s2 s3 s4 s5 s6 s8 s9 s14 rs (.ow (.val r.a)) (.ow (.val (.int r.wh))) (.ow (.val (.int r.wide))) (.ow (.val r.b)) (.ow (.val r.due)) fun q hq => h q (List.mem_cons_of_mem _ hq)
    obtain ⟨d, g1, g2, g3, g4⟩ := h r (by simp)
    have g1 := g1 (k + 1)
    have e18 := same_refl 6 r.due g4 k
    refine ⟨t7, t10, t11, t12, t13, ?_⟩
    rw [List.map_cons, forLoop_cons]
    simp only [Row5.p, assign_tupV, List.map_cons, List.map_nil, setMany_cons, setMany_nil, setSl_succ, setSl_zero, lift_ok, essF_ap]
    have hb : ess T (rn (k + 6)) M 1000 bodyZ [s0, s1, s2, s3, s4, s5, s6, .ow (.val r.a), s8, s9, .ow (.val (.int r.wh)), .ow (.val (.int r.wide)), .ow (.val r.b), .ow (.val r.due), s14] = .ok .nx [s0, s1, s2, s3, s4, s5, s6, .ow (.val r.a), s8, s9, .ow (.val (.int r.wh)), .ow (.val (.int r.wide)), .ow (.val r.b), .ow (.val r.due), s14] := by
      simp [bodyZ, g1, g2, g3, e18]
    rw [hb]
    exact ih
/-- rows, and the end -/
def tailZ : SS := (.cons (.for_ (.tup [10, 11, 7, 12, 13]) (.seq (.v 9)) bodyZ) (.cons (.ret (.cmp .eq (.tup (.cons (.bi .tuple_ (.cons (.v 5) .nil)) (.cons (.bi .tuple_ (.cons (.v 6) .nil)) .nil))) (.v 8))) .nil))
theorem ret_eq (k : Nat) {n : Nat} {xs ys : List Int} (hx : Pt n xs) (hy : Pt n ys) (fr : Bool) (s0 s1 s2 s3 s4 s7 s9 s10 s11 s12 s13 s14 : Sl) : ∃ ε, ess T (rn k) M 1000 (.cons (.ret (.cmp .eq (.tup (.cons (.bi .tuple_ (.cons (.v 5) .nil)) (.cons (.bi .tuple_ (.cons (.v 6) .nil)) .nil))) (.v 8))) .nil) [s0, s1, s2, s3, s4, .ow (dF fr xs), .ow (dF fr ys), s7, .ow (.tup [.tup (VI xs), .tup (VI ys)]), s9, s10, s11, s12, s13, s14] = .ok (.rt (.val (.bl true))) ε := by
  have c1 := cap_of hx.le
  have c2 := cap_of hy.le
  have q1 := cmpOks_PI 17 xs
  have q2 := cmpOks_PI 17 ys
  refine ⟨[s0, s1, s2, s3, s4, .ow (dF fr xs), .ow (dF fr ys), s7, .ow (.val (.tup [.tup (PI xs), .tup (PI ys)])), s9, s10, s11, s12, s13, s14], ?_⟩
  simp [c1, c2, cmpR_eq, q1, q2, eqvs_PI]
theorem tail_ok (k : Nat) {n : Nat} {xs ys : List Int} (hx : Pt n xs) (hy : Pt n ys) (fr : Bool) (rs : List Row5) (hr : ∀ r ∈ rs, r.Good) (ds : List NB.D) (hd : NB.D.ps ds = rs.map Row5.p) (s0 s1 s2 s3 s4 s7 s10 s11 s12 s13 s14 : Sl) : ∃ ε, ess T (rn (k + 6)) M 1000 tailZ [s0, s1, s2, s3, s4, .ow (dF fr xs), .ow (dF fr ys), s7, .ow (.tup [.tup (VI xs), .tup (VI ys)]), .ow (.lst ds), s10, s11, s12, s13, s14] = .ok (.rt (.val (.bl true))) ε := by
  unfold tailZ
  by_cases ha : ds.all NB.D.isVal = true
  · obtain ⟨t7, t10, t11, t12, t13, h1⟩ := check_for k s0 s1 s2 s3 s4 (.ow (dF fr xs)) (.ow (dF fr ys)) (.ow (.tup [.tup (VI xs), .tup (VI ys)])) (.lk (rs.map Row5.p)) s14 rs s7 s10 s11 s12 s13 hr
    obtain ⟨ε, h2⟩ := ret_eq (k + 6) hx hy fr s0 s1 s2 s3 s4 t7 (.ow (.lst ds)) t10 t11 t12 t13 s14
    refine ⟨ε, ?_⟩
    refine (stp (ε' := [s0, s1, s2, s3, s4, .ow (dF fr xs), .ow (dF fr ys), t7, .ow (.tup [.tup (VI xs), .tup (VI ys)]), .ow (.lst ds), t10, t11, t12, t13, s14]) (by simp [ha, hd, h1])).trans h2
  · obtain ⟨t7, t10, t11, t12, t13, h1⟩ := check_for k s0 s1 s2 s3 s4 (.ow (dF fr xs)) (.ow (dF fr ys)) (.ow (.tup [.tup (VI xs), .tup (VI ys)])) (.ow (.val (.lst (rs.map Row5.p)))) s14 rs s7 s10 s11 s12 s13 hr
    obtain ⟨ε, h2⟩ := ret_eq (k + 6) hx hy fr s0 s1 s2 s3 s4 t7 (.ow (.val (.lst (rs.map Row5.p)))) t10 t11 t12 t13 s14
    refine ⟨ε, ?_⟩
    have ha' : ds.all NB.D.isVal = false := by simpa using ha
    refine (stp (ε' := [s0, s1, s2, s3, s4, .ow (dF fr xs), .ow (dF fr ys), t7, .ow (.tup [.tup (VI xs), .tup (VI ys)]), .ow (.val (.lst (rs.map Row5.p))), t10, t11, t12, t13, s14]) (by simp [ha', hd, h1])).trans h2
end K01
end
section
set_option Elab.async false
set_option linter.all false
set_option maxRecDepth 100000
namespace K01
open PySem NB NBE
theorem mem_app {α : Type} {p : α → Prop} {as bs : List α} (h1 : ∀ a ∈ as, p a) (h2 : ∀ a ∈ bs, p a) : ∀ a ∈ as ++ bs, p a := fun a h => (List.mem_append.mp h).elim (h1 a) (h2 a)
def partB : SS := (.cons (.asg (.nm 8) (.tup (.cons (.bi .tuple_ (.cons (.v 5) .nil)) (.cons (.bi .tuple_ (.cons (.v 6) .nil)) .nil)))) (.cons (.iff (.hold (.or_ (.notv (.call 18 (.cons (.c (.int 6)) (.cons (.c (.int 6)) .nil)))) (.notv (.call 30 (.cons (.v 3) (.cons (.v 5) (.cons (.v 6) .nil))))))) (.cons (.ret (.c (.bl false))) .nil) .nil) (.cons (.iff (.hold (.or_ (.notv (.call 31 (.cons (.v 3) (.cons (.v 5) (.cons (.v 6) .nil))))) (.notv (.call 32 (.cons (.v 3) (.cons (.v 5) (.cons (.v 6) .nil))))))) (.cons (.ret (.c (.bl false))) .nil) .nil) (.cons (.iff (.hold (.notv (.call 33 (.cons (.v 3) (.cons (.v 5) (.cons (.v 6) .nil)))))) (.cons (.ret (.c (.bl false))) .nil) .nil) (.cons (.asg (.nm 9) (.call 34 (.cons (.v 3) (.cons (.v 5) (.cons (.v 6) (.cons (.v 4) .nil)))))) (.cons (.iff (.hold (.cmp .gt (.v 3) (.c (.int 0)))) (.cons (.asg (.nm 9) (.bin .add (.v 9) (.call 35 (.cons (.v 3) (.cons (.v 5) (.cons (.v 6) (.cons (.v 4) .nil))))))) .nil) .nil) tailZ))))))
theorem fz1_dF (fr : Bool) (xs : List Int) : fz1 (.ow (dF fr xs)) = .ow (dF true xs) := by simp [dF_true]
theorem partB_ok (k : Nat) {n : Nat} {xs ys : List Int} (hx : Pt n xs) (hy : Pt n ys) (o0 o1 o2 o3 : Int) (h0 : 0 ≤ o0 ∧ o0 < 4) (h1 : 0 ≤ o1 ∧ o1 < 4) (h2 : 0 ≤ o2 ∧ o2 < 4) (h3 : 0 ≤ o3 ∧ (0 < n → o3 < n)) (s0 s1 s2 s7 s14 : Sl) : ∃ ε, ess T (rn (k + 6)) M 1000 partB [s0, s1, s2, .ow (.val (.int n)), .ow (.lst (VI [o0, o1, o2, o3])), .ow (.lst (VI xs)), .ow (.lst (VI ys)), s7, .no, .no, .no, .no, .no, .no, s14] = .ok (.rt (.val (.bl true))) ε := by
  have c1 := cap_of hx.le
  have c2 := cap_of hy.le
  have e18 := same_refl 1 (.int 6) rfl (k + 5)
  have e30 := law_right k hx hy
  have e31 := law_right_sides k hx hy
  have e32 := law_neighbours k hx hy
  have e33 := law_walk k hx hy
  obtain ⟨ds, e34, w1, w2⟩ := wrong_rows (k + 4) hx hy o0 o1 o2 o3 h0 h1 h2
  have wg := wrong_good hx hy o0 o1 o2 h0 h1 h2
  have hodd : P.lst (PI [o0, o1, o2, o3]) = oddP o0 o1 o2 o3 := rfl
  -- up to the rows
  have up : ∃ fr d3 d4, d4.p = oddP o0 o1 o2 o3 ∧ d3.p = .int n ∧ d3.shallow = true ∧ ∀ R, ess T (rn (k + 6)) M 1000 (.cons (.asg (.nm 8) (.tup (.cons (.bi .tuple_ (.cons (.v 5) .nil)) (.cons (.bi .tuple_ (.cons (.v 6) .nil)) .nil)))) (.cons (.iff (.hold (.or_ (.notv (.call 18 (.cons (.c (.int 6)) (.cons (.c (.int 6)) .nil)))) (.notv (.call 30 (.cons (.v 3) (.cons (.v 5) (.cons (.v 6) .nil))))))) (.cons (.ret (.c (.bl false))) .nil) .nil) (.cons (.iff (.hold (.or_ (.notv (.call 31 (.cons (.v 3) (.cons (.v 5) (.cons (.v 6) .nil))))) (.notv (.call 32 (.cons (.v 3) (.cons (.v 5) (.cons (.v 6) .nil))))))) (.cons (.ret (.c (.bl false))) .nil) .nil) (.cons (.iff (.hold (.notv (.call 33 (.cons (.v 3) (.cons (.v 5) (.cons (.v 6) .nil)))))) (.cons (.ret (.c (.bl false))) .nil) .nil) (.cons (.asg (.nm 9) (.call 34 (.cons (.v 3) (.cons (.v 5) (.cons (.v 6) (.cons (.v 4) .nil)))))) R))))) [s0, s1, s2, .ow (.val (.int n)), .ow (.lst (VI [o0, o1, o2, o3])), .ow (.lst (VI xs)), .ow (.lst (VI ys)), s7, .no, .no, .no, .no, .no, .no, s14] = ess T (rn (k + 6)) M 1000 R [s0, s1, s2, .ow d3, .ow d4, .ow (dF fr xs), .ow (dF fr ys), s7, .ow (.tup [.tup (VI xs), .tup (VI ys)]), .ow (.lst ds), .no, .no, .no, .no, s14] := by
    have up0 : ∀ R, ess T (rn (k + 6)) M 1000 (.cons (.asg (.nm 8) (.tup (.cons (.bi .tuple_ (.cons (.v 5) .nil)) (.cons (.bi .tuple_ (.cons (.v 6) .nil)) .nil)))) (.cons (.iff (.hold (.or_ (.notv (.call 18 (.cons (.c (.int 6)) (.cons (.c (.int 6)) .nil)))) (.notv (.call 30 (.cons (.v 3) (.cons (.v 5) (.cons (.v 6) .nil))))))) (.cons (.ret (.c (.bl false))) .nil) .nil) (.cons (.iff (.hold (.or_ (.notv (.call 31 (.cons (.v 3) (.cons (.v 5) (.cons (.v 6) .nil))))) (.notv (.call 32 (.cons (.v 3) (.cons (.v 5) (.cons (.v 6) .nil))))))) (.cons (.ret (.c (.bl false))) .nil) .nil) (.cons (.iff (.hold (.notv (.call 33 (.cons (.v 3) (.cons (.v 5) (.cons (.v 6) .nil)))))) (.cons (.ret (.c (.bl false))) .nil) .nil) R)))) [s0, s1, s2, .ow (.val (.int n)), .ow (.lst (VI [o0, o1, o2, o3])), .ow (.lst (VI xs)), .ow (.lst (VI ys)), s7, .no, .no, .no, .no, .no, .no, s14] = ess T (rn (k + 6)) M 1000 R [s0, s1, s2, .ow (.val (.int n)), .ow (.lst (VI [o0, o1, o2, o3])), .ow (.lst (VI xs)), .ow (.lst (VI ys)), s7, .ow (.tup [.tup (VI xs), .tup (VI ys)]), .no, .no, .no, .no, .no, s14] := fun R => by
      refine (stp (ε' := [s0, s1, s2, .ow (.val (.int n)), .ow (.lst (VI [o0, o1, o2, o3])), .ow (.lst (VI xs)), .ow (.lst (VI ys)), s7, .ow (.tup [.tup (VI xs), .tup (VI ys)]), .no, .no, .no, .no, .no, s14]) (by simp [c1, c2])).trans ?_
      refine (stp (ε' := [s0, s1, s2, .ow (.val (.int n)), .ow (.lst (VI [o0, o1, o2, o3])), .ow (.lst (VI xs)), .ow (.lst (VI ys)), s7, .ow (.tup [.tup (VI xs), .tup (VI ys)]), .no, .no, .no, .no, .no, s14]) (by simp [e18, e30])).trans ?_
      refine (stp (ε' := [s0, s1, s2, .ow (.val (.int n)), .ow (.lst (VI [o0, o1, o2, o3])), .ow (.lst (VI xs)), .ow (.lst (VI ys)), s7, .ow (.tup [.tup (VI xs), .tup (VI ys)]), .no, .no, .no, .no, .no, s14]) (by simp [e31, e32])).trans ?_
      exact (stp (ε' := [s0, s1, s2, .ow (.val (.int n)), .ow (.lst (VI [o0, o1, o2, o3])), .ow (.lst (VI xs)), .ow (.lst (VI ys)), s7, .ow (.tup [.tup (VI xs), .tup (VI ys)]), .no, .no, .no, .no, .no, s14]) (by simp [e33]))
    by_cases hc : NB.D.cleans ds = true
    · refine ⟨false, .val (.int n), .lst (VI [o0, o1, o2, o3]), by rw [← hodd]; simp, rfl, rfl, fun R => (up0 _).trans (stp (by simp [hodd, e34, hc, dF]))⟩
    · refine ⟨true, .val (.int n), .val (oddP o0 o1 o2 o3), rfl, rfl, rfl, fun R => (up0 _).trans (stp (by simp [hodd, e34, hc, dF]))⟩
  obtain ⟨fr, d3, d4, p4, p3, sh3, up⟩ := up
  unfold partB
  rw [up]
  by_cases hn : 0 < n
  · obtain ⟨a, ha⟩ : ∃ a : Nat, o3 = a := ⟨o3.toNat, by omega⟩
    subst ha
    have han : a < n := by have := h3.2 hn; omega
    obtain ⟨es, e35, v1, v2⟩ := edge_rows (k + 4) hx hy o0 o1 o2 a h1 h2 han
    have eg := edge_good hx hy (farO o1) (noneO n o2) (edgeO o1) a han (farO_bad h1.1 h1.2) (edgeO_ok h1.1 h1.2)
    have hn' : (0 : Int) < n := by omega
    have hlen : (NB.D.ps ds).length + (NB.D.ps es).length ≤ cap := by
      rw [NB.D.ps_len, NB.D.ps_len]
      exact cap_of (by omega)
    have hps : NB.D.ps ((NB.D.ps ds ++ NB.D.ps es).map .val) = (wrongL n xs ys o0 o1 o2 ++ edgeL n xs ys (farO o1) (noneO n o2) (edgeO o1) a).map Row5.p := by rw [NBE.D.ps_vals, w1, v1, List.map_append]
    have q35 := e35
    rw [← p4] at q35
    by_cases hc : NB.D.cleans es = true
    · obtain ⟨ε, h⟩ := tail_ok k hx hy fr _ (mem_app wg eg) _ hps s0 s1 s2 (.ow d3) (.ow d4) s7 .no .no .no .no s14
      refine ⟨ε, (stp ?_).trans h⟩
      by_cases hs : ds.all NB.D.isVal = true
      · simp [p3, sh3, hn', hn, q35, hc, hs, hlen]
      · have hs' : ds.all NB.D.isVal = false := by simpa using hs
        simp [p3, sh3, hn', hn, q35, hc, hs', hlen]
    · obtain ⟨ε, h⟩ := tail_ok k hx hy true _ (mem_app wg eg) _ hps s0 s1 s2 (.ow (.val (.int n))) (.ow (.val d4.p)) s7 .no .no .no .no s14
      refine ⟨ε, (stp ?_).trans h⟩
      by_cases hs : ds.all NB.D.isVal = true
      · simp [p3, sh3, hn', hn, q35, hc, hs, hlen, dF_true]
      · have hs' : ds.all NB.D.isVal = false := by simpa using hs
        simp [p3, sh3, hn', hn, q35, hc, hs', hlen, dF_true]
  · have hn0 : n = 0 := by omega
    obtain ⟨ε, h⟩ := tail_ok k hx hy fr _ wg ds w1 s0 s1 s2 (.ow d3) (.ow d4) s7 .no .no .no .no s14
    refine ⟨ε, (stp ?_).trans h⟩
    have hn' : ¬ (0 : Int) < n := by omega
    simp [p3, sh3, hn']
    intro hpos
    omega
end K01
end
section
set_option Elab.async false
set_option linter.all false
set_option maxRecDepth 100000
namespace K01
open PySem NB NBE
def wO (i : Int) : Int := [2, 3, 1, 4, 0, 6, 5].getD i.toNat 0
theorem wO_ok {i : Int} (h0 : 0 ≤ i) (h1 : i < 7) : 0 ≤ wO i ∧ wO i ≤ 6 := by
  have : i = 0 ∨ i = 1 ∨ i = 2 ∨ i = 3 ∨ i = 4 ∨ i = 5 ∨ i = 6 := by omega
  rcases this with rfl | rfl | rfl | rfl | rfl | rfl | rfl <;> decide
theorem idx7 {i : Int} (h0 : 0 ≤ i) (h1 : i < 7) : index (.lst [.int 2, .int 3, .int 1, .int 4, .int 0, .int 6, .int 5]) (.int i) = .ok (.int (wO i)) := by
  have : i = 0 ∨ i = 1 ∨ i = 2 ∨ i = 3 ∨ i = 4 ∨ i = 5 ∨ i = 6 := by omega
  rcases this with rfl | rfl | rfl | rfl | rfl | rfl | rfl <;> rfl
def nearL : List Int → List Int → List Int × List Int
  | cs, [] => (cs, [])
  | cs, x :: xs => ((nearL (drawP cs 3) xs).1, (x + drawR cs 3 - 1) :: (nearL (drawP cs 3) xs).2)
theorem nearL_len : ∀ (xs cs : List Int), (nearL cs xs).2.length = xs.length
  | [], _ => rfl
  | x :: xs, cs => by simp [nearL, nearL_len xs]
theorem nearL_bd : ∀ (xs cs : List Int), (∀ x ∈ xs, x.natAbs ≤ 3) → ∀ y ∈ (nearL cs xs).2, y.natAbs ≤ 1000
  | [], _, _ => fun y hy => by cases hy
  | x :: xs, cs, h => fun y hy => by
    have h1 : 0 ≤ drawR cs 3 := drawR_ge (by decide)
    have h2 : drawR cs 3 < 3 := drawR_lt (by decide)
    have h3 := h x (by simp)
    rcases List.mem_cons.mp (show y ∈ (x + drawR cs 3 - 1) :: (nearL (drawP cs 3) xs).2 from hy) with rfl | hy
    · omega
    · exact nearL_bd xs _ (fun z hz => h z (List.mem_cons_of_mem _ hz)) y hy
theorem near_lc (k : Nat) (s0 s2 s3 s4 s5 s6 s8 s9 s10 s11 s12 s13 s14 : Sl) : ∀ (xs cs : List Int), lcLoop (.nm 7) [7] (lcTurn T (rn (k + 1)) .none (.bin .sub (.bin .add (.v 7) (.call 17 (.cons (.v 1) (.cons (.c (.int 3)) .nil)))) (.c (.int 1)))) (PI xs) [s0, .ow (.lst (VI cs)), s2, s3, s4, s5, s6, .no, s8, s9, s10, s11, s12, s13, s14] = .ok (VI (nearL cs xs).2, [s0, .ow (.lst (VI (nearL cs xs).1)), s2, s3, s4, s5, s6, .no, s8, s9, s10, s11, s12, s13, s14])
  | [], cs => rfl
  | x :: xs, cs => by
    have ih := near_lc k s0 s2 s3 s4 s5 s6 s8 s9 s10 s11 s12 s13 s14 xs (drawP cs 3)
    have h3 := law_draw k cs 3 (by decide) (by decide)
    rw [PI_cons, lcLoop_cons]
    simp [lcTurn, callE_true, h3, ih, nearL, VI_cons]
def partA : SS → SS := fun R => (.cons (.asg (.nm 1) (.call 16 (.cons (.v 0) .nil))) (.cons (.asg (.nm 2) (.call 17 (.cons (.v 1) (.cons (.c (.int 8)) .nil)))) (.cons (.asg (.nm 3) (.ix (.lst (.cons (.c (.int 2)) (.cons (.c (.int 3)) (.cons (.c (.int 1)) (.cons (.c (.int 4)) (.cons (.c (.int 0)) (.cons (.c (.int 6)) (.cons (.c (.int 5)) .nil)))))))) (.call 17 (.cons (.v 1) (.cons (.c (.int 7)) .nil))))) (.cons (.asg (.nm 4) (.lc (.nm 14) [14] (.rng (.c (.int 0)) (.c (.int 3))) .none (.call 17 (.cons (.v 1) (.cons (.c (.int 4)) .nil))))) (.cons (.ex (.meth .append 4 (.cons (.call 17 (.cons (.v 1) (.cons (.bi .max_ (.cons (.c (.int 1)) (.cons (.v 3) .nil))) .nil))) .nil))) (.cons (.asg (.nm 5) (.call 28 (.cons (.v 1) (.cons (.v 3) (.cons (.cmp .gt (.v 2) (.c (.int 5))) (.cons (.c (.int 0)) .nil)))))) (.cons (.asg (.nm 6) (.call 28 (.cons (.v 1) (.cons (.v 3) (.cons (.cmp .gt (.v 2) (.c (.int 5))) (.cons (.c (.int 3)) .nil)))))) (.cons (.iff (.hold (.or_ (.cmp .eq (.v 2) (.c (.int 3))) (.cmp .eq (.v 2) (.c (.int 4))))) (.cons (.asg (.nm 6) (.lc (.nm 7) [7] (.seq (.v 5)) .none (.bin .sub (.bin .add (.v 7) (.call 17 (.cons (.v 1) (.cons (.c (.int 3)) .nil)))) (.c (.int 1))))) .nil) .nil) (.cons (.iff (.hold (.cmp .eq (.v 2) (.c (.int 5)))) (.cons (.asg (.nm 6) (.bi .list_ (.cons (.v 5) .nil))) .nil) .nil) R)))))))))
theorem B36_eq : B36 = partA partB := by
  rfl
theorem partA_ok (k : Nat) (ns : List Int) (hns : ns.length ≤ 63) : ∃ (n : Nat) (xs ys : List Int) (o0 o1 o2 o3 : Int) (s1 s2 : Sl), Pt n xs ∧ Pt n ys ∧ (0 ≤ o0 ∧ o0 < 4) ∧ (0 ≤ o1 ∧ o1 < 4) ∧ (0 ≤ o2 ∧ o2 < 4) ∧ (0 ≤ o3 ∧ (0 < n → o3 < n)) ∧ ∀ R, ess T (rn (k + 6)) M 1000 (partA R) [.ow (.val (.scr ns)), .no, .no, .no, .no, .no, .no, .no, .no, .no, .no, .no, .no, .no, .no] = ess T (rn (k + 6)) M 1000 R [.ow (.val (.scr ns)), s1, s2, .ow (.val (.int n)), .ow (.lst (VI [o0, o1, o2, o3])), .ow (.lst (VI xs)), .ow (.lst (VI ys)), .no, .no, .no, .no, .no, .no, .no, .no] := by
  have e16 := law_numbers (k + 5) ns hns
  generalize ns.map cell = c0 at e16
  have d1 := law_draw (k + 5) c0 8 (by decide) (by decide)
  have m0 : 0 ≤ drawR c0 8 := drawR_ge (by decide)
  have m1 : drawR c0 8 < 8 := drawR_lt (by decide)
  generalize drawR c0 8 = mode at *
  generalize drawP c0 8 = c1 at *
  have d2 := law_draw (k + 5) c1 7 (by decide) (by decide)
  have w0 : 0 ≤ drawR c1 7 := drawR_ge (by decide)
  have w1 : drawR c1 7 < 7 := drawR_lt (by decide)
  have hix := idx7 w0 w1
  have hw := wO_ok w0 w1
  generalize drawR c1 7 = i7 at *
  generalize drawP c1 7 = c2 at *
  obtain ⟨n, hn⟩ : ∃ n : Nat, wO i7 = n := ⟨(wO i7).toNat, by omega⟩
  rw [hn] at hix hw
  have hn6 : n ≤ 6 := by omega
  have d3 := law_draw (k + 5) c2 4 (by decide) (by decide)
  have p0 : 0 ≤ drawR c2 4 := drawR_ge (by decide)
  have p0' : drawR c2 4 < 4 := drawR_lt (by decide)
  generalize drawR c2 4 = o0 at *
  generalize drawP c2 4 = c3 at *
  have d4 := law_draw (k + 5) c3 4 (by decide) (by decide)
  have p1 : 0 ≤ drawR c3 4 := drawR_ge (by decide)
  have p1' : drawR c3 4 < 4 := drawR_lt (by decide)
  generalize drawR c3 4 = o1 at *
  generalize drawP c3 4 = c4 at *
  have d5 := law_draw (k + 5) c4 4 (by decide) (by decide)
  have p2 : 0 ≤ drawR c4 4 := drawR_ge (by decide)
  have p2' : drawR c4 4 < 4 := drawR_lt (by decide)
  generalize drawR c4 4 = o2 at *
  generalize drawP c4 4 = c5 at *
  have hm : 0 < (if (1 : Int) < n then (n : Int) else 1) := by split <;> omega
  have hm2 : (if (1 : Int) < n then (n : Int) else 1) ≤ 3000 := by split <;> omega
  have d6 := law_draw (k + 5) c5 (if (1 : Int) < n then (n : Int) else 1) hm hm2
  have p3 : 0 ≤ drawR c5 (if (1 : Int) < n then (n : Int) else 1) := drawR_ge hm
  have p3' : drawR c5 (if (1 : Int) < n then (n : Int) else 1) < (if (1 : Int) < n then (n : Int) else 1) := drawR_lt hm
  generalize hq : (if (1 : Int) < n then (n : Int) else 1) = q at *
  have hqn : 0 < n → q = n := by intro h; rw [← hq]; split <;> omega
  generalize drawR c5 q = o3 at *
  generalize drawP c5 q = c6 at *
  have f1 := ptF_facts (decide (mode > 5)) 0 c6 n
  have e28a := law_point (k + 4) c6 n hn6 (decide (mode > 5)) 0 (.inl rfl)
  generalize ptF (decide (mode > 5)) 0 c6 n = P1 at *
  have f2 := ptF_facts (decide (mode > 5)) 3 P1.1 n
  have e28b := law_point (k + 4) P1.1 n hn6 (decide (mode > 5)) 3 (.inr rfl)
  generalize ptF (decide (mode > 5)) 3 P1.1 n = P2 at *
  obtain ⟨xc, xs⟩ := P1
  obtain ⟨yc, y0⟩ := P2
  simp only at f1 f2 e28a e28b
  have hpx : Pt n xs := ⟨hn6, f1.1, fun x hx => (f1.2.1 x hx).1⟩
  have hpy : Pt n y0 := ⟨hn6, f2.1, fun x hx => (f2.2.1 x hx).1⟩
  have e4 : ∀ (s0 s2 s3 : Sl), lcLoop (.nm 14) [14] (lcTurn T (rn (k + 6)) .none (.call 17 (.cons (.v 1) (.cons (.c (.int 4)) .nil)))) [.int 0, .int 1, .int 2] [s0, .ow (.lst (VI c2)), s2, s3, .no, .no, .no, .no, .no, .no, .no, .no, .no, .no, .no] = .ok (VI [o0, o1, o2], [s0, .ow (.lst (VI c5)), s2, s3, .no, .no, .no, .no, .no, .no, .no, .no, .no, .no, .no]) := fun s0 s2 s3 => by
    simp [lcLoop_cons, lcTurn, callE_true, d3, d4, d5, VI_cons]
  have cx := cap_of hpx.le
  have e28a' := e28a
  have e28b' := e28b
  have up : ∀ R, ess T (rn (k + 6)) M 1000 (partA R) [.ow (.val (.scr ns)), .no, .no, .no, .no, .no, .no, .no, .no, .no, .no, .no, .no, .no, .no] = ess T (rn (k + 6)) M 1000 (.cons (.iff (.hold (.or_ (.cmp .eq (.v 2) (.c (.int 3))) (.cmp .eq (.v 2) (.c (.int 4))))) (.cons (.asg (.nm 6) (.lc (.nm 7) [7] (.seq (.v 5)) .none (.bin .sub (.bin .add (.v 7) (.call 17 (.cons (.v 1) (.cons (.c (.int 3)) .nil)))) (.c (.int 1))))) .nil) .nil) (.cons (.iff (.hold (.cmp .eq (.v 2) (.c (.int 5)))) (.cons (.asg (.nm 6) (.bi .list_ (.cons (.v 5) .nil))) .nil) .nil) R)) [.ow (.val (.scr ns)), .ow (.lst (VI yc)), .ow (.val (.int mode)), .ow (.val (.int n)), .ow (.lst (VI [o0, o1, o2, o3])), .ow (.lst (VI xs)), .ow (.lst (VI y0)), .no, .no, .no, .no, .no, .no, .no, .no] := fun R => by
    unfold partA
    refine (stp (ε' := [.ow (.val (.scr ns)), .ow (.lst (VI c0)), .no, .no, .no, .no, .no, .no, .no, .no, .no, .no, .no, .no, .no]) (by simp [e16])).trans ?_
    refine (stp (ε' := [.ow (.val (.scr ns)), .ow (.lst (VI c1)), .ow (.val (.int mode)), .no, .no, .no, .no, .no, .no, .no, .no, .no, .no, .no, .no]) (by simp [callE_true, d1])).trans ?_
    refine (stp (ε' := [.ow (.val (.scr ns)), .ow (.lst (VI c2)), .ow (.val (.int mode)), .ow (.val (.int n)), .no, .no, .no, .no, .no, .no, .no, .no, .no, .no, .no]) (by simp [callE_true, d2, hix])).trans ?_
    refine (stp (ε' := [.ow (.val (.scr ns)), .ow (.lst (VI c5)), .ow (.val (.int mode)), .ow (.val (.int n)), .ow (.lst (VI [o0, o1, o2])), .no, .no, .no, .no, .no, .no, .no, .no, .no, .no]) (by 
      rw [es_asg, ev_lc, eit_rngN T (rn (k + 6)) _ _ _ (.c (.int 0)) (.c (.int 3)) 0 3 rfl rfl ⟨by decide, by decide⟩ ⟨by decide, by decide⟩, show rangeP 0 3 = [P.int 0, P.int 1, P.int 2] from rfl]
      simp [e4])).trans ?_
    refine (stp (ε' := [.ow (.val (.scr ns)), .ow (.lst (VI c6)), .ow (.val (.int mode)), .ow (.val (.int n)), .ow (.lst (VI [o0, o1, o2, o3])), .no, .no, .no, .no, .no, .no, .no, .no, .no, .no]) (by simp [callE_true, hq, d6])).trans ?_
    refine (stp (ε' := [.ow (.val (.scr ns)), .ow (.lst (VI xc)), .ow (.val (.int mode)), .ow (.val (.int n)), .ow (.lst (VI [o0, o1, o2, o3])), .ow (.lst (VI xs)), .no, .no, .no, .no, .no, .no, .no, .no, .no]) (by simp [callE_true, e28a'])).trans ?_
    refine (stp (ε' := [.ow (.val (.scr ns)), .ow (.lst (VI yc)), .ow (.val (.int mode)), .ow (.val (.int n)), .ow (.lst (VI [o0, o1, o2, o3])), .ow (.lst (VI xs)), .ow (.lst (VI y0)), .no, .no, .no, .no, .no, .no, .no, .no]) (by simp [callE_true, e28b'])).trans ?_
    rfl
  by_cases h34 : mode = 3 ∨ mode = 4
  · have hg : decide (mode > 5) = false := decide_eq_false (by omega)
    refine ⟨n, xs, (nearL yc xs).2, o0, o1, o2, o3, .ow (.lst (VI (nearL yc xs).1)), .ow (.val (.int mode)), hpx, ⟨hn6, by rw [nearL_len, f1.1], nearL_bd _ _ fun x hx => (f1.2.1 x hx).2 hg⟩, ⟨p0, p0'⟩, ⟨p1, p1'⟩, ⟨p2, p2'⟩, ⟨p3, fun h => by rw [← hqn h]; exact p3'⟩, fun R => (up R).trans ?_⟩
    have hne : ¬ mode = 5 := by omega
    refine (stp (ε' := [.ow (.val (.scr ns)), .ow (.lst (VI (nearL yc xs).1)), .ow (.val (.int mode)), .ow (.val (.int n)), .ow (.lst (VI [o0, o1, o2, o3])), .ow (.lst (VI xs)), .ow (.lst (VI (nearL yc xs).2)), .no, .no, .no, .no, .no, .no, .no, .no]) (by
      rcases h34 with h | h <;> simp [h, cx, near_lc])).trans ?_
    refine (stp (ε' := [.ow (.val (.scr ns)), .ow (.lst (VI (nearL yc xs).1)), .ow (.val (.int mode)), .ow (.val (.int n)), .ow (.lst (VI [o0, o1, o2, o3])), .ow (.lst (VI xs)), .ow (.lst (VI (nearL yc xs).2)), .no, .no, .no, .no, .no, .no, .no, .no]) (by simp [hne])).trans rfl
  · have h3 : ¬ mode = 3 := by omega
    have h4 : ¬ mode = 4 := by omega
    by_cases h5 : mode = 5
    · refine ⟨n, xs, xs, o0, o1, o2, o3, .ow (.lst (VI yc)), .ow (.val (.int mode)), hpx, hpx, ⟨p0, p0'⟩, ⟨p1, p1'⟩, ⟨p2, p2'⟩, ⟨p3, fun h => by rw [← hqn h]; exact p3'⟩, fun R => (up R).trans ?_⟩
      refine (stp (ε' := [.ow (.val (.scr ns)), .ow (.lst (VI yc)), .ow (.val (.int mode)), .ow (.val (.int n)), .ow (.lst (VI [o0, o1, o2, o3])), .ow (.lst (VI xs)), .ow (.lst (VI y0)), .no, .no, .no, .no, .no, .no, .no, .no]) (by simp [h3, h4])).trans ?_
      refine (stp (ε' := [.ow (.val (.scr ns)), .ow (.lst (VI yc)), .ow (.val (.int mode)), .ow (.val (.int n)), .ow (.lst (VI [o0, o1, o2, o3])), .ow (.lst (VI xs)), .ow (.lst (VI xs)), .no, .no, .no, .no, .no, .no, .no, .no]) (by simp [h5, cx])).trans rfl
    · refine ⟨n, xs, y0, o0, o1, o2, o3, .ow (.lst (VI yc)), .ow (.val (.int mode)), hpx, hpy, ⟨p0, p0'⟩, ⟨p1, p1'⟩, ⟨p2, p2'⟩, ⟨p3, fun h => by rw [← hqn h]; exact p3'⟩, fun R => (up R).trans ?_⟩
      refine (stp (ε' := [.ow (.val (.scr ns)), .ow (.lst (VI yc)), .ow (.val (.int mode)), .ow (.val (.int n)), .ow (.lst (VI [o0, o1, o2, o3])), .ow (.lst (VI xs)), .ow (.lst (VI y0)), .no, .no, .no, .no, .no, .no, .no, .no]) (by simp [h3, h4])).trans ?_
      refine (stp (ε' := [.ow (.val (.scr ns)), .ow (.lst (VI yc)), .ow (.val (.int mode)), .ow (.val (.int n)), .ow (.lst (VI [o0, o1, o2, o3])), .ow (.lst (VI xs)), .ow (.lst (VI y0)), .no, .no, .no, .no, .no, .no, .no, .no]) (by simp [h5])).trans rfl
theorem law_true (k : Nat) (ns : List Int) (hns : ns.length ≤ 63) : rn (k + 7) 36 [.val (.scr ns)] = .ok (.val (.bl true), []) := by
  rw [run36, B36_eq]
  obtain ⟨n, xs, ys, o0, o1, o2, o3, s1, s2, hx, hy, h0, h1, h2, h3, up⟩ := partA_ok k ns hns
  rw [up]
  obtain ⟨ε, h⟩ := partB_ok k hx hy o0 o1 o2 o3 h0 h1 h2 h3 (.ow (.val (.scr ns))) s1 s2 .no .no
  rw [h]
  simp
theorem main (ns : List Int) (hns : ns.length ≤ 63) (_ : ∀ z ∈ ns, PySem.Builtin.Int.intBits z ≤ 1048576) : NB.run pg.tab (mkxOf pg.tab) 1000 pg.fns 20 36 [.val (.scr ns)] = .ok (.val (.bl true), []) := law_true 13 ns hns
end K01
theorem PySem.Challenge.cw_nearbydown_k01_near_steps_and_distance_holds : PySem.Challenge.rw_nearbydown_k01_near_steps_and_distance.Holds := by
  exact K01.walk K01.main
end
