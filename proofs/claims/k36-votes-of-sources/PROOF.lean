import PyProof.Rows.All
import Wide.All
import OpenK.AllK
import Wide.FinOn
import HandS.ForMost
import HandS.ForExc
import HandS.Wide
import HandS.TupAny
import HandS.TupMul
import HandS.Flow
import HandS.Style
import HandS.IsInst
import HandS.Zip
import HandS.Walk
import HandS.SortInts
import HandS.SortRule
import HandS.TryOnly
import HandS.TryMany
import HandS.FStr
import HandS.StrMore
import HandS.More
import HandS.SetKeys
import HandS.Small
import HandS.Comp
import KE.KTryMore
import HandS.Conv
import HandS.DictComp
import PyProof.SumWalkG
import PyProof.WalksMore
import HandS.DictTup
import HandS.TupLen
import KE.DatumOrd
import HandS.Records
import KE.GoesMore
import KE.GoesEnum
import HandS.Iter
import PyProof.Rows.StrFit
import PySem.Challenge.RW_piecehaul_k36_whole_votes_of_sources
set_option Elab.async false
set_option linter.all false
set_option maxRecDepth 100000
set_option maxHeartbeats 1000000
set_option Elab.async false
set_option linter.all false
set_option maxRecDepth 100000
set_option maxHeartbeats 1000000
/-! PLQ: exceptions that pass a comprehension; a clause of two classes. -/
namespace PL
open PySem PySem.Spec PyProof.Rows L2
/-- fresh, in flight, or noted at the frame fr -/
def SkyF (B : Heap) (l : List PySem.Env) (a : Addr) (Z : Obj → Prop) (fr : Option Addr) (h : Heap) : Prop :=
  (∃ oe vs, B.StaysIn h ∧ B.get? a = none ∧ h.FunFrames B l ∧ h.get? a = some oe ∧ Z oe ∧ oe.data = .fields vs ∧ vs[1]? = some .none) ∨
    HandSPX.FlyingZ B l a Z h ∨ ∃ L, fr = some L ∧ HandSPX.HeldZ B l a Z L h
/-- an exception in the air of X -/
def XF (X : Cx) (W : WX) (u : Value) (s' : Shared) : Prop :=
  ∃ (a : Addr) (B : Heap) (sI : Shared) (pins : List (Addr × Obj)) (σ : L2.St) (H : Hp) (cls : Value) (d : Option Addr),
    (u = .ref a ∧ Inv X pins σ H sI) ∧ ((∀ b o, sI.heap.get? b = some o → b ∉ frs X.stack → B.get? b = some o) ∧ sI.heap.UpToSlots s'.heap) ∧
      SkyF B X.stack a (Zc cls d) X.env.frame s'.heap ∧ (H a = none ∧ s'.os = sI.os ∧ AllBare s'.gens) ∧ W cls d σ H
def Tk (X : Cx) (W : WX) : Prop := ∀ u s', XF X W u s' → X.xe u s'
theorem tk_of {X : Cx} {W : WX} (hf : X.env.frame = some X.env.locals) (t : Takes X W) : Tk X W := by
  rintro u s' ⟨a, B, sI, pins, σ, H, cls, d, ⟨e, I⟩, ⟨nb, up⟩, sky, ⟨na, os, ag⟩, w⟩
  refine t u s' ⟨a, B, sI, pins, σ, H, cls, d, e, I, nb, up, ?_, na, os, ag, w⟩
  rcases sky with ⟨oe, vs, z1, z2, z3, z4⟩ | z | ⟨L, e, z⟩
  · exact .inl ⟨z1, z2, z3, oe, vs, z4⟩
  · exact .inr (.inl z)
  · rw [hf] at e
    cases e
    exact .inr (.inr z)
section
variable {X : Cx} {pins : List (Addr × Obj)} {σ : L2.St} {H : Hp} {s s' : Shared} {W : WX} {E : XK}
/-- what a callee lets out is in our air -/
theorem xf_call (I : Inv X pins σ H s) (hW : ∀ cls d H', E cls d H' → W cls d σ H') {u : Value} (c : L2.CX X.prog X.w X.stack H s E u s') : XF X W u s' := by
  obtain ⟨a, B, H1, cls, d, rfl, fl, hok, ub, na, os, ag, hE⟩ := c
  obtain ⟨G, yes, no⟩ := restrict s'.heap fun b => (B.get? b).isSome || decide (b ∈ frs X.stack)
  have stB : ∀ b o, B.get? b = some o → s'.heap.get? b = some o := fl.1
  have inG : ∀ b o, B.get? b = some o → G.get? b = some o := fun b o q => (yes b (by simp [q])).trans (stB b o q)
  have frG : ∀ b, b ∈ frs X.stack → G.get? b = s'.heap.get? b := fun b q => yes b (by simp [q])
  have outG : ∀ b o, G.get? b = some o → s'.heap.get? b = some o ∧ ((B.get? b).isSome = true ∨ b ∈ frs X.stack) := fun b o q => by
    by_cases z : ((B.get? b).isSome || decide (b ∈ frs X.stack)) = true
    · exact ⟨(yes b z).symm.trans q, by simpa [Bool.or_eq_true] using z⟩
    · have := no b (by simpa using z)
      rw [q] at this
      cases this
  have J : Inv X pins σ H1 { s with heap := G, gens := s'.gens, drawn := s'.drawn, toks := s'.toks } := by
    refine I.call (ch := []) ⟨fun b o q n hb _ => inG b o (ub.keep b o q n hb), fun b o q _ hb _ => ?_, fun b o q n _ => ub.free b o q n, fun b o q _ => ?_, ub.tups, ub.frzs, ub.tbls⟩ (hok.kept inG) ag (fun _ z => nomatch z)
    · obtain ⟨sl, z⟩ := ub.slot b o q hb
      exact ⟨sl, (frG b hb).trans z⟩
    · by_cases hb : b ∈ frs X.stack
      · obtain ⟨sl, z⟩ := ub.slot b o q hb
        exact ⟨_, (frG b hb).trans z⟩
      · obtain ⟨o', z⟩ := ub.there b o q hb
        exact ⟨o', inG b o' z⟩
  refine ⟨a, B, _, pins, σ, H1, cls, d, ⟨rfl, J⟩, ⟨fun b o q hb => ?_, Heap.UpToSlots.of_keeps fun b o q => (outG b o q).1⟩, .inr (.inl fl), ⟨na, os, ag⟩, hW _ _ _ hE⟩
  obtain ⟨z, y⟩ := outG b o q
  rcases y with y | y
  · obtain ⟨o', y⟩ := Option.isSome_iff_exists.mp y
    rw [y, ← stB b o' y, z]
  · exact absurd y hb
theorem tk_at (tk : Tk X W) (σ : L2.St) : PassesAt (L2.CX X.prog X.w) X σ (WE W σ) := fun _ _ _ e s' I c => tk e s' (xf_call I (fun _ _ _ h => h) c)
/-- what an own frame says -/
def FrOk (X : Cx) : Prop := ∃ env0 outer0 L, X.stack = env0 :: outer0 ∧ env0.frame = some L ∧ X.env.frame = some L
theorem note_frame {e1 e2 : PySem.Env} (h : e1.frame = e2.frame) (x : Value) : noteFrame x e1 = noteFrame x e2 := by
  unfold noteFrame PySem.frameOf
  rw [h]
theorem SkyF.note {M : Model} {A : Around} {Ee : Value → Shared → Prop} {B : Heap} {env0 : PySem.Env} {outer0 : List PySem.Env} {a L : Addr} {Z : Obj → Prop} {Q : Unit → Shared → Prop} (hZ : HandSPX.Steady Z) (hfr : A.frames = some (env0 :: outer0)) (hL : env0.frame = some L)
    (x : SkyF B (env0 :: outer0) a Z (some L) s.heap) (hQ : ∀ h1, HandSPX.HeldZ B (env0 :: outer0) a Z L h1 → s.heap.UpToSlots h1 → Q () { s with heap := h1 }) : wpAny M A (noteFrame (.ref a) env0) Q Ee s := by
  rcases x with ⟨oe, vs, k1, k2, k3, k4, k5, k6, k7⟩ | k | ⟨L', e, k⟩
  · exact HandSPX.look_newZ hZ hfr k3 hL k4 k1 k2 k6 k7 k5 hQ
  · exact HandSPX.looks_onZ hZ hfr hL k hQ
  · cases e
    exact HandSPX.againZ hL k.2.2.2 (hQ s.heap k (Heap.UpToSlots.refl _))
theorem frames_swap {h h' B B' : Heap} (k : ∀ b, B.get? b = none → h'.get? b = h.get? b ∧ B'.get? b = none) : ∀ {l : List PySem.Env}, h.FunFrames B l → h'.FunFrames B' l
  | [], _ => trivial
  | _ :: _, ⟨q, ⟨L, o, f1, f2, f3, f4⟩, r⟩ => ⟨q, ⟨L, o, f1, (k L f2).2, (k L f2).1.trans f3, f4⟩, frames_swap k r⟩
/-- the comprehension's end by an exception -/
def ErrE (X : Cx) (ce : PySem.Env) (x : Value) (s' : Shared) : Prop := ∃ m, s'.heap.Ns ce.locals m ∧ ∀ h', Heap.SameBut ce.locals s'.heap h' → ∀ cenv : PySem.Env, cenv.locals = ce.locals → cenv.frame = ce.frame →
  wpAny (model X.prog X.w) X.A (passOn "comprehension.variables-let-go" x cenv : Sem Value) (fun _ _ => False) X.xe { s' with heap := h' }
/-- the slots of the start, whatever the block's are -/
def WB (W : WX) (σ : L2.St) : WX := fun c d _ H => W c d σ H
theorem err_out {scope : Scope} {ce : PySem.Env} {fp : List Addr} {s3 : Shared} {H3 : Hp} (tk : Tk X W) (fr : FrOk X) (hce : ce.frame = X.env.frame) (hC : ce.locals = s3.heap.objs.size)
    (I3 : Inv X pins σ H3 s3) (f3 : ∀ b ∈ fp, FpOk X pins H3 b) {u : Value} {s' : Shared} {Ee : Value → Shared → Prop} (x : XF (X.blk s3 H3 scope ce fp) (WB W σ) u s') :
    wpAny (model X.prog X.w) X.A (noteFrame u ce) (fun _ s'' => ErrE X ce u s'') Ee s' := by
  obtain ⟨a, B, sI, pins', σ', H', cls, d, ⟨rfl, I'⟩, ⟨nb, up⟩, sky, ⟨na, os, ag⟩, w⟩ := x
  obtain ⟨env0, outer0, L, hst, hL, hX⟩ := fr
  rw [note_frame (hce.trans (hX.trans hL.symm))]
  have hfr : X.A.frames = some (env0 :: outer0) := by rw [I3.ok.frames, hst]
  have sky : SkyF B (env0 :: outer0) a (Zc cls d) (some L) s'.heap := by
    have z : SkyF B X.stack a (Zc cls d) ce.frame s'.heap := sky
    rw [hst, hce, hX] at z
    exact z
  refine sky.note Zc.steady hfr hL fun h1 hh up1 => ?_
  obtain ⟨m, hn, _⟩ := I'.loc
  have hn : sI.heap.Ns ce.locals m := hn
  have hn0 := hn
  refine ⟨m, (up.trans up1).ns hn, fun h2 sb cenv e1 e2 => ?_⟩
  generalize hCC : ce.locals = C at hn sb e1 hC hn0
  have nC : H' C = none := by
    have z : H' ce.locals = none := I'.free
    rw [hCC] at z
    exact z
  obtain ⟨f0, f1, f2, f4, f5, f6⟩ := I3.fpOk (H' := H') (b := C) (Nat.le_of_eq hC.symm) nC
  have CnS : C ∉ frs X.stack := fun z => by
    obtain ⟨_, o', q, _⟩ := I3.stack.mem z
    have z := Heap.lt_size q
    rw [hC] at z
    exact absurd z (Nat.lt_irrefl _)
  obtain ⟨oC, es, ep, hoC, hdC, _⟩ := hn0
  have BC : B.get? C = some oC := nb C oC hoC CnS
  have IX : Inv X pins σ H' sI := I3.call' (ch := fp) I'.os I'.base I'.hok I'.bare fun b hb => ⟨(f3 b hb).2.2.2.1, (f3 b hb).2.1, (f3 b hb).2.2.2.2.1, (f3 b hb).2.2.2.2.2⟩
  have hid : ∀ {h : Heap} {b : Addr} {o : Obj}, (PySem.W.hideAll h [C]).get? b = some o → b ≠ C ∧ h.get? b = some o := fun {h b o} q => by
    refine ⟨fun z => ?_, PySem.W.of_hideAll _ q⟩
    rw [PySem.W.hideAll_none _ (by rw [z]; exact List.mem_singleton.mpr rfl)] at q
    cases q
  have shw : ∀ {h : Heap} {b : Addr} {o : Obj}, b ≠ C → h.get? b = some o → (PySem.W.hideAll h [C]).get? b = some o := fun {h b o} n q => PySem.W.hideAll_get _ q (by simpa using n)
  have I2 : Inv X pins σ H' { sI with heap := PySem.W.hideAll sI.heap [C] } := IX.turned (t' := sI.toks) (it := C) (fun b o n q => shw n q) f0 f1 f4 f5 f6
  obtain ⟨st1, hna, ff1, oe, vs, T, oT, ts, t1, t2, t3, t4, t5, t6, t7, t8, t9⟩ := hh
  have aC : a ≠ C := fun z => by rw [z, BC] at hna; cases hna
  have TC : T ≠ C := fun z => by rw [z, BC] at t5; cases t5
  have bn : ∀ b, B.get? b = none → (PySem.W.hideAll B [C]).get? b = none := fun b q => by
    cases z : (PySem.W.hideAll B [C]).get? b with
    | none => rfl
    | some o => rw [(hid z).2] at q; cases q
  have st2 : (PySem.W.hideAll B [C]).StaysIn h2 := fun b o q => by
    obtain ⟨q1, q2⟩ := hid q
    rw [sb.2 b q1]
    exact st1 b o q2
  have ff2 : h2.FunFrames (PySem.W.hideAll B [C]) (env0 :: outer0) := frames_swap (fun b q => ⟨sb.2 b (fun z => by rw [z, BC] at q; cases q), bn b q⟩) ff1
  have a2 : h2.get? a = some oe := (sb.2 a aC).trans t1
  have T2 : h2.get? T = some oT := (sb.2 T TC).trans t7
  unfold PySem.passOn
  refine wpAny_bind (wpAny_field a2 t3 t4 ?_)
  rw [if_neg (show ¬ ((Value.ref T == Value.none) = true) from by simp)]
  have fin : wpAny (model X.prog X.w) X.A (setFlight (.ref a) cenv.frame) (fun _ s4 => wpAny (model X.prog X.w) X.A (throw (.ref a) : Sem Value) (fun _ _ => False) X.xe s4) X.xe { s' with heap := h2 } := by
    rw [e2, hce, hX]
    refine HandSPX.setFlight_anyZ (fr := some L) st2 ff2 ⟨oe, vs, T, oT, ts, a2, t2, t3, t4, bn T t5, t6, T2, t8, t9⟩ fun h4 s4 f4' t4' up4 => wpAny_throw (tk _ _ ?_)
    refine ⟨a, PySem.W.hideAll B [C], { sI with heap := PySem.W.hideAll sI.heap [C] }, pins, σ, H', cls, d, ⟨rfl, I2⟩, ⟨fun b o q hb => ?_, fun b o q nf => ?_⟩, .inr (.inr ⟨L, hX, s4, bn a hna, by rw [hst]; exact f4', t4'⟩), ⟨na, os, ag⟩, w⟩
    · obtain ⟨q1, q2⟩ := hid q
      exact shw q1 (nb b o q2 hb)
    · obtain ⟨q1, q2⟩ := hid q
      obtain ⟨sl, z⟩ := (up.trans up1) b o q2 nf
      rw [← sb.2 b q1] at z
      obtain ⟨sl', y⟩ := up4 b _ z nf
      exact ⟨sl', y⟩
  first
    | exact wpAny_bind (wpAny_pure (wpAny_bind fin))
    | exact wpAny_bind fin
end
end PL
namespace PL
open PySem PySem.Spec PyProof.Rows L2
/-! ### a comprehension whose steps may raise -/
/-- the end of its block -/
def EndC (X : Cx) (use : Option (Value → Sem Unit)) (Qf : Value → Shared → Prop) (acc : Value) (ce : PySem.Env) (r : Result) (s' : Shared) : Prop := match r with
  | .ok _ => compPost (model X.prog X.w) X.A X.xe use Qf acc ce.locals (.ok .next) s'
  | .error x => ErrE X ce x s'
theorem comp_free {X : Cx} {use : Option (Value → Sem Unit)} {s : Shared} {e : Expr} {scope : Scope} {pos : Pos} {newAcc first : Sem Value} {g : Comprehension} {gs : List Comprehension} {cl : List (Str × Addr)} {Qf : Value → Shared → Prop}
    (h1 : clausesOf e = g :: gs) (h2 : ∀ x, foldedSetIterable g.iter X.env x = pure x) (h3 : closureFor scope X.env = pure cl) (h4 : scope.kind = .function) (h5 : ∀ x ∈ scope.names, x.2 = .local → scope.names.lookup x.1 = some .local)
    (h : wpAny (model X.prog X.w) X.A first (fun x s₁ => wpAny (model X.prog X.w) X.A (pyIter x) (fun it s₂ => wpAny (model X.prog X.w) X.A newAcc (fun acc s₃ =>
      wpAny (model X.prog X.w) X.A (newFunctionEnv scope X.env.globals cl [] X.env.qual none .none (some X.env)) (fun cenv s₄ =>
        codeAny (model X.prog X.w) X.A (.compStart e 0 it acc { cenv with scope := relabel scope X.env }) (EndC X use Qf acc { cenv with scope := relabel scope X.env }) s₄) X.xe s₃) X.xe s₂) X.xe s₁) X.xe s) :
    wpAny (model X.prog X.w) X.A (comprehension e scope X.env pos newAcc false first use) Qf X.xe s := by
  unfold comprehension
  rw [h3, h1]
  refine wpAny_bind (wpAny_mono h (fun x s₁ w1 => ?_) fun _ _ h' => h')
  refine wpAny_bind (wpAny_standAt (wpAny_bind (wpAny_of_eq (h2 x) (wpAny_bind (wpAny_holding (wpAny_mono w1 (fun it s₂ w2 => ?_) fun _ _ h' => h'))))))
  refine wpAny_standIf (wpAny_bind (wpAny_mono w2 (fun acc s₃ w3 => ?_) fun _ _ h' => h'))
  refine wpAny_bind (wpAny_pure (wpAny_bind (wpAny_mono w3 (fun cenv s₄ w4 => ?_) fun _ _ h' => h')))
  dsimp only
  have loc : ∀ x ∈ (scope.names.filter fun x => (x.2 == .local || x.2 == .cell) && x.1 != (".0" : Str)).reverse, x.2 = .local → PySem.Env.kindOf { cenv with scope := relabel scope X.env } x.1 = some .local := fun x hx hl =>
    lookup_relabel_local (h5 x (List.mem_filter.mp (List.mem_reverse.mp hx)).1 hl)
  have loc2 : ∀ x ∈ (scope.names.filter fun x => (x.2 == .local || x.2 == .cell) && x.1 != (".0" : Str)).reverse.drop 1 ++ (scope.names.filter fun x => (x.2 == .local || x.2 == .cell) && x.1 != (".0" : Str)).reverse.take 1, x.2 = .local →
      PySem.Env.kindOf { cenv with scope := relabel scope X.env } x.1 = some .local := fun x hx hl => (List.mem_append.mp hx).elim (fun z => loc x (List.mem_of_mem_drop z) hl) fun z => loc x (List.mem_of_mem_take z) hl
  refine wpAny_holding (wpAny_bind (wpAny_attempt (wpAny_holding (wpAny_run (codeAny_mono w4 fun r s' hr => ?_)))))
  cases r with
  | ok f =>
    cases use with
    | none =>
      obtain ⟨m, hn, hr⟩ := hr
      refine wpAny_bind (wpAny_holding (wpAny_comp_letGo (cenv := { cenv with scope := relabel scope X.env }) h4 _ s' m loc hn fun h' m' _ hs' => ?_))
      exact wpAny_pure (hr h' hs')
    | some u =>
      refine wpAny_bind (wpAny_rule (wpAny_bind (wpAny_holding (wpAny_mono hr (fun _ s'' hr' => ?_) fun _ _ h' => h'))))
      obtain ⟨m, hn, hr'⟩ := hr'
      exact wpAny_bind (wpAny_comp_letGo (cenv := { cenv with scope := relabel scope X.env }) h4 _ s'' m loc2 hn fun h' m' _ hs' => wpAny_pure (hr' h' hs'))
  | error x =>
    obtain ⟨m, hn, hr⟩ := hr
    refine wpAny_bind (wpAny_holding (wpAny_comp_letGo (cenv := { cenv with scope := relabel scope X.env }) h4 _ s' m loc hn fun h' m' _ hs' => ?_))
    exact wpAny_mono (hr h' hs' _ rfl rfl) (fun _ _ f => f.elim) fun _ _ y => y
section
variable {X : Cx} {W : WX}
/-- the block's context, its exceptions passed on -/
abbrev blkX (X : Cx) (W : WX) (σ : L2.St) (s : Shared) (H : Hp) (scope : Scope) (ce : PySem.Env) (fp : List Addr) : Cx := (X.blk s H scope ce fp).wish (XF (X.blk s H scope ce fp) (WB W σ))
theorem blkX_tk {σ : L2.St} {s : Shared} {H : Hp} {scope : Scope} {ce : PySem.Env} {fp : List Addr} : Tk (blkX X W σ s H scope ce fp) (WB W σ) := by
  rintro u s' ⟨a, B, sI, pins, σ, H, cls, d, ⟨e, I⟩, r⟩
  exact ⟨a, B, sI, pins, σ, H, cls, d, ⟨e, I.unwish⟩, r⟩
theorem lc_run {use : Option (Value → Sem Unit)} {pins : List (Addr × Obj)} {s : Shared} {σ : L2.St} {H : Hp} {Q : VK} {elt tg iter : Expr} {ifs : List Expr} {scope : Scope} {own : List (Str × Nat)} {pos pos' : Pos} {wi : TI} {g : TG} {tt : TT} {te : TE} {Qf : Value → Shared → Prop}
    (hc : X.calm = true) (hN : X.N.Nodup) (tk : Tk X W) (fr : FrOk X) (I : Inv X pins σ H s) (hi : PI X tg iter wi) (ok : BlkOk X.N X.env.scope scope own)
    (hg : ∀ (s : Shared) (H : Hp) (C : Addr) (cl : List (Str × Addr)) (fp : List Addr), PG (X.blk s H scope (compEnvC scope cl C X.env) fp) tg g)
    (ht : ∀ (s : Shared) (H : Hp) (C : Addr) (cl : List (Str × Addr)) (fp : List Addr), PTs (blkX X W σ s H scope (compEnvC scope cl C X.env) fp) ifs tt)
    (he : ∀ (s : Shared) (H : Hp) (C : Addr) (cl : List (Str × Addr)) (fp : List Addr), PE (blkX X W σ s H scope (compEnvC scope cl C X.env) fp) elt te) (hs : ∀ x, foldedSetIterable iter X.env x = pure x)
    (h : tLc wi g tt te (own.map (·.2)) σ H Q)
    (hR : ∀ D C s' m H', Inv X pins σ H' s' → Q (.ref D) H' → s'.heap.Ns C m → FpOk X pins H' C → compPost (model X.prog X.w) X.A X.xe use Qf (.ref D) C (.ok .next) s') :
    wpAny (model X.prog X.w) X.A (comprehension (.ListComp elt [⟨tg, iter, ifs, 0⟩] scope pos) scope X.env pos' (newList []) false (eval iter X.env) use) Qf X.xe s := by
  have capt : ∀ y ∈ scope.names, y.2 = .free → ∃ c, X.env.cells.lookup y.1 = some c := fun y hy e => (ok.free y hy e).elim (fun k => I.ok.has _ (.inl k)) fun k => I.ok.has _ (.inr k)
  refine comp_free rfl hs (closure_ok capt) ok.kind (fun y hy e => by rw [ok.uniq y hy, e]) (thn (hi.run pins s σ H _ I h) fun xv s1 hx => thn hx fun itv s2 h2 => ?_)
  obtain ⟨it, fp, tn, J, H2, rfl, I2, T, st2, f2, q⟩ := h2
  refine wpAny_newObj_type (newEnv_comp ?_) (Nat.zero_le _)
  generalize hD : s2.heap.objs.size = D
  have hDn : H2 D = none := I2.hok.fresh (Nat.le_of_eq hD)
  obtain ⟨Wm, ⟨m0, w0⟩, turn⟩ := q D hDn
  generalize hs3 : ({ s2 with heap := s2.heap.push { cls := .type "list", data := .seq ([] : List Value).toArray } } : Shared) = s3
  have h3 : s3.heap = s2.heap.push { cls := .type "list", data := .seq ([] : List Value).toArray } := by rw [← hs3]
  have I3 : Inv X pins σ (upd H2 D (.lst [])) s3 := by
    subst hs3
    refine I2.laid (t' := s2.toks) (fun b o e => Heap.get?_push_of_some _ e) (Nat.le_of_eq hD) ⟨Nat.zero_le _, [], 0, .nil, ?_⟩
    subst hD
    exact Heap.get?_push_size _ rfl
  have small : ∀ b ∈ fp, b < s2.heap.objs.size := fun b hb => let ⟨o, e, _⟩ := T.obj _ _ st2 b hb; Heap.lt_size e
  have f3 : ∀ b ∈ fp, FpOk X pins (upd H2 D (.lst [])) b ∧ b < s3.heap.objs.size := fun b hb => by
    have lt := small b hb
    refine ⟨⟨?_, (f2 b hb).2⟩, ?_⟩
    · rw [upd_ne (hD ▸ Nat.ne_of_lt lt)]
      exact (f2 b hb).1
    · rw [h3, Heap.size_push]
      exact Nat.lt_succ_of_lt lt
  have st3 : tn 0 s3.heap := T.keep _ _ _ st2 fun b _ o e => h3 ▸ Heap.get?_push_of_some _ e
  have I4 := block_start I3 ok hN f3
  have pg := hg s3 (upd H2 D (.lst [])) s3.heap.objs.size (cellsFrom (s3.heap.objs.size + 1) scope.names (cloFrom X.env.cells scope.names [])) fp
  have pt := ht s3 (upd H2 D (.lst [])) s3.heap.objs.size (cellsFrom (s3.heap.objs.size + 1) scope.names (cloFrom X.env.cells scope.names [])) fp
  have pe := he s3 (upd H2 D (.lst [])) s3.heap.objs.size (cellsFrom (s3.heap.objs.size + 1) scope.names (cloFrom X.env.cells scope.names [])) fp
  show codeAny _ _ (.compStart _ 0 (.ref it) (.ref D) (compEnvC scope (cellsFrom (s3.heap.objs.size + 1) scope.names (cloFrom X.env.cells scope.names [])) s3.heap.objs.size X.env)) (EndC X use Qf (.ref D) (compEnvC scope (cellsFrom (s3.heap.objs.size + 1) scope.names (cloFrom X.env.cells scope.names [])) s3.heap.objs.size X.env))
    { s3 with heap := pushCells (s3.heap.push { cls := .type "dict", data := .dict #[] }) scope.names }
  have nfp : ∀ b ∈ fp, (upd H2 D (.lst [])) b = none := fun b hb => (f3 b hb).1.1
  generalize hce : compEnvC scope (cellsFrom (s3.heap.objs.size + 1) scope.names (cloFrom X.env.cells scope.names [])) s3.heap.objs.size X.env = ce at I4 pg pt pe ⊢
  have cL : ce.locals = s3.heap.objs.size := by subst hce; rfl
  have cF : ce.frame = X.env.frame := by subst hce; rfl
  generalize hH3 : upd H2 D (.lst []) = H3 at I3 I4 pg pt pe w0 nfp f3
  generalize hs4 : ({ s3 with heap := pushCells (s3.heap.push { cls := .type "dict", data := .dict #[] }) scope.names } : Shared) = s4 at I4 ⊢
  have st4 : tn 0 s4.heap := T.keep _ _ _ st3 fun b _ o e => hs4 ▸ pushCells_keeps _ _ _ _ (Heap.get?_push_of_some _ e)
  have err : ∀ {Q' : Value → Shared → Prop} (u : Value) (s' : Shared), (XF (X.blk s3 H3 scope ce fp) (WB W σ)) u s' → notedBy (model X.prog X.w) X.A ce (fun e s' => EndC X use Qf (.ref D) ce (.error e) s') u s' := fun {Q'} u s' x => err_out tk fr cF cL I3 (fun b hb => (f3 b hb).1) x
  have stat : ∀ {σ' : L2.St} {H' : Hp} {s' : Shared}, Inv (X.blk s3 H3 scope ce fp) [] σ' H' s' → (∀ b ∈ fp, H' b = none) → ∀ b ∈ fp, FpOk (X.blk s3 H3 scope ce fp) [] H' b := fun {σ' H' s'} I' hn b hb =>
    ⟨hn b hb, (I'.ok.exf b hb).1, I'.ok.exfs b hb, .inl hb, (I'.ok.exf b hb).2, fun p hp => absurd (show p ∈ ([] : List (Addr × Obj)) ++ [] from hp) (by simp)⟩
  have loop : codeAny (model X.prog X.w) X.A (.compLoop (.ListComp elt [⟨tg, iter, ifs, 0⟩] scope pos) 0 (.ref it) (.ref D) ce) (EndC X use Qf (.ref D) ce) s4 := by
    refine compLoop_any (fun n s' => ∃ i H', Inv (X.blk s3 H3 scope ce fp) [] (wipe σ (own.map (·.2))) H' s' ∧ tn i s'.heap ∧ (∀ b ∈ fp, H' b = none) ∧ Wm i n H') ?_ m0 ⟨0, H3, I4, st4, nfp, w0⟩
    rintro n s5 ⟨i, H5, I5, st5, n5, w5⟩
    rcases turn i n H5 w5 with ⟨stop, qq⟩ | ⟨go, Nx, hNx, step⟩
    · refine thnF (T.done (X.blk s3 H3 scope ce fp) rfl rfl rfl hc i [] s5 _ H5 (fun _ _ => False) I5 (stat I5 n5) st5 stop) fun r s6 hr6 => ?_
      obtain ⟨rfl, I6⟩ := hr6
      have I7 : Inv X pins σ H5 s6 := I3.call' (ch := fp) I6.os I6.base I6.hok I6.bare fun b hb => ⟨(f3 b hb).1.2.2.2.1, (f3 b hb).1.2.1, (f3 b hb).1.2.2.2.2.1, (f3 b hb).1.2.2.2.2.2⟩
      obtain ⟨m, hn, _⟩ := I6.loc
      have hn : s6.heap.Ns ce.locals m := hn
      have nC : H5 ce.locals = none := I6.free
      have z := hR D ce.locals s6 m H5 I7 qq hn (by rw [cL] at nC ⊢; exact I3.fpOk (Nat.le_refl _) nC)
      exact z
    · refine thnF (T.item (X.blk s3 H3 scope ce fp) rfl rfl rfl hc i [] s5 _ H5 (fun _ _ => False) I5 (stat I5 n5) st5 go) fun r s6 hr6 => ?_
      obtain ⟨u, rfl, h6⟩ := hr6
      refine thnF h6 fun _ s7 hr7 => ?_
      obtain ⟨x, H7, I7, r7, y7, st7, n7⟩ := hr7
      have I7' := I7.pinned (stat I7 n7) (T.obj _ _ st7)
      refine thnF (pg.run _ s7 _ H7 x u _ I7' r7 (step x H7 y7)) fun _ s8 hr8 => ?_
      obtain ⟨σ8, H8, I8, hw8, q8⟩ := hr8
      refine wpAny_mono (pt.run _ s8 σ8 H8 _ (I8.wish _) q8) (fun b s9 hr9 => ?_) (err (Q' := fun _ _ => True))
      obtain ⟨H9, I9, q9⟩ := hr9
      have I9 := I9.unwish
      have over : ∀ {s' : Shared} {H' : Hp}, Inv (X.blk s3 H3 scope ce fp) ([] ++ pinsAt fp s7.heap) σ8 H' s' → Nx H' → ∃ m, m < n ∧ ∃ i H', Inv (X.blk s3 H3 scope ce fp) [] (wipe σ (own.map (·.2))) H' s' ∧ tn i s'.heap ∧ (∀ b ∈ fp, H' b = none) ∧ Wm i m H' := fun {s' H'} I' nx => by
        obtain ⟨m', hm, w'⟩ := hNx H' nx
        have held : ∀ b ∈ fp, ∀ o, s7.heap.get? b = some o → s'.heap.get? b = some o ∧ H' b = none := fun b hb o e =>
          have z := I'.pin (b, o) (List.mem_append_right _ (List.mem_append_right _ (mem_pinsAt hb e)))
          ⟨z.1, z.2.1⟩
        refine ⟨m', hm, i + 1, H', (I'.unpinned (pins := [])).weak (by rw [← hw8, wipe_length]) (fun j v e => ?_), T.keep _ _ _ st7 fun b hb o e => (held b hb o e).1, fun b hb => ?_, w'⟩
        · exact (wipe_some (hw8 ▸ e)).1
        · obtain ⟨o, e, _⟩ := T.obj _ _ st7 b hb
          exact (held b hb o e).2
      cases b with
      | false =>
        simp only [Bool.false_eq_true, if_false] at q9 ⊢
        exact over I9 q9
      | true =>
        simp only [if_true] at q9 ⊢
        refine wpAny_mono (pe.run _ s9 σ8 H9 _ (I9.wish _) q9) (fun z s10 hr10 => ?_) (err (Q' := fun _ _ => True))
        obtain ⟨yv, H10, I10, r10, acc, hD10, hz10, nx⟩ := hr10
        exact app_ok (X := X.blk s3 H3 scope ce fp) I10.unwish hD10 hz10 r10 fun s11 I11 => over I11 nx
  exact codeAny_compStart_list loop (T.self X.A 0 _ _ _ st4 loop)
/-- as a value -/
theorem pe_lcX {elt tg iter : Expr} {ifs : List Expr} {scope : Scope} {own : List (Str × Nat)} {pos : Pos} {wi : TI} {g : TG} {tt : L2.St → TT} {te : L2.St → TE} (hc : X.calm = true) (hN : X.N.Nodup) (tk : Tk X W) (fr : FrOk X) (hi : PI X tg iter wi) (ok : BlkOk X.N X.env.scope scope own)
    (hg : ∀ (s : Shared) (H : Hp) (C : Addr) (cl : List (Str × Addr)) (fp : List Addr), PG (X.blk s H scope (compEnvC scope cl C X.env) fp) tg g)
    (ht : ∀ (σ : L2.St) (s : Shared) (H : Hp) (C : Addr) (cl : List (Str × Addr)) (fp : List Addr), PTs (blkX X W σ s H scope (compEnvC scope cl C X.env) fp) ifs (tt σ))
    (he : ∀ (σ : L2.St) (s : Shared) (H : Hp) (C : Addr) (cl : List (Str × Addr)) (fp : List Addr), PE (blkX X W σ s H scope (compEnvC scope cl C X.env) fp) elt (te σ)) (hs : ∀ x, foldedSetIterable iter X.env x = pure x) :
    PE X (.ListComp elt [⟨tg, iter, ifs, 0⟩] scope pos) (fun σ H Q => tLc wi g (tt σ) (te σ) (own.map (·.2)) σ H Q) := by
  refine ⟨fun pins s σ H Q I h => ?_⟩
  rw [eval_ListComp]
  refine lc_run hc hN tk fr I hi ok hg (ht σ) (he σ) hs h fun D C s' m H' I' q hn f => ⟨m, hn, fun h'' sb => ?_⟩
  obtain ⟨f0, f1, f2, f3, f4, f5⟩ := f
  exact ⟨.ref D, H', I'.turned (t' := s'.toks) (fun b o hb e => (sb.2 b hb).trans e) f0 f1 f3 f4 f5, rfl, q⟩
/-- name = [..] on one line, the name a local -/
theorem ps_setLcX {i : Nat} {y : Str} {py : Pos} {elt tg iter : Expr} {ifs : List Expr} {scope : Scope} {own : List (Str × Nat)} {pos spos : Pos} {wi : TI} {g : TG} {tt : L2.St → TT} {te : L2.St → TE} (hc : X.calm = true) (hN : X.N.Nodup) (tk : Tk X W) (fr : FrOk X) (hy : X.N[i]? = some y) (hyl : X.env.scope.names.lookup y = some .local)
    (hsw : swapsWith (.ListComp elt [⟨tg, iter, ifs, 0⟩] scope pos) (some (.Name y py)) spos.line X.env = pure true) (hi : PI X tg iter wi) (ok : BlkOk X.N X.env.scope scope own)
    (hg : ∀ (s : Shared) (H : Hp) (C : Addr) (cl : List (Str × Addr)) (fp : List Addr), PG (X.blk s H scope (compEnvC scope cl C X.env) fp) tg g)
    (ht : ∀ (σ : L2.St) (s : Shared) (H : Hp) (C : Addr) (cl : List (Str × Addr)) (fp : List Addr), PTs (blkX X W σ s H scope (compEnvC scope cl C X.env) fp) ifs (tt σ))
    (he : ∀ (σ : L2.St) (s : Shared) (H : Hp) (C : Addr) (cl : List (Str × Addr)) (fp : List Addr), PE (blkX X W σ s H scope (compEnvC scope cl C X.env) fp) elt (te σ)) (hs : ∀ x, foldedSetIterable iter X.env x = pure x) :
    PS X (.Assign [.Name y py] (.ListComp elt [⟨tg, iter, ifs, 0⟩] scope pos) spos) (tAsg (fun σ H Q => tLc wi g (tt σ) (te σ) (own.map (·.2)) σ H Q) (gName i)) := by
  refine ⟨fun pins s σ H D I h => ?_⟩
  rw [exec_Assign_Name_used _ _ _ _ hsw]
  refine wpAny_bind (wpAny_standAt (wpAny_bind ?_))
  show wpAny _ X.A (do let _ ← comprehension (.ListComp elt [⟨tg, iter, ifs, 0⟩] scope pos) scope X.env (firstIterPos [⟨tg, iter, ifs, 0⟩] pos) (newList []) false (eval iter X.env) (some (assign (.Name y py) X.env))) _ _ s
  have h : tLc wi g (tt σ) (te σ) (own.map (·.2)) σ H (fun x H1 => gName i x σ H1 D.nx) := h
  refine wpAny_bind (thn (lc_run (Qf := fun _ s' => SP X pins D .next s') hc hN tk fr I hi ok hg (ht σ) (he σ) hs h fun L C s' m H' I' q hn f => ?_) fun _ s' hq => wpAny_pure (wpAny_pure hq))
  show wpAny _ _ (assign (.Name y py) X.env (.ref L)) _ _ _
  refine wpAny_assign_Name (store_ok2 (v := V.ref L) I' hN hy (.inl hyl) rfl (fun s2 I2 ⟨a, sb, ha⟩ => ?_) (.inr hyl))
  obtain ⟨f0, f1, f2, f3, f4, f5⟩ := f
  have haC : C ≠ a := by
    rcases ha with z | z
    · rw [z]; exact f1
    · exact fun e => f4 y a z e.symm
  refine ⟨m, hn.sameBut sb haC, fun h3 sb3 => ?_⟩
  exact ⟨_, H', I2.turned (t' := s2.toks) (fun b o hb e => (sb3.2 b hb).trans e) f0 f1 f3 f4 f5, q⟩
end
end PL
namespace PL
open PySem PySem.Spec PyProof.Rows L2
/-! ### except (A, B): -/
/-- what such a clause wishes of the body's exceptions -/
def wTwo (K : PySem.W.Frag) (c1 c2 : Value) (ts : TS) (Wout : WX) (D : Ends) : WX := fun cls d σ H =>
  ∃ b, PySem.W.exmAny K cls [c1, c2] = some b ∧ (b = true → ts D σ H) ∧ (b = false → Wout cls d σ H)
theorem flying_grow {B h h' : Heap} {l : List PySem.Env} {a : Addr} {Z : Obj → Prop} (k : ∀ b o, h.get? b = some o → h'.get? b = some o) (x : HandSPX.FlyingZ B l a Z h) : HandSPX.FlyingZ B l a Z h' := by
  obtain ⟨q1, q2, q3, oe, vs, T, oT, ts, e1, e2, e3, e4, e5, e6, e7, e8⟩ := x
  exact ⟨fun b o e => k _ _ (q1 b o e), q2, Heap.FunFrames.of_keeps (fun b o e _ => ⟨o, k _ _ e, rfl⟩) q3, oe, vs, T, oT, ts, k _ _ e1, e2, e3, e4, e5, e6, k _ _ e7, e8⟩
section
variable {X : Cx} {x1 x2 : Str} {c1 c2 : Value} {body suite : List Stmt} {b₀ : Stmt} {np1 np2 tpos pos pos' : Pos} {tk0 : Nat} {tb : WX → TS} {ts : TS} {Wout : WX}
theorem ps_try_two (hs : X.stack = X.env :: X.outer) (hf : X.env.frame = some X.env.locals) (n1 : Names X x1 c1) (n2 : Names X x2 c2) (tk : Takes X Wout)
    (hb : ∀ (W : WX) (pn : List (Addr × Obj)) (xe : Value → Shared → Prop), Takes (X.tr pn xe) W → PassesOwn (model X.prog X.w) X.A X.env xe → PSs (X.tr pn xe) body (tb W))
    (hsu : ∀ (a : Addr) (oe : Obj) (pn : List (Addr × Obj)), PSs (X.suite a ((a, oe) :: pn)) (b₀ :: suite) ts) :
    PS X (.Try body [.ExceptHandler (some (.Tuple [.Name x1 np1, .Name x2 np2] tk0 tpos)) none (b₀ :: suite) pos'] [] [] pos) (fun D σ H => tb (wTwo X.K c1 c2 ts Wout D) D σ H) := by
  refine ⟨fun pins s σ H D I h => ?_⟩
  have ok := I.ok
  have hfr : X.A.frames = some (X.env :: X.outer) := by rw [ok.frames, hs]
  refine wpAny_Try_except ?_
  refine wpAny_mono ((hb (wTwo X.K c1 c2 ts Wout D) (X.pn ++ pins) (fun e s₁ => wpAny (model X.prog X.w) X.A (noteFrame e X.env) (fun _ s₂ => wpAny (model X.prog X.w) X.A (setFlight e none) (fun _ s₃ =>
    wpAny (model X.prog X.w) X.A (handleBy e X.env [.ExceptHandler (some (.Tuple [.Name x1 np1, .Name x2 np2] tk0 tpos)) none (b₀ :: suite) pos']) (SP X pins D) X.xe s₃) X.xe s₂) X.xe s₁) (fun u s' xx => ?_) PassesOwn.looking).run [] s σ H D (I.toTry _) h) (fun f s1 hsp => ?_) (fun e s1 he => he)
  · obtain ⟨a, B, sI, pins', σ', H', cls, d, rfl, J', nb, up, sky, na, os, ag, b, hb1, hyes, hno⟩ := xx
    have J : Inv X pins σ' H' sI := J'.ofTry ok
    have sky : Sky B (X.env :: X.outer) a (Zc cls d) X.env.locals s'.heap := by
      have z : Sky B X.stack a (Zc cls d) X.env.locals s'.heap := sky
      rwa [hs] at z
    show wpAny (model X.prog X.w) X.A (noteFrame (.ref a) X.env) _ _ _
    refine Sky.land Zc.steady hfr hf sky fun h3 fl3 up3 => ?_
    have J3 : Inv X pins σ' H' { s' with heap := h3 } := J.landed nb fl3.1 (up.trans up3) os ag
    have apart : ∀ {h : Heap} {o : Obj} {vs : Array Value}, h.FunFrames B (X.env :: X.outer) → h.get? a = some o → o.data = .fields vs → a ∉ frs (X.env :: X.outer) := fun {h o vs} ff e dd hm => by
      obtain ⟨_, o', e', hnf⟩ := ff.mem hm
      rw [e] at e'
      cases e'
      exact hnf _ dd
    obtain ⟨oe3, vs3, he3, hz3, hd3⟩ := fl3.there
    have nfr := apart fl3.2.2.1 he3 hd3
    have nL : a ≠ X.env.locals := fun z => nfr (List.mem_filterMap.mpr ⟨X.env, List.mem_cons_self, by rw [hf, z]⟩)
    have nF : a ∉ X.fs := fun hm => let ⟨e, he, q⟩ := List.mem_filterMap.mp hm; nfr (List.mem_filterMap.mpr ⟨e, List.mem_cons_of_mem _ he, q⟩)
    have S3 := J3.suite he3 hd3 na nL nF
    refine wpAny_handleBy_cons (codeAny_handlers_test ?_) (by intro q; cases q)
    have one : ∀ {x : Str} {c : Value} {np : Pos} {Q : Value → Shared → Prop} {E : Value → Shared → Prop}, Names X x c → Q c { s' with heap := h3 } → wpAny (model X.prog X.w) (X.A.mark (some (.ref a))) (eval (.Name x np) X.env) Q E { s' with heap := h3 } := fun {x c np Q E} hc q => by
      obtain ⟨hg, hdbg, hm | ⟨hm, hv, hnn⟩⟩ := hc
      · exact ld_glob (X := X.suite a ((a, oe3) :: (X.pn ++ pins))) S3 hg hm q hdbg
      · exact ld_blt (X := X.suite a ((a, oe3) :: (X.pn ++ pins))) S3 hg hm hv q hnn hdbg
    have kp : ∀ q o, h3.get? q = some o → (h3.push { cls := .type "tuple", data := .seq [c1, c2].toArray }).get? q = some o := fun _ _ z => Heap.get?_push_of_some _ z
    generalize hh5 : h3.push { cls := .type "tuple", data := .seq [c1, c2].toArray } = h5 at kp
    have fl5 : HandSPX.FlyingZ B (X.env :: X.outer) a (Zc cls d) h5 := flying_grow kp fl3
    have up5 : s'.heap.UpToSlots h5 := up3.trans (Heap.UpToSlots.of_keeps kp)
    have LT : PySem.W.Looks (model X.prog X.w) h5 (typeOf (.ref a)) cls := fun A Q E s k q => wpAny_typeOf_ref (k _ _ (kp _ _ he3)) (by rw [hz3.1]; exact q)
    have LM := PySem.W.exm_tup2 (M := model X.prog X.w) (tp := h3.objs.size) (J3.kIn.keeps kp) LT (by rw [← hh5]; exact Heap.get?_push_size h3 rfl) hb1
    refine wpAny_Tuple ?_
    refine wpAny_items_cons (one n1 ?_)
    refine wpAny_items_cons (one n2 ?_)
    refine wpAny_items_nil ⟨by size_fits, ?_⟩
    dsimp only
    rw [hh5]
    refine LM.here ?_
    cases b with
    | true =>
      refine codeAny_handlers_suite ?_
      refine HandSPX.lands_againZ fl5 fun h4 fl4 up4 => ?_
      have J4 : Inv X pins σ' H' { s' with heap := h4 } := J.landed nb fl4.1 ((up.trans up5).trans up4) os ag
      obtain ⟨oe4, vs4, he4, hz4, hd4⟩ := fl4.there
      have S4 := J4.suite he4 hd4 na nL nF
      refine wpAny_mono ((hsu a oe4 (X.pn ++ pins)).run [] _ _ H' _ S4 (hyes rfl)) (fun f s6 hsp => ?_) (fun _ _ z => False.elim z)
      cases f with
      | ret u => let ⟨v6, σ6, H6, S6, r6, q6⟩ := hsp; exact ⟨v6, σ6, H6, S6.unsuite ok, r6, q6⟩
      | next => let ⟨σ6, H6, S6, q6⟩ := hsp; exact ⟨σ6, H6, S6.unsuite ok, q6⟩
      | brk => let ⟨σ6, H6, S6, q6⟩ := hsp; exact ⟨σ6, H6, S6.unsuite ok, q6⟩
      | cont => let ⟨σ6, H6, S6, q6⟩ := hsp; exact ⟨σ6, H6, S6.unsuite ok, q6⟩
    | false =>
      show wpAny _ X.A (handleBy (.ref a) X.env []) _ _ _
      refine wpAny_handleBy_nil ?_
      obtain ⟨k1, k2, k3, oe, vs, T, oT, ts', he, hz, hd, h1, hr⟩ := id fl5
      unfold PySem.passOn
      refine wpAny_bind (wpAny_field he hd h1 ?_)
      rw [if_neg (show ¬ ((Value.ref T == Value.none) = true) from by simp)]
      have fin : wpAny (model X.prog X.w) X.A (setFlight (.ref a) X.env.frame) (fun _ s4 => wpAny (model X.prog X.w) X.A (throw (.ref a) : Sem Flow) (SP X pins D) X.xe s4) X.xe { s' with heap := h5 } := by
        rw [hf]
        refine HandSPX.setFlight_upZ fl5 fun h4 hh4 up4 => wpAny_throw (tk _ _ ?_)
        exact ⟨a, B, sI, pins, σ', H', cls, d, rfl, J, nb, (up.trans up5).trans up4, .inr (.inr (hs ▸ hh4)), na, os, ag, hno rfl⟩
      first
        | exact wpAny_bind (wpAny_pure (wpAny_bind fin))
        | exact wpAny_bind fin
  · cases f with
    | next => let ⟨σ', H', J', q⟩ := hsp; exact wpAny_execs_nil ⟨σ', H', J'.ofTry ok, q⟩
    | brk => let ⟨σ', H', J', q⟩ := hsp; exact ⟨σ', H', J'.ofTry ok, q⟩
    | cont => let ⟨σ', H', J', q⟩ := hsp; exact ⟨σ', H', J'.ofTry ok, q⟩
    | ret u => let ⟨v, σ', H', J', r, q⟩ := hsp; exact ⟨v, σ', H', J'.ofTry ok, r, q⟩
end
end PL
set_option maxHeartbeats 4000000
namespace PL
open PySem PySem.Spec PyProof.Rows L2
section
variable {X : Cx} {H : Hp}
/-! ### equal dicts of plain data -/
def rEqK (K : PySem.W.Frag) (b : Bool) : R2 := fun x y H Q => ∃ a c ks ls, x = .ref a ∧ y = .ref c ∧ H a = some (.dK ks) ∧ H c = some (.dK ls) ∧ ks.length = ls.length ∧
  (∀ p ∈ ks, ∃ u d, valV ls p.1 = some u ∧ Dp K H p.2 d ∧ Dp K H u d ∧ SeqAt.shaped d = true) ∧ Q (.bl b) H
theorem hitsK {pins : List (Addr × Obj)} {σ : L2.St} {s : Shared} {A : Around} (I : Inv X pins σ H s) (hu : A.in1.units + 64 < cLine) {ls : List (Key × V)} {vb : List (Key × Value)} (rb : KV ls vb) {ks : List (Key × V)} {va : List (Key × Value)} (ra : KV ks va) :
    (∀ p ∈ ks, ∃ u d, valV ls p.1 = some u ∧ Dp X.K H p.2 d ∧ Dp X.K H u d ∧ SeqAt.shaped d = true) → PySem.W.KeqHits A.in1 s vb va true := by
  unfold KV at ra
  induction ra with
  | nil => exact fun _ => .nil
  | @cons p q ps qs h t k =>
    intro hp
    obtain ⟨key, v⟩ := q
    obtain ⟨h1, h2⟩ := h
    obtain ⟨u, d, e, d1, d2, sd⟩ := hp p List.mem_cons_self
    have rr : RelO (some u) (valueAt vb p.1) := e ▸ rb.val p.1
    obtain ⟨y, hy, ry⟩ := rr.some_of
    obtain ⟨as, r1⟩ := Dp.reads I d p.2 v d1 h2
    obtain ⟨bs, r2⟩ := Dp.reads I d u y d2 ry
    have at1 := PySem.W.keq_at (A := A) r1 r2 sd sd hu
    rw [SeqAt.eqv_refl d (SeqAt.canLay_of_shaped sd)] at at1
    have hy : valueAt vb key = some y := by
      have h1 : p.1 = key := h1
      rw [← h1]; exact hy
    exact .hit hy at1 (k fun p' hm => hp p' (List.mem_cons_of_mem _ hm))
theorem op_eqK (hu : X.A.in1.units + 64 < cLine) (hu0 : X.A.units < cLine) : OpR X (compareOp .Eq) (rEqK X.K true) := by
  intro pins s σ H x y v u Q I rx ry h
  obtain ⟨a, b, ks, ls, rfl, rfl, ea, eb, hlen, hp, q⟩ := h
  obtain rfl : v = Value.ref a := rx
  obtain rfl : u = Value.ref b := ry
  obtain ⟨_, ya, va, ra, da⟩ := (show ObjOk X.prog X.w H s.heap a (.dK ks) from I.hok a _ ea)
  obtain ⟨_, yb, vb, rb, db⟩ := (show ObjOk X.prog X.w H s.heap b (.dK ls) from I.hok b _ eb)
  have hl : va.length = vb.length := by rw [← ra.length, ← rb.length]; exact hlen
  refine PySem.W.keq_eq (knd := mixKind X.prog X.w) (r := true) ya yb da db hu0 (fun _ => hitsK I hu rb ra hp) (fin_bl I q ?_)
  simp [hl]
theorem op_neK (hu : X.A.in1.units + 64 < cLine) (hu0 : X.A.units < cLine) : OpR X (compareOp .NotEq) (rEqK X.K false) := by
  intro pins s σ H x y v u Q I rx ry h
  obtain ⟨a, b, ks, ls, rfl, rfl, ea, eb, hlen, hp, q⟩ := h
  obtain rfl : v = Value.ref a := rx
  obtain rfl : u = Value.ref b := ry
  obtain ⟨_, ya, va, ra, da⟩ := (show ObjOk X.prog X.w H s.heap a (.dK ks) from I.hok a _ ea)
  obtain ⟨_, yb, vb, rb, db⟩ := (show ObjOk X.prog X.w H s.heap b (.dK ls) from I.hok b _ eb)
  have hl : va.length = vb.length := by rw [← ra.length, ← rb.length]; exact hlen
  refine PySem.W.keq_ne (knd := mixKind X.prog X.w) (r := true) ya yb da db hu0 (fun _ => hitsK I hu rb ra hp) (fin_bl I q ?_)
  simp [hl]
/-! ### a tuple once, or never -/
theorem tuple_mul1 (l : Addr) (items : Array Value) (n : Nat) (dd : Option Addr) (sl : Array (Option Value)) (u : Tok) :
    Meets (Builtin.«tuple.__mul__» ⟨[.ref l, .int 1 u], []⟩) (fun _ R s => s.heap.get? l = some { cls := .type "tuple", dict := dd, data := .seq items n, slots := sl } ∧ R (.ok (.ret (Value.ref l))) s) :=
  .of_wp fun prog w A R s h => by
    obtain ⟨hp, g, d, tk, os⟩ := s
    obtain ⟨hl, h⟩ := h
    have f1 := AutoSeq1.idx_int
    wp_walk using wpAny_loadPart' hl
    repeat (first
      | (refine wpAny_ite_false (by decide) ?_; wp_walk using wpAny_loadPart' hl)
      | (refine wpAny_ite_true (by simp) ?_; wp_walk using wpAny_loadPart' hl))
    exact ⟨_, rfl, h⟩
theorem tuple_mul0 (l : Addr) (items : Array Value) (n : Nat) (dd : Option Addr) (sl : Array (Option Value)) (x : Int) (u : Tok) (c0 : (decide (x < -(2 ^ 63)) || decide (x ≥ 2 ^ 63)) = false) (c1 : (items.isEmpty || x == 1) = false) (c2 : (decide (x ≤ 0) || items.isEmpty) = true) :
    Meets (Builtin.«tuple.__mul__» ⟨[.ref l, .int x u], []⟩) (fun _ R s => s.heap.get? l = some { cls := .type "tuple", dict := dd, data := .seq items n, slots := sl } ∧
      R (.ok (.ret (Value.ref s.heap.objs.size))) { s with heap := s.heap.push { cls := Value.type "tuple", data := Data.seq #[] }, toks := s.toks }) :=
  .of_wp fun prog w A R s h => by
    obtain ⟨hp, g, d, tk, os⟩ := s
    obtain ⟨hl, h⟩ := h
    have f1 := AutoSeq1.idx_int
    wp_walk using wpAny_loadPart' hl
    repeat (first
      | (refine wpAny_ite_false (decide_eq_false (by rw [c0]; exact Bool.false_ne_true)) ?_; wp_walk using wpAny_loadPart' hl)
      | (refine wpAny_ite_false (decide_eq_false (by rw [c1]; exact Bool.false_ne_true)) ?_; wp_walk using wpAny_loadPart' hl)
      | (refine wpAny_ite_true (by simp only [c2]; rfl) ?_; wp_walk using wpAny_loadPart' hl))
    exact ⟨_, rfl, h⟩
/-- t * k, k no more than one, t not empty -/
def rRep01 (K : PySem.W.Frag) : R2 := fun x y H Q => ∃ l k xs, x = .ref l ∧ y = .int k ∧ SqT K H l xs ∧ xs ≠ [] ∧ ((k = 1 ∧ Q (.ref l) H) ∨ (-(2 ^ 63) ≤ k ∧ k ≤ 0 ∧ ∀ p, H p = none → Q (.ref p) (upd H p (.tup []))))
theorem op_rep01 : OpR X (binaryOp .Mult) (rRep01 X.K) := by
  intro pins s σ H x y v u Q I rx ry h
  obtain ⟨l, k, xs, rfl, rfl, hT, hne, q⟩ := h
  cases rx
  obtain ⟨t, rfl⟩ := ry
  obtain ⟨its, r, ⟨⟨cls, dd, data, sl⟩, ho, hc, n, hd⟩, hs⟩ := I.tuple hT
  simp only at hc hd
  subst hc hd
  have hle : its.length = xs.length := r.length.symm
  have hi : its.toArray.isEmpty = false := by
    cases its with
    | nil => exact absurd (List.eq_nil_of_length_eq_zero hle.symm) hne
    | cons a b => rfl
  rcases q with ⟨rfl, q⟩ | ⟨k1, k2, q⟩
  · refine wpAny_binaryOp_repeat_ref (T := "tuple") (U := "int") (by decide) ⟨_, ho, rfl⟩ (fun s' => typeIs_int s' 1 t) noFill_tuple_mul F.fills_int_mul F.slot_int_rmul repeat_tuple F.slot_int_index.lookup
      (call_meets F.slot_int_rmul (typeIs_int s 1 t) F.entry_int_rmul (F.args_int_rmul_2 _ _) (int_rmul_tuple 1 t l its.toArray n dd sl)
        ⟨ho, rfl, ⟨_, ho, rfl⟩, call_meets F.slot_tuple_mul ⟨_, ho, rfl⟩ F.entry_tuple_mul (F.args_tuple_mul_2 _ _) (tuple_mul1 l its.toArray n dd sl t) ⟨ho, ?_⟩⟩)
    exact ⟨.ref l, H, I, rfl, q⟩
  · refine wpAny_binaryOp_repeat_ref (T := "tuple") (U := "int") (by decide) ⟨_, ho, rfl⟩ (fun s' => typeIs_int s' k t) noFill_tuple_mul F.fills_int_mul F.slot_int_rmul repeat_tuple F.slot_int_index.lookup
      (call_meets F.slot_int_rmul (typeIs_int s k t) F.entry_int_rmul (F.args_int_rmul_2 _ _) (int_rmul_tuple k t l its.toArray n dd sl)
        ⟨ho, rfl, ⟨_, ho, rfl⟩, call_meets F.slot_tuple_mul ⟨_, ho, rfl⟩ F.entry_tuple_mul (F.args_tuple_mul_2 _ _) (tuple_mul0 l its.toArray n dd sl k t
          (by rw [decide_eq_false (by omega), decide_eq_false (by omega)]; rfl) (by rw [hi, Bool.false_or]; exact beq_eq_false_iff_ne.mpr (by omega)) (by rw [decide_eq_true k2]; rfl)) ⟨ho, ?_⟩⟩)
    refine ⟨.ref s.heap.objs.size, _, I.laid (t' := s.toks) (o := .tup []) (fun b ob q => Heap.get?_push_of_some _ q) (Nat.le_refl _) ?_, rfl, q _ (I.hok.fresh (Nat.le_refl _))⟩
    exact ⟨Nat.zero_le _, [], .nil, IsTup.new _ _⟩
/-! ### the sum of a tuple of whole numbers -/
def rSumT (K : PySem.W.Frag) : List V → Hp → VK → Prop := fun vs H Q => ∃ (a : Addr) (ns : List Int), vs = [V.ref a] ∧ SqT K H a (ns.map V.int) ∧ Q (.int ns.sum) H
theorem cr_sumT (hc : X.calm = true) : CallR X (.builtin "sum") (rSumT X.K) := by
  intro pins s σ H vs us Q I r h
  obtain ⟨a, ns, rfl, hs, q⟩ := h
  obtain ⟨its, rv, hl, _⟩ := I.tuple hs
  rw [Vals.ref1 r]
  obtain ⟨xs, e⟩ := rv.ints.allInts.items
  have hn : numsOf (intItems xs).toList = ns := by rw [← e]; exact rv.ints.numsOf
  rw [nums_intItems] at hn
  have hl : s.heap.IsTuple a (intItems xs) := by rw [← e]; exact hl
  have lt : a < s.heap.objs.size := by obtain ⟨_, z, _⟩ := hl; exact Heap.lt_size z
  refine call_sum_walkG (wpAny_pyIter_tuple hl ?_)
  refine ⟨_, _, _, _, _, _, numAt xs, rfl, Walks.tuple (A := X.A.in1) (I.ok.hd hc) s.heap.objs.size a (Nat.ne_of_lt lt) (intItems xs), ⟨⟨_, Heap.get?_push_size _ rfl, rfl, rfl⟩, ?_⟩, fun b hb => ?_, fun _ _ => intItems_at, fun h' tk t' hk => ?_⟩
  · obtain ⟨o, z, rest⟩ := hl
    exact ⟨o, Heap.get?_push_of_some _ z, rest⟩
  · show b < (s.heap.push _).objs.size
    rw [Heap.size_push]
    rcases List.mem_cons.mp hb with rfl | hb
    · exact Nat.lt_succ_self _
    · rw [List.mem_singleton.mp hb]
      exact Nat.lt_succ_of_lt lt
  · have ex : preSum (numAt xs) (intItems xs).size = ns.sum := by
      rw [preSum_eq, List.take_of_length_le (by simp [intItems]), hn]
    rw [ex]
    refine ⟨.int ns.sum, H, I.kept (t' := tk) fun b o z => hk b o (fun hm => ?_) (Heap.get?_push_of_some _ z), ⟨_, rfl⟩, q⟩
    rw [List.mem_singleton.mp hm] at z
    exact absurd (Heap.lt_size z) (Nat.lt_irrefl _)
/-! ### list(range(..)) -/
/-- an expression that makes a range -/
def PRc (X : Cx) (e : Expr) (t : L2.St → Hp → (Int → Int → Int → Hp → Prop) → Prop) : Prop :=
  ∀ (pins : List (Addr × Obj)) (s : Shared) (σ : L2.St) (H : Hp) (Q : Int → Int → Int → Hp → Prop), Inv X pins σ H s → t σ H Q →
    wpAny (model X.prog X.w) X.A (eval e X.env) (fun x s' => ∃ r lo hi c t u v H', x = .ref r ∧ IsRange s'.heap r lo hi c t u v ∧ Inv X pins σ H' s' ∧ Q lo hi c H') X.xe s
/-- the range that these arguments tell -/
def RgA (vs : List V) (lo hi c : Int) : Prop := (vs = [.int hi] ∧ lo = 0 ∧ c = 1) ∨ (vs = [.int lo, .int hi] ∧ c = 1) ∨ (vs = [.int lo, .int hi, .int c] ∧ c ≠ 0 ∧ c.natAbs < 1073741824)
def tRc (ta : TA) : L2.St → Hp → (Int → Int → Int → Hp → Prop) → Prop := fun σ H Q => ta σ H fun vs H1 => ∃ lo hi c, RgA vs lo hi c ∧ Q lo hi c H1
theorem prc {a : Expr} {es : List Expr} {ta : TA} {p pos : Pos} (hg : Gl X "range") (hm : X.mg "range" = none) (ha : PA X (a :: es) ta) (hs : starEach (a :: es) X.env = (false, eval a X.env) :: starEach es X.env) (hpl : (backTo pos (starEach es X.env)).any (·.1) = false) :
    PRc X (.Call (.Name "range" p) (a :: es) [] pos) (tRc ta) := by
  intro pins s σ H Q I h
  refine Call_ (ld_blt I hg hm boot_range (PyProof.Rows.callWith_type1 (thn (ha.run pos pins s σ H _ I h) fun us s1 ⟨vs, H1, I1, r1, q1⟩ => ?_) hs hpl))
  obtain ⟨lo, hi, c, z, q⟩ := q1
  rcases z with ⟨rfl, rfl, rfl⟩ | ⟨rfl, rfl⟩ | ⟨rfl, c0, c1⟩
  · obtain ⟨u, rfl, t, rfl⟩ := vals1 r1
    exact call_range_1 ⟨_, 0, hi, 1, _, _, _, H1, rfl, IsRange.new _ _ _ _ _ _ _, I1.kept fun b u e => Heap.get?_push_of_some _ e, q⟩
  · obtain ⟨u1, u2, rfl, ⟨t, rfl⟩, ⟨t', rfl⟩⟩ := vals2 r1
    exact call_range_2 ⟨_, lo, hi, 1, _, _, _, H1, rfl, IsRange.new _ _ _ _ _ _ _, I1.kept fun b u e => Heap.get?_push_of_some _ e, q⟩
  · cases r1 with | cons g1 r1 => cases r1 with | cons g2 r1 => cases r1 with | cons g3 r1 =>
    cases r1
    obtain ⟨t, rfl⟩ := g1
    obtain ⟨t', rfl⟩ := g2
    obtain ⟨t'', rfl⟩ := g3
    exact call_range_3 c0 ⟨_, lo, hi, c, _, _, _, H1, rfl, IsRange.new _ _ _ _ _ _ _, I1.kept fun b u e => Heap.get?_push_of_some _ e, q⟩ (.inl (PyProof.noPylong_small c1))
def tLstRc (te : L2.St → Hp → (Int → Int → Int → Hp → Prop) → Prop) : TE := fun σ H Q => te σ H fun lo hi c H1 => ∃ n : Nat, Builtin.Range.small lo hi c = true ∧ Builtin.Range.rangeSize lo hi c = n ∧ n ≤ 2 ^ 24 ∧ ∀ q, H1 q = none → Q (.ref q) (upd H1 q (.lst ((List.range n).map fun (i : Nat) => V.int (lo + i * c))))
theorem pe_listRc {e : Expr} {te : L2.St → Hp → (Int → Int → Int → Hp → Prop) → Prop} {p pos : Pos} (hc : X.calm = true) (hg : Gl X "list") (hm : X.mg "list" = none) (he : PRc X e te) (na : starEach [e] X.env = (false, eval e X.env) :: starEach [] X.env) : PE X (.Call (.Name "list" p) [e] [] pos) (tLstRc te) := by
  refine ⟨fun pins s σ H Q I h => ?_⟩
  refine Call_ (ld_blt I hg hm (by decide +kernel : bootBuiltins "list" = some (.type "list")) (PyProof.Rows.callWith_type1 (args_cons (thn (he pins s σ H _ I h) fun x s1 ⟨r, lo, hi, c, t, u, v, H1, ex, hr, I1, n, ok, hn, hz, q⟩ => args_nil ?_) na) na))
  subst ex
  refine call_list_range (n := n) (I1.ok.hd hc) hr ok hn hz fun h' tk acc c' hk e' hi => ?_
  have vs : Vals ((List.range n).map fun (i : Nat) => V.int (lo + i * c)) acc.toList := by
    have e : acc.toList.length = n := by rw [Array.length_toList]; exact hi.1
    rw [← e]
    refine vals_of_get acc.toList _ fun j u hj => ?_
    obtain ⟨t, rfl⟩ := hi.2 j u (by rw [← hj, Array.getElem?_toList])
    exact ⟨t, rfl⟩
  refine ⟨.ref s1.heap.objs.size, upd H1 s1.heap.objs.size _, I1.laid hk (Nat.le_refl _) (show ObjOk X.prog X.w _ _ _ (.lst ((List.range n).map fun (i : Nat) => V.int (lo + i * c))) from ⟨?_, acc.toList, c', vs, ?_⟩), rfl, q _ (I1.hok.fresh (Nat.le_refl _))⟩
  · rw [List.length_map, List.length_range, sizeLine_eq]; omega
  · rw [Array.toArray_toList]; exact e'
end
end PL

set_option Elab.async false
set_option linter.all false
set_option maxRecDepth 100000
set_option maxHeartbeats 1000000
/-! PLR: dicts with tuple keys: a walk over items(), d.get, truth; min of lists of numbers and tuples of them; count of pairs. -/
namespace PL
open PySem PySem.Spec PyProof.Rows L2
section
variable {X : Cx} {pins : List (Addr × Obj)} {σ : L2.St} {H : Hp} {s : Shared} {d : Addr} {o : Obj}
/-- a locked dict with tuple keys, as it lies -/
theorem frzT2 {kvs : List (List Key × V)} (I : Inv X pins σ H s) (h : H d = some (.frz o (.dT kvs))) :
    (d == sysModules) = false ∧ s.heap.get? d = some o ∧ o.ExactDict ∧ ∃ (es : Array DictEntry) (ep : Nat), o.data = .dict es ep ∧ es.size = kvs.length ∧
      ∀ (i : Nat) (k : List Key) (v : V), kvs[i]? = some (k, v) → ∃ (en : DictEntry) (q : Addr), es[i]? = some en ∧ en.key = .ref q ∧ H q = some (.tup (k.map kV)) ∧ RelV v en.val := by
  obtain ⟨hd, z, hs, xs, pr, o', es, ep, ho, hx, hdt, he, _⟩ := I.hok d _ h
  rw [hd] at ho
  cases ho
  refine ⟨hs, hd, hx, es, ep, hdt, ?_, fun i k v e => ?_⟩
  · have l1 : es.size = xs.length := size_of_entries he
    have l2 : kvs.length = xs.length := Paired.length pr
    omega
  · obtain ⟨b, hb, e1, e2, e3⟩ := paired_get pr e
    have q := entry_at he i
    rw [hb] at q
    exact ⟨_, b.2.1, q, rfl, e2, e3⟩
end
/-- the pairs of a locked dict with tuple keys, each a new tuple -/
def Itit (d : Addr) (o : Obj) (kvs : List (List Key × V)) : It :=
  ⟨fun i H => H d = some (.frz o (.dT kvs)) ∧ i < kvs.length, fun i H x H' => ∃ T k v q, kvs[i]? = some (k, v) ∧ x = .ref T ∧ H T = none ∧ H q = some (.tup (k.map kV)) ∧ H' = upd H T (.tup [.ref q, v]), fun i H => H d = some (.frz o (.dT kvs)) ∧ kvs.length ≤ i⟩
section
variable {P : Program} {w : World} {K : PySem.W.Frag} {d : Addr} {o : Obj} {es : Array DictEntry} {ep : Nat}
theorem turn_itemsT {kvs : List (List Key × V)} {elts : List Expr} {kk : Nat} {tpos : Pos} (it : Addr) (hod : o.data = .dict es ep) :
    Turn P w K (.Tuple elts kk tpos) (Itit d o kvs) [it] it (fun i h => ∃ ok ov, IsItemIter h it d i kvs.length ep ok ov) where
  mem := by simp
  obj := fun i h st b hb => by
    have e : b = it := by simpa using hb
    subst e
    obtain ⟨ok, ov, e⟩ := st
    exact ⟨_, e, fun v z => nomatch z⟩
  keep := fun i h h' st k => let ⟨ok, ov, e⟩ := st; ⟨ok, ov, k it (by simp) _ e⟩
  item := by
    intro X hP hw hK hc i pins s σ H E I hf st hg
    subst hP hw hK
    obtain ⟨hd, hi⟩ := hg
    obtain ⟨hs, hgd, hx, es', ep', hdt, hsz, ent⟩ := frzT2 I hd
    obtain ⟨rfl, rfl⟩ := dict_ep hod hdt
    obtain ⟨⟨k, v⟩, hkv⟩ : ∃ p, kvs[i]? = some p := ⟨kvs[i], List.getElem?_eq_getElem hi⟩
    obtain ⟨en, q, hen, hkey, hq, rv⟩ := ent i k v hkv
    obtain ⟨ok, ov, he⟩ := st
    rw [← hsz] at he
    have hlt : it < s.heap.objs.size := Heap.lt_size he
    have hie : i < es'.size := by rw [hsz]; exact hi
    have een : es'[i] = en := by
      rw [Array.getElem?_eq_getElem hie] at hen
      exact Option.some.inj hen
    refine DT.nextI he ⟨o, hgd, hx, hdt⟩ hie fun h' ho hT hz hk => ?_
    rw [een, hkey] at ho hT
    refine ⟨_, rfl, wpAny_letOwnedTupleGo_items (s := { s with heap := h' }) ho fun h'' he' sb => ?_⟩
    have hT2 : h''.get? s.heap.objs.size = some { cls := .type "tuple", data := .seq #[.ref q, en.val] } := (sb.2 _ (Nat.ne_of_gt hlt)).trans hT
    have new : ObjOk X.prog X.w (upd H s.heap.objs.size (.tup [.ref q, v])) h'' s.heap.objs.size (.tup [.ref q, v]) :=
      ⟨by show 2 ≤ sizeLine; decide, [.ref q, en.val], .cons rfl (.cons rv .nil), ⟨_, hT2, rfl, _, rfl⟩⟩
    have I1 : Inv X pins σ (upd H s.heap.objs.size (.tup [.ref q, v])) { s with heap := h'' } :=
      I.turnedNew (t' := s.toks) (ch := [it]) (fun b ob hb e => (sb.2 b (by simpa using hb)).trans (hk b ob (by simpa using hb) e)) hf (Nat.le_refl _) new
    refine ⟨.ref s.heap.objs.size, _, I1, rfl, ⟨_, k, v, q, hkv, rfl, I.hok.fresh (Nat.le_refl _), hq, rfl⟩, ⟨.ref q, en.val, ?_⟩, fun b hb => ?_⟩
    · rw [← hsz]; exact he'
    · have e : b = it := by simpa using hb
      rw [e, upd_ne (Nat.ne_of_lt hlt)]
      exact (hf it (by simp)).1
  done := by
    intro X hP hw hK hc i pins s σ H E I hf st hg
    subst hP hw hK
    obtain ⟨hd, hi⟩ := hg
    obtain ⟨f0, f1, f2, f3, f4, f5⟩ := hf it (by simp)
    obtain ⟨hs, hgd, hx, es', ep', hdt, hsz, ent⟩ := frzT2 I hd
    obtain ⟨rfl, rfl⟩ := dict_ep hod hdt
    obtain ⟨ok, ov, he⟩ := st
    rw [← hsz] at he
    exact DT.endI (I.ok.hd hc) he ⟨o, hgd, hx, hdt⟩ (by omega) fun h' eb => ⟨rfl, I.turned (t' := s.toks) (fun b ob hb e => eb b ob hb e) f0 f1 f3 f4 f5⟩
  self := fun A i s Q E st h => let ⟨_, _, e⟩ := st; PySem.W.kcp_self e h
end
section
variable {X : Cx} {e : Expr} {td : TE} {apos cpos : Pos}
def iItemsT (td : TE) : TI := fun σ H R => td σ H fun x H1 => ∃ d o kvs, x = .ref d ∧ H1 d = some (.frz o (.dT kvs)) ∧ R (Itit d o kvs) H1
theorem pi_itemsT {elts : List Expr} {kk : Nat} {tpos : Pos} (he : PE X e td) (hbase : attributeBase e "items" X.env (eval e X.env) = eval e X.env := by rfl) (hline : (apos.endLine == cpos.line) = true := by rfl) :
    PI X (.Tuple elts kk tpos) (.Call (.Attribute e "items" apos) [] [] cpos) (iItemsT td) := by
  refine ⟨fun pins s σ H R I h => ?_⟩
  refine wpAny_Call_method (T := "dict") (id := "dict.items") hbase rfl hline F.plainAttrs_dict F.slot_dict_items F.type_dict_items (thn (he.run pins s σ H _ I h) fun u s1 ⟨x, H1, I1, rx, d, o, kvs, ex, hd, q⟩ => ?_)
  subst ex
  obtain rfl : u = Value.ref d := rx
  obtain ⟨hs, hgd, hx, es, ep, hdt, hsz, ent⟩ := frzT2 I1 hd
  have raw : DT.Raw s1.heap d es ep := ⟨o, hgd, hx, hdt⟩
  refine ⟨raw.typeIs, fun a ea => ⟨o, by cases ea; exact hgd, hx.2.1⟩, ?_⟩
  have I2 : Inv X pins σ H1 { s1 with heap := s1.heap.push { cls := .type "dict_items", data := .fields #[.ref d] } } := I1.kept (t' := s1.toks) fun b ob q => Heap.get?_push_of_some _ q
  have fin : wpAny (model X.prog X.w) X.A (pyIter (.ref s1.heap.objs.size)) (PIE X pins σ (.Tuple elts kk tpos) R) X.xe { s1 with heap := s1.heap.push { cls := .type "dict_items", data := .fields #[.ref d] } } := by
    refine DT.iterI (d := d) (es := es) (ep := ep) ⟨_, Heap.get?_push_size _ rfl, rfl, rfl⟩ (raw.push _) (pi_one (tk := s1.toks) I2 _ (turn_itemsT _ hdt) ⟨.none, .none, ?_⟩ q)
    rw [← hsz]
    exact Heap.get?_push_size _ rfl
  show wpAny _ _ (callWith cpos (.builtin "dict.items") [.ref d] [] []) _ X.xe s1
  exact method_meetsIn F.slot_dict_items F.entry_dict_items rfl (PySem.evalArgs_none ⟨rfl, raw.typeIs, F.args_dict_items_1 _, _, DT.meetsItems (es := es) (ep := ep) hs, ⟨raw, fin⟩⟩)
end
end PL
namespace PySem
section
variable {prog : Program} {w : World} {K : Type} [DecidableEq K] {knd : HeapKind prog w K} {A : Around} {E : Value → Shared → Prop} {s : Shared}
theorem truthy_dictH {d : Addr} {xs : List (K × Addr × Value)} {Q : Bool → Shared → Prop} (hd : (d == sysModules) = false) (hm : s.heap.DictOfH knd d xs) (hfit : (xs.length : Int) < 2 ^ 63)
    (h : Q (!xs.isEmpty) { s with toks := s.toks + 1 + 1 }) : wpAny (model prog w) A (truthy (.ref d)) Q E s := by
  have hne : ((xs.length : Int) != 0) = !xs.isEmpty := by cases xs <;> simp <;> omega
  have key : wpAny (model prog w) A (runValue (.builtin "len" ⟨[.ref d], []⟩)) (fun r s' => r = .int xs.length (s.toks + 1) ∧ Q (!xs.isEmpty) s') E s := by
    refine wpAny_runValue (codeAny_builtin entry_len ?_)
    rw [Around.under_plainId plain_len _]
    exact wpAny_mono (wpAny_len_body_dictH (Q := fun r s' => r = .int xs.length (s.toks + 1) ∧ Q (!xs.isEmpty) s') hd hm hfit ⟨rfl, h⟩)
      (fun fin s' h' => by obtain ⟨r, rfl, hq⟩ := h'; exact hq) fun _ _ e => e
  unfold truthy
  first
    | refine wpAny_bind (wpAny_callSpecial?_none (name := Str.ofString "__bool__") hm.typeIs noBool_dict ?_)
    | refine wpAny_bind (wpAny_pure (wpAny_bind (wpAny_callSpecial?_none (name := Str.ofString "__bool__") hm.typeIs noBool_dict ?_)))
  first
    | refine wpAny_bind (wpAny_specialOf (name := Str.ofString "__len__") hm.typeIs F.slot_dict_len.lookup ?_)
    | refine wpAny_bind (wpAny_pure (wpAny_bind (wpAny_specialOf (name := Str.ofString "__len__") hm.typeIs F.slot_dict_len.lookup ?_)))
  first
    | exact wpAny_bind (wpAny_mono key (fun r s' h' => by obtain ⟨rfl, hq⟩ := h'; exact wpAny_pure (hne ▸ hq)) fun _ _ e => e)
    | exact wpAny_bind (wpAny_pure (wpAny_bind (wpAny_mono key (fun r s' h' => by obtain ⟨rfl, hq⟩ := h'; exact wpAny_pure (hne ▸ hq)) fun _ _ e => e)))
end
end PySem
namespace PL
open PySem PySem.Spec PyProof.Rows L2
section
variable {X : Cx}
theorem tru_okT : TruR X (fun x H Q => ∃ p kvs, x = .ref p ∧ H p = some (.dT kvs) ∧ Q (!kvs.isEmpty) H) := by
  intro pins s σ H x v Q I rx h
  obtain ⟨p, kvs, rfl, hp, q⟩ := h
  cases rx
  obtain ⟨z, hd, ys, rel, dd⟩ := dt_of I.hok hp
  have hl : kvs.length = ys.length := Paired.length rel
  have e : (!ys.isEmpty) = !kvs.isEmpty := by cases kvs <;> cases ys <;> first | rfl | cases hl
  exact truthy_dictH hd dd (by rw [← hl]; rw [sizeLine_eq] at z; omega) ⟨H, I.tok _, by rw [e]; exact q⟩
/-- a tuple of ints and texts, wherever it lies, is a key -/
theorem key_ofS {pins : List (Addr × Obj)} {σ : L2.St} {H : Hp} {s : Shared} {a : Addr} {ks : List Key} (I : Inv X pins σ H s) (h : SqT X.K H a (ks.map kV)) : (tupleKind (mixKind X.prog X.w)).is s.heap ks a := by
  obtain ⟨its, r, ⟨o, h1, h2, n, h3⟩, _⟩ := I.tuple h
  exact ⟨o, its.toArray, n, h1, h2, h3, by simpa using items_are r⟩
theorem mt_dgetT (hu : X.A.units + 1 < cLine) : MtR X "dict.get" (fun x xs H Q => ∃ a kvs k b d, x = .ref a ∧ H a = some (.dT kvs) ∧ xs = [.ref b, d] ∧ SqT X.K H b (k.map kV) ∧ Q ((valV kvs k).getD d) H) := by
  intro pins s σ H x xs v us Q I rx rs h
  obtain ⟨a, kvs, k, b, d, rfl, hr, rfl, hb, q⟩ := h
  cases rx
  obtain ⟨u, u', rfl, ru, ru'⟩ := vals2 rs
  cases (show u = Value.ref b from ru)
  obtain ⟨z, hd, ys, rel, dd⟩ := dt_of I.hok hr
  refine call_meetsIn PySem.F.slot_dict_get dd.typeIs PySem.F.entry_dict_get (PySem.F.args_dict_get_3 _ _ _) (meetsH_dict_get_default (tupleKind (mixKind X.prog X.w)) a b hd u') ⟨tupleKind_room_in1 hu, k, ys, key_ofS I hb, dd, ?_⟩
  exact ⟨_, H, I.tok _, (rel.val k).getD ru', q⟩
/-! ### min, max, count of data with a type -/
section
variable {α : Type} [DecidableEq α]
theorem toD_inj [PySem.W.Datum α] {a b : α} (h : PySem.W.Datum.toD a = PySem.W.Datum.toD b) : a = b := by
  have e := PySem.W.Datum.eqv a b
  rw [h, PySem.W.Datum.eqv b b] at e
  simpa using e
theorem holds_inj [PySem.W.Datum α] {h : Heap} {v : Value} {a b : α} (p : PySem.W.Holds h v a) (q : PySem.W.Holds h v b) : a = b := by
  obtain ⟨as, r⟩ := p
  obtain ⟨bs, r'⟩ := q
  exact toD_inj (PySem.SeqAt.plain_unique _ _ _ _ _ (PySem.W.Datum.plain a) r r')
/-- wherever H stands v holds x -/
def HoldV [PySem.W.Datum α] (X : Cx) (H : Hp) (v : V) (x : α) : Prop := ∀ (pins : List (Addr × Obj)) (σ : L2.St) (s : Shared) (u : Value), Inv X pins σ H s → RelV v u → PySem.W.Holds s.heap u x
def HoldVs [PySem.W.Datum α] (X : Cx) (H : Hp) (vs : List V) (xs : List α) : Prop := ∀ (pins : List (Addr × Obj)) (σ : L2.St) (s : Shared) (us : List Value), Inv X pins σ H s → Vals vs us → PySem.W.HoldAll s.heap us xs
theorem HoldVs.nil [PySem.W.Datum α] {H : Hp} : HoldVs X H [] ([] : List α) := fun pins σ s us I r => by
  cases r
  exact PySem.W.HoldAll.nil
theorem HoldVs.cons [PySem.W.Datum α] {H : Hp} {v : V} {x : α} {vs : List V} {xs : List α} (p : HoldV X H v x) (q : HoldVs X H vs xs) : HoldVs X H (v :: vs) (x :: xs) := fun pins σ s us I r => by
  cases r with
  | cons r rs => exact PySem.W.HoldAll.cons (p pins σ s _ I r) (q pins σ s _ I rs)
theorem hold_int {H : Hp} (i : Int) : HoldV X H (.int i) i := fun pins σ s u I r => by
  obtain ⟨t, rfl⟩ := (r : ∃ t, u = Value.int i t)
  exact PySem.W.holds_int i t
theorem hold_pair {β : Type} [DecidableEq β] [PySem.W.Datum α] [PySem.W.Datum β] {H : Hp} {a : Addr} {v w : V} {x : α} {y : β} (h : SqT X.K H a [v, w]) (p : HoldV X H v x) (q : HoldV X H w y) : HoldV X H (.ref a) (x, y) := fun pins σ s u I r => by
  cases (show u = Value.ref a from r)
  obtain ⟨its, rv, ht, _⟩ := I.tuple h
  obtain ⟨u1, u2, rfl, r1, r2⟩ := vals2 rv
  exact PySem.W.holds_pair ht (p pins σ s _ I r1) (q pins σ s _ I r2)
theorem call_minL [PySem.W.DatumOrd α] (hc : X.calm = true) (hu : X.A.units + 1 + PySem.W.Datum.depth α < cLine) : CallR X (.builtin "min") (fun as H Q => ∃ (a : Addr) (vs : List V) (x : α) (xs : List α), as = [.ref a] ∧ SqL X.K H a vs ∧ HoldVs X H vs (x :: xs) ∧ ∀ (i : Nat) (v : V), vs[i]? = some v → (x :: xs)[i]? = some (PySem.W.minOf x xs) → Q v H) := by
  intro pins s σ H xs us Q I r h
  obtain ⟨a, vs, x, ys, rfl, hq, hh, q⟩ := h
  obtain rfl := Vals.ref1 r
  obtain ⟨its, rv, pl, hz⟩ := I.list hq
  refine PySem.W.min_list_datum (x := x) (xs := ys) (I.ok.hd hc) pl.isList (by simpa using hh pins σ s its I rv) hu fun i v h' tk hi hv hk => ?_
  have hi' : its[i]? = some v := by simpa using hi
  obtain ⟨t, ht, hvt⟩ := (hh pins σ s its I rv).at hi'
  have e : t = PySem.W.minOf x ys := holds_inj (hvt.keeps hk) hv
  have hl : i < vs.length := by rw [rv.length]; exact (List.getElem?_eq_some_iff.mp hi').1
  obtain ⟨w, hw⟩ : ∃ w, vs[i]? = some w := ⟨vs[i], List.getElem?_eq_getElem hl⟩
  obtain ⟨u, hu', ru⟩ := rv.get hw
  rw [hi'] at hu'; cases hu'
  exact ⟨w, H, I.kept (t' := tk) hk, ru, q i w hw (by rw [ht, e])⟩
theorem call_maxL [PySem.W.DatumOrd α] (hc : X.calm = true) (hu : X.A.units + 1 + PySem.W.Datum.depth α < cLine) : CallR X (.builtin "max") (fun as H Q => ∃ (a : Addr) (vs : List V) (x : α) (xs : List α), as = [.ref a] ∧ SqL X.K H a vs ∧ HoldVs X H vs (x :: xs) ∧ ∀ (i : Nat) (v : V), vs[i]? = some v → (x :: xs)[i]? = some (PySem.W.maxOf x xs) → Q v H) := by
  intro pins s σ H xs us Q I r h
  obtain ⟨a, vs, x, ys, rfl, hq, hh, q⟩ := h
  obtain rfl := Vals.ref1 r
  obtain ⟨its, rv, pl, hz⟩ := I.list hq
  refine PySem.W.max_list_datum (x := x) (xs := ys) (I.ok.hd hc) pl.isList (by simpa using hh pins σ s its I rv) hu fun i v h' tk hi hv hk => ?_
  have hi' : its[i]? = some v := by simpa using hi
  obtain ⟨t, ht, hvt⟩ := (hh pins σ s its I rv).at hi'
  have e : t = PySem.W.maxOf x ys := holds_inj (hvt.keeps hk) hv
  have hl : i < vs.length := by rw [rv.length]; exact (List.getElem?_eq_some_iff.mp hi').1
  obtain ⟨w, hw⟩ : ∃ w, vs[i]? = some w := ⟨vs[i], List.getElem?_eq_getElem hl⟩
  obtain ⟨u, hu', ru⟩ := rv.get hw
  rw [hi'] at hu'; cases hu'
  exact ⟨w, H, I.kept (t' := tk) hk, ru, q i w hw (by rw [ht, e])⟩
theorem mt_cntL [PySem.W.Datum α] (hu : X.A.units + 1 + PySem.W.Datum.depth α < cLine) : MtR X "list.count" (fun x as H Q => ∃ (a : Addr) (vs : List V) (v : V) (zs : List α) (z : α), x = .ref a ∧ as = [v] ∧ SqL X.K H a vs ∧ HoldVs X H vs zs ∧ HoldV X H v z ∧ Q (.int ((zs.countP fun y => decide (y = z) : Nat) : Int)) H) := by
  intro pins s σ H x xs v us Q I rx rs h
  obtain ⟨a, vs, w, zs, z, rfl, rfl, hq, h1, h2, q⟩ := h
  cases (show v = Value.ref a from rx)
  obtain ⟨u, rfl, ru⟩ := vals1 rs
  obtain ⟨its, rv, pl, hz⟩ := I.list hq
  exact PySem.W.count_list_datum (xs := zs) (x := z) pl.isList (by simpa using h1 pins σ s its I rv) (h2 pins σ s u I ru) hu ⟨.int _, H, I.tok _, ⟨_, rfl⟩, q⟩
end
end
end PL

set_option Elab.async false
set_option linter.all false
set_option maxRecDepth 100000
/-! PLA: a small evaluator over plain data: what a def computes, as a function. -/
namespace PL
open PySem

abbrev Ky := Sum Int Str
inductive D where
  | non | bl (b : Bool) | int (i : Int) | str (x : Str) | tup (xs : List D) | lst (xs : List D) | dct (kvs : List (Ky × D)) | ref (n : Nat) | scr (ns : List Int)
inductive Ob where
  | lst (xs : List D) | dct (kvs : List (Ky × D)) | dtt (kvs : List (List Ky × D)) | ins (c : Nat) (fs : List (Nat × D)) | lck (kvs : List (Ky × D)) | lct (kvs : List (List Ky × D))
abbrev Store := List Ob
abbrev Env := List (Option D)

inductive R (α : Type) where
  | ok (a : α) (S : Store) | ex (c : Nat) (S : Store) | bad
def R.bind {α β : Type} (r : R α) (f : α → Store → R β) : R β := match r with
  | .ok a S => f a S
  | .ex c S => .ex c S
  | .bad => .bad
@[simp] theorem R.bind_ok {α β : Type} (a : α) (S : Store) (f : α → Store → R β) : (R.ok a S).bind f = f a S := rfl
@[simp] theorem R.bind_ex {α β : Type} (c : Nat) (S : Store) (f : α → Store → R β) : (R.ex c S).bind f = .ex c S := rfl
@[simp] theorem R.bind_bad {α β : Type} (f : α → Store → R β) : (R.bad : R α).bind f = .bad := rfl
def R.of {α : Type} (o : Option α) (S : Store) : R α := match o with
  | some a => .ok a S
  | none => .bad
@[simp] theorem R.of_some {α : Type} (a : α) (S : Store) : R.of (some a) S = .ok a S := rfl
@[simp] theorem R.of_none {α : Type} (S : Store) : R.of (none : Option α) S = .bad := rfl
inductive RS where
  | nx (env : Env) (S : Store) | rt (d : D) (S : Store) | ex (c : Nat) (env : Env) (S : Store) | bad
def RS.andThen (r : RS) (f : Env → Store → RS) : RS := match r with
  | .nx env S => f env S
  | r => r
@[simp] theorem RS.andThen_nx (env : Env) (S : Store) (f) : (RS.nx env S).andThen f = f env S := rfl
@[simp] theorem RS.andThen_rt (d : D) (S : Store) (f) : (RS.rt d S).andThen f = .rt d S := rfl
@[simp] theorem RS.andThen_ex (c : Nat) (env : Env) (S : Store) (f) : (RS.ex c env S).andThen f = .ex c env S := rfl
@[simp] theorem RS.andThen_bad (f) : RS.bad.andThen f = .bad := rfl
/-- nothing is raised in an except suite -/
def RS.calm (r : RS) : RS := match r with
  | .ex _ _ _ => .bad
  | r => r
@[simp] theorem RS.calm_nx (env : Env) (S : Store) : (RS.nx env S).calm = .nx env S := rfl
@[simp] theorem RS.calm_rt (d : D) (S : Store) : (RS.rt d S).calm = .rt d S := rfl
/-- a value within a statement -/
def R.stm {α : Type} (r : R α) (env : Env) (f : α → Store → RS) : RS := match r with
  | .ok a S => f a S
  | .ex c S => .ex c env S
  | .bad => .bad
@[simp] theorem R.stm_ok {α : Type} (a : α) (S : Store) (env f) : (R.ok a S).stm env f = f a S := rfl
@[simp] theorem R.stm_ex {α : Type} (c : Nat) (S : Store) (env) (f : α → Store → RS) : (R.ex c S).stm env f = .ex c env S := rfl
@[simp] theorem R.stm_bad {α : Type} (env) (f : α → Store → RS) : (R.bad : R α).stm env f = .bad := rfl

inductive BOp where | add | sub | mul | mod | fdiv deriving DecidableEq
inductive COp where | eq | ne | lt | le | gt | ge | inn | nin | iss | nis deriving DecidableEq
inductive Bf where | len | all | any | sum | tuple | list | sorted | str | int | max | min deriving DecidableEq
inductive Bm where | append | split | join | partition | find | index | startswith | upper | pop | get | setdefault | count | popL deriving DecidableEq
inductive BX where | min | max deriving DecidableEq
inductive BY where | get | count deriving DecidableEq
inductive IK where | plain | rng1 | rng2 | rng3 | enum | zip | items | keys | keysR deriving DecidableEq
inductive Tg where | one (i : Nat) | many (is : List Nat)

inductive E where
  | var (i : Nat) | con (d : D) | glb (j : Nat)
  | bin (o : BOp) (a b : E) | cmp (o : COp) (a b : E) | chain (o o' : COp) (a b c : E) | isn (a : E) | ntn (a : E) | isb (a : E) (k : Bool) | nsb (a : E) (k : Bool)
  | neg (a : E) | nt (a : E) | and (a b : E) | or (a b : E) | ite (c a b : E) | isa (a : E) (t : Nat)
  | call (f : Nat) (as : E) | meth (c : Nat) (o : E) (m : Nat) (as : E) | mk (c : Nat) (as : E) | bf (f : Bf) (as : E) | bm (m : Bm) (o as : E)
  | ix (a i : E) | sl (a lo hi : E) | sl3 (a lo hi : E) (st : Int) | fld (c : Nat) (o : E) (f : Nat) | tup (as : E) | lst (as : E) | dict0 | dict (ks vs : E)
  | comp (k : IK) (src : E) (tg : Tg) (cond elt : E) | fstr (as : E) | fmt (e : E) | new (e : E)
  | nil | cons (a as : E) | emp | one (e : E) | val (e : E) | din (ng : Bool) (a b : E) | dix (a i : E) | lrng (k : IK) (as : E)
  | dT0 | compT (v : E) (is : List Nat) (e : E) | tdT (a : E) | bfX (f : BX) (as : E) | bmX (m : BY) (o as : E)
inductive T where
  | nil | asg (i : Nat) (e : E) (k : T) | asgT (is : List Nat) (e : E) (k : T) | exp (e : E) (k : T) | fldS (c : Nat) (o : E) (f : Nat) (e : E) (k : T) | setI (o i e : E) (k : T) | setT (o a lo e : E) (k : T)
  | ret (e : E) | ifs (c : E) (a b k : T) | whl (c : E) (b k : T) | for_ (ik : IK) (src : E) (tg : Tg) (b k : T) | rais (c : Nat) | tr (b : T) (cs : List Nat) (h k : T) | tr2 (b : T) (c : Nat) (h : T) (c' : Nat) (h' k : T)

/-! ### values -/
def SZ : Nat := 16777216
mutual
def noRef : D → Bool
  | .tup xs => noRefs xs
  | .lst xs => noRefs xs
  | .dct kvs => noRefK kvs
  | .ref _ => false
  | _ => true
def noRefs : List D → Bool
  | [] => true
  | x :: xs => noRef x && noRefs xs
def noRefK : List (Ky × D) → Bool
  | [] => true
  | (_, x) :: xs => noRef x && noRefK xs
end
/-- a saying's truth, closed to the kernel -/
noncomputable def tst (p : Prop) : Bool := @decide p (Classical.propDecidable p)
theorem tst_iff {p : Prop} : tst p = true ↔ p := by unfold tst; exact @decide_eq_true_iff p (Classical.propDecidable p)
theorem tst_of {p : Prop} (h : p) : tst p = true := tst_iff.mpr h
noncomputable def small (i : Int) : Bool := tst (-(2 ^ 64) < i ∧ i < 2 ^ 64)
/-- the items of a list, frozen or in the store -/
def lstOf (d : D) (S : Store) : Option (List D) := match d with
  | .lst xs => some xs
  | .ref n => match S[n]? with
    | some (.lst xs) => some xs
    | _ => none
  | _ => none
def seqOf (d : D) (S : Store) : Option (List D) := match d with
  | .tup xs => some xs
  | .scr ns => some (ns.map .int)
  | d => lstOf d S
def dctOf (d : D) (S : Store) : Option (List (Ky × D)) := match d with
  | .dct xs => some xs
  | .ref n => match S[n]? with
    | some (.dct xs) => some xs
    | some (.lck xs) => some xs
    | _ => none
  | _ => none
def truthy (d : D) (S : Store) : Option Bool := match d with
  | .non => some false
  | .bl b => some b
  | .int i => some (i != 0)
  | .str x => if x.length ≤ SZ then some (x.length != 0) else none
  | .tup xs => some (!xs.isEmpty)
  | .lst xs => some (!xs.isEmpty)
  | .dct _ => none
  | .scr _ => none
  | .ref n => match S[n]? with
    | some (.lst xs) => some (!xs.isEmpty)
    | some (.dct xs) => some (!xs.isEmpty)
    | _ => none
def isNonD : D → Bool
  | .non => true
  | _ => false
def negD : D → Option D
  | .int i => some (.int (-i))
  | _ => none
def addD (x y : D) (S : Store) : Option D := match x, y with
  | .int i, .int j => some (.int (i + j))
  | .str a, .str b => if a.length + b.length ≤ SZ then some (.str (a ++ b)) else none
  | .tup a, .tup b => if a.length + b.length ≤ SZ then some (.tup (a ++ b)) else none
  | x, y => match lstOf x S, lstOf y S with
    | some a, some b => if a.length + b.length ≤ SZ then some (.lst (a ++ b)) else none
    | _, _ => none
def subD (x y : D) : Option D := match x, y with
  | .int i, .int j => some (.int (i - j))
  | _, _ => none
noncomputable def mulD (x y : D) (S : Store) : Option D := match x, y with
  | .int i, .int j => if small i || small j then some (.int (i * j)) else none
  | .tup a, .int k => if -1000 ≤ k ∧ k ≤ 1000 ∧ a.length ≤ 1000 ∧ a ≠ [] then some (.tup (List.replicate k.toNat a).flatten) else none
  | x, .int k => match lstOf x S with
    | some a => if 0 ≤ k ∧ k ≤ 1000 ∧ a.length ≤ 1000 then some (.lst (List.replicate k.toNat a).flatten) else none
    | none => none
  | _, _ => none
def modD (x y : D) : Option D := match x, y with
  | .int i, .int j => if 0 < j then some (.int (i % j)) else none
  | _, _ => none
def fdivD (x y : D) : Option D := match x, y with
  | .int i, .int j => if 0 < j ∧ j < 2 ^ 64 then some (.int (i / j)) else none
  | _, _ => none
noncomputable def bop (o : BOp) (x y : D) (S : Store) : Option D := match o with
  | .add => addD x y S
  | .sub => subD x y
  | .mul => mulD x y S
  | .mod => modD x y
  | .fdiv => fdivD x y
mutual
/-- plain data for the model's == -/
def pyT : D → PyData
  | .bl b => .bool b
  | .int i => .int i
  | .str x => .str x
  | .tup xs => .tuple (pyTs xs)
  | .lst xs => .list (pyTs xs)
  | _ => .none
def pyTs : List D → List PyData
  | [] => []
  | x :: xs => pyT x :: pyTs xs
end
mutual
/-- data at most n deep -/
def sh (n : Nat) : D → Bool
  | .non => true
  | .bl _ => true
  | .int _ => true
  | .str x => PyData.strOk x
  | .tup xs => match n with
    | 0 => false
    | m + 1 => shs m xs
  | .lst xs => match n with
    | 0 => false
    | m + 1 => shs m xs
  | _ => false
def shs (n : Nat) : List D → Bool
  | [] => true
  | x :: xs => sh n x && shs n xs
end
def eqv2 (x y : D) : Bool := PyData.eqv (pyT x) (pyT y)
/-- == of data: none where it isn't data -/
def eqD (x y : D) : Option Bool := match x, y with
  | .int i, .int j => some (decide (i = j))
  | .str i, .str j => some (decide (i = j))
  | .bl i, .bl j => some (decide (i = j))
  | x, y => if sh 8 x && sh 8 y then some (eqv2 x y) else none
/-- data for ==, lists of the store read -/
def frz1 (d : D) (S : Store) : D := match d with
  | .ref n => match S[n]? with
    | some (.lst xs) => .lst xs
    | _ => .ref n
  | d => d
def flatD : D → Bool
  | .non => true | .bl _ => true | .int _ => true | .str _ => true | _ => false
/-- x == y of flat things of one kind; of unlike kinds false; bools with ints aside -/
def flatEq (x y : D) : Option Bool := match x, y with
  | .int i, .int j => some (decide (i = j))
  | .str i, .str j => some (decide (i = j))
  | .bl i, .bl j => some (decide (i = j))
  | .non, .non => some true
  | .bl _, .int _ => none
  | .int _, .bl _ => none
  | .non, .int _ => some false | .non, .str _ => some false | .non, .bl _ => some false
  | .int _, .non => some false | .str _, .non => some false | .bl _, .non => some false
  | .int _, .str _ => some false | .str _, .int _ => some false | .bl _, .str _ => some false | .str _, .bl _ => some false
  | _, _ => none
def memF (x : D) : List D → Option Bool
  | [] => some false
  | y :: ys => match flatEq y x, memF x ys with
    | some a, some b => some (a || b)
    | _, _ => none
def keyOf : D → Option Ky
  | .int i => some (.inl i)
  | .str x => some (.inr x)
  | _ => none
def getK (kvs : List (Ky × D)) (k : Ky) : Option D := match kvs with
  | [] => none
  | (a, d) :: r => if a = k then some d else getK r k
def setK (kvs : List (Ky × D)) (k : Ky) (v : D) : List (Ky × D) := if (kvs.any fun e => decide (e.1 = k)) = true then kvs.map fun e => if e.1 = k then (e.1, v) else e else kvs ++ [(k, v)]
def delK (kvs : List (Ky × D)) (k : Ky) : List (Ky × D) := kvs.filter fun e => decide (e.1 ≠ k)
/-- sub in a text -/
def inS (a b : Str) : Bool := !(Builtin.Str.occurrences b a 0 b.length 1).isEmpty
def ordD (p : Int → Int → Bool) (x y : D) : Option Bool := match x, y with
  | .int i, .int j => some (p i j)
  | _, _ => none
def inD (x y : D) (S : Store) : Option Bool := match x, y with
  | .str a, .str b => some (inS a b)
  | x, y => match seqOf y S with
    | some xs => memF x xs
    | none => none
/-- k in d -/
def dinD (x y : D) (S : Store) : Option Bool := match dctOf y S with
  | some kvs => (keyOf x).map fun k => (getK kvs k).isSome
  | none => none
/-- d[k] -/
def dixD (y x : D) (S : Store) : Option D := match dctOf y S with
  | some kvs => (keyOf x).bind (getK kvs)
  | none => none
/-- a dict of the store -/
def dctR (d : D) (S : Store) : Option (List (Ky × D)) := match d with
  | .ref n => match S[n]? with
    | some (.dct xs) => some xs
    | _ => none
  | _ => none
/-- the same keys with the same plain data -/
noncomputable def dEq (a b : List (Ky × D)) : Bool := tst (a.length = b.length ∧ ∀ p ∈ a, getK b p.1 = some p.2 ∧ sh 8 p.2 = true)
noncomputable def cop (o : COp) (x y : D) (S : Store) : Option Bool := match o with
  | .lt => ordD (fun i j => decide (i < j)) x y
  | .le => ordD (fun i j => decide (i ≤ j)) x y
  | .gt => ordD (fun i j => decide (j < i)) x y
  | .ge => ordD (fun i j => decide (j ≤ i)) x y
  | .eq => match dctR x S, dctR y S with
    | some a, some b => if dEq a b then some true else none
    | _, _ => eqD (frz1 x S) (frz1 y S)
  | .ne => match dctR x S, dctR y S with
    | some a, some b => if dEq a b then some false else none
    | _, _ => (eqD (frz1 x S) (frz1 y S)).map not
  | .inn => if flatD x then inD x y S else none
  | .nin => if flatD x then (inD x y S).map not else none
  | .iss => match x, y with
    | .bl i, .bl j => some (decide (i = j))
    | _, _ => none
  | .nis => match x, y with
    | .bl i, .bl j => some (!decide (i = j))
    | _, _ => none
def isaD (t : Nat) (d : D) : Bool := match t, d with
  | 0, .int _ => true
  | 0, .bl _ => true
  | 1, .bl _ => true
  | 2, .str _ => true
  | 3, .tup _ => true
  | _, _ => false
def cutD {α : Type} (xs : List α) (lo hi : Option Int) : List α := (xs.drop (HT.sIx xs.length 0 lo)).take (HT.sIx xs.length xs.length hi - HT.sIx xs.length 0 lo)
def getD_ (x y : D) (S : Store) : Option D := match x, y with
  | .str z, .int i => if z.length ≤ SZ then (L2.atI z.cps.toList i).map fun c => .str ⟨#[c]⟩ else none
  | x, y => match seqOf x S with
    | some xs => match y with
      | .int i => L2.atI xs i
      | _ => none
    | none => none
def part : D → Option (Option Int)
  | .int i => some (some i)
  | _ => none
def slD (x : D) (lo hi : Option Int) (S : Store) : Option D := match x with
  | .str z => if z.length ≤ SZ then some (.str (L2.cutS z lo hi)) else none
  | .tup xs => some (.tup (cutD xs lo hi))
  | .scr ns => some (.lst (cutD (ns.map .int) lo hi))
  | x => match lstOf x S with
    | some xs => some (.lst (cutD xs lo hi))
    | none => none
def rngD (lo c : Int) (n : Nat) : List D := (List.range n).map fun (k : Nat) => .int (lo + k * c)
noncomputable def b62 (i : Int) : Bool := tst (-(2 ^ 62) ≤ i ∧ i < 2 ^ 62)
inductive Itr where
  | items (xs : List D) | live (n : Nat) (en : Bool) | lkd (n : Nat) (xs : List D) (kvs : List (Ky × D))
def chars (x : Str) : List D := x.cps.toList.map fun c => .str ⟨#[c]⟩
def kyD : Ky → D
  | .inl i => .int i
  | .inr x => .str x
def enumD (xs : List D) : List D := (List.range xs.length).zipWith (fun (k : Nat) x => .tup [.int k, x]) xs
noncomputable def mkIt (k : IK) (as : List D) (S : Store) : Option Itr := match k, as with
  | .plain, [.tup xs] => some (.items xs)
  | .plain, [.lst xs] => some (.items xs)
  | .plain, [.str x] => some (.items (chars x))
  | .keys, [.dct kvs] => some (.items (kvs.map fun p => kyD p.1))
  | .keysR, [.ref n] => match S[n]? with
    | some (.dct kvs) => some (.lkd n (kvs.map fun p => kyD p.1) kvs)
    | _ => none
  | .items, [.ref n] => match S[n]? with
    | some (.dct kvs) => some (.lkd n (kvs.map fun p => .tup [kyD p.1, p.2]) kvs)
    | _ => none
  | .plain, [.ref n] => match S[n]? with
    | some (.lst _) => some (.live n false)
    | _ => none
  | .rng1, [.int j] => if b62 j then some (.items (rngD 0 1 j.toNat)) else none
  | .rng2, [.int i, .int j] => if b62 i && b62 j then some (.items (rngD i 1 (j - i).toNat)) else none
  | .rng3, [.int i, .int j, .int c] => if b62 i && b62 j && tst (0 < c ∧ c < 1000000) then some (.items (rngD i c ((j - i + c - 1) / c).toNat)) else none
  | .enum, [.tup xs] => some (.items (enumD xs))
  | .enum, [.lst xs] => some (.items (enumD xs))
  | .enum, [.ref n] => match S[n]? with
    | some (.lst _) => some (.live n true)
    | _ => none
  | .zip, [.tup xs, .tup ys] => some (.items (xs.zipWith (fun x y => .tup [x, y]) ys))
  | .zip, [.lst xs, .lst ys] => some (.items (xs.zipWith (fun x y => .tup [x, y]) ys))
  | _, _ => none
def bindL (is : List Nat) (xs : List D) (env : Env) : Option Env := match is, xs with
  | [], [] => some env
  | i :: is, x :: xs => bindL is xs (env.set i (some x))
  | _, _ => none
def bindT (tg : Tg) (d : D) (env : Env) : Option Env := match tg, d with
  | .one i, d => some (env.set i (some d))
  | .many is, .tup xs => bindL is xs env
  | _, _ => none
/-! ### dicts with tuple keys -/
def dttR (d : D) (S : Store) : Option (List (List Ky × D)) := match d with
  | .ref n => match S[n]? with
    | some (.dtt xs) => some xs
    | _ => none
  | _ => none
def keysL : List D → Option (List Ky)
  | [] => some []
  | d :: r => match keyOf d, keysL r with
    | some k, some ks => some (k :: ks)
    | _, _ => none
def tupK : D → Option (List Ky)
  | .tup xs => keysL xs
  | _ => none
def getT (kvs : List (List Ky × D)) (k : List Ky) : Option D := match kvs with
  | [] => none
  | (a, d) :: r => if a = k then some d else getT r k
def setTK (kvs : List (List Ky × D)) (k : List Ky) (v : D) : List (List Ky × D) := if (kvs.any fun e => decide (e.1 = k)) = true then kvs.map fun e => if e.1 = k then (e.1, v) else e else kvs ++ [(k, v)]
def itmT (p : List Ky × D) : D := .tup [.tup (p.1.map kyD), p.2]
/-- d[t[lo:]] = v -/
def setTD (o t l v : D) (S : Store) : Option Store := match o with
  | .ref n => match S[n]?, t, l with
    | some (.dtt kvs), .tup xs, .int i => if kvs.length < SZ ∧ HT.sIx xs.length 0 (some i) ≠ 0 then (keysL (cutD xs (some i) none)).map fun k => S.set n (.dtt (setTK kvs k v)) else none
    | _, _, _ => none
  | _ => none
/-! ### the least, the greatest, how often -/
def ltI (a b : Int) : Bool := decide (a < b)
def ltP (p q : Int × Int) : Bool := if p.1 = q.1 then ltI p.2 q.2 else ltI p.1 q.1
def ltQ (p q : Int × Int × Int) : Bool := if p.1 = q.1 then ltP p.2 q.2 else ltI p.1 q.1
def minBy {α : Type} (lt : α → α → Bool) (x : α) (xs : List α) : α := xs.foldl (fun a y => if lt y a = true then y else a) x
def maxBy {α : Type} (lt : α → α → Bool) (x : α) (xs : List α) : α := xs.foldl (fun a y => if lt a y = true then y else a) x
end PL

set_option Elab.async false
set_option linter.all false
set_option maxRecDepth 100000
/-! PLB: the evaluator itself. -/
namespace PL
open PySem

/-! ### built-ins -/
def allB : List D → Option Bool
  | [] => some true
  | .bl b :: r => match allB r with
    | some c => some (b && c)
    | none => none
  | _ => none
def anyB : List D → Option Bool
  | [] => some false
  | .bl b :: r => match anyB r with
    | some c => some (b || c)
    | none => none
  | _ => none
def intsD : List D → Option (List Int)
  | [] => some []
  | .int i :: r => (intsD r).map (i :: ·)
  | _ => none
def strsD : List D → Option (List Str)
  | [] => some []
  | .str i :: r => (strsD r).map (i :: ·)
  | _ => none
def pairsD : List D → Option (List (Int × Int))
  | [] => some []
  | .tup [.int i, .int j] :: r => (pairsD r).map ((i, j) :: ·)
  | _ => none
def pairD (p : Int × Int) : D := .tup [.int p.1, .int p.2]
def leP (p q : Int × Int) : Bool := decide (p.1 < q.1) || (decide (p.1 = q.1) && decide (p.2 ≤ q.2))
def leS (x y : Str) : Bool := !PySem.Spec.ltCps y.cps.toList x.cps.toList
def insertBy {α : Type} (le : α → α → Bool) (x : α) : List α → List α
  | [] => [x]
  | y :: ys => if le x y then x :: y :: ys else y :: insertBy le x ys
/-- the stable sort -/
def sortBy {α : Type} (le : α → α → Bool) : List α → List α
  | [] => []
  | x :: xs => insertBy le x (sortBy le xs)
def sortD (xs : List D) : Option (List D) := match intsD xs with
  | some is => some ((sortBy (fun a b => decide (a ≤ b)) is).map .int)
  | none => match pairsD xs with
    | some ps => some ((sortBy leP ps).map pairD)
    | none => none
def keysI : List (Ky × D) → Option (List Int)
  | [] => some []
  | (.inl i, _) :: r => (keysI r).map (i :: ·)
  | _ => none
def keysS : List (Ky × D) → Option (List Str)
  | [] => some []
  | (.inr i, _) :: r => (keysS r).map (i :: ·)
  | _ => none
def lenD (d : D) (S : Store) : Option Nat := match d with
  | .str x => if x.length ≤ SZ then some x.length else none
  | d => match seqOf d S with
    | some xs => some xs.length
    | none => (dctOf d S).map (·.length)
def textOf : D → Option Str
  | .str x => some x
  | .int i => if i.natAbs.log2 < 1920 then some (toString i : String) else none
  | _ => none
def keysD (d : D) (S : Store) : Option (List D) := match dctOf d S with
  | some kvs => some (kvs.map fun p => kyD p.1)
  | none => none
def itemsOf (d : D) (S : Store) : Option (List D) := match seqOf d S with
  | some xs => some xs
  | none => keysD d S
def lenF (as : List D) (S : Store) : Option D := match as with
  | [d] => (lenD d S).map fun (n : Nat) => .int n
  | _ => none
def allF (as : List D) (S : Store) : Option D := match as with
  | [d] => ((lstOf d S).bind allB).map .bl
  | _ => none
def anyF (as : List D) (S : Store) : Option D := match as with
  | [d] => ((lstOf d S).bind anyB).map .bl
  | _ => none
def sumF (as : List D) (S : Store) : Option D := match as with
  | [.tup xs] => (intsD xs).map fun is => .int is.sum
  | [d] => ((lstOf d S).bind intsD).map fun is => .int is.sum
  | _ => none
def tupF (as : List D) (S : Store) : Option D := match as with
  | [d] => (seqOf d S).map .tup
  | _ => none
def listF (as : List D) (S : Store) : Option D := match as with
  | [d] => (itemsOf d S).map .lst
  | _ => none
def sortF (as : List D) (S : Store) : Option D := match as with
  | [d] => match seqOf d S with
    | some xs => (sortD xs).map .lst
    | none => match dctOf d S with
      | some kvs => match keysI kvs with
        | some is => if is.length ≤ SZ then some (.lst ((sortBy (fun a b => decide (a ≤ b)) is).map .int)) else none
        | none => match keysS kvs with
          | some ss => if ss.length < 64 then some (.lst ((sortBy leS ss).map .str)) else none
          | none => none
      | none => none
  | _ => none
def strF (as : List D) (S : Store) : Option D := match as with
  | [.int i] => (textOf (.int i)).map .str
  | _ => none
def intF (as : List D) (S : Store) : Option D := match as with
  | [.bl b] => some (.int (if b then 1 else 0))
  | [.str x] => if x.length ≤ 640 then (PySem.intText? x).map .int else none
  | _ => none
def maxF (as : List D) (S : Store) : Option D := match as with
  | [.int i, .int j] => some (.int (if j > i then j else i))
  | _ => none
def minF (as : List D) (S : Store) : Option D := match as with
  | [.int i, .int j] => some (.int (if j < i then j else i))
  | _ => none
def bfD (f : Bf) (as : List D) (S : Store) : Option D := match f with
  | .len => lenF as S
  | .all => allF as S
  | .any => anyF as S
  | .sum => sumF as S
  | .tuple => tupF as S
  | .list => listF as S
  | .sorted => sortF as S
  | .str => strF as S
  | .int => intF as S
  | .max => maxF as S
  | .min => minF as S

structure Fn where
  pure : Bool
  np : Nat
  nl : Nat
  body : T
def lookN {α : Type} : List (Nat × α) → Nat → Option α
  | [], _ => none
  | (a, x) :: r, i => if i = a then some x else lookN r i
theorem lookN_mem {α : Type} : ∀ {l : List (Nat × α)} {i : Nat} {x : α}, lookN l i = some x → (i, x) ∈ l
  | [], _, _, h => by cases h
  | (a, y) :: r, i, x, h => by
    simp only [lookN] at h
    split at h
    · rename_i e; cases h; subst e; exact List.mem_cons_self
    · exact List.mem_cons_of_mem _ (lookN_mem h)
structure Tab where
  fns : Nat → Option Fn
  consts : Nat → Option D
  meth : Nat → Nat → Option Nat
  init : Nat → Option Nat
  exs : List Nat

abbrev Calls := Nat → List D → Store → R D
def toTup : D → List D
  | .tup xs => xs
  | _ => []
def srcL (k : IK) (d : D) : List D := match k with
  | .plain => [d]
  | .keys => [d]
  | .keysR => [d]
  | .items => [d]
  | _ => toTup d
def fldOf (fs : List (Nat × D)) (f : Nat) : Option D := match fs with
  | [] => none
  | (g, d) :: r => if g = f then some d else fldOf r f
def fldPut (fs : List (Nat × D)) (f : Nat) (v : D) : List (Nat × D) := match fs with
  | [] => [(f, v)]
  | (g, d) :: r => if g = f then (g, v) :: r else (g, d) :: fldPut r f v
def notIns (d : D) (S : Store) : Bool := match d with
  | .ref n => match S[n]? with
    | some (.ins _ _) => false
    | some (.lck _) => false
    | some (.lct _) => false
    | some _ => true
    | none => false
  | _ => true
/-- what an instance's field holds -/
def fldD (d : D) (f : Nat) (S : Store) : Option D := match d with
  | .ref n => match S[n]? with
    | some (.ins _ fs) => fldOf fs f
    | _ => none
  | _ => none
def clsD (d : D) (S : Store) : Option Nat := match d with
  | .ref n => match S[n]? with
    | some (.ins c _) => some c
    | _ => none
  | _ => none
/-- within a text in f'..' -/
noncomputable def fmtD : D → Option Str
  | .str x => if x.length ≤ 1000000 then some x else none
  | .int i => if tst (0 ≤ i ∧ i < 10 ^ 100) then some (toString i : String) else none
  | _ => none
def catD : List D → Option Str
  | [] => some Str.empty
  | .str x :: r => (catD r).map (x ++ ·)
  | _ => none
def mkTup (xs : List D) : Option D := if xs.length ≤ SZ then some (.tup xs) else none
def mkLst (xs : List D) : Option D := if xs.length ≤ SZ then some (.lst xs) else none
/-- nothing is raised here -/
def R.quiet {α : Type} : R α → R α
  | .ex _ _ => .bad
  | r => r
@[simp] theorem R.quiet_ok {α : Type} (a : α) (S : Store) : (R.ok a S).quiet = .ok a S := rfl
/-- a turn of a comprehension -/
def goComp (body : D → Store → R (Option D)) : List D → List D → Store → R (List D)
  | [], acc, S => .ok acc S
  | x :: xs, acc, S => (body x S).bind fun o S' => match o with
    | some y => if acc.length < SZ then goComp body xs (acc ++ [y]) S' else .bad
    | none => goComp body xs acc S'
/-- within a walk over a dict's keys nothing is raised -/
def qk (k : IK) (b : D → Store → R (Option D)) : D → Store → R (Option D) := match k with
  | .keys => fun x S => (b x S).quiet
  | .keysR => fun x S => (b x S).quiet
  | _ => b
theorem qk_ok {k : IK} {b : D → Store → R (Option D)} {x : D} {S S' : Store} {o : Option D} (h : b x S = .ok o S') : qk k b x S = .ok o S' := by
  cases k <;> first | exact h | (show (b x S).quiet = _; rw [h]; rfl)
def itemAt (S : Store) (n : Nat) (en : Bool) (i : Nat) : Option (Option D) := match S[n]? with
  | some (.lst xs) => some (xs[i]?.map fun x => if en then .tup [.int i, x] else x)
  | _ => none
@[irreducible] def LOOP : Nat := 1000000000
theorem LOOP_eq : LOOP = 1000000000 := by unfold LOOP; rfl
def goCompL (n : Nat) (en : Bool) (body : D → Store → R (Option D)) : Nat → Nat → List D → Store → R (List D)
  | 0, _, _, _ => .bad
  | k + 1, i, acc, S => match itemAt S n en i with
    | none => .bad
    | some none => .ok acc S
    | some (some x) => (body x S).bind fun o S' => match o with
      | some y => if acc.length < SZ then goCompL n en body k (i + 1) (acc ++ [y]) S' else .bad
      | none => goCompL n en body k (i + 1) acc S'
/-- a dict that was walked is free again -/
def unlS (n : Nat) (S : Store) : Option Store := match S[n]? with
  | some (.lck k) => some (S.set n (.dct k))
  | _ => none
def unlL (n : Nat) (r : R (List D)) : R (List D) := match r with
  | .ok ys S => match unlS n S with
    | some S' => .ok ys S'
    | none => .bad
  | _ => .bad
def goIt (it : Itr) (body : D → Store → R (Option D)) (S : Store) : R (List D) := match it with
  | .items xs => goComp body xs [] S
  | .live n en => goCompL n en body LOOP 0 [] S
  | .lkd n xs kvs => unlL n (goComp body xs [] (S.set n (.lck kvs)))
def mapT (r : R D) : R Bool := r.bind fun d S => R.of (truthy d S) S
def isEmp : E → Bool
  | .emp => true
  | _ => false
def isStrD : D → Bool
  | .str _ => true
  | _ => false
def isLstR (d : D) (S : Store) : Bool := match d with
  | .ref n => match S[n]? with
    | some (.lst _) => true
    | _ => false
  | _ => false
def isDctR (d : D) (S : Store) : Bool := match d with
  | .ref n => match S[n]? with
    | some (.dct _) => true
    | _ => false
  | _ => false
def bmOk (m : Bm) (o : D) (S : Store) : Bool := match m with
  | .append => isLstR o S
  | .get => isDctR o S
  | .pop => isDctR o S
  | .setdefault => isDctR o S
  | .count => false
  | .popL => isLstR o S
  | _ => isStrD o
def bmStr (m : Bm) (a : Str) (as : List D) (S : Store) : Option D := match m, as with
  | .split, [.str b] => if b.length ≠ 0 ∧ a.length + 2 ≤ SZ then some (.lst ((Txt.split a b).map .str)) else none
  | .partition, [.str b] => if b.length ≠ 0 ∧ a.length ≤ SZ then some (.tup [.str (Txt.partition a b).1, .str (Txt.partition a b).2.1, .str (Txt.partition a b).2.2]) else none
  | .join, [x] => match seqOf x S with
    | some xs => match strsD xs with
      | some ys => if (ys.map (·.length)).sum + ys.length * a.length ≤ SZ then some (.str (Txt.join a ys)) else none
      | none => none
    | none => none
  | .find, [.str b] => some (.int (Txt.find a b))
  | .index, [.str b] => (Txt.index0 a b).map fun (k : Nat) => .int k
  | .startswith, [.str b] => some (.bl (Txt.startswith a b))
  | .upper, [] => if a.length ≤ 5592405 then some (.str (Txt.upper a)) else none
  | _, _ => none
def bmD (m : Bm) (o : D) (as : List D) (S : Store) : R D := match m, o, as with
  | .append, .ref n, [y] => match S[n]? with
    | some (.lst xs) => if xs.length < SZ then .ok .non (S.set n (.lst (xs ++ [y]))) else .bad
    | _ => .bad
  | .get, o, [k] => match dctOf o S, keyOf k with
    | some kvs, some k => .ok ((getK kvs k).getD .non) S
    | _, _ => .bad
  | .get, o, [k, x] => match dctOf o S, keyOf k with
    | some kvs, some k => .ok ((getK kvs k).getD x) S
    | _, _ => .bad
  | .pop, .ref n, [k] => match S[n]?, keyOf k with
    | some (.dct kvs), some k => match getK kvs k with
      | some v => .ok v (S.set n (.dct (delK kvs k)))
      | none => .bad
    | _, _ => .bad
  | .pop, .ref n, [k, x] => match S[n]?, keyOf k with
    | some (.dct kvs), some k => match getK kvs k with
      | some v => .ok v (S.set n (.dct (delK kvs k)))
      | none => .ok x S
    | _, _ => .bad
  | .popL, .ref n, [.int i] => match S[n]? with
    | some (.lst xs) => if 0 ≤ i ∧ xs.length < SZ then (match xs[i.toNat]? with
      | some v => .ok v (S.set n (.lst (xs.eraseIdx i.toNat)))
      | none => .bad) else .bad
    | _ => .bad
  | .setdefault, .ref n, [k, x] => match S[n]?, keyOf k with
    | some (.dct kvs), some k => if kvs.length < SZ then (match getK kvs k with
      | some v => .ok v S
      | none => .ok x (S.set n (.dct (setK kvs k x)))) else .bad
    | _, _ => .bad
  | m, .str a, as => R.of (bmStr m a as S) S
  | _, _, _ => .bad
/-- which places a slice with a step picks -/
def stepIx (n : Nat) (lo hi : Option Int) (st : Int) : List Nat :=
  (List.range (Builtin.Slice.slicePlaces (Builtin.Slice.sliceAdjust lo hi st n).1 (Builtin.Slice.sliceAdjust lo hi st n).2 st)).map fun (k : Nat) => ((Builtin.Slice.sliceAdjust lo hi st n).1 + (k : Int) * st).toNat
def stepD {α : Type} (xs : List α) (lo hi : Option Int) (st : Int) : List α := (stepIx xs.length lo hi st).filterMap (xs[·]?)
/-- t[lo:hi:step], of tuples and lists; the step no 0, no 1 -/
def sl3D (x : D) (lo hi : Option Int) (st : Int) (S : Store) : Option D := if st ≠ 0 ∧ st ≠ 1 then (match x with
  | .tup xs => some (.tup (stepD xs lo hi st))
  | .scr ns => some (.lst (stepD (ns.map .int) lo hi st))
  | x => match lstOf x S with
    | some xs => some (.lst (stepD xs lo hi st))
    | none => none) else none
/-! ### dicts with tuple keys; the least of a list -/
def trisD : List D → Option (List (Int × Int × Int))
  | [] => some []
  | .tup [.int i, .tup [.int j, .int k]] :: r => (trisD r).map ((i, j, k) :: ·)
  | _ => none
def triD (p : Int × Int × Int) : D := .tup [.int p.1, .tup [.int p.2.1, .int p.2.2]]
def minD1 (xs : List D) : Option D := match intsD xs with
  | some (i :: is) => some (.int (minBy ltI i is))
  | _ => match pairsD xs with
    | some (p :: ps) => some (pairD (minBy ltP p ps))
    | _ => match trisD xs with
      | some (p :: ps) => some (triD (minBy ltQ p ps))
      | _ => none
def maxD1 (xs : List D) : Option D := match intsD xs with
  | some (i :: is) => some (.int (maxBy ltI i is))
  | _ => none
def cntD (xs : List D) (y : D) : Option D := match pairsD xs, y with
  | some ps, .tup [.int i, .int j] => some (.int ((ps.countP fun q => decide (q = (i, j)) : Nat) : Int))
  | _, _ => none
def isDttR (d : D) (S : Store) : Bool := (dttR d S).isSome
def dTgetD (x y z : D) (S : Store) : Option D := match dttR x S, tupK y with
  | some kvs, some k => some ((getT kvs k).getD z)
  | _, _ => none
def bxD (f : BX) (as : List D) (S : Store) : Option D := match f, as with
  | .min, [x] => (lstOf x S).bind minD1
  | .max, [x] => (lstOf x S).bind maxD1
  | _, _ => none
def byOk (m : BY) (x : D) (S : Store) : Bool := match m with
  | .get => isDttR x S
  | .count => isLstR x S
def byD (m : BY) (x : D) (as : List D) (S : Store) : Option D := match m, as with
  | .get, [y, z] => dTgetD x y z S
  | .count, [y] => (lstOf x S).bind fun xs => cntD xs y
  | _, _ => none
def unlST (n : Nat) (S : Store) : Option Store := match S[n]? with
  | some (.lct k) => some (S.set n (.dtt k))
  | _ => none
def unlLT (n : Nat) (r : R (List D)) : R (List D) := match r with
  | .ok ys S => match unlST n S with
    | some S' => .ok ys S'
    | none => .bad
  | _ => .bad
/-- a comprehension over the items of a dict with tuple keys -/
def walkT (d : D) (body : D → Store → R (Option D)) (S : Store) : R (List D) := match d with
  | .ref n => match S[n]? with
    | some (.dtt kvs) => unlLT n (goComp (qk .keysR body) (kvs.map itmT) [] (S.set n (.lct kvs)))
    | _ => .bad
  | _ => .bad
/-- a display's keys -/
def keysE : E → Option (List Str)
  | .nil => some []
  | .cons (.con (.str x)) r => (keysE r).map (x :: ·)
  | _ => none
def mergeD (ds : List (Ky × D)) : List (Ky × D) := ds.foldl (fun acc kv => setK acc kv.1 kv.2) []
noncomputable def ev (G : Tab) (call : Calls) : E → Env → Store → R D
  | .var i, env, S => match env[i]? with
    | some (some d) => .ok d S
    | _ => .bad
  | .con d, _, S => .ok d S
  | .glb j, _, S => R.of (G.consts j) S
  | .bin o a b, env, S => (ev G call a env S).bind fun x S => (ev G call b env S).bind fun y S => R.of (bop o x y S) S
  | .cmp o a b, env, S => (ev G call a env S).bind fun x S => (ev G call b env S).bind fun y S => R.of ((cop o x y S).map .bl) S
  | .chain o o' a b c, env, S => (ev G call a env S).bind fun x S => (ev G call b env S).bind fun y S => (R.of (cop o x y S) S).bind fun k S =>
      if k then (ev G call c env S).bind fun z S => R.of ((cop o' y z S).map .bl) S else .ok (.bl false) S
  | .isn a, env, S => (ev G call a env S).bind fun x S => .ok (.bl (isNonD x)) S
  | .ntn a, env, S => (ev G call a env S).bind fun x S => .ok (.bl (!isNonD x)) S
  | .isb a k, env, S => (ev G call a env S).bind fun x S => match x with | .bl b => .ok (.bl (b == k)) S | _ => .bad
  | .nsb a k, env, S => (ev G call a env S).bind fun x S => match x with | .bl b => .ok (.bl (b != k)) S | _ => .bad
  | .neg a, env, S => (ev G call a env S).bind fun x S => R.of (negD x) S
  | .nt a, env, S => (mapT (ev G call a env S)).bind fun k S => .ok (.bl (!k)) S
  | .and a b, env, S => (ev G call a env S).bind fun x S => (R.of (truthy x S) S).bind fun k S => if k then ev G call b env S else .ok x S
  | .or a b, env, S => (ev G call a env S).bind fun x S => (R.of (truthy x S) S).bind fun k S => if k then .ok x S else ev G call b env S
  | .ite c a b, env, S => (mapT (ev G call c env S)).bind fun k S => if k then ev G call a env S else ev G call b env S
  | .isa a t, env, S => (ev G call a env S).bind fun x S => if notIns x S then .ok (.bl (isaD t x)) S else .bad
  | .call f as, env, S => (ev G call as env S).bind fun xs S => call f (toTup xs) S
  | .meth c o m as, env, S => (ev G call o env S).bind fun x S => match clsD x S, G.meth c m with
    | some c', some f => if c' = c then (ev G call as env S).bind fun xs S => call f (x :: toTup xs) S else .bad
    | _, _ => .bad
  | .mk c as, env, S => (ev G call as env S).bind fun xs S => match G.init c with
    | some f => (call f (.ref S.length :: toTup xs) (S ++ [.ins c []])).bind fun d S' => match d with
      | .non => .ok (.ref S.length) S'
      | _ => .bad
    | none => .bad
  | .bf f as, env, S => (ev G call as env S).bind fun xs S => R.of (bfD f (toTup xs) S) S
  | .bm m o as, env, S => (ev G call o env S).bind fun x S => if bmOk m x S then (ev G call as env S).bind fun xs S => bmD m x (toTup xs) S else .bad
  | .ix a i, env, S => (ev G call a env S).bind fun x S => (ev G call i env S).bind fun y S => R.of (getD_ x y S) S
  | .sl a lo hi, env, S => (ev G call a env S).bind fun x S => (if isEmp lo then .ok none S else (ev G call lo env S).bind fun d S => R.of (part d) S).bind fun l S => (if isEmp hi then .ok none S else (ev G call hi env S).bind fun d S => R.of (part d) S).bind fun h S => R.of (slD x l h S) S
  | .sl3 a lo hi st, env, S => (ev G call a env S).bind fun x S => (if isEmp lo then .ok none S else (ev G call lo env S).bind fun d S => R.of (part d) S).bind fun l S => (if isEmp hi then .ok none S else (ev G call hi env S).bind fun d S => R.of (part d) S).bind fun h S => R.of (sl3D x l h st S) S
  | .fld c o f, env, S => (ev G call o env S).bind fun x S => if clsD x S = some c then R.of (fldD x f S) S else .bad
  | .tup as, env, S => (ev G call as env S).bind fun xs S => R.of (mkTup (toTup xs)) S
  | .lst as, env, S => (ev G call as env S).bind fun xs S => R.of (mkLst (toTup xs)) S
  | .dict0, env, S => .ok (.ref S.length) (S ++ [.dct []])
  | .dict ks vs, env, S => (ev G call vs env S).bind fun d S => match keysE ks with
    | some xs => if (toTup d).length = xs.length then .ok (.ref S.length) (S ++ [.dct (mergeD ((xs.map Sum.inr).zip (toTup d)))]) else .bad
    | none => .bad
  | .lrng k as, env, S => (ev G call as env S).bind fun xs S => match mkIt k (toTup xs) S with
    | some (.items ys) => if ys.length ≤ SZ then .ok (.lst ys) S else .bad
    | _ => .bad
  | .comp k src tg c e, env, S => (ev G call src env S).bind fun xs S => match mkIt k (srcL k xs) S with
    | some it => (goIt it (qk k fun x S => match bindT tg x env with
      | some env' => (mapT (ev G call c env' S)).bind fun k S => if k then (ev G call e env' S).bind fun y S => .ok (some y) S else .ok none S
      | none => .bad) S).bind fun ys S => .ok (.lst ys) S
    | none => .bad
  | .fstr as, env, S => (ev G call as env S).bind fun xs S => R.of ((catD (toTup xs)).map .str) S
  | .fmt e, env, S => (ev G call e env S).bind fun x S => R.of ((fmtD x).map .str) S
  | .new e, env, S => (ev G call e env S).bind fun d S => match d with
    | .lst xs => .ok (.ref S.length) (S ++ [.lst xs])
    | _ => .bad
  | .nil, _, S => .ok (.tup []) S
  | .cons a as, env, S => (ev G call a env S).bind fun x S => (ev G call as env S).bind fun xs S => .ok (.tup (x :: toTup xs)) S
  | .one e, env, S => ev G call e env S
  | .val e, env, S => ev G call e env S
  | .din ng a b, env, S => (ev G call a env S).bind fun x S => (ev G call b env S).bind fun y S => R.of ((dinD x y S).map fun k => .bl (k != ng)) S
  | .dix a i, env, S => (ev G call a env S).bind fun x S => (ev G call i env S).bind fun y S => R.of (dixD x y S) S
  | .emp, _, S => .ok (.bl true) S
  | .dT0, _, S => .ok (.ref S.length) (S ++ [.dtt []])
  | .compT v is e, env, S => (ev G call v env S).bind fun d S => (walkT d (fun x S => match bindT (.many is) x env with
      | some env' => (ev G call e env' S).bind fun y S => .ok (some y) S
      | none => .bad) S).bind fun ys S => .ok (.lst ys) S
  | .tdT a, env, S => (ev G call a env S).bind fun x S => R.of ((dttR x S).map fun k => .bl (!k.isEmpty)) S
  | .bfX f as, env, S => (ev G call as env S).bind fun xs S => R.of (bxD f (toTup xs) S) S
  | .bmX m o as, env, S => (ev G call o env S).bind fun x S => if byOk m x S then (ev G call as env S).bind fun xs S => R.of (byD m x (toTup xs) S) S else .bad

def goFor (body : D → Env → Store → RS) : List D → Env → Store → RS
  | [], env, S => .nx env S
  | x :: xs, env, S => (body x env S).andThen fun env S => goFor body xs env S
def goForL (n : Nat) (en : Bool) (body : D → Env → Store → RS) : Nat → Nat → Env → Store → RS
  | 0, _, _, _ => .bad
  | k + 1, i, env, S => match itemAt S n en i with
    | none => .bad
    | some none => .nx env S
    | some (some x) => (body x env S).andThen fun env S => goForL n en body k (i + 1) env S
def unlT (n : Nat) (r : RS) : RS := match r with
  | .nx env S => match unlS n S with
    | some S' => .nx env S'
    | none => .bad
  | .rt d S => match unlS n S with
    | some S' => .rt d S'
    | none => .bad
  | _ => .bad
def goForI (it : Itr) (body : D → Env → Store → RS) (env : Env) (S : Store) : RS := match it with
  | .items xs => goFor body xs env S
  | .live n en => if en then .bad else goForL n false body LOOP 0 env S
  | .lkd n xs kvs => unlT n (goFor body xs env (S.set n (.lck kvs)))
def goWhl (c : Env → Store → R Bool) (body : Env → Store → RS) : Nat → Env → Store → RS
  | 0, _, _ => .bad
  | k + 1, env, S => (c env S).stm env fun b S => if b then (body env S).andThen fun env S => goWhl c body k env S else .nx env S
def setIx (o i v : D) (S : Store) : Option Store := match o with
  | .ref n => match S[n]?, i with
    | some (.lst xs), .int k => (L2.ixN xs.length k).map fun j => S.set n (.lst (xs.set j v))
    | some (.dct kvs), i => if kvs.length < SZ then (keyOf i).map fun k => S.set n (.dct (setK kvs k v)) else none
    | _, _ => none
  | _ => none
def setFld (o : D) (f : Nat) (v : D) (S : Store) : Option Store := match o with
  | .ref n => match S[n]? with
    | some (.ins c fs) => if fs.length < 1000 then some (S.set n (.ins c (fldPut fs f v))) else none
    | _ => none
  | _ => none
noncomputable def exT (G : Tab) (call : Calls) : T → Env → Store → RS
  | .nil, env, S => .nx env S
  | .asg i e k, env, S => (ev G call e env S).stm env fun d S => exT G call k (env.set i (some d)) S
  | .asgT is e k, env, S => (ev G call e env S).stm env fun d S => match bindT (.many is) d env with
    | some env' => exT G call k env' S
    | none => .bad
  | .exp e k, env, S => (ev G call e env S).stm env fun _ S => exT G call k env S
  | .fldS c o f e k, env, S => (ev G call e env S).stm env fun v S => (ev G call o env S).stm env fun x S => if clsD x S = some c then match setFld x f v S with
    | some S' => exT G call k env S'
    | none => .bad else .bad
  | .setI o i e k, env, S => (ev G call e env S).stm env fun v S => (ev G call o env S).stm env fun x S => (ev G call i env S).stm env fun y S => match setIx x y v S with
    | some S' => exT G call k env S'
    | none => .bad
  | .setT o a lo e k, env, S => (ev G call e env S).stm env fun v S => (ev G call o env S).stm env fun x S => (ev G call a env S).stm env fun t S => (ev G call lo env S).stm env fun l S => match setTD x t l v S with
    | some S' => exT G call k env S'
    | none => .bad
  | .ret e, env, S => (ev G call e env S).stm env fun d S => .rt d S
  | .ifs c a b k, env, S => (mapT (ev G call c env S)).stm env fun t S => (if t then exT G call a env S else exT G call b env S).andThen fun env S => exT G call k env S
  | .whl c b k, env, S => (goWhl (fun env S => mapT (ev G call c env S)) (fun env S => exT G call b env S) LOOP env S).andThen fun env S => exT G call k env S
  | .for_ ik src tg b k, env, S => (ev G call src env S).stm env fun xs S => match mkIt ik (srcL ik xs) S with
    | some it => (goForI it (fun x env S => match bindT tg x env with
      | some env' => exT G call b env' S
      | none => .bad) env S).andThen fun env S => exT G call k env S
    | none => .bad
  | .rais c, env, S => .ex c env S
  | .tr b cs h k, env, S => match exT G call b env S with
    | .ex c env' S' => if c ∈ G.exs then (if c ∈ cs then (exT G call h env' S').calm.andThen fun env S => exT G call k env S else .ex c env' S') else .bad
    | .nx env' S' => exT G call k env' S'
    | r => r
  | .tr2 b c h c' h' k, env, S => match exT G call b env S with
    | .ex d env' S' => if d ∈ G.exs then (if d = c then (exT G call h env' S').calm.andThen fun env S => exT G call k env S else if d = c' then (exT G call h' env' S').calm.andThen fun env S => exT G call k env S else .ex d env' S') else .bad
    | .nx env' S' => exT G call k env' S'
    | r => r

/-! ### calls -/
def frzA (S : Store) (d : D) : Option D := match d with
  | .ref n => match S[n]? with
    | some (.lst xs) => if noRefs xs then some (.lst xs) else none
    | some (.dct xs) => if noRefK xs then some (.dct xs) else none
    | _ => none
  | d => if noRef d then some d else none
def frzAs (S : Store) : List D → Option (List D)
  | [] => some []
  | d :: r => match frzA S d, frzAs S r with
    | some x, some xs => some (x :: xs)
    | _, _ => none
mutual
/-- no list, dict, reference within -/
def scl : D → Bool
  | .tup xs => scls xs
  | .lst _ => false
  | .dct _ => false
  | .ref _ => false
  | .scr _ => false
  | _ => true
def scls : List D → Bool
  | [] => true
  | x :: xs => scl x && scls xs
end
def sclK : List (Ky × D) → Bool
  | [] => true
  | (_, x) :: xs => scl x && sclK xs
/-- what a pure def hands back -/
def frzR (S : Store) (d : D) : Option D := match d with
  | .ref n => match S[n]? with
    | some (.lst xs) => if scls xs then some (.lst xs) else none
    | some (.dct xs) => if sclK xs then some (.dct xs) else none
    | _ => none
  | d => if scl d then some d else none
def startE (nl : Nat) (as : List D) : Env := as.map some ++ List.replicate (nl - as.length) none
noncomputable def run (G : Tab) : Nat → Calls
  | 0, _, _, _ => .bad
  | k + 1, f, as, S => match G.fns f with
    | none => .bad
    | some F => if as.length ≠ F.np then .bad else
      if F.pure then match frzAs S as with
        | none => .bad
        | some as' => match exT G (run G k) F.body (startE F.nl as') [] with
          | .nx _ _ => .ok .non S
          | .rt d S' => R.of (frzR S' d) S
          | .ex c _ _ => .ex c S
          | .bad => .bad
      else match exT G (run G k) F.body (startE F.nl as) S with
        | .nx _ S' => .ok .non S'
        | .rt d S' => .ok d S'
        | .ex c _ S' => .ex c S'
        | .bad => .bad
end PL

set_option Elab.async false
set_option linter.all false
set_option maxRecDepth 100000
/-! PLC: how plain data lies in the abstract heap. -/
namespace PL
open PySem L2

/-- the store's addresses, by index; addresses that are set aside -/
structure Wd where
  m : List Addr
  B : List Addr

/-- the script -/
def ScrAt (K : PySem.W.Frag) (H : Hp) (a : Addr) (ns : List Int) : Prop := (∃ o, H a = some (.frz o (.lst (ns.map V.int)))) ∨
  ∃ (o : Obj) (its : Array Value) (n : Nat), K.lookup a = some o ∧ o.cls = .type "list" ∧ o.dict = none ∧ o.data = .seq its n ∧ its.size ≤ sizeLine ∧ Vals (ns.map V.int) its.toList
theorem ScrAt.sq {K : PySem.W.Frag} {H : Hp} {a : Addr} {ns : List Int} (h : ScrAt K H a ns) : SqL K H a (ns.map V.int) := by
  rcases h with ⟨o, h⟩ | h
  · exact .inl (.inr ⟨o, h⟩)
  · exact .inr h
mutual
inductive Rep (K : PySem.W.Frag) (W : Wd) (H : Hp) : D → V → Prop
  | non : Rep K W H .non .non
  | bl (b : Bool) : Rep K W H (.bl b) (.bl b)
  | int (i : Int) : Rep K W H (.int i) (.int i)
  | str (x : Str) : Rep K W H (.str x) (.str x)
  | tup {xs : List D} {a : Addr} {vs : List V} : SqT K H a vs → Reps K W H xs vs → Rep K W H (.tup xs) (.ref a)
  | lst {xs : List D} {a : Addr} {vs : List V} : Rd H a (.lst vs) → a ∉ W.m → a ∉ W.B → Reps K W H xs vs → Rep K W H (.lst xs) (.ref a)
  | dct {xs : List (Ky × D)} {a : Addr} {vs : List (Key × V)} : Rd H a (.dK vs) → a ∉ W.m → a ∉ W.B → RepK K W H xs vs → Rep K W H (.dct xs) (.ref a)
  | ref {n : Nat} {a : Addr} : W.m[n]? = some a → Rep K W H (.ref n) (.ref a)
  | scr {ns : List Int} {a : Addr} : ScrAt K H a ns → Rep K W H (.scr ns) (.ref a)
inductive Reps (K : PySem.W.Frag) (W : Wd) (H : Hp) : List D → List V → Prop
  | nil : Reps K W H [] []
  | cons {d : D} {v : V} {ds : List D} {vs : List V} : Rep K W H d v → Reps K W H ds vs → Reps K W H (d :: ds) (v :: vs)
inductive RepK (K : PySem.W.Frag) (W : Wd) (H : Hp) : List (Ky × D) → List (Key × V) → Prop
  | nil : RepK K W H [] []
  | cons {k : Ky} {d : D} {v : V} {ds : List (Ky × D)} {vs : List (Key × V)} : Rep K W H d v → RepK K W H ds vs → RepK K W H ((k, d) :: ds) ((k, v) :: vs)
end
inductive RepF (K : PySem.W.Frag) (W : Wd) (H : Hp) (fn : Nat → Str) : List (Nat × D) → List (Str × V) → Prop
  | nil : RepF K W H fn [] []
  | cons {f : Nat} {d : D} {v : V} {ds : List (Nat × D)} {vs : List (Str × V)} : Rep K W H d v → RepF K W H fn ds vs → RepF K W H fn ((f, d) :: ds) ((fn f, v) :: vs)
inductive RepT (K : PySem.W.Frag) (W : Wd) (H : Hp) : List (List Ky × D) → List (List Key × V) → Prop
  | nil : RepT K W H [] []
  | cons {k : List Ky} {d : D} {v : V} {ds : List (List Ky × D)} {vs : List (List Key × V)} : Rep K W H d v → RepT K W H ds vs → RepT K W H ((k, d) :: ds) ((k, v) :: vs)

/-- addresses and names of the program's own things -/
structure Nm where
  C : Nat → Addr
  fn : Nat → Str
  X : Nat → Addr

def ObRep (K : PySem.W.Frag) (nm : Nm) (W : Wd) (H : Hp) (a : Addr) : Ob → Prop
  | .lst xs => ∃ vs, H a = some (.lst vs) ∧ Reps K W H xs vs
  | .dct xs => ∃ vs, H a = some (.dK vs) ∧ RepK K W H xs vs
  | .dtt xs => ∃ vs, H a = some (.dT vs) ∧ RepT K W H xs vs
  | .ins c fs => ∃ dx vs, H a = some (.ins (nm.C c) dx vs) ∧ RepF K W H nm.fn fs vs
  | .lck xs => ∃ od vs, H a = some (.frz od (.dK vs)) ∧ RepK K W H xs vs
  | .lct xs => ∃ od vs, H a = some (.frz od (.dT vs)) ∧ RepT K W H xs vs
structure Rel (K : PySem.W.Frag) (nm : Nm) (W : Wd) (S : Store) (H : Hp) : Prop where
  len : W.m.length = S.length
  nd : W.m.Nodup
  ob : ∀ (n : Nat) (a : Addr) (o : Ob), W.m[n]? = some a → S[n]? = some o → ObRep K nm W H a o
  bs : ∀ b ∈ W.B, b ∉ W.m ∧ ∃ o, H b = some o
def Mu : HO → Prop
  | .lst _ => True
  | .dK _ => True
  | .dT _ => True
  | .ins _ _ _ => True
  | .frz _ (.dK _) => True
  | .frz _ (.dT _) => True
  | _ => False
def Trk (W : Wd) (H : Hp) : Prop := ∀ a ∈ W.m, ∃ o, H a = some o ∧ Mu o
structure Ext (W : Wd) (H : Hp) (W' : Wd) (H' : Hp) : Prop where
  B : W'.B = W.B
  m : ∃ t, W'.m = W.m ++ t ∧ ∀ a ∈ t, H a = none
  keep : ∀ a o, H a = some o → a ∉ W.m → H' a = some o
  fz : ∀ a od u, H a = some (.frz od u) → H' a = some (.frz od u)
/-- what lies there is not frozen -/
def Unf (H : Hp) (a : Addr) : Prop := ∀ od u, H a ≠ some (.frz od u)

section
variable {K : PySem.W.Frag} {nm : Nm} {W W' W'' : Wd} {H H' H'' : Hp} {S S' : Store}
theorem Rel.trk (r : Rel K nm W S H) : Trk W H := fun a ha => by
  obtain ⟨n, hn⟩ := List.mem_iff_getElem?.mp ha
  have hl : n < S.length := by rw [← r.len]; exact (List.getElem?_eq_some_iff.mp hn).1
  have q := r.ob n a S[n] hn (by simp [hl])
  revert q
  generalize S[n] = o
  intro q
  cases o with
  | lst xs => obtain ⟨vs, e, _⟩ := q; exact ⟨_, e, trivial⟩
  | dct xs => obtain ⟨vs, e, _⟩ := q; exact ⟨_, e, trivial⟩
  | dtt xs => obtain ⟨vs, e, _⟩ := q; exact ⟨_, e, trivial⟩
  | ins c fs => obtain ⟨dx, vs, e, _⟩ := q; exact ⟨_, e, trivial⟩
  | lck xs => obtain ⟨od, vs, e, _⟩ := q; exact ⟨_, e, trivial⟩
  | lct xs => obtain ⟨od, vs, e, _⟩ := q; exact ⟨_, e, trivial⟩
theorem Ext.refl : Ext W H W H := ⟨rfl, ⟨[], by simp⟩, fun _ _ e _ => e, fun _ _ _ e => e⟩
theorem Ext.mem (e : Ext W H W' H') {a : Addr} {o : HO} (h : H a = some o) (n : a ∉ W.m) : a ∉ W'.m := by
  obtain ⟨t, e1, e2⟩ := e.m
  rw [e1, List.mem_append]
  rintro (z | z)
  · exact n z
  · rw [e2 a z] at h; cases h
theorem Ext.trans (t : Trk W' H') (a : Ext W H W' H') (b : Ext W' H' W'' H'') : Ext W H W'' H'' := by
  obtain ⟨t1, e1, f1⟩ := a.m
  obtain ⟨t2, e2, f2⟩ := b.m
  refine ⟨b.B.trans a.B, ⟨t1 ++ t2, by rw [e2, e1, List.append_assoc], fun x hx => ?_⟩, fun x o h n => b.keep x o (a.keep x o h n) (a.mem h n), fun x od u h => b.fz x od u (a.fz x od u h)⟩
  rcases List.mem_append.mp hx with hx | hx
  · exact f1 x hx
  · cases q : H x with
    | none => rfl
    | some o =>
      by_cases hm : x ∈ W.m
      · obtain ⟨o', h', _⟩ := t x (by rw [e1]; exact List.mem_append_left _ hm)
        rw [f2 x hx] at h'; cases h'
      · have := a.keep x o q hm
        rw [f2 x hx] at this; cases this
theorem Ext.sqT (t : Trk W H) (e : Ext W H W' H') {a : Addr} {vs : List V} (h : SqT K H a vs) : SqT K H' a vs := by
  rcases h with (h | ⟨o, h⟩) | h
  · refine .inl (.inl (e.keep a _ h fun z => ?_))
    obtain ⟨o, q, m⟩ := t a z
    rw [h] at q; cases q; exact m
  · refine .inl (.inr ⟨o, e.keep a _ h fun z => ?_⟩)
    obtain ⟨o, q, m⟩ := t a z
    rw [h] at q; cases q; exact m
  · exact .inr h
theorem Ext.rd (e : Ext W H W' H') {a : Addr} {u : HO} (h : Rd H a u) (n : a ∉ W.m) : Rd H' a u ∧ a ∉ W'.m := by
  rcases h with h | ⟨o, h⟩
  · exact ⟨.inl (e.keep a _ h n), e.mem h n⟩
  · exact ⟨.inr ⟨o, e.keep a _ h n⟩, e.mem h n⟩
theorem Ext.scr (t : Trk W H) (e : Ext W H W' H') {a : Addr} {ns : List Int} (h : ScrAt K H a ns) : ScrAt K H' a ns := by
  rcases h with ⟨o, h⟩ | h
  · refine .inl ⟨o, e.keep a _ h fun z => ?_⟩
    obtain ⟨o, q, m⟩ := t a z
    rw [h] at q; cases q; exact m
  · exact .inr h
mutual
theorem Rep.mono (t : Trk W H) (e : Ext W H W' H') : ∀ {d : D} {v : V}, Rep K W H d v → Rep K W' H' d v
  | _, _, .non => .non
  | _, _, .bl b => .bl b
  | _, _, .int i => .int i
  | _, _, .str x => .str x
  | _, _, .tup h r => .tup (e.sqT t h) (Reps.mono t e r)
  | _, _, .lst h n b r => .lst (e.rd h n).1 (e.rd h n).2 (by rw [e.B]; exact b) (Reps.mono t e r)
  | _, _, .dct h n b r => .dct (e.rd h n).1 (e.rd h n).2 (by rw [e.B]; exact b) (RepK.mono t e r)
  | _, _, .ref h => .ref (by
      obtain ⟨t, e1, _⟩ := e.m
      rw [e1]
      exact (List.getElem?_append_left (List.getElem?_eq_some_iff.mp h).1).trans h)
  | _, _, .scr h => .scr (e.scr t h)
theorem Reps.mono (t : Trk W H) (e : Ext W H W' H') : ∀ {d : List D} {v : List V}, Reps K W H d v → Reps K W' H' d v
  | _, _, .nil => .nil
  | _, _, .cons r rs => .cons (Rep.mono t e r) (Reps.mono t e rs)
theorem RepK.mono (t : Trk W H) (e : Ext W H W' H') : ∀ {d : List (Ky × D)} {v : List (Key × V)}, RepK K W H d v → RepK K W' H' d v
  | _, _, .nil => .nil
  | _, _, .cons r rs => .cons (Rep.mono t e r) (RepK.mono t e rs)
end
theorem RepF.mono {fn : Nat → Str} (t : Trk W H) (e : Ext W H W' H') {d : List (Nat × D)} {v : List (Str × V)} (r : RepF K W H fn d v) : RepF K W' H' fn d v := by
  induction r with
  | nil => exact .nil
  | cons r _ ih => exact .cons (r.mono t e) ih
theorem RepT.mono (t : Trk W H) (e : Ext W H W' H') {d : List (List Ky × D)} {v : List (List Key × V)} (r : RepT K W H d v) : RepT K W' H' d v := by
  induction r with
  | nil => exact .nil
  | cons r _ ih => exact .cons (r.mono t e) ih
/-- something new is laid -/
theorem Ext.alloc {p : Addr} {o : HO} (h : H p = none) : Ext W H W (upd H p o) := ⟨rfl, ⟨[], by simp⟩, fun a u e _ => by rw [upd_ne (ne_of_none e h)]; exact e, fun a od u e => by rw [upd_ne (ne_of_none e h)]; exact e⟩
/-- the heap grows, the store's objects stay -/
theorem Rel.grow (r : Rel K nm W S H) (e : Ext W H W H') (k : ∀ a o, H a = some o → H' a = some o) : Rel K nm W S H' := by
  have t := r.trk
  refine ⟨r.len, r.nd, fun n a o h1 h2 => ?_, fun b hb => ?_⟩
  · have q := r.ob n a o h1 h2
    cases o with
    | lst xs => obtain ⟨vs, e1, q⟩ := q; exact ⟨vs, k _ _ e1, q.mono t e⟩
    | dct xs => obtain ⟨vs, e1, q⟩ := q; exact ⟨vs, k _ _ e1, q.mono t e⟩
    | dtt xs => obtain ⟨vs, e1, q⟩ := q; exact ⟨vs, k _ _ e1, q.mono t e⟩
    | ins c fs => obtain ⟨dx, vs, e1, q⟩ := q; exact ⟨dx, vs, k _ _ e1, q.mono t e⟩
    | lck xs => obtain ⟨od, vs, e1, q⟩ := q; exact ⟨od, vs, k _ _ e1, q.mono t e⟩
    | lct xs => obtain ⟨od, vs, e1, q⟩ := q; exact ⟨od, vs, k _ _ e1, q.mono t e⟩
  · obtain ⟨n, o, e1⟩ := r.bs b hb
    exact ⟨n, o, k _ _ e1⟩
theorem same_upd {p : Addr} {o : HO} (h : H p = none) : ∀ a u, H a = some u → upd H p o a = some u := fun a u e => by rw [upd_ne (ne_of_none e h)]; exact e
theorem Rel.alloc (r : Rel K nm W S H) {p : Addr} {o : HO} (h : H p = none) : Rel K nm W S (upd H p o) := r.grow (Ext.alloc h) (same_upd h)
theorem Rel.fresh (r : Rel K nm W S H) {p : Addr} (h : H p = none) : p ∉ W.m ∧ p ∉ W.B := by
  refine ⟨fun z => ?_, fun z => ?_⟩
  · obtain ⟨o, e, _⟩ := r.trk p z
    rw [h] at e; cases e
  · obtain ⟨_, o, e⟩ := r.bs p z
    rw [h] at e; cases e
theorem Reps.length {ds : List D} {vs : List V} (r : Reps K W H ds vs) : ds.length = vs.length := by
  induction ds generalizing vs with
  | nil => cases r; rfl
  | cons d ds ih => cases r with | cons a b => simp [ih b]
theorem RepK.length {ds : List (Ky × D)} {vs : List (Key × V)} (r : RepK K W H ds vs) : ds.length = vs.length := by
  induction ds generalizing vs with
  | nil => cases r; rfl
  | cons d ds ih => cases r with | cons a b => simp [ih b]
theorem Reps.append {ds es : List D} {vs us : List V} (r : Reps K W H ds vs) (q : Reps K W H es us) : Reps K W H (ds ++ es) (vs ++ us) := by
  induction ds generalizing vs with
  | nil => cases r; exact q
  | cons d ds ih => cases r with | cons a b => exact .cons a (ih b)
theorem Reps.drop {ds : List D} {vs : List V} (n : Nat) (r : Reps K W H ds vs) : Reps K W H (ds.drop n) (vs.drop n) := by
  induction ds generalizing vs n with
  | nil => cases r; simp; exact .nil
  | cons d ds ih => cases r with | cons a b => cases n with
    | zero => exact .cons a b
    | succ n => exact ih n b
theorem Reps.take {ds : List D} {vs : List V} (n : Nat) (r : Reps K W H ds vs) : Reps K W H (ds.take n) (vs.take n) := by
  induction ds generalizing vs n with
  | nil => cases r; simp; exact .nil
  | cons d ds ih => cases r with | cons a b => cases n with
    | zero => exact .nil
    | succ n => exact .cons a (ih n b)
theorem Reps.get {ds : List D} {vs : List V} (r : Reps K W H ds vs) {i : Nat} {d : D} (h : ds[i]? = some d) : ∃ v, vs[i]? = some v ∧ Rep K W H d v := by
  induction ds generalizing vs i with
  | nil => simp at h
  | cons x ds ih => cases r with | cons a b => cases i with
    | zero => simp at h; subst h; exact ⟨_, rfl, a⟩
    | succ i => simp at h; obtain ⟨v, e, q⟩ := ih b h; exact ⟨v, by simpa using e, q⟩
theorem Reps.set {ds : List D} {vs : List V} {d : D} {v : V} (i : Nat) (r : Reps K W H ds vs) (q : Rep K W H d v) : Reps K W H (ds.set i d) (vs.set i v) := by
  induction ds generalizing vs i with
  | nil => cases r; exact .nil
  | cons x ds ih => cases r with | cons a b => cases i with
    | zero => exact .cons q b
    | succ i => exact .cons a (ih i b)

/-! ### the readings -/
structure ERep (K : PySem.W.Frag) (W : Wd) (H : Hp) (env : Env) (σ : St) : Prop where
  len : env.length = σ.length
  get : ∀ (i : Nat) (d : D), env[i]? = some (some d) → ∃ v : V, σ[i]? = some (some v) ∧ Rep K W H d v
theorem ERep.mono {env : Env} {σ : St} (t : Trk W H) (e : Ext W H W' H') (r : ERep K W H env σ) : ERep K W' H' env σ :=
  ⟨r.len, fun i d h => let ⟨v, a, b⟩ := r.get i d h; ⟨v, a, b.mono t e⟩⟩
theorem ERep.set {env : Env} {σ : St} {d : D} {v : V} (i : Nat) (r : ERep K W H env σ) (q : Rep K W H d v) : ERep K W H (env.set i (some d)) (σ.set i (some v)) := by
  refine ⟨by simp [r.len], fun j d' h => ?_⟩
  by_cases e : i = j
  · subst e
    by_cases hl : i < env.length
    · rw [List.getElem?_set_self hl] at h
      cases h
      exact ⟨v, by rw [List.getElem?_set_self (by rw [← r.len]; exact hl)], q⟩
    · rw [List.getElem?_eq_none (by simpa using hl)] at h
      cases h
  · rw [List.getElem?_set_ne e] at h
    obtain ⟨v', a, b⟩ := r.get j d' h
    exact ⟨v', by rw [List.getElem?_set_ne e]; exact a, b⟩
end
theorem _root_.L2.PE.imp {X : Cx} {e : Expr} {t u : TE} (h : PE X e t) (i : ∀ σ H Q, u σ H Q → t σ H Q) : PE X e u := ⟨fun pins s σ H Q I w => h.run pins s σ H Q I (i σ H Q w)⟩
theorem _root_.L2.PT.imp {X : Cx} {e : Expr} {t u : TT} (h : PT X e t) (i : ∀ σ H Q, u σ H Q → t σ H Q) : PT X e u := ⟨fun pins s σ H Q I w => h.run pins s σ H Q I (i σ H Q w)⟩
theorem _root_.L2.PA.imp {X : Cx} {e : List Expr} {t u : TA} (h : PA X e t) (i : ∀ σ H Q, u σ H Q → t σ H Q) : PA X e u := ⟨fun p pins s σ H Q I w => h.run p pins s σ H Q I (i σ H Q w)⟩
theorem _root_.L2.PS.imp {X : Cx} {e : Stmt} {t u : TS} (h : PS X e t) (i : ∀ D σ H, u D σ H → t D σ H) : PS X e u := ⟨fun pins s σ H Q I w => h.run pins s σ H Q I (i Q σ H w)⟩
theorem _root_.L2.PSs.imp {X : Cx} {e : List Stmt} {t u : TS} (h : PSs X e t) (i : ∀ D σ H, u D σ H → t D σ H) : PSs X e u := ⟨fun pins s σ H Q I w => h.run pins s σ H Q I (i Q σ H w)⟩
end PL

set_option Elab.async false
set_option linter.all false
set_option maxRecDepth 100000
set_option maxHeartbeats 1000000
/-! PLD: the operations on values. -/
namespace PL
open PySem PySem.Spec PyProof.Rows L2
section
variable {K : PySem.W.Frag} {nm : Nm} {W W' W'' : Wd} {H H' H'' : Hp} {S S' : Store} {X : Cx}
/-- every way on from here with the value d -/
def Fin (K : PySem.W.Frag) (nm : Nm) (W : Wd) (S : Store) (H : Hp) (d : D) (Q : VK) : Prop := ∀ v W' H', Ext W H W' H' → Rel K nm W' S H' → Rep K W' H' d v → Q v H'
theorem Fin.here {d : D} {v : V} {Q : VK} (f : Fin K nm W S H d Q) (r : Rel K nm W S H) (p : Rep K W H d v) : Q v H := f v W H Ext.refl r p
theorem Fin.tup {xs : List D} {vs : List V} {Q : VK} (f : Fin K nm W S H (.tup xs) Q) (r : Rel K nm W S H) (p : Reps K W H xs vs) {a : Addr} (h : H a = none) : Q (.ref a) (upd H a (.tup vs)) :=
  f _ W _ (Ext.alloc h) (r.alloc h) (.tup (SqT.of upd_same) (p.mono r.trk (Ext.alloc h)))
theorem Fin.lst {xs : List D} {vs : List V} {Q : VK} (f : Fin K nm W S H (.lst xs) Q) (r : Rel K nm W S H) (p : Reps K W H xs vs) {a : Addr} (h : H a = none) : Q (.ref a) (upd H a (.lst vs)) :=
  f _ W _ (Ext.alloc h) (r.alloc h) (.lst (.inl upd_same) (r.fresh h).1 (r.fresh h).2 (p.mono r.trk (Ext.alloc h)))
theorem Reps.lens {xs : List D} {vs : List V} (p : Reps K W H xs vs) : vs.length = xs.length := p.length.symm
theorem Reps.nil_iff {xs : List D} {vs : List V} (p : Reps K W H xs vs) : vs = [] ↔ xs = [] := by cases p <;> simp
/-- a list as it may be read -/
theorem rep_lst {d : D} {v : V} {xs : List D} (r : Rel K nm W S H) (p : Rep K W H d v) (h : lstOf d S = some xs) : ∃ a vs, v = .ref a ∧ Rd H a (.lst vs) ∧ Reps K W H xs vs := by
  cases p with
  | lst h1 h2 h3 h4 => cases h; exact ⟨_, _, rfl, h1, h4⟩
  | @ref n a h1 =>
    simp only [lstOf] at h
    split at h
    · rename_i q
      cases h
      obtain ⟨vs, e, z⟩ := r.ob n a _ h1 q
      exact ⟨a, vs, rfl, .inl e, z⟩
    · cases h
  | _ => cases h
theorem reps_int : ∀ ns : List Int, Reps K W H (ns.map D.int) (ns.map V.int)
  | [] => .nil
  | n :: ns => .cons (.int n) (reps_int ns)
theorem rep_seq {d : D} {v : V} {xs : List D} (r : Rel K nm W S H) (p : Rep K W H d v) (h : seqOf d S = some xs) : ∃ a vs, v = .ref a ∧ (SqL K H a vs ∨ SqT K H a vs) ∧ Reps K W H xs vs := by
  cases p with
  | tup h1 h2 => cases h; exact ⟨_, _, rfl, .inr h1, h2⟩
  | lst h1 h2 h3 h4 => cases h; exact ⟨_, _, rfl, .inl (.inl h1), h4⟩
  | scr h1 => cases h; exact ⟨_, _, rfl, .inl h1.sq, reps_int _⟩
  | @ref n a h1 =>
    obtain ⟨a, vs, e, h2, h3⟩ := rep_lst r (.ref h1) h
    exact ⟨a, vs, e, .inl (.inl h2), h3⟩
  | _ => cases h
theorem rep_dct {d : D} {v : V} {xs : List (Ky × D)} (r : Rel K nm W S H) (p : Rep K W H d v) (h : dctOf d S = some xs) : ∃ a vs, v = .ref a ∧ Rd H a (.dK vs) ∧ RepK K W H xs vs := by
  cases p with
  | dct h1 h2 h3 h4 => cases h; exact ⟨_, _, rfl, h1, h4⟩
  | @ref n a h1 =>
    simp only [dctOf] at h
    split at h
    · rename_i q
      cases h
      obtain ⟨vs, e, z⟩ := r.ob n a _ h1 q
      exact ⟨a, vs, rfl, .inl e, z⟩
    · rename_i q
      cases h
      obtain ⟨od, vs, e, z⟩ := r.ob n a _ h1 q
      exact ⟨a, vs, rfl, .inr ⟨od, e⟩, z⟩
    · cases h
  | _ => cases h
theorem SZ_eq : SZ = sizeLine := by rw [sizeLine_eq]; rfl
theorem reps_ints {xs : List D} {is : List Int} {vs : List V} (p : Reps K W H xs vs) (h : intsD xs = some is) : vs = is.map V.int := by
  induction xs generalizing is vs with
  | nil => cases p; cases h; rfl
  | cons x xs ih =>
    cases p with
    | cons a b =>
      cases a with
      | int i =>
        simp only [intsD, Option.map_eq_some_iff] at h
        obtain ⟨js, h1, h2⟩ := h
        subst h2
        simp [ih b h1]
      | _ => cases h
theorem reps_bools {xs : List D} {c : Bool} {vs : List V} (p : Reps K W H xs vs) (h : allB xs = some c) : ∃ bs : List Bool, vs = bs.map V.bl ∧ bs.all id = c := by
  induction xs generalizing c vs with
  | nil => cases p; cases h; exact ⟨[], rfl, rfl⟩
  | cons x xs ih =>
    cases p with
    | cons a b =>
      cases a with
      | bl k =>
        simp only [allB] at h
        split at h
        · rename_i c' q
          cases h
          obtain ⟨bs, e, z⟩ := ih b q
          exact ⟨k :: bs, by simp [e], by simp [z]⟩
        · cases h
      | _ => cases h
theorem reps_boolsA {xs : List D} {c : Bool} {vs : List V} (p : Reps K W H xs vs) (h : anyB xs = some c) : ∃ bs : List Bool, vs = bs.map V.bl ∧ bs.any id = c := by
  induction xs generalizing c vs with
  | nil => cases p; cases h; exact ⟨[], rfl, rfl⟩
  | cons x xs ih =>
    cases p with
    | cons a b =>
      cases a with
      | bl k =>
        simp only [anyB] at h
        split at h
        · rename_i c' q
          cases h
          obtain ⟨bs, e, z⟩ := ih b q
          exact ⟨k :: bs, by simp [e], by simp [z]⟩
        · cases h
      | _ => cases h

/-! ### lists that may be locked -/
theorem Inv.lstR {X : Cx} {pins : List (Addr × Obj)} {σ : L2.St} {H : Hp} {s : Shared} {l : Addr} {xs : List V} (I : Inv X pins σ H s) (hH : Rd H l (.lst xs)) :
    xs.length ≤ sizeLine ∧ ∃ (its : List Value) (n : Nat), Vals xs its ∧ xs.length = its.length ∧ s.heap.get? l = some { cls := .type "list", data := .seq its.toArray n } := by
  obtain ⟨z, its, n, r, e⟩ := hH.ok I.hok
  exact ⟨z, its, n, r, r.length, e⟩
def rCatR : R2 := fun x y H Q => ∃ l b xs zs, x = .ref l ∧ y = .ref b ∧ Rd H l (.lst xs) ∧ Rd H b (.lst zs) ∧ xs.length + zs.length ≤ sizeLine ∧ ∀ p, H p = none → Q (.ref p) (upd H p (.lst (xs ++ zs)))
theorem op_catR {X : Cx} : OpR X (binaryOp .Add) rCatR := by
  intro pins s σ H x y v u Q I rx ry h
  obtain ⟨l, b, xs, zs, rfl, rfl, hH, hB, hz, q⟩ := h
  cases rx
  cases ry
  obtain ⟨z, its, n, r, hl, e⟩ := Inv.lstR I hH
  obtain ⟨z2, its2, n2, r2, hl2, e2⟩ := Inv.lstR I hB
  refine PySem.P.add_list e e2 ?_ (by rw [List.size_toArray, List.size_toArray]; omega)
  have ea : its.toArray ++ its2.toArray = (its ++ its2).toArray := by simp
  rw [ea]
  exact ⟨.ref _, _, I.lnew (t' := s.toks) (r.append r2) (by rw [List.length_append]; omega), rfl, q _ I.fresh⟩

/-! ### binary operators -/
def rAdd4 (K : PySem.W.Frag) : R2 := fun x y H Q =>
  ((((rI0 fun i j => .int (i + j)) x y H Q ∨ ∃ i j, x = .str i ∧ y = .str j ∧ i.length + j.length ≤ sizeLine ∧ Q (.str (i ++ j)) H) ∨ rCatA K x y H Q) ∨ rCatR x y H Q)
theorem op_add4 : OpR X (binaryOp .Add) (rAdd4 X.K) := ((op_add.or op_add_str).or op_catA).or op_catR
theorem cat_list {x y : D} {u v : V} {xs ys : List D} {Q : VK} (r : Rel K nm W S H) (p : Rep K W H x u) (q : Rep K W H y v) (hx : lstOf x S = some xs) (hy : lstOf y S = some ys) (hz : xs.length + ys.length ≤ SZ)
    (f : Fin K nm W S H (.lst (xs ++ ys)) Q) : rCatR u v H Q := by
  obtain ⟨a, vs, rfl, h1, p1⟩ := rep_lst r p hx
  obtain ⟨b, ws, rfl, h2, p2⟩ := rep_lst r q hy
  exact ⟨a, b, vs, ws, rfl, rfl, h1, h2, by rw [p1.lens, p2.lens, ← SZ_eq]; exact hz, fun p hp => f.lst r (p1.append p2) hp⟩
theorem cat_tup {xs ys : List D} {u v : V} {Q : VK} (r : Rel K nm W S H) (p : Rep K W H (.tup xs) u) (q : Rep K W H (.tup ys) v) (hz : xs.length + ys.length ≤ SZ) (f : Fin K nm W S H (.tup (xs ++ ys)) Q) : rCatA K u v H Q := by
  cases p with
  | @tup _ a vs h1 p1 =>
    cases q with
    | @tup _ b ws h2 p2 =>
      refine ⟨a, b, vs, ws, rfl, rfl, h1, h2, by rw [p1.lens, p2.lens, ← SZ_eq]; exact hz, fun e => ?_, fun e e' => ?_, fun e e' p hp => f.tup r (p1.append p2) hp⟩
      · rw [p1.nil_iff] at e; subst e
        exact f.here r (.tup h2 p2)
      · rw [p2.nil_iff] at e'; subst e'
        rw [List.append_nil] at f
        exact f.here r (.tup h1 p1)
theorem add_ok {x y d : D} {u v : V} {Q : VK} (r : Rel K nm W S H) (p : Rep K W H x u) (q : Rep K W H y v) (h : bop .add x y S = some d) (f : Fin K nm W S H d Q) : rAdd4 K u v H Q := by
  have lists : ∀ a b, lstOf x S = some a → lstOf y S = some b → (if a.length + b.length ≤ SZ then some (D.lst (a ++ b)) else none) = some d → rAdd4 K u v H Q := fun a b e1 e2 h => by
    split at h
    · cases h; exact .inr (cat_list r p q e1 e2 (by assumption) f)
    · cases h
  simp only [bop, addD] at h
  split at h
  · cases h; cases p; cases q; exact .inl (.inl (.inl ⟨_, _, rfl, rfl, f.here r (.int _)⟩))
  · split at h
    · rename_i hz
      cases h; cases p; cases q; exact .inl (.inl (.inr ⟨_, _, rfl, rfl, by rw [← SZ_eq]; exact hz, f.here r (.str _)⟩))
    · cases h
  · split at h
    · rename_i hz
      cases h; exact .inl (.inr (cat_tup r p q hz f))
    · cases h
  · split at h
    · exact lists _ _ (by assumption) (by assumption) h
    · cases h
theorem sub_ok {x y d : D} {u v : V} {Q : VK} (r : Rel K nm W S H) (p : Rep K W H x u) (q : Rep K W H y v) (h : bop .sub x y S = some d) (f : Fin K nm W S H d Q) : (rI0 fun i j => .int (i - j)) u v H Q := by
  simp only [bop, subD] at h
  split at h
  · cases h; cases p; cases q; exact ⟨_, _, rfl, rfl, f.here r (.int _)⟩
  · cases h
theorem mod_ok {x y d : D} {u v : V} {Q : VK} (r : Rel K nm W S H) (p : Rep K W H x u) (q : Rep K W H y v) (h : bop .mod x y S = some d) (f : Fin K nm W S H d Q) : (rI (fun _ j => 0 < j) fun i j => .int (i % j)) u v H Q := by
  simp only [bop, modD] at h
  split at h
  · split at h
    · rename_i z
      cases h; cases p; cases q; exact ⟨_, _, rfl, rfl, z, f.here r (.int _)⟩
    · cases h
  · cases h
theorem fdiv_ok {x y d : D} {u v : V} {Q : VK} (r : Rel K nm W S H) (p : Rep K W H x u) (q : Rep K W H y v) (h : bop .fdiv x y S = some d) (f : Fin K nm W S H d Q) : (rI CDivW fun i j => .int (i / j)) u v H Q := by
  simp only [bop, fdivD] at h
  split at h
  · split at h
    · rename_i z
      cases h; cases p; cases q; exact ⟨_, _, rfl, rfl, wide_div (b := 64) z.1 (by omega) (by decide) (by decide), f.here r (.int _)⟩
    · cases h
  · cases h
/-- t * k -/
def rRepR : R2 := fun x y H Q => ∃ l k xs, x = .ref l ∧ y = .int k ∧ Rd H l (.lst xs) ∧ -(2 ^ 63) ≤ k ∧ k < 2 ^ 63 ∧ xs.length * k.toNat ≤ sizeLine ∧
  ∀ p, H p = none → Q (.ref p) (upd H p (.lst (List.replicate k.toNat xs).flatten))
theorem op_repR : OpR X (binaryOp .Mult) rRepR := by
  intro pins s σ H x y v u Q I rx ry h
  obtain ⟨l, k, xs, rfl, rfl, hH, h1, h2, hz, q⟩ := h
  cases rx
  obtain ⟨t, rfl⟩ := ry
  obtain ⟨z, its, n, r, hl, e⟩ := Inv.lstR I hH
  have hlen : its.toArray.size * k.toNat ≤ sizeLine := by rw [List.size_toArray, ← hl]; exact hz
  have hcap : ¬ its.toArray.size * k.toNat > (2 ^ 63 - 1) / 8 := by
    have : (sizeLine : Nat) ≤ (2 ^ 63 - 1) / 8 := by decide
    omega
  have hfit : ¬ (!Builtin.List.listFitsIndex k) = true := by
    rw [fitsIndex_both h1 h2]
    exact Bool.false_ne_true
  have hlong : ¬ Builtin.List.listTooLong (its.toArray.size * k.toNat) = true := by
    rw [notLongL hlen]
    exact Bool.false_ne_true
  have hnew : List.foldl (fun x1 x2 => x1 ++ x2) #[] (List.replicate (if its.toArray.isEmpty = true then 0 else k.toNat) its.toArray) = (List.replicate k.toNat its).flatten.toArray := by
    have f0 : ∀ m : Nat, List.foldl (fun x1 x2 => x1 ++ x2) #[] (List.replicate m its.toArray) = (List.replicate m its).flatten.toArray := fun m => by
      have := foldl_rep its m []
      rw [List.nil_append] at this
      exact this
    rw [f0]
    cases its with
    | nil => simp
    | cons a r' => rw [if_neg (by simp)]
  refine wpAny_binaryOp_repeat_ref (T := "list") (U := "int") (by decide) ⟨_, e, rfl⟩ (fun s' => typeIs_int s' k t) noFill_list_mul F.fills_int_mul F.slot_int_rmul repeat_list F.slot_int_index.lookup
    (call_meets F.slot_int_rmul (typeIs_int s k t) F.entry_int_rmul (F.args_int_rmul_2 _ _) (int___rmul___int_list k t l its.toArray n)
      ⟨e, rfl, ⟨_, e, rfl⟩, call_meets F.slot_list_mul ⟨_, e, rfl⟩ F.entry_list_mul (F.args_list_mul_2 _ _) (AutoListH.list___mul___list_int_3 l its.toArray n k t hfit hcap hlong) ⟨e, ?_⟩⟩)
  rw [hnew]
  exact ⟨.ref _, _, I.lnew (t' := s.toks) (r.rep k.toNat) (by rw [PyProof.Rows.lm_len_rep_flat, Nat.mul_comm]; exact hz), rfl, q _ I.fresh⟩

def rMul3 (K : PySem.W.Frag) : R2 := fun x y H Q => ((rI CMul fun i j => .int (i * j)) x y H Q ∨ (rRepT K x y H Q ∨ rRep01 K x y H Q)) ∨ rRepR x y H Q
theorem op_mul3 : OpR X (binaryOp .Mult) (rMul3 X.K) := (op_mul.or (op_repT.or op_rep01)).or op_repR
theorem Reps.rep {xs : List D} {vs : List V} (p : Reps K W H xs vs) : ∀ k : Nat, Reps K W H (List.replicate k xs).flatten (List.replicate k vs).flatten
  | 0 => .nil
  | k + 1 => by
    rw [List.replicate_succ, List.replicate_succ, List.flatten_cons, List.flatten_cons]
    exact p.append (Reps.rep p k)
theorem small_ok {i : Int} (h : small i = true) : -(2 ^ 64) < i ∧ i < 2 ^ 64 := by
  exact tst_iff.mp h
theorem mul_ok {x y d : D} {u v : V} {Q : VK} (r : Rel K nm W S H) (p : Rep K W H x u) (q : Rep K W H y v) (h : bop .mul x y S = some d) (f : Fin K nm W S H d Q) : rMul3 K u v H Q := by
  simp only [bop, mulD] at h
  split at h
  · split at h
    · rename_i z
      cases h; cases p; cases q
      refine .inl (.inl ⟨_, _, rfl, rfl, ?_, f.here r (.int _)⟩)
      simp only [Bool.or_eq_true] at z
      rcases z with z | z
      · exact .inl (small_ok z)
      · exact .inr (small_ok z)
    · cases h
  · rename_i aa k
    split at h
    · rename_i z
      cases h
      cases p with
      | @tup _ a vs h1 p1 =>
        cases q
        have ne : vs ≠ [] := fun e => z.2.2.2 (p1.nil_iff.mp e)
        by_cases k2 : 2 ≤ k
        · exact .inl (.inr (.inl ⟨a, _, vs, rfl, rfl, h1, ne, k2, z.2.1, by rw [p1.lens]; exact z.2.2.1, fun p hp => f.tup r (p1.rep _) hp⟩))
        · by_cases k1 : k = 1
          · subst k1
            have e : (List.replicate (Int.toNat 1) aa).flatten = aa := by rw [show Int.toNat 1 = 1 from rfl, List.replicate_one, List.flatten_singleton]
            rw [e] at f
            exact .inl (.inr (.inr ⟨a, 1, vs, rfl, rfl, h1, ne, .inl ⟨rfl, f.here r (.tup h1 p1)⟩⟩))
          · have k0 : k.toNat = 0 := by omega
            rw [k0] at f
            exact .inl (.inr (.inr ⟨a, k, vs, rfl, rfl, h1, ne, .inr ⟨by omega, by omega, fun p hp => f.tup r .nil hp⟩⟩))
    · cases h
  · split at h
    · split at h
      · rename_i e1 z
        cases h
        cases q
        obtain ⟨a, vs, rfl, h1, p1⟩ := rep_lst r p e1
        refine .inr ⟨a, _, vs, rfl, rfl, h1, by omega, by omega, ?_, fun p hp => f.lst r (p1.rep _) hp⟩
        rw [p1.lens, sizeLine_eq]
        have := Nat.mul_le_mul z.2.2 (show (Int.toNat _) ≤ 1000 from Int.toNat_le.mpr z.2.1)
        omega
      · cases h
    · cases h
  · cases h

/-! ### comparisons -/
theorem ord_ok {p' : Int → Int → Bool} {x y : D} {b : Bool} {u v : V} {Q : VK} (r : Rel K nm W S H) (p : Rep K W H x u) (q : Rep K W H y v) (h : ordD p' x y = some b) (f : Fin K nm W S H (.bl b) Q) : (rI0 fun i j => .bl (p' i j)) u v H Q := by
  simp only [ordD] at h
  split at h
  · cases h; cases p; cases q; exact ⟨_, _, rfl, rfl, f.here r (.bl _)⟩
  · cases h
end
mutual
theorem sh_ok : ∀ (n : Nat) (d : D), sh n d = true → PyData.canLay0 (pyT d) = true ∧ PyData.depth (pyT d) ≤ n
  | _, .non, _ => ⟨rfl, Nat.zero_le _⟩
  | _, .bl _, _ => ⟨rfl, Nat.zero_le _⟩
  | _, .int _, _ => ⟨rfl, Nat.zero_le _⟩
  | _, .str x, h => ⟨h, Nat.zero_le _⟩
  | 0, .tup _, h => by simp [sh] at h
  | n + 1, .tup xs, h => by
    obtain ⟨a, b⟩ := shs_ok n xs (by simpa [sh] using h)
    exact ⟨a, Nat.succ_le_succ b⟩
  | 0, .lst _, h => by simp [sh] at h
  | n + 1, .lst xs, h => by
    obtain ⟨a, b⟩ := shs_ok n xs (by simpa [sh] using h)
    exact ⟨a, Nat.succ_le_succ b⟩
  | _, .dct _, h => by simp [sh] at h
  | _, .ref _, h => by simp [sh] at h
  | _, .scr _, h => by simp [sh] at h
theorem shs_ok : ∀ (n : Nat) (d : List D), shs n d = true → PyData.canLayAll0 (pyTs d) = true ∧ PyData.depthAll (pyTs d) ≤ n
  | _, [], _ => ⟨rfl, Nat.zero_le _⟩
  | n, x :: xs, h => by
    simp only [shs, Bool.and_eq_true] at h
    obtain ⟨a, b⟩ := sh_ok n x h.1
    obtain ⟨c, d⟩ := shs_ok n xs h.2
    exact ⟨by simp [pyTs, PyData.canLayAll0, a, c], by simp only [pyTs, PyData.depthAll]; omega⟩
end
theorem shaped_ok {d : D} (h : sh 8 d = true) : SeqAt.shaped (pyT d) = true := by
  obtain ⟨a, b⟩ := sh_ok 8 d h
  unfold SeqAt.shaped
  rw [a]
  simp; omega
section
variable {K : PySem.W.Frag} {nm : Nm} {W W' W'' : Wd} {H H' H'' : Hp} {S S' : Store} {X : Cx}
mutual
theorem rep_dp : ∀ {n : Nat} {d : D} {v : V}, Rep K W H d v → sh n d = true → Dp K H v (pyT d)
  | _, _, _, .non, _ => .non
  | _, _, _, .bl _, _ => .bl _
  | _, _, _, .int _, _ => .int _
  | _, _, _, .str _, _ => .str _
  | 0, _, _, .tup _ _, h => by simp [sh] at h
  | n + 1, _, _, .tup a r, h => .tup a (reps_dp (n := n) r (by simpa [sh] using h))
  | 0, _, _, .lst _ _ _ _, h => by simp [sh] at h
  | n + 1, _, _, .lst a _ _ r, h => .lst (.inl a) (reps_dp (n := n) r (by simpa [sh] using h))
  | _, _, _, .dct _ _ _ _, h => by simp [sh] at h
  | _, _, _, .ref _, h => by simp [sh] at h
  | _, _, _, .scr _, h => by simp [sh] at h
theorem reps_dp : ∀ {n : Nat} {d : List D} {v : List V}, Reps K W H d v → shs n d = true → DpAll K H v (pyTs d)
  | _, _, _, .nil, _ => .nil
  | _, _, _, .cons a b, h => by
    simp only [shs, Bool.and_eq_true] at h
    exact .cons (rep_dp a h.1) (reps_dp b h.2)
end
theorem rep_frz1 {d : D} {v : V} (r : Rel K nm W S H) (p : Rep K W H d v) {n : Nat} (h : sh n (frz1 d S) = true) : Dp K H v (pyT (frz1 d S)) := by
  cases p with
  | @ref k a h1 =>
    revert h
    simp only [frz1]
    split
    · rename_i xs q
      intro h
      obtain ⟨vs, e, z⟩ := r.ob k a _ h1 q
      cases n with
      | zero => simp [sh] at h
      | succ n => exact .lst (.inl (.inl e)) (reps_dp z (by simpa [sh] using h))
    · intro h; simp [sh] at h
  | non => exact .non
  | bl _ => exact .bl _
  | int _ => exact .int _
  | str _ => exact .str _
  | tup a b => exact rep_dp (.tup a b) h
  | lst a b c d => exact rep_dp (.lst a b c d) h
  | dct a b c d => exact rep_dp (.dct a b c d) h
  | scr a => exact rep_dp (W := W) (.scr a) h
def rEq2 (K : PySem.W.Frag) : R2 := fun x y H Q => rEq x y H Q ∨ rEqD K x y H Q
theorem op_eq2 (hu : X.A.units + 64 < cLine) : OpR X (compareOp .Eq) (rEq2 X.K) := op_eq.or (op_eqD hu)
def rNe2 (K : PySem.W.Frag) : R2 := fun x y H Q => rNe x y H Q ∨ rNeD K x y H Q
theorem op_ne2 (hu : X.A.units + 64 < cLine) : OpR X (compareOp .NotEq) (rNe2 X.K) := op_ne.or (op_neD hu)
theorem eq_core {x y : D} {b : Bool} {u v : V} (r : Rel K nm W S H) (p : Rep K W H x u) (q : Rep K W H y v) (h : eqD (frz1 x S) (frz1 y S) = some b) :
    (scal u v = true ∧ decide (u = v) = b) ∨ ∃ d e, Dp K H u d ∧ Dp K H v e ∧ SeqAt.shaped d = true ∧ SeqAt.shaped e = true ∧ PyData.eqv d e = b := by
  have deep : (if sh 8 (frz1 x S) && sh 8 (frz1 y S) then some (eqv2 (frz1 x S) (frz1 y S)) else none) = some b → ∃ d e, Dp K H u d ∧ Dp K H v e ∧ SeqAt.shaped d = true ∧ SeqAt.shaped e = true ∧ PyData.eqv d e = b := fun h => by
    split at h
    · rename_i z
      simp only [Bool.and_eq_true] at z
      cases h
      exact ⟨_, _, rep_frz1 r p z.1, rep_frz1 r q z.2, shaped_ok z.1, shaped_ok z.2, rfl⟩
    · cases h
  have fx : ∀ {d : D} {i : Nat}, (∀ n, d ≠ .ref n) → frz1 d S = d := fun {d _} hd => by
    cases d <;> first | rfl | exact absurd rfl (hd _)
  have sc : ∀ {d e : D}, frz1 d S = e → (∀ n, e ≠ .ref n) → (∀ l, e ≠ .lst l) → d = e := fun {d e} hd h1 h2 => by
    cases d with
    | ref n =>
      simp only [frz1] at hd
      split at hd
      · exact absurd hd.symm (h2 _)
      · exact absurd hd.symm (h1 _)
    | _ => exact hd
  simp only [eqD] at h
  split at h
  · rename_i e1 e2
    have e1 := sc e1 (by simp) (by simp); have e2 := sc e2 (by simp) (by simp)
    subst e1; subst e2
    cases h; cases p; cases q
    exact .inl ⟨rfl, by simp⟩
  · rename_i e1 e2
    have e1 := sc e1 (by simp) (by simp); have e2 := sc e2 (by simp) (by simp)
    subst e1; subst e2
    cases h; cases p; cases q
    exact .inl ⟨rfl, by simp⟩
  · rename_i e1 e2
    have e1 := sc e1 (by simp) (by simp); have e2 := sc e2 (by simp) (by simp)
    subst e1; subst e2
    cases h; cases p; cases q
    exact .inl ⟨rfl, by simp⟩
  · exact .inr (deep h)
theorem eq_ok {x y : D} {b : Bool} {u v : V} {Q : VK} (r : Rel K nm W S H) (p : Rep K W H x u) (q : Rep K W H y v) (h : eqD (frz1 x S) (frz1 y S) = some b) (f : Fin K nm W S H (.bl b) Q) : rEq2 K u v H Q := by
  rcases eq_core r p q h with ⟨h1, h2⟩ | ⟨d, e, h1, h2, h3, h4, h5⟩
  · exact .inl ⟨h1, by rw [h2]; exact f.here r (.bl _)⟩
  · exact .inr ⟨d, e, h1, h2, h3, h4, by rw [h5]; exact f.here r (.bl _)⟩
theorem ne_ok {x y : D} {b : Bool} {u v : V} {Q : VK} (r : Rel K nm W S H) (p : Rep K W H x u) (q : Rep K W H y v) (h : (eqD (frz1 x S) (frz1 y S)).map not = some b) (f : Fin K nm W S H (.bl b) Q) : rNe2 K u v H Q := by
  rw [Option.map_eq_some_iff] at h
  obtain ⟨c, h, e⟩ := h
  subst e
  rcases eq_core r p q h with ⟨h1, h2⟩ | ⟨d, e, h1, h2, h3, h4, h5⟩
  · exact .inl ⟨h1, by rw [h2]; exact f.here r (.bl _)⟩
  · exact .inr ⟨d, e, h1, h2, h3, h4, by rw [h5]; exact f.here r (.bl _)⟩
end
end PL

set_option Elab.async false
set_option linter.all false
set_option maxRecDepth 100000
set_option maxHeartbeats 1000000
/-! PLE: subscripts, slices, built-ins. -/
namespace PL
open PySem PySem.Spec PyProof.Rows L2
section
variable {K : PySem.W.Frag} {nm : Nm} {W W' W'' : Wd} {H H' H'' : Hp} {S S' : Store} {X : Cx}
theorem atI_some {α : Type} {xs : List α} {i : Int} {x : α} (h : atI xs i = some x) : ∃ j, ixN xs.length i = some j ∧ xs[j]? = some x := by
  unfold atI at h
  exact Option.bind_eq_some_iff.mp h
theorem reps_at {xs : List D} {vs : List V} {i : Int} {d : D} (p : Reps K W H xs vs) (h : atI xs i = some d) : ∃ v, atI vs i = some v ∧ Rep K W H d v := by
  obtain ⟨j, h1, h2⟩ := atI_some h
  obtain ⟨v, h3, h4⟩ := p.get h2
  exact ⟨v, by unfold atI; rw [p.lens, h1]; exact h3, h4⟩
theorem ix_ok {x y d : D} {u v : V} {Q : VK} (r : Rel K nm W S H) (p : Rep K W H x u) (q : Rep K W H y v) (h : getD_ x y S = some d) (f : Fin K nm W S H d Q) : rIx K u v H Q := by
  simp only [getD_] at h
  split at h
  · split at h
    · rename_i z
      cases p; cases q
      rw [Option.map_eq_some_iff] at h
      obtain ⟨c, h1, h2⟩ := h
      subst h2
      exact .inr (.inr ⟨_, _, c, rfl, rfl, by rw [← SZ_eq]; exact z, h1, f.here r (.str _)⟩)
    · cases h
  · split at h
    · rename_i e
      split at h
      · cases q
        obtain ⟨a, vs, rfl, h1, h2⟩ := rep_seq r p e
        obtain ⟨w, h3, h4⟩ := reps_at h2 h
        rcases h1 with h1 | h1
        · exact .inl ⟨a, vs, _, w, rfl, rfl, h1, h3, f.here r h4⟩
        · exact .inr (.inl ⟨a, vs, _, w, rfl, rfl, h1, h3, f.here r h4⟩)
      · cases h
    · cases h
/-! ### slices -/
def rSl3 (K : PySem.W.Frag) : V → Option Int → Option Int → Hp → VK → Prop := fun x lo hi H Q => (rSlA K x lo hi H Q ∨ rSlL K x lo hi H Q) ∨ rSlS x lo hi H Q
theorem sl_3 : SlR X (rSl3 X.K) := (sl_tupA.or sl_list).or sl_str
theorem reps_cut {xs : List D} {vs : List V} {lo hi : Option Int} (p : Reps K W H xs vs) : Reps K W H (cutD xs lo hi) (cutV vs lo hi) := by
  show Reps K W H ((xs.drop _).take _) ((vs.drop _).take _)
  rw [p.lens]
  exact (p.drop _).take _
theorem sl_ok {x d : D} {u : V} {lo hi : Option Int} {Q : VK} (r : Rel K nm W S H) (p : Rep K W H x u) (h : slD x lo hi S = some d) (f : Fin K nm W S H d Q) : rSl3 K u lo hi H Q := by
  simp only [slD] at h
  split at h
  · split at h
    · rename_i z
      cases h; cases p
      exact .inr ⟨_, rfl, by rw [← SZ_eq]; exact z, f.here r (.str _)⟩
    · cases h
  · cases h
    cases p with
    | @tup _ a vs h1 p1 =>
      refine .inl (.inl ⟨a, vs, rfl, h1, fun e => ?_, fun _ p hp => f.tup r (reps_cut p1) hp⟩)
      have e2 : cutV vs lo hi = vs := by
        show (vs.drop _).take _ = vs
        rw [e.1, e.2]
        simp
      refine f.here r (.tup h1 ?_)
      have := reps_cut (lo := lo) (hi := hi) p1
      rw [e2] at this
      exact this
  · cases h
    cases p with
    | @scr _ a h1 => exact .inl (.inr ⟨a, _, rfl, h1.sq, fun p hp => f.lst r (reps_cut (reps_int _)) hp⟩)
  · split at h
    · rename_i e
      cases h
      obtain ⟨a, vs, rfl, h1, p1⟩ := rep_lst r p e
      exact .inl (.inr ⟨a, vs, rfl, .inl h1, fun p hp => f.lst r (reps_cut p1) hp⟩)
    · cases h

/-! ### built-in functions -/
def CallK (X : Cx) (K : PySem.W.Frag) (nm : Nm) (g : List D → Store → Option D) (r : List V → Hp → VK → Prop) : Prop :=
  ∀ (W : Wd) (S : Store) (H : Hp) (as : List D) (vs : List V) (d : D) (Q : VK), Rel K nm W S H → Reps K W H as vs → g as S = some d → Fin K nm W S H d Q → r vs H Q
theorem CallR.or {X : Cx} {f : Value} {r r' : List V → Hp → VK → Prop} (h : CallR X f r) (h' : CallR X f r') : CallR X f (fun x H Q => r x H Q ∨ r' x H Q) := by
  intro pins s σ H xs us Q I rx q
  rcases q with q | q
  · exact h pins s σ H xs us Q I rx q
  · exact h' pins s σ H xs us Q I rx q
theorem call_lenR : CallR X (.builtin "len") (fun xs H Q => ∃ a kvs, xs = [V.ref a] ∧ Rd H a (.dK kvs) ∧ Q (.int kvs.length) H) := by
  intro pins s σ H xs us Q I r h
  obtain ⟨a, kvs, rfl, ha, q⟩ := h
  obtain ⟨u, rfl, ru⟩ := vals1 r
  cases ru
  exact d_len I ha fun t s' I' => ⟨.int kvs.length, H, I', ⟨t, rfl⟩, q⟩
def rLen3 (K : PySem.W.Frag) : List V → Hp → VK → Prop := fun vs H Q => ((∃ p ys, vs = [.ref p] ∧ (SqL K H p ys ∨ SqT K H p ys) ∧ Q (.int ys.length) H) ∨ (∃ z, vs = [.str z] ∧ z.length ≤ sizeLine ∧ Q (.int z.length) H)) ∨ (∃ p kvs, vs = [.ref p] ∧ Rd H p (.dK kvs) ∧ Q (.int kvs.length) H)
theorem call_len3 : CallR X (.builtin "len") (rLen3 X.K) := (CallR.or call_len_seq call_len_str).or call_lenR
theorem reps1 {d : D} {vs : List V} (p : Reps K W H [d] vs) : ∃ v, vs = [v] ∧ Rep K W H d v := by
  cases p with | cons a b => cases b; exact ⟨_, rfl, a⟩
theorem reps2 {d e : D} {vs : List V} (p : Reps K W H [d, e] vs) : ∃ v u, vs = [v, u] ∧ Rep K W H d v ∧ Rep K W H e u := by
  cases p with | cons a b => cases b with | cons b c => cases c; exact ⟨_, _, rfl, a, b⟩
theorem len_ok : CallK X K nm lenF (rLen3 K) := by
  intro W S H as vs d Q r p h f
  simp only [lenF] at h
  split at h <;> try (cases h; done)
  obtain ⟨v, e0, p1⟩ := reps1 p
  subst e0
  clear p
  have p := p1
  clear p1
  rw [Option.map_eq_some_iff] at h
  obtain ⟨n, h1, h2⟩ := h
  subst h2
  simp only [lenD] at h1
  split at h1
  · split at h1
    · rename_i z
      cases h1; cases p
      exact .inl (.inr ⟨_, rfl, by rw [← SZ_eq]; exact z, f.here r (.int _)⟩)
    · cases h1
  · split at h1
    · rename_i e
      cases h1
      obtain ⟨a, ws, rfl, h3, h4⟩ := rep_seq r p e
      exact .inl (.inl ⟨a, ws, rfl, h3, by rw [h4.lens]; exact f.here r (.int _)⟩)
    · rw [Option.map_eq_some_iff] at h1
      obtain ⟨kvs, h5, h6⟩ := h1
      subst h6
      obtain ⟨a, ws, rfl, h3, h4⟩ := rep_dct r p h5
      exact .inr ⟨a, ws, rfl, h3, by rw [← h4.length]; exact f.here r (.int _)⟩
theorem all_ok : CallK X K nm allF (rAll K) := by
  intro W S H as vs d Q r p h f
  simp only [allF] at h
  split at h <;> try (cases h; done)
  obtain ⟨v, e0, p1⟩ := reps1 p
  subst e0
  clear p
  have p := p1
  clear p1
  rw [Option.map_eq_some_iff] at h
  obtain ⟨b, h1, h2⟩ := h
  subst h2
  obtain ⟨xs, h3, h4⟩ := Option.bind_eq_some_iff.mp h1
  obtain ⟨a, ws, rfl, h5, h6⟩ := rep_lst r p h3
  obtain ⟨bs, rfl, h7⟩ := reps_bools h6 h4
  exact ⟨a, bs, rfl, .inl h5, by rw [h7]; exact f.here r (.bl _)⟩
theorem any_ok : CallK X K nm anyF (rAny K) := by
  intro W S H as vs d Q r p h f
  simp only [anyF] at h
  split at h <;> try (cases h; done)
  obtain ⟨v, e0, p1⟩ := reps1 p
  subst e0
  clear p
  have p := p1
  clear p1
  rw [Option.map_eq_some_iff] at h
  obtain ⟨b, h1, h2⟩ := h
  subst h2
  obtain ⟨xs, h3, h4⟩ := Option.bind_eq_some_iff.mp h1
  obtain ⟨a, ws, rfl, h5, h6⟩ := rep_lst r p h3
  obtain ⟨bs, rfl, h7⟩ := reps_boolsA h6 h4
  exact ⟨a, bs, rfl, .inl h5, by rw [h7]; exact f.here r (.bl _)⟩
theorem sum_ok : CallK X K nm sumF (fun xs H Q => rSum K xs H Q ∨ rSumT K xs H Q) := by
  intro W S H as vs d Q r p h f
  simp only [sumF] at h
  split at h <;> try (cases h; done)
  · obtain ⟨v, e0, p1⟩ := reps1 p
    subst e0
    rw [Option.map_eq_some_iff] at h
    obtain ⟨b, h1, h2⟩ := h
    subst h2
    cases p1 with
    | @tup _ a ws h5 h6 =>
      have h7 := reps_ints h6 h1
      subst h7
      exact .inr ⟨a, b, rfl, h5, f.here r (.int _)⟩
  refine .inl ?_
  obtain ⟨v, e0, p1⟩ := reps1 p
  subst e0
  clear p
  have p := p1
  clear p1
  rw [Option.map_eq_some_iff] at h
  obtain ⟨b, h1, h2⟩ := h
  subst h2
  obtain ⟨xs, h3, h4⟩ := Option.bind_eq_some_iff.mp h1
  obtain ⟨a, ws, rfl, h5, h6⟩ := rep_lst r p h3
  have h7 := reps_ints h6 h4
  subst h7
  exact ⟨a, b, rfl, .inl h5, f.here r (.int _)⟩
def rTup2 (K : PySem.W.Frag) : List V → Hp → VK → Prop := fun xs H Q => ∃ p ys, xs = [.ref p] ∧ ((SqL K H p ys ∧ ∀ l, H l = none → Q (.ref l) (upd H l (.tup ys))) ∨ (SqT K H p ys ∧ Q (.ref p) H))
theorem tuple_ok : CallK X K nm tupF (rTup2 K) := by
  intro W S H as vs d Q r p h f
  simp only [tupF] at h
  split at h <;> try (cases h; done)
  obtain ⟨v, e0, p1⟩ := reps1 p
  subst e0
  clear p
  have p := p1
  clear p1
  rw [Option.map_eq_some_iff] at h
  obtain ⟨xs, h1, h2⟩ := h
  subst h2
  obtain ⟨a, ws, rfl, h3, h4⟩ := rep_seq r p h1
  refine ⟨a, ws, rfl, ?_⟩
  rcases h3 with h3 | h3
  · exact .inl ⟨h3, fun l hl => f.tup r h4 hl⟩
  · exact .inr ⟨h3, f.here r (.tup h3 h4)⟩
def rLst2 (K : PySem.W.Frag) : List V → Hp → VK → Prop := fun xs H Q => ∃ p ys, xs = [.ref p] ∧ (SqL K H p ys ∨ SqT K H p ys) ∧ ∀ l, H l = none → Q (.ref l) (upd H l (.lst ys))
theorem items_rep {d : D} {v : V} {xs : List D} (r : Rel K nm W S H) (p : Rep K W H d v) (h : itemsOf d S = some xs) :
    (∃ a vs, v = .ref a ∧ (SqL K H a vs ∨ SqT K H a vs) ∧ Reps K W H xs vs) ∨ ∃ a ds vs, v = .ref a ∧ Rd H a (.dK vs) ∧ RepK K W H ds vs ∧ xs = ds.map fun p => kyD p.1 := by
  simp only [itemsOf] at h
  split at h
  · rename_i e
    cases h
    exact .inl (rep_seq r p e)
  · simp only [keysD] at h
    split at h
    · rename_i ds e
      cases h
      obtain ⟨a, ws, e1, e2, e3⟩ := rep_dct r p e
      exact .inr ⟨a, ds, ws, e1, e2, e3, rfl⟩
    · cases h
theorem reps_keys {ds : List (Ky × D)} {vs : List (Key × V)} (p : RepK K W H ds vs) : Reps K W H (ds.map fun p => kyD p.1) (vs.map fun kv => kV kv.1) := by
  induction ds generalizing vs with
  | nil => cases p; exact .nil
  | cons x ds ih =>
    cases p with
    | @cons k d v _ vs a b =>
      refine .cons ?_ (ih b)
      cases k with
      | inl i => exact .int i
      | inr x => exact .str x
theorem repK_keys {ds : List (Ky × D)} {vs : List (Key × V)} (p : RepK K W H ds vs) : vs.map (·.1) = ds.map (·.1) := by
  induction ds generalizing vs with
  | nil => cases p; rfl
  | cons x ds ih =>
    cases p with
    | cons a b => simp [ih b]
/-- a new list of these -/
def FinL (K : PySem.W.Frag) (W : Wd) (H : Hp) (xs : List D) (Q : VK) : Prop := ∀ vs a, Reps K W H xs vs → H a = none → Q (.ref a) (upd H a (.lst vs))
theorem Fin.finL {xs : List D} {Q : VK} (f : Fin K nm W S H (.lst xs) Q) (r : Rel K nm W S H) : FinL K W H xs Q := fun vs a p h => f.lst r p h
def rLst3 (K : PySem.W.Frag) : List V → Hp → VK → Prop := fun xs H Q => rLst2 K xs H Q ∨ ∃ (a : Addr) (kvs : List (Key × V)), xs = [.ref a] ∧ Rd H a (.dK kvs) ∧ ∀ p, H p = none → Q (.ref p) (upd H p (.lst (kvs.map fun kv => kV kv.1)))
theorem list_new {as : List D} {vs : List V} {xs : List D} {Q : VK} (r : Rel K nm W S H) (p : Reps K W H as vs) (h : listF as S = some (.lst xs)) (f : FinL K W H xs Q) : rLst3 K vs H Q := by
  simp only [listF] at h
  split at h <;> try (cases h; done)
  obtain ⟨v, e0, p1⟩ := reps1 p
  subst e0
  rw [Option.map_eq_some_iff] at h
  obtain ⟨xs', h1, h2⟩ := h
  cases h2
  rcases items_rep r p1 h1 with ⟨a, ws, rfl, h3, h4⟩ | ⟨a, ds, ws, rfl, h3, h4, rfl⟩
  · exact .inl ⟨a, ws, rfl, h3, fun l hl => f _ _ h4 hl⟩
  · exact .inr ⟨a, ws, rfl, h3, fun l hl => f _ _ (reps_keys h4) hl⟩
theorem list_ok : CallK X K nm listF (rLst3 K) := by
  intro W S H as vs d Q r p h f
  obtain ⟨xs, rfl⟩ : ∃ xs, d = .lst xs := by
    simp only [listF] at h
    split at h <;> try (cases h; done)
    rw [Option.map_eq_some_iff] at h
    obtain ⟨xs, _, h2⟩ := h
    exact ⟨xs, h2.symm⟩
  exact list_new r p h (f.finL r)
theorem max_ok : CallK X K nm maxF (fun xs H Q => ∃ i j, xs = [.int i, .int j] ∧ Q (.int (if j > i then j else i)) H) := by
  intro W S H as vs d Q r p h f
  simp only [maxF] at h
  split at h <;> try (cases h; done)
  obtain ⟨v, u, e0, p1, q⟩ := reps2 p
  subst e0
  clear p
  have p := p1
  clear p1
  cases p; cases q; cases h
  exact ⟨_, _, rfl, f.here r (.int _)⟩
theorem min_ok : CallK X K nm minF (fun xs H Q => ∃ i j, xs = [.int i, .int j] ∧ Q (.int (if j < i then j else i)) H) := by
  intro W S H as vs d Q r p h f
  simp only [minF] at h
  split at h <;> try (cases h; done)
  obtain ⟨v, u, e0, p1, q⟩ := reps2 p
  subst e0
  clear p
  have p := p1
  clear p1
  cases p; cases q; cases h
  exact ⟨_, _, rfl, f.here r (.int _)⟩

/-! ### isinstance, truth -/
def tyN : Nat → String
  | 0 => "int"
  | 1 => "bool"
  | 2 => "str"
  | 3 => "tuple"
  | _ => "frozenset"
theorem tyx_tup {a : Addr} {vs : List V} (h : SqT K H a vs) : TyX K H (.ref a) (.type "tuple") := by
  rcases h with (h | ⟨o, h⟩) | ⟨o, its, n, h1, h2, _⟩
  · exact .base (.tup h)
  · exact .fTuple h
  · exact .kTuple h1 h2
theorem tyx_lst {a : Addr} {vs : List V} (h : Rd H a (.lst vs)) : TyX K H (.ref a) (.type "list") := by
  rcases h with h | ⟨o, h⟩
  · exact .base (.lst h)
  · exact .base (.frz h)
theorem tyx_scr {a : Addr} {ns : List Int} (h : ScrAt K H a ns) : TyX K H (.ref a) (.type "list") := by
  rcases h with ⟨o, h⟩ | ⟨o, its, n, h1, h2, _⟩
  · exact .base (.frz h)
  · exact .kList h1 h2
theorem tyx_dct {a : Addr} {vs : List (Key × V)} (h : Rd H a (.dK vs)) : TyX K H (.ref a) (.type "dict") := by
  rcases h with h | ⟨o, h⟩
  · exact .base (.dK h)
  · exact .fDict h
theorem isa_ok {t : Nat} {d : D} {v : V} {Q : VK} (r : Rel K nm W S H) (p : Rep K W H d v) (hn : notIns d S = true) (f : Fin K nm W S H (.bl (isaD t d)) Q) : ∃ ty b, TyX K H v ty ∧ PySem.W.kitOne K ty (.type (tyN t)) = some b ∧ Q (.bl b) H := by
  have key : ∀ (s : String), TyX K H v (.type s) → PySem.W.kitOne K (.type s) (.type (tyN t)) = some (isaD t d) → ∃ ty b, TyX K H v ty ∧ PySem.W.kitOne K ty (.type (tyN t)) = some b ∧ Q (.bl b) H := fun s h1 h2 => ⟨_, _, h1, h2, f.here r (.bl _)⟩
  have ob : ∀ {a : Addr} {n : Nat}, W.m[n]? = some a → d = .ref n → v = .ref a → (TyX K H v (.type "list") ∨ TyX K H v (.type "dict")) := fun {a n} h1 h2 h3 => by
    subst h2 h3
    simp only [notIns] at hn
    have hl : n < S.length := by rw [← r.len]; exact (List.getElem?_eq_some_iff.mp h1).1
    have q := r.ob n a S[n] h1 (by simp [hl])
    have e : S[n]? = some S[n] := by simp [hl]
    rw [e] at hn
    revert q hn
    generalize S[n] = o
    intro hn q
    cases o with
    | lst xs => obtain ⟨vs, e, _⟩ := q; exact .inl (.base (.lst e))
    | dct xs => obtain ⟨vs, e, _⟩ := q; exact .inr (.base (.dK e))
    | dtt xs => obtain ⟨vs, e, _⟩ := q; exact .inr (.base (.dT e))
    | lck xs => cases hn
    | lct xs => cases hn
    | ins c fs => cases hn
  have t4 : t = 0 ∨ t = 1 ∨ t = 2 ∨ t = 3 ∨ ∃ k, t = k + 4 := by
    rcases t with _ | _ | _ | _ | k
    · exact .inl rfl
    · exact .inr (.inl rfl)
    · exact .inr (.inr (.inl rfl))
    · exact .inr (.inr (.inr (.inl rfl)))
    · exact .inr (.inr (.inr (.inr ⟨k, rfl⟩)))
  rcases t4 with rfl | rfl | rfl | rfl | ⟨k, rfl⟩
  all_goals
    cases p with
    | non => exact key "NoneType" (.base .non) (kit_ty (by simp only [isaD, tyN]; decide +kernel))
    | bl b => exact key "bool" (.base (.bl _)) (kit_ty (by simp only [isaD, tyN]; decide +kernel))
    | int b => exact key "int" (.base (.int _)) (kit_ty (by simp only [isaD, tyN]; decide +kernel))
    | str b => exact key "str" (.base (.str _)) (kit_ty (by simp only [isaD, tyN]; decide +kernel))
    | tup h1 h2 => exact key "tuple" (tyx_tup h1) (kit_ty (by simp only [isaD, tyN]; decide +kernel))
    | lst h1 h2 h3 h4 => exact key "list" (tyx_lst h1) (kit_ty (by simp only [isaD, tyN]; decide +kernel))
    | dct h1 h2 h3 h4 => exact key "dict" (tyx_dct h1) (kit_ty (by simp only [isaD, tyN]; decide +kernel))
    | scr h1 => exact key "list" (tyx_scr h1) (kit_ty (by simp only [isaD, tyN]; decide +kernel))
    | ref h1 =>
      rcases ob h1 rfl rfl with h2 | h2
      · exact key "list" h2 (kit_ty (by simp only [isaD, tyN]; decide +kernel))
      · exact key "dict" h2 (kit_ty (by simp only [isaD, tyN]; decide +kernel))

/-! ### in -/
theorem flat_ok {d : D} {v : V} {e : D} {u : V} {b : Bool} (p : Rep K W H d v) (q : Rep K W H e u) (h : flatEq d e = some b) : flatV v = true ∧ flatV u = true ∧ eqV v u = b := by
  cases p <;> cases q <;> simp only [flatEq] at h <;> first | (cases h; done) | (cases h; refine ⟨rfl, rfl, ?_⟩; simp [eqV, Bool.beq_eq_decide_eq]) 
theorem mem_ok {x : D} {u : V} (p : Rep K W H x u) : ∀ {xs : List D} {vs : List V} {b : Bool}, Reps K W H xs vs → memF x xs = some b → xs ≠ [] → flatV u = true ∧ vs.all flatV = true ∧ inV u vs = b := by
  intro xs
  induction xs with
  | nil => intro vs b q h hn; exact absurd rfl hn
  | cons y ys ih =>
    intro vs b q h _
    cases q with
    | @cons _ v _ vs' a c =>
      simp only [memF] at h
      split at h
      · rename_i k1 k2 e1 e2
        cases h
        obtain ⟨f1, f2, f3⟩ := flat_ok a p e1
        cases ys with
        | nil =>
          cases c
          cases e2
          exact ⟨f2, by simp [f1], by simp [inV, f3]⟩
        | cons z zs =>
          obtain ⟨g1, g2, g3⟩ := ih c e2 (by simp)
          exact ⟨f2, by simp only [List.all_cons, f1, g2, Bool.and_self], by
            unfold inV at g3 ⊢
            rw [List.any_cons, f3, g3]⟩
      · cases h
def rIn2 (K : PySem.W.Frag) (neg : Bool) : R2 := fun x y H Q => (∃ i j, x = .str i ∧ y = .str j ∧ Q (.bl (if neg then !(!(Builtin.Str.occurrences j i 0 j.length 1).isEmpty) else !(Builtin.Str.occurrences j i 0 j.length 1).isEmpty)) H) ∨ rIn K neg x y H Q
theorem in_core {x y : D} {b : Bool} {u v : V} (r : Rel K nm W S H) (p : Rep K W H x u) (q : Rep K W H y v) (h : inD x y S = some b) (hf : flatD x = true) :
    (∃ i j, u = .str i ∧ v = .str j ∧ inS i j = b) ∨ ∃ a vs, v = .ref a ∧ (SqL K H a vs ∨ SqT K H a vs) ∧ flatV u = true ∧ vs.all flatV = true ∧ inV u vs = b := by
  simp only [inD] at h
  split at h
  · cases h; cases p; cases q; exact .inl ⟨_, _, rfl, rfl, rfl⟩
  · split at h
    · rename_i xs e
      obtain ⟨a, vs, rfl, h1, h2⟩ := rep_seq r q e
      by_cases hn : xs = []
      · subst hn
        cases h2; cases h
        refine .inr ⟨a, [], rfl, h1, ?_, rfl, rfl⟩
        cases p <;> first | rfl | cases hf
      · obtain ⟨g1, g2, g3⟩ := mem_ok p h2 h hn
        exact .inr ⟨a, vs, rfl, h1, g1, g2, g3⟩
    · cases h
theorem op_in2 : OpR X (compareOp .In) (rIn2 X.K false) := op_in_str.or op_in_seq
theorem op_nin2 : OpR X (compareOp .NotIn) (rIn2 X.K true) := op_notin_str.or op_notIn_seq
theorem in_ok {x y : D} {b ng : Bool} {u v : V} {Q : VK} (r : Rel K nm W S H) (p : Rep K W H x u) (q : Rep K W H y v) (h : inD x y S = some b) (hf : flatD x = true) (f : Fin K nm W S H (.bl (if ng then !b else b)) Q) : rIn2 K ng u v H Q := by
  rcases in_core r p q h hf with ⟨i, j, rfl, rfl, e⟩ | ⟨a, vs, rfl, h1, h2, h3, e⟩
  · refine .inl ⟨i, j, rfl, rfl, ?_⟩
    unfold inS at e
    rw [e]
    exact f.here r (.bl _)
  · exact .inr ⟨a, vs, rfl, h1, h2, h3, by rw [e]; exact f.here r (.bl _)⟩
/-! ### equal dicts -/
theorem valV_get {ls : List (Key × V)} {ds : List (Ky × D)} (p : RepK K W H ds ls) {k : Ky} {d : D} (h : getK ds k = some d) : ∃ u, valV ls k = some u ∧ Rep K W H d u := by
  induction ds generalizing ls with
  | nil => cases h
  | cons x ds ih =>
    cases p with
    | @cons k0 d0 v0 _ vs a b =>
      simp only [getK] at h
      by_cases z : k0 = k
      · rw [if_pos z] at h
        cases h
        exact ⟨v0, by simp [valV, z], a⟩
      · rw [if_neg z] at h
        obtain ⟨u, h1, h2⟩ := ih b h
        refine ⟨u, ?_, h2⟩
        unfold valV at h1 ⊢
        rw [List.find?_cons_of_neg (by simpa using z)]
        exact h1
theorem repK_mem {ls : List (Key × V)} {ds : List (Ky × D)} (p : RepK K W H ds ls) {q : Key × V} (h : q ∈ ls) : ∃ d, (q.1, d) ∈ ds ∧ Rep K W H d q.2 := by
  induction ds generalizing ls with
  | nil => cases p; cases h
  | cons x ds ih =>
    cases p with
    | @cons k0 d0 v0 _ vs a b =>
      rcases List.mem_cons.mp h with rfl | h
      · exact ⟨d0, List.mem_cons_self, a⟩
      · obtain ⟨d, h1, h2⟩ := ih b h
        exact ⟨d, List.mem_cons_of_mem _ h1, h2⟩
theorem eqK_ok {x y : D} {a b : List (Ky × D)} {t : Bool} {u v : V} {Q : VK} (r : Rel K nm W S H) (p : Rep K W H x u) (q : Rep K W H y v) (ha : dctR x S = some a) (hb : dctR y S = some b) (h : dEq a b = true) (f : Fin K nm W S H (.bl t) Q) : rEqK K t u v H Q := by
  have at1 : ∀ {x : D} {a : List (Ky × D)} {u : V}, Rep K W H x u → dctR x S = some a → ∃ c ks, u = .ref c ∧ H c = some (.dK ks) ∧ RepK K W H a ks := fun {x a u} p ha => by
    cases p <;> simp only [dctR] at ha <;> first | (cases ha; done) | skip
    rename_i n c hm
    split at ha <;> cases ha
    rename_i hs
    obtain ⟨ks, e, z⟩ := r.ob n c _ hm hs
    exact ⟨c, ks, rfl, e, z⟩
  obtain ⟨c, ks, rfl, e1, z1⟩ := at1 p ha
  obtain ⟨c', ls, rfl, e2, z2⟩ := at1 q hb
  obtain ⟨hl, hp⟩ := tst_iff.mp h
  refine ⟨c, c', ks, ls, rfl, rfl, e1, e2, by rw [← z1.length, ← z2.length]; exact hl, fun w hw => ?_, f.here r (.bl _)⟩
  obtain ⟨d, hd, rd⟩ := repK_mem z1 hw
  obtain ⟨g1, g2⟩ := hp _ hd
  obtain ⟨u, g3, g4⟩ := valV_get z2 g1
  exact ⟨u, pyT d, g3, rep_dp rd g2, rep_dp g4 g2, shaped_ok g2⟩
end
end PL

set_option Elab.async false
set_option linter.all false
set_option maxRecDepth 100000
set_option maxHeartbeats 1000000
/-! PLS: sorted of lists, tuples, dicts; tuples turned, and each second item of them; t * 0, t * 1. -/
namespace SrtO
open PySem PyProof.Rows Srt
section
variable {prog : Program} {w : World} {A : Around} {E : Value → Shared → Prop} {s : Shared}
/-- sorted of what is collected as C says -/
theorem sorted_from {r : Value} {ltv : Value → Value → Bool} {Q : Value → Shared → Prop} (C : List Value → Prop) (O : Swo ltv) (few : ∀ vs, C vs → vs.length ≤ sizeLine)
    (col : ∀ R : List Value → Shared → Prop, (∀ (g : Heap) (tk : Nat) (vs : List Value), (∀ b o, s.heap.get? b = some o → g.get? b = some o) → C vs → R vs { s with heap := g, toks := tk }) → wpAny (model prog w) A.in1 (collect r) R E s)
    (sb : ∀ (vs : List Value) (g : Heap) (tk : Nat) (a : Addr), C vs → 2 ≤ vs.length → (∀ b o, s.heap.get? b = some o → b ≠ a ∧ g.get? b = some o) → g.get? a = some (seqObj "list" vs.toArray 0) → SortableO prog w A.in1.in1 { s with heap := g, toks := tk } a vs ltv)
    (out : ∀ (vs ys : List Value) (g g2 : Heap) (tk : Nat), C vs → Srtd ltv ys → Stb ltv ys vs → (∀ b o, s.heap.get? b = some o → g.get? b = some o) → (∀ b o, g.get? b = some o → g2.get? b = some o) → (∃ n, g2.get? g.objs.size = some (seqObj "list" ys.toArray n)) → Q (.ref g.objs.size) { s with heap := g2, toks := tk }) :
    wpAny (model prog w) A (call (.builtin "sorted") [r]) Q E s := by
  refine Calls.call_function_entry kind_sorted plain_sorted entry_sorted (args_sorted1 r) ?_
  show wpAny _ _ (Builtin.«sorted» ⟨[r], []⟩) _ _ _
  unfold Builtin.«sorted»
  refine wpAny_bind (m := checkCount "sorted" 1 1 _) (wpAny_pure (wpAny_bind (col _ fun g tk vs keep c => ?_)))
  refine wpAny_bind (wpAny_newList ?_ (few vs c))
  have at1 : (g.push (seqObj "list" vs.toArray 0)).get? g.objs.size = some (seqObj "list" vs.toArray 0) := Heap.get?_push_size _ rfl
  have big : ∀ b o, s.heap.get? b = some o → b < g.objs.size := fun b o e => Heap.lt_size (keep b o e)
  have keep2 : ∀ b o, s.heap.get? b = some o → b ≠ g.objs.size ∧ (g.push (seqObj "list" vs.toArray 0)).get? b = some o := fun b o e => ⟨Nat.ne_of_lt (big b o e), Heap.get?_push_of_some _ (keep b o e)⟩
  show wpAny _ _ _ _ _ { s with heap := g.push (seqObj "list" vs.toArray 0), toks := tk }
  refine wpAny_bind (wpAny_holding (wpAny_call_entry slot_list_sort ⟨_, at1, rfl⟩ entry_list_sort
    (list_sort_ord (s := { s with heap := g.push (seqObj "list" vs.toArray 0), toks := tk }) O at1 (few vs c) (fun h2 => sb vs _ tk _ c h2 keep2 at1) fun ys h1 h2 => ⟨_, rfl, ?_⟩) (args_list_sort _)))
  refine wpAny_pure ⟨_, rfl, out vs ys g _ tk c h1 h2 keep (fun b o e => ?_) (sortedHeap_at (vs := vs) (out := ys.toArray) at1)⟩
  have hb : b < g.objs.size := Heap.lt_size e
  rw [sortedHeap_old (Nat.ne_of_lt hb) (by rw [size_push']; exact Nat.lt_succ_of_lt hb)]
  exact Heap.get?_push_of_some _ e
end
end SrtO
namespace PL
open PySem PySem.Spec PyProof.Rows L2
section
variable {K : PySem.W.Frag} {nm : Nm} {W W' W'' : Wd} {H H' H'' : Hp} {S S' : Store} {X : Cx}
/-- a list or a tuple, as it lies -/
theorem seq_at {pins : List (Addr × Obj)} {σ : L2.St} {s : Shared} {a : Addr} {xs : List V} (I : Inv X pins σ H s) (h : SqL X.K H a xs ∨ SqT X.K H a xs) :
    ∃ (its : List Value) (T : String) (o : Obj) (n : Nat), Vals xs its ∧ (T = "list" ∨ T = "tuple") ∧ s.heap.get? a = some o ∧ o.cls = .type T ∧ o.data = .seq its.toArray n ∧ xs.length ≤ sizeLine := by
  rcases h with h | h
  · obtain ⟨its, rv, pl, hz⟩ := I.list h
    obtain ⟨o, h1, h2, n, h3⟩ := pl.isList
    exact ⟨its, "list", o, n, rv, .inl rfl, h1, h2, h3, hz⟩
  · obtain ⟨its, rv, ⟨o, h1, h2, n, h3⟩, hz⟩ := I.tuple h
    exact ⟨its, "tuple", o, n, rv, .inr rfl, h1, h2, h3, hz⟩
/-- sorted of ints -/
def rSrtI (K : PySem.W.Frag) : List V → Hp → VK → Prop := fun vs H Q => ∃ (a : Addr) (ns : List Int), vs = [V.ref a] ∧ (SqL K H a (ns.map V.int) ∨ SqT K H a (ns.map V.int)) ∧
  ∀ (ms : List Int) (p : Addr), ms.Perm ns → ms.Pairwise (· ≤ ·) → H p = none → Q (.ref p) (upd H p (.lst (ms.map V.int)))
theorem cr_srtI : CallR X (.builtin "sorted") (rSrtI X.K) := by
  intro pins s σ H vs us Q I r h
  obtain ⟨a, ns, rfl, hs, q⟩ := h
  obtain ⟨its, T, o, n, rv, hT, ho, hc, hd, hz⟩ := seq_at I hs
  rw [Vals.ref1 r]
  have hi := rv.ints
  refine SrtO.sorted_from (ltv := SrtO.ltIv) (fun vs => vs = its) SrtO.swo_int (fun vs e => by rw [e, ← rv.length]; exact hz) (fun R k => wpAny_collect_seq a hT ho hc hd (fun g keep => ?_) (by rw [List.size_toArray, ← rv.length]; exact hz)) (fun vs g tk a' e h2 keep _ => ?_) fun vs ys g g2 tk e h1 h2 keep keep2 hn => ?_
  · have := k g s.toks its keep rfl
    simpa using this
  · subst e; exact SrtO.ints_sortable hi h2
  · subst e
    obtain ⟨k1, k2, k3⟩ := SrtO.ints_out hi h1 h2
    obtain ⟨m, hn⟩ := hn
    have I1 : Inv X pins σ H { s with heap := g, toks := tk } := I.kept keep
    have hlen : ((ys.map SrtO.iv).map V.int).length ≤ sizeLine := by
      rw [List.length_map, k2.length_eq]
      rw [List.length_map] at hz
      exact hz
    exact ⟨.ref _, upd H g.objs.size (.lst ((ys.map SrtO.iv).map V.int)), I1.laid (t' := tk) keep2 (Nat.le_refl _) ⟨hlen, ys, m, vals_of_ints k1, hn⟩, rfl, q _ _ k2 k3 (I1.hok.fresh (Nat.le_refl _))⟩
/-- pairs of ints, one by one -/
inductive Prs (K : PySem.W.Frag) (H : Hp) : List V → List (Int × Int) → Prop
  | nil : Prs K H [] []
  | cons {t : Addr} {p : Int × Int} {vs : List V} {ps : List (Int × Int)} : SqT K H t [.int p.1, .int p.2] → Prs K H vs ps → Prs K H (.ref t :: vs) (p :: ps)
/-- sorted of pairs of ints -/
def rSrtP (K : PySem.W.Frag) : List V → Hp → VK → Prop := fun vs H Q => ∃ (a : Addr) (xs : List V) (ps : List (Int × Int)), vs = [V.ref a] ∧ (SqL K H a xs ∨ SqT K H a xs) ∧ Prs K H xs ps ∧
  ∀ (ys : List V) (qs : List (Int × Int)) (p : Addr), qs.Perm ps → qs.Pairwise (fun x y => SrtO.lexB y x = false) → Prs K H ys qs → H p = none → Q (.ref p) (upd H p (.lst ys))
open Srt in
open Classical in
noncomputable def kfO (h : Heap) (v : Value) : Int × Int := if z : ∃ p : Int × Int, IsPair h v p.1 p.2 then Classical.choose z else (0, 0)
open Srt in
theorem isPair_uniq {h : Heap} {v : Value} {a b c d : Int} (x : IsPair h v a b) (y : IsPair h v c d) : a = c ∧ b = d := by
  obtain ⟨t, o, t1, t2, n, e1, e2, e3, e4⟩ := x
  obtain ⟨t', o', t1', t2', n', f1, f2, f3, f4⟩ := y
  rw [e1] at f1
  cases f1
  rw [e2] at f2
  cases f2
  rw [e4] at f4
  cases f4
  exact ⟨rfl, rfl⟩
open Srt in
theorem kfO_at {h : Heap} {v : Value} {p : Int × Int} (x : IsPair h v p.1 p.2) : kfO h v = p := by
  have z : ∃ p : Int × Int, IsPair h v p.1 p.2 := ⟨p, x⟩
  unfold kfO
  rw [dif_pos z]
  obtain ⟨a, b⟩ := isPair_uniq (Classical.choose_spec z) x
  exact Prod.ext a b
open Srt in
/-- the pairs as they lie -/
theorem prs_at {pins : List (Addr × Obj)} {σ : L2.St} {s : Shared} (I : Inv X pins σ H s) : ∀ {xs : List V} {ps : List (Int × Int)} {its : List Value}, Prs X.K H xs ps → Vals xs its → (∀ v ∈ its, IsPair s.heap v (kfO s.heap v).1 (kfO s.heap v).2) ∧ its.map (kfO s.heap) = ps ∧
    ∀ v ∈ its, ∃ t, v = .ref t ∧ SqT X.K H t [.int (kfO s.heap v).1, .int (kfO s.heap v).2]
  | _, _, _, .nil, .nil => ⟨by simp, rfl, by simp⟩
  | _, _, _, .cons (t := t) (p := p) h r, .cons rv rr => by
    obtain ⟨q1, q2, q3⟩ := prs_at I r rr
    cases rv
    obtain ⟨its, r2, ⟨o, ho, hc, n, hd⟩, _⟩ := I.tuple h
    obtain ⟨u1, u2, rfl, ri, rj⟩ := vals2 r2
    obtain ⟨t1, rfl⟩ := ri
    obtain ⟨t2, rfl⟩ := rj
    have x : IsPair s.heap (.ref t) p.1 p.2 := ⟨t, o, t1, t2, n, rfl, ho, hc, hd⟩
    have e := kfO_at x
    refine ⟨fun v hv => ?_, by rw [List.map_cons, e, q2], fun v hv => ?_⟩
    · rcases List.mem_cons.mp hv with rfl | hv
      · rw [e]; exact x
      · exact q1 v hv
    · rcases List.mem_cons.mp hv with rfl | hv
      · rw [e]; exact ⟨t, rfl, h⟩
      · exact q3 v hv
theorem prs_back {h : Heap} : ∀ {ys : List Value}, (∀ v ∈ ys, ∃ t, v = .ref t ∧ SqT X.K H t [.int (kfO h v).1, .int (kfO h v).2]) → Prs X.K H (ys.map backV) (ys.map (kfO h)) ∧ Vals (ys.map backV) ys
  | [], _ => ⟨.nil, .nil⟩
  | v :: ys, hv => by
    obtain ⟨a, b⟩ := prs_back (ys := ys) fun u hu => hv u (List.mem_cons_of_mem _ hu)
    obtain ⟨t, rfl, q⟩ := hv v List.mem_cons_self
    exact ⟨.cons q a, .cons rfl b⟩
theorem cr_srtP : CallR X (.builtin "sorted") (rSrtP X.K) := by
  intro pins s σ H vs us Q I r h
  obtain ⟨a, xs, ps, rfl, hs, hp, q⟩ := h
  obtain ⟨its, T, o, n, rv, hT, ho, hc, hd, hz⟩ := seq_at I hs
  rw [Vals.ref1 r]
  obtain ⟨q1, q2, q3⟩ := prs_at I hp rv
  refine SrtO.sorted_from (ltv := fun v u => SrtO.lexB (kfO s.heap v) (kfO s.heap u)) (fun vs => vs = its) (SrtO.swo_lex (kfO s.heap)) (fun vs e => by rw [e, ← rv.length]; exact hz)
    (fun R k => wpAny_collect_seq a hT ho hc hd (fun g keep => ?_) (by rw [List.size_toArray, ← rv.length]; exact hz)) (fun vs g tk a' e h2 keep hg => ?_) fun vs ys g g2 tk e h1 h2 keep keep2 hn => ?_
  · have := k g s.toks its keep rfl
    simpa using this
  · subst e
    refine SrtO.pairs_sortableO (s := { s with heap := g, toks := tk }) (by omega) (fun v hm => (q1 v hm).keeps fun b o e _ => (keep b o e).2) fun o e c => ?_
    cases e.symm.trans hg
    exact absurd (Value.type.inj c) (by decide)
  · subst e
    obtain ⟨m, hn⟩ := hn
    have I1 : Inv X pins σ H { s with heap := g, toks := tk } := I.kept keep
    obtain ⟨b1, b2⟩ := prs_back (X := X) (H := H) (h := s.heap) (ys := ys) fun v hv => q3 v (h2.perm.mem_iff.mp hv)
    have hlen : (ys.map backV).length ≤ sizeLine := by
      rw [List.length_map, h2.perm.length_eq, ← rv.length]
      exact hz
    exact ⟨.ref _, upd H g.objs.size (.lst (ys.map backV)), I1.laid (t' := tk) keep2 (Nat.le_refl _) ⟨hlen, ys, m, b2, hn⟩, rfl, q _ _ _ (by rw [← q2]; exact h2.perm.map _) (SrtO.srtd_map h1) b1 (I1.hok.fresh (Nat.le_refl _))⟩
/-- sorted of a dict with int keys -/
def rSrtD : List V → Hp → VK → Prop := fun vs H Q => ∃ (a : Addr) (kvs : List (Key × V)) (ks : List Int), vs = [.ref a] ∧ Rd H a (.dK kvs) ∧ kvs.map (·.1) = ks.map Sum.inl ∧ ks.length ≤ sizeLine ∧
  ∀ (ys : List Int) (p : Addr), ys.Perm ks → ys.Pairwise (· ≤ ·) → H p = none → Q (.ref p) (upd H p (.lst (ys.map V.int)))
theorem cr_srtD (calm : X.calm = true) : CallR X (.builtin "sorted") rSrtD := by
  intro pins s σ H vs us Q I r h
  obtain ⟨a, kvs, ks, rfl, hr, hk, hz, q⟩ := h
  rw [Vals.ref1 r]
  obtain ⟨z, lo, es, rel, dd⟩ := dk_rd I.hok hr
  obtain ⟨ep, hat⟩ := dd.dictAt
  have ek : es.map (·.1) = ks.map Sum.inl := rel.keys.symm.trans hk
  have el : es.length = ks.length := by
    have e := congrArg List.length ek
    simpa using e
  refine SrtO.sorted_from (ltv := SrtO.ltIv) (fun vs => IntsAre vs ks) SrtO.swo_int (fun vs e => ?_) (fun R k => ?_) (fun vs g tk a' e h2 keep _ => SrtO.ints_sortable e h2) fun vs ys g g2 tk e h1 h2 keep keep2 hn => ?_
  · rw [e.length]; exact hz
  · refine PySem.W.kdu_collect (A := X.A.in1) (PySem.W.kdl_dict (knd := mixKind X.prog X.w) (kvs := es) (ep := ep) lo) (I.ok.hd calm) hat (by rw [el]; exact hz) fun g tk acc keep ha => k g tk _ keep ?_
    refine ints_each (by rw [Array.length_toList, ha.1, el]) fun j v e => ?_
    obtain ⟨k', x, e1, e2⟩ := ha.2 j v (by rw [← Array.getElem?_toList]; exact e)
    have e3 : (es.map (·.1))[j]? = some k' := by simp [e1]
    rw [ek, List.getElem?_map] at e3
    obtain ⟨y, e4, e5⟩ := Option.map_eq_some_iff.mp e3
    subst e5
    rcases keyIs_shape (show keyIs (Sum.inl y) v = true from e2) with ⟨i, t, c1, c2⟩ | ⟨x, t, c1, c2⟩
    · cases c1
      exact ⟨y, t, e4, c2⟩
    · cases c1
  · obtain ⟨k1, k2, k3⟩ := SrtO.ints_out e h1 h2
    obtain ⟨m, hn⟩ := hn
    have I1 : Inv X pins σ H { s with heap := g, toks := tk } := I.kept keep
    have hlen : ((ys.map SrtO.iv).map V.int).length ≤ sizeLine := by rw [List.length_map, k2.length_eq]; exact hz
    exact ⟨.ref _, upd H g.objs.size (.lst ((ys.map SrtO.iv).map V.int)), I1.laid (t' := tk) keep2 (Nat.le_refl _) ⟨hlen, ys, m, vals_of_ints k1, hn⟩, rfl, q _ _ k2 k3 (I1.hok.fresh (Nat.le_refl _))⟩

/-! ### the evaluator's sort -/
theorem insertBy_perm {α : Type} (le : α → α → Bool) (x : α) : ∀ ys : List α, (insertBy le x ys).Perm (x :: ys)
  | [] => .refl _
  | y :: ys => by
    unfold insertBy
    split
    · exact .refl _
    · exact ((insertBy_perm le x ys).cons y).trans (.swap x y ys)
theorem sortBy_perm {α : Type} (le : α → α → Bool) : ∀ xs : List α, (sortBy le xs).Perm xs
  | [] => .refl _
  | x :: xs => (insertBy_perm le x _).trans ((sortBy_perm le xs).cons x)
theorem insertBy_pw {α : Type} {le : α → α → Bool} (tot : ∀ a b, le a b = false → le b a = true) (tr : ∀ a b c, le a b = true → le b c = true → le a c = true) (x : α) : ∀ {ys : List α}, ys.Pairwise (fun a b => le a b = true) → (insertBy le x ys).Pairwise (fun a b => le a b = true)
  | [], _ => List.pairwise_singleton _ _
  | y :: ys, h => by
    unfold insertBy
    have h2 := List.pairwise_cons.mp h
    split
    · rename_i e
      refine List.pairwise_cons.mpr ⟨fun z hz => ?_, h⟩
      rcases List.mem_cons.mp hz with rfl | hz
      · exact e
      · exact tr _ _ _ e (h2.1 z hz)
    · rename_i e
      refine List.pairwise_cons.mpr ⟨fun z hz => ?_, insertBy_pw tot tr x h2.2⟩
      rcases List.mem_cons.mp ((insertBy_perm le x ys).mem_iff.mp hz) with rfl | hz
      · exact tot _ _ (by simpa using e)
      · exact h2.1 z hz
theorem sortBy_pw {α : Type} {le : α → α → Bool} (tot : ∀ a b, le a b = false → le b a = true) (tr : ∀ a b c, le a b = true → le b c = true → le a c = true) : ∀ xs : List α, (sortBy le xs).Pairwise (fun a b => le a b = true)
  | [] => .nil
  | x :: xs => insertBy_pw tot tr x (sortBy_pw tot tr xs)
/-- what is sorted is this -/
theorem sortBy_uniq {α : Type} {le : α → α → Bool} (tot : ∀ a b, le a b = false → le b a = true) (tr : ∀ a b c, le a b = true → le b c = true → le a c = true) (anti : ∀ a b, le a b = true → le b a = true → a = b) {xs ys : List α} (p : ys.Perm xs)
    (h : ys.Pairwise (fun a b => le a b = true)) : ys = sortBy le xs := List.Perm.eq_of_pairwise (fun a b _ _ => anti a b) h (sortBy_pw tot tr xs) (p.trans (sortBy_perm le xs).symm)
abbrev leI (a b : Int) : Bool := decide (a ≤ b)
theorem sortI_uniq {xs ys : List Int} (p : ys.Perm xs) (h : ys.Pairwise (· ≤ ·)) : ys = sortBy leI xs := by
  refine sortBy_uniq (fun a b h => ?_) (fun a b c h h' => ?_) (fun a b h h' => ?_) p (h.imp fun h => decide_eq_true h)
  · have := of_decide_eq_false h; exact decide_eq_true (by omega)
  · have := of_decide_eq_true h; have := of_decide_eq_true h'; exact decide_eq_true (by omega)
  · have := of_decide_eq_true h; have := of_decide_eq_true h'; omega
theorem leP_iff {p q : Int × Int} : leP p q = true ↔ p.1 < q.1 ∨ (p.1 = q.1 ∧ p.2 ≤ q.2) := by simp [leP]
theorem leP_not {p q : Int × Int} : leP p q = false ↔ ¬ (p.1 < q.1 ∨ (p.1 = q.1 ∧ p.2 ≤ q.2)) := by
  rw [← leP_iff]; cases leP p q <;> simp
theorem sortP_uniq {xs ys : List (Int × Int)} (p : ys.Perm xs) (h : ys.Pairwise (fun x y => SrtO.lexB y x = false)) : ys = sortBy leP xs := by
  refine sortBy_uniq (fun a b h => ?_) (fun a b c h h' => ?_) (fun a b h h' => ?_) p (h.imp fun h => ?_)
  · have := leP_not.mp h; exact leP_iff.mpr (by omega)
  · have := leP_iff.mp h; have := leP_iff.mp h'; exact leP_iff.mpr (by omega)
  · have := leP_iff.mp h; have := leP_iff.mp h'; exact Prod.ext (by omega) (by omega)
  · have := SrtO.lexB_no.mp h; exact leP_iff.mpr (by omega)
theorem reps_prs {xs : List D} {ps : List (Int × Int)} {vs : List V} (p : Reps K W H xs vs) (h : pairsD xs = some ps) : Prs K H vs ps := by
  induction xs generalizing ps vs with
  | nil => cases p; cases h; exact .nil
  | cons x xs ih =>
    cases p with
    | @cons _ v _ vs a b =>
      unfold pairsD at h
      split at h
      · rename_i e; cases e
      · rename_i e
        cases e
        rw [Option.map_eq_some_iff] at h
        obtain ⟨qs, h1, h2⟩ := h
        subst h2
        cases a with
        | tup h3 h4 =>
          cases h4 with
          | cons p1 r1 => cases r1 with
            | cons p2 r2 =>
              cases r2; cases p1; cases p2
              exact .cons h3 (ih b h1)
      · cases h
theorem prs_reps {ps : List (Int × Int)} {vs : List V} (p : Prs K H vs ps) : Reps K W H (ps.map pairD) vs := by
  induction p with
  | nil => exact .nil
  | cons h _ ih => exact .cons (.tup h (.cons (.int _) (.cons (.int _) .nil))) ih
def rSrtS : List V → Hp → VK → Prop := fun xs H Q => ∃ (a : Addr) (kvs : List (Key × V)) (ks : List Str), xs = [.ref a] ∧ Rd H a (.dK kvs) ∧ kvs.map (·.1) = ks.map Sum.inr ∧ ks.length < 64 ∧
    ∀ ys p, ys.Perm ks → PyProof.Rows.sortedS ys = true → H p = none → Q (.ref p) (upd H p (.lst (ys.map V.str)))
def rSrt (K : PySem.W.Frag) : List V → Hp → VK → Prop := fun vs H Q => ((rSrtI K vs H Q ∨ rSrtP K vs H Q) ∨ rSrtD vs H Q) ∨ rSrtS vs H Q
theorem cr_srt (calm : X.calm = true) : CallR X (.builtin "sorted") (rSrt X.K) := ((cr_srtI.or cr_srtP).or (cr_srtD calm)).or (call_sortedD calm)
/-- texts by their signs -/
theorem leS_iff {x y : Str} : leS x y = true ↔ x.cps.toList ≤ y.cps.toList := by
  unfold leS
  rw [PyProof.Rows.ltCps_eq]
  simp
theorem leS_tot (a b : Str) (h : leS a b = false) : leS b a = true := by
  rw [leS_iff]
  rcases List.le_total b.cps.toList a.cps.toList with q | q
  · exact q
  · rw [leS_iff.mpr q] at h; cases h
theorem leS_tr (a b c : Str) (h : leS a b = true) (h' : leS b c = true) : leS a c = true := leS_iff.mpr (List.le_trans (leS_iff.mp h) (leS_iff.mp h'))
theorem leS_anti (a b : Str) (h : leS a b = true) (h' : leS b a = true) : a = b := by
  have e := List.le_antisymm (leS_iff.mp h) (leS_iff.mp h')
  cases a; cases b
  simp only [Array.toList_inj] at e
  rw [e]
theorem rising_pw : ∀ (ys : List Str) (p : Str), PyProof.Rows.risingS p ys = true → (p :: ys).Pairwise (fun a b => leS a b = true)
  | [], p, _ => List.pairwise_singleton _ _
  | y :: ys, p, h => by
    unfold PyProof.Rows.risingS at h
    rw [Bool.and_eq_true] at h
    have q := rising_pw ys y h.2
    have h1 : leS p y = true := h.1
    refine List.pairwise_cons.mpr ⟨fun z hz => ?_, q⟩
    rcases List.mem_cons.mp hz with rfl | hz
    · exact h1
    · exact leS_tr _ _ _ h1 ((List.pairwise_cons.mp q).1 z hz)
theorem sortS_uniq {xs ys : List Str} (p : ys.Perm xs) (h : PyProof.Rows.sortedS ys = true) : ys = sortBy leS xs := by
  refine sortBy_uniq leS_tot leS_tr leS_anti p ?_
  cases ys with
  | nil => exact .nil
  | cons y ys => exact rising_pw ys y h
theorem keysI_eq {ds : List (Ky × D)} {is : List Int} (h : keysI ds = some is) : ds.map (·.1) = is.map Sum.inl := by
  induction ds generalizing is with
  | nil => cases h; rfl
  | cons x ds ih =>
    obtain ⟨k, d⟩ := x
    cases k with
    | inl i =>
      simp only [keysI, Option.map_eq_some_iff] at h
      obtain ⟨js, h1, h2⟩ := h
      subst h2
      simp [ih h1]
    | inr i => cases h
theorem keysS_eq {ds : List (Ky × D)} {is : List Str} (h : keysS ds = some is) : ds.map (·.1) = is.map Sum.inr := by
  induction ds generalizing is with
  | nil => cases h; rfl
  | cons x ds ih =>
    obtain ⟨k, d⟩ := x
    cases k with
    | inr i =>
      simp only [keysS, Option.map_eq_some_iff] at h
      obtain ⟨js, h1, h2⟩ := h
      subst h2
      simp [ih h1]
    | inl i => cases h
theorem reps_str : ∀ ns : List Str, Reps K W H (ns.map D.str) (ns.map V.str)
  | [] => .nil
  | n :: ns => .cons (.str n) (reps_str ns)
theorem sort_new {as : List D} {vs : List V} {xs : List D} {Q : VK} (r : Rel K nm W S H) (p : Reps K W H as vs) (h : sortF as S = some (.lst xs)) (f : FinL K W H xs Q) : rSrt K vs H Q := by
  simp only [sortF] at h
  split at h <;> try (cases h; done)
  obtain ⟨v, e0, p1⟩ := reps1 p
  subst e0
  split at h
  · rename_i ys e
    rw [Option.map_eq_some_iff] at h
    obtain ⟨zs, h1, h2⟩ := h
    cases h2
    obtain ⟨a, ws, rfl, h3, h4⟩ := rep_seq r p1 e
    simp only [sortD] at h1
    split at h1
    · rename_i is ei
      cases h1
      have h5 := reps_ints h4 ei
      subst h5
      refine .inl (.inl (.inl ⟨a, is, rfl, h3, fun ms p' q1 q2 hp => ?_⟩))
      have := sortI_uniq q1 q2
      subst this
      exact f _ _ (reps_int _) hp
    · split at h1
      · rename_i ps ep
        cases h1
        refine .inl (.inl (.inr ⟨a, ws, ps, rfl, h3, reps_prs h4 ep, fun ys qs p' q1 q2 q3 hp => ?_⟩))
        have := sortP_uniq q1 q2
        subst this
        exact f _ _ (prs_reps q3) hp
      · cases h1
  · split at h
    · rename_i kvs e
      obtain ⟨a, ws, rfl, h3, h4⟩ := rep_dct r p1 e
      split at h
      · rename_i is ei
        split at h
        · rename_i hz
          cases h
          refine .inl (.inr ⟨a, ws, is, rfl, h3, (repK_keys h4).trans (keysI_eq ei), by rw [← SZ_eq]; exact hz, fun ms p' q1 q2 hp => ?_⟩)
          have := sortI_uniq q1 q2
          subst this
          exact f _ _ (reps_int _) hp
        · cases h
      · split at h
        · rename_i ss es
          split at h
          · rename_i hz
            cases h
            refine .inr ⟨a, ws, ss, rfl, h3, (repK_keys h4).trans (keysS_eq es), hz, fun ys p' q1 q2 hp => ?_⟩
            have := sortS_uniq q1 q2
            subst this
            exact f _ _ (reps_str _) hp
          · cases h
        · cases h
    · cases h
theorem sortF_lst {as : List D} {d : D} (h : sortF as S = some d) : ∃ xs, d = .lst xs := by
  simp only [sortF] at h
  split at h <;> try (cases h; done)
  split at h
  · rw [Option.map_eq_some_iff] at h
    obtain ⟨xs, _, h2⟩ := h
    exact ⟨xs, h2.symm⟩
  · split at h <;> try (cases h; done)
    split at h
    · split at h <;> cases h
      exact ⟨_, rfl⟩
    · split at h <;> try (cases h; done)
      split at h <;> cases h
      exact ⟨_, rfl⟩
theorem sorted_ok : CallK X K nm sortF (rSrt K) := by
  intro W S H as vs d Q r p h f
  obtain ⟨xs, rfl⟩ := sortF_lst h
  exact sort_new r p h (f.finL r)
/-! ### str, int -/
def rStr : List V → Hp → VK → Prop := fun xs H Q => ∃ i, xs = [.int i] ∧ i.natAbs.log2 < 1920 ∧ Q (.str (toString i : String)) H
theorem str_ok : CallK X K nm strF rStr := by
  intro W S H as vs d Q r p h f
  simp only [strF] at h
  split at h <;> try (cases h; done)
  obtain ⟨v, e0, p1⟩ := reps1 p
  subst e0
  rw [Option.map_eq_some_iff] at h
  obtain ⟨x, h1, h2⟩ := h
  subst h2
  simp only [textOf] at h1
  split at h1
  · cases h1; cases p1
    exact ⟨_, rfl, by assumption, f.here r (.str _)⟩
  · cases h1
def rInt : List V → Hp → VK → Prop := fun xs H Q => ((∃ i, xs = [.int i] ∧ Q (.int i) H) ∨ ∃ b, xs = [.bl b] ∧ Q (.int (if b then 1 else 0)) H) ∨ ∃ a n, xs = [.str a] ∧ PySem.intText? a = some n ∧ a.length ≤ 640 ∧ Q (.int n) H
theorem int_ok : CallK X K nm intF rInt := by
  intro W S H as vs d Q r p h f
  simp only [intF] at h
  split at h <;> try (cases h; done)
  · obtain ⟨v, e0, p1⟩ := reps1 p
    subst e0
    cases h; cases p1
    exact .inl (.inr ⟨_, rfl, f.here r (.int _)⟩)
  · obtain ⟨v, e0, p1⟩ := reps1 p
    subst e0
    split at h
    · rename_i hz
      rw [Option.map_eq_some_iff] at h
      obtain ⟨x, h1, h2⟩ := h
      subst h2
      cases p1
      exact .inr ⟨_, _, rfl, h1, hz, f.here r (.int _)⟩
    · cases h
end
end PL

set_option Elab.async false
set_option linter.all false
set_option maxRecDepth 100000
set_option maxHeartbeats 1000000
/-! PLF: the evaluator against the model: expressions. -/
namespace PL
open PySem PySem.Spec PyProof.Rows L2

/-! ### readings of the evaluator's results -/
section
variable {K : PySem.W.Frag} {nm : Nm} {W W' W'' : Wd} {H H' H'' : Hp} {S S' : Store} {X : Cx} {Wi : WX}
/-- what must hold behind r, by kind of value -/
def Wq {α β : Type} (K : PySem.W.Frag) (nm : Nm) (rp : Wd → Hp → α → β → Prop) (W : Wd) (H : Hp) (r : R α) (Q : β → Hp → Prop) (Xc : Nat → Hp → Prop) : Prop := match r with
  | .ok d S' => ∀ v W' H', Ext W H W' H' → Rel K nm W' S' H' → rp W' H' d v → Q v H'
  | .ex c S' => ∀ W' H', Ext W H W' H' → Rel K nm W' S' H' → Xc c H'
  | .bad => False
theorem Wq.mono {α β : Type} {rp : Wd → Hp → α → β → Prop} {r : R α} {Q Q' : β → Hp → Prop} {Xc : Nat → Hp → Prop} (w : Wq K nm rp W H r Q Xc) (h : ∀ v H, Q v H → Q' v H) : Wq K nm rp W H r Q' Xc := by
  cases r with
  | ok d S => exact fun v W' H' e r p => h _ _ (w v W' H' e r p)
  | ex c S => exact w
  | bad => exact w
theorem Wq.ext {α β : Type} {rp : Wd → Hp → α → β → Prop} {r : R α} {Q : β → Hp → Prop} {Xc : Nat → Hp → Prop} (e : Ext W H W' H') (t : Trk W' H') (w : Wq K nm rp W H r Q Xc) : Wq K nm rp W' H' r Q Xc := by
  cases r with
  | ok d S => exact fun v W2 H2 e2 r p => w v W2 H2 (e.trans t e2) r p
  | ex c S => exact fun W2 H2 e2 r => w W2 H2 (e.trans t e2) r
  | bad => exact w
theorem Wq.bind {α β γ δ : Type} {rp : Wd → Hp → α → β → Prop} {rq : Wd → Hp → γ → δ → Prop} {r : R α} {f : α → Store → R γ} {Q : δ → Hp → Prop} {Xc : Nat → Hp → Prop} (w : Wq K nm rq W H (r.bind f) Q Xc) :
    Wq K nm rp W H r (fun v H1 => ∃ W1 S1 d, Ext W H W1 H1 ∧ Rel K nm W1 S1 H1 ∧ rp W1 H1 d v ∧ Wq K nm rq W1 H1 (f d S1) Q Xc) Xc := by
  cases r with
  | ok d S => exact fun v W1 H1 e r p => ⟨W1, S, d, e, r, p, Wq.ext e r.trk w⟩
  | ex c S => exact w
  | bad => exact w
/-- kinds of values -/
abbrev rpD (K : PySem.W.Frag) : Wd → Hp → D → V → Prop := Rep K
def rpB : Wd → Hp → Bool → Bool → Prop := fun _ _ a b => a = b
def rpA (K : PySem.W.Frag) : Wd → Hp → D → List V → Prop := fun W H d vs => ∃ xs, d = .tup xs ∧ Reps K W H xs vs
abbrev Xw (nm : Nm) (Wi : WX) (σ : L2.St) : Nat → Hp → Prop := fun c H' => Wi (.ref (nm.X c)) none σ H'
def tX {α β : Type} (K : PySem.W.Frag) (nm : Nm) (rp : Wd → Hp → α → β → Prop) (Wi : WX) (f : Env → Store → R α) : L2.St → Hp → (β → Hp → Prop) → Prop := fun σ H Q => ∃ W S env, ERep K W H env σ ∧ Rel K nm W S H ∧ Wq K nm rp W H (f env S) Q (Xw nm Wi σ)
abbrev tE (K : PySem.W.Frag) (nm : Nm) (Wi : WX) (f : Env → Store → R D) : TE := tX K nm (rpD K) Wi f
abbrev tT (K : PySem.W.Frag) (nm : Nm) (Wi : WX) (f : Env → Store → R Bool) : TT := tX K nm rpB Wi f
abbrev tA (K : PySem.W.Frag) (nm : Nm) (Wi : WX) (f : Env → Store → R D) : TA := tX K nm (rpA K) Wi f
theorem R.bind_assoc {α β γ : Type} (r : R α) (f : α → Store → R β) (g : β → Store → R γ) : (r.bind f).bind g = r.bind fun a S => (f a S).bind g := by cases r <;> rfl
/-- a value that is there at once -/
theorem Wq.of {α β : Type} {rp : Wd → Hp → α → β → Prop} {o : Option α} {Q : β → Hp → Prop} {Xc : Nat → Hp → Prop} (w : Wq K nm rp W H (R.of o S) Q Xc) : ∃ d, o = some d ∧ ∀ v W' H', Ext W H W' H' → Rel K nm W' S H' → rp W' H' d v → Q v H' := by
  cases o with
  | some d => exact ⟨d, rfl, w⟩
  | none => exact w.elim
theorem Wq.fin {o : Option D} {Q : VK} {Xc : Nat → Hp → Prop} (w : Wq K nm (rpD K) W H (R.of o S) Q Xc) : ∃ d, o = some d ∧ Fin K nm W S H d Q := w.of
section
variable {γ δ : Type} {rq : Wd → Hp → γ → δ → Prop}
theorem tX.one {fa : Env → Store → R D} {g : Env → D → Store → R γ} {σ : L2.St} {H : Hp} {Q : δ → Hp → Prop} (w : tX K nm rq Wi (fun env S => (fa env S).bind fun x S => g env x S) σ H Q) :
    tE K nm Wi fa σ H fun x H1 => ∃ W S dx env, ERep K W H1 env σ ∧ Rel K nm W S H1 ∧ Rep K W H1 dx x ∧ Wq K nm rq W H1 (g env dx S) Q (Xw nm Wi σ) := by
  obtain ⟨W, S, env, E, r, w⟩ := w
  refine ⟨W, S, env, E, r, (Wq.bind (rp := rpD K) w).mono fun x H1 ⟨W1, S1, dx, e1, r1, p1, w1⟩ => ⟨W1, S1, dx, env, E.mono r.trk e1, r1, p1, w1⟩⟩
theorem tX.test {fa : Env → Store → R Bool} {g : Env → Bool → Store → R γ} {σ : L2.St} {H : Hp} {Q : δ → Hp → Prop} (w : tX K nm rq Wi (fun env S => (fa env S).bind fun x S => g env x S) σ H Q) :
    tT K nm Wi fa σ H fun k H1 => tX K nm rq Wi (fun env S => g env k S) σ H1 Q := by
  obtain ⟨W, S, env, E, r, w⟩ := w
  refine ⟨W, S, env, E, r, (Wq.bind (rp := rpB) w).mono fun x H1 h => ?_⟩
  obtain ⟨W1, S1, dx, e1, r1, p1, w1⟩ := h
  cases (show dx = x from p1)
  exact ⟨W1, S1, env, E.mono r.trk e1, r1, w1⟩
theorem tX.args {fa : Env → Store → R D} {g : Env → D → Store → R γ} {σ : L2.St} {H : Hp} {Q : δ → Hp → Prop} (w : tX K nm rq Wi (fun env S => (fa env S).bind fun x S => g env x S) σ H Q) :
    tA K nm Wi fa σ H fun vs H1 => ∃ W S xs env, ERep K W H1 env σ ∧ Rel K nm W S H1 ∧ Reps K W H1 xs vs ∧ Wq K nm rq W H1 (g env (.tup xs) S) Q (Xw nm Wi σ) := by
  obtain ⟨W, S, env, E, r, w⟩ := w
  refine ⟨W, S, env, E, r, (Wq.bind (rp := rpA K) w).mono fun x H1 h => ?_⟩
  obtain ⟨W1, S1, dx, e1, r1, ⟨xs, e2, p1⟩, w1⟩ := h
  subst e2
  exact ⟨W1, S1, xs, env, E.mono r.trk e1, r1, p1, w1⟩
theorem tX.op {fa fb : Env → Store → R D} {g : D → D → Store → R γ} {rr : R2} {σ : L2.St} {H : Hp} {Q : δ → Hp → Prop} {Q' : VK}
    (w : tX K nm rq Wi (fun env S => (fa env S).bind fun x S => (fb env S).bind fun y S => g x y S) σ H Q)
    (hr : ∀ {W : Wd} {S : Store} {H : Hp} {dx dy : D} {x y : V}, Rel K nm W S H → Rep K W H dx x → Rep K W H dy y → Wq K nm rq W H (g dx dy S) Q (Xw nm Wi σ) → rr x y H Q') : tOp rr (tE K nm Wi fa) (tE K nm Wi fb) σ H Q' := by
  obtain ⟨W, S, env, E, r, z⟩ := w
  refine ⟨W, S, env, E, r, (Wq.bind (rp := rpD K) z).mono fun x H1 z => ?_⟩
  obtain ⟨W1, S1, dx, e1, r1, p1, z⟩ := z
  refine ⟨W1, S1, env, E.mono r.trk e1, r1, (Wq.bind (rp := rpD K) z).mono fun y H2 z => ?_⟩
  obtain ⟨W2, S2, dy, e2, r2, p2, z⟩ := z
  exact hr r2 (p1.mono r1.trk e2) p2 z
end
end

/-! ### the check: e is what the written expression says -/
structure Sx where
  fnN : Nat → Option Str
  coN : Nat → Option Str
  blN : List Str
  clN : Nat → Option Str
  meN : Nat → Nat → Option Str
  fdN : Nat → Option Str
  exN : Nat → Option Str
  hdl : Str → Option (List Nat)
def vis (sc : Scope) (x : Str) : Bool := match sc.names.lookup x with
  | some .local => true
  | some .cell => true
  | some .free => true
  | _ => false
def gl (sc : Scope) (x : Str) : Bool := decide (sc.names.lookup x = some .globalImplicit)
def dbg (x : Str) : Bool := x == ("__debug__" : Str)
def bOp : BOp → Operator
  | .add => .Add | .sub => .Sub | .mul => .Mult | .mod => .Mod | .fdiv => .FloorDiv
def cOp : COp → CmpOp
  | .eq => .Eq | .ne => .NotEq | .lt => .Lt | .le => .LtE | .gt => .Gt | .ge => .GtE | .inn => .In | .nin => .NotIn | .iss => .Is | .nis => .IsNot
def bfN : Bf → Str
  | .len => "len" | .all => "all" | .any => "any" | .sum => "sum" | .tuple => "tuple" | .list => "list" | .sorted => "sorted" | .str => "str" | .int => "int" | .max => "max" | .min => "min"
def bfOk : Bf → Bool
  | .len => true | .all => true | .any => true | .sum => true | .tuple => true | .list => true | .max => true | .min => true | .sorted => true | .str => true | .int => true
def bmN : Bm → Str
  | .append => "append" | .split => "split" | .join => "join" | .partition => "partition" | .find => "find" | .index => "index" | .startswith => "startswith" | .upper => "upper" | .pop => "pop" | .get => "get" | .setdefault => "setdefault" | .count => "count" | .popL => "pop"
def bxN : BX → Str
  | .min => "min" | .max => "max"
def byN : BY → Str
  | .get => "get" | .count => "count"
def byA : BY → Nat
  | .get => 2 | .count => 1
/-- how many arguments -/
def bmA : Bm → Nat → Bool
  | .upper, 0 => true
  | .append, 1 => true | .split, 1 => true | .join, 1 => true | .partition, 1 => true | .find, 1 => true | .index, 1 => true | .startswith, 1 => true | .pop, 1 => true | .get, 1 => true | .popL, 1 => true
  | .pop, 2 => true | .get, 2 => true | .setdefault, 2 => true
  | _, _ => false
def noBase : Expr → Bool
  | .Call (.Name _ _) [] [] _ => false
  | _ => true
theorem base_ok {e : Expr} {n : Str} {env : PySem.Env} (h : noBase e = true) : attributeBase e n env (eval e env) = eval e env := by
  unfold attributeBase
  split
  · simp [noBase] at h
  · rfl
/-- what makes a new list -/
def isFresh : E → Bool
  | .lst _ => true | .bf .list _ => true | .bf .sorted _ => true | .bin .add _ _ => true | .bin .mul _ _ => true | .sl _ _ _ => true | .comp _ _ _ _ _ => true | .lrng _ _ => true
  | _ => false
/-- a variable, or an item of a variable -/
def srcV : E → Bool
  | .var _ => true
  | .dix (.var _) (.var _) => true
  | _ => false
def isVarE : E → Bool
  | .var _ => true
  | _ => false
def isSet : Expr → Bool
  | .Set _ _ _ => true
  | _ => false
def plainT : Expr → Bool
  | .Name _ _ => true | .Call _ _ _ _ => true | .Attribute _ _ _ => true | .Subscript _ _ _ => true | .Constant _ _ _ => true | .BinOp _ _ _ _ => true | .ListComp _ _ _ _ => true
  | _ => false
def notSlice : Expr → Bool
  | .Slice _ _ _ _ => false
  | _ => true
def notStar : Expr → Bool
  | .Starred _ _ => false
  | _ => true
def tyS : Nat → Str
  | 0 => "int" | 1 => "bool" | 2 => "str" | 3 => "tuple" | _ => "frozenset"
def slots : Tg → List Nat
  | .one i => [i]
  | .many is => is
/-- a name that is stored: fl: within a def's own frame, cells too -/
def tgN (N : List Str) (fl : Bool) (sc : Scope) (i : Nat) : Expr → Bool
  | .Name x _ => decide (N[i]? = some x) && (decide (sc.names.lookup x = some .local) || (fl && decide (sc.names.lookup x = some .cell)))
  | _ => false
def tgNs (N : List Str) (fl : Bool) (sc : Scope) : List Nat → List Expr → Bool
  | [], [] => true
  | i :: is, e :: es => tgN N fl sc i e && tgNs N fl sc is es
  | _, _ => false
def tgC (N : List Str) (fl : Bool) (sc : Scope) : Tg → Expr → Bool
  | .one i, e => tgN N fl sc i e
  | .many is, .Tuple es _ _ => tgNs N fl sc is es
  | _, _ => false
def tgNames : Expr → List Str
  | .Name x _ => [x]
  | .Tuple es _ _ => es.map fun e => match e with | .Name x _ => x | _ => ""
  | _ => []
def ownOf (tg : Tg) (t : Expr) : List (Str × Nat) := (tgNames t).zip (slots tg)
def isTup : Expr → Bool
  | .Tuple _ _ _ => true
  | _ => false
/-- the arguments of what is walked -/
def itArgs (blN : List Str) (k : IK) (sc : Scope) (t iter : Expr) : Option (List Expr) := match iter with
  | .Call (.Name g _) es [] _ => if gl sc g && decide (g ∈ blN) then (match k, es with
    | .rng1, [_] => if g = ("range" : Str) then some es else none
    | .rng2, [_, _] => if g = ("range" : Str) then some es else none
    | .rng3, [_, _, _] => if g = ("range" : Str) then some es else none
    | .enum, [_] => if g = ("enumerate" : Str) ∧ isTup t then some es else none
    | .zip, [_, _] => if g = ("zip" : Str) ∧ isTup t then some es else none
    | _, _ => none) else none
  | _ => none

/-- a slice's step, as it is written -/
def stepC (st : Int) : Expr → Bool
  | .Constant (.int c) _ _ => decide (st = c)
  | .UnaryOp .USub (.Constant (.int c) _ _) _ => decide (st = -c)
  | _ => false
/-- a written key -/
def keyStr : Option Expr → Option Str
  | some (.Constant (.str x) _ _) => some x
  | _ => none
section
variable (Y : Sx) (N : List Str)
mutual
def chk : E → Scope → Expr → Bool
  | .var i, sc, a => match a with
    | .Name x _ => decide (N[i]? = some x) && vis sc x && !dbg x && !(x == ("__classdict__" : Str))
    | _ => false
  | .con d, sc, a => match a, d with
    | .Constant (.int i) _ _, .int j => decide (i = j)
    | .Constant (.bool i) _ _, .bl j => decide (i = j)
    | .Constant .none _ _, .non => true
    | .Constant (.str i) _ _, .str j => decide (i = j)
    | _, _ => false
  | .glb j, sc, a => match a with
    | .Name x _ => decide (Y.coN j = some x) && gl sc x && !dbg x
    | _ => false
  | .bin o a b, sc, x => match x with
    | .BinOp p op q _ => decide (op = bOp o) && chk a sc p && chk b sc q
    | _ => false
  | .cmp o a b, sc, x => match x with
    | .Compare p [op] [q] _ => decide (op = cOp o) && !isSet q && chk a sc p && chk b sc q
    | _ => false
  | .chain o o' a b c, sc, x => match x with
    | .Compare p [op, op'] [q, r] _ => decide (op = cOp o) && decide (op' = cOp o') && !isSet q && !isSet r && chk a sc p && chk b sc q && chk c sc r
    | _ => false
  | .isn a, sc, x => match x with
    | .Compare p [.Is] [.Constant .none _ _] _ => chk a sc p
    | _ => false
  | .ntn a, sc, x => match x with
    | .Compare p [.IsNot] [.Constant .none _ _] _ => chk a sc p
    | _ => false
  | .neg a, sc, x => match x with
    | .UnaryOp .USub p _ => chk a sc p
    | _ => false
  | .nt a, sc, x => match x with
    | .UnaryOp .Not p _ => chk a sc p
    | _ => false
  | .one a, sc, x => match x with
    | .BoolOp _ [p] _ => chk a sc p
    | _ => false
  | .and a b, sc, x => match x with
    | .BoolOp .And (p :: q :: r) pos => chk a sc p && chk b sc (.BoolOp .And (q :: r) pos)
    | _ => false
  | .or a b, sc, x => match x with
    | .BoolOp .Or (p :: q :: r) pos => chk a sc p && chk b sc (.BoolOp .Or (q :: r) pos)
    | _ => false
  | .ite c a b, sc, x => match x with
    | .IfExp t p q _ => chkT c sc t && chk a sc p && chk b sc q
    | _ => false
  | .isa a t, sc, x => match x with
    | .Call (.Name f _) [p, .Name g _] [] _ => decide (f = ("isinstance" : Str)) && decide (g = tyS t) && decide (t < 4) && gl sc f && gl sc g && decide (f ∈ Y.blN) && decide (g ∈ Y.blN) && notStar p && chk a sc p
    | _ => false
  | .call f as, sc, x => match x with
    | .Call (.Name g _) (p :: ps) [] _ => decide (Y.fnN f = some g) && gl sc g && !dbg g && chkA as sc (p :: ps)
    | _ => false
  | .bf f as, sc, x => match x with
    | .Call (.Name g _) (p :: ps) [] _ => bfOk f && decide (g = bfN f) && gl sc g && decide (g ∈ Y.blN) && chkA as sc (p :: ps)
    | _ => false
  | .ix a i, sc, x => match x with
    | .Subscript p q _ => notSlice q && chk a sc p && chk i sc q
    | _ => false
  | .sl a lo hi, sc, x => match x with
    | .Subscript p (.Slice l h none _) _ => chk a sc p && (match l with | none => isEmp lo | some l => !isEmp lo && chk lo sc l) && (match h with | none => isEmp hi | some h => !isEmp hi && chk hi sc h)
    | _ => false
  | .sl3 a lo hi st, sc, x => match x with
    | .Subscript p (.Slice l h (some q) _) _ => chk a sc p && (match l with | none => isEmp lo | some l => !isEmp lo && chk lo sc l) && (match h with | none => isEmp hi | some h => !isEmp hi && chk hi sc h) && stepC st q
    | _ => false
  | .tup as, sc, x => match x with
    | .Tuple es _ _ => chkA as sc es
    | _ => false
  | .lst as, sc, x => match x with
    | .List es _ => chkA as sc es
    | _ => false
  | .new e, sc, x => isFresh e && chk e sc x
  | .dict0, _, x => match x with
    | .Dict [] [] _ => true
    | _ => false
  | .dict ks vs, sc, x => match x with
    | .Dict keys es _ => (match keysE ks with
      | some xs => decide (keys.map keyStr = xs.map some) && decide (1 ≤ keys.length ∧ keys.length ≤ 15) && decide (keys.length = es.length) && chkA vs sc es
      | none => false)
    | _ => false
  | .lrng k as, sc, x => match x with
    | .Call (.Name g _) [.Call (.Name r _) (p :: ps) [] _] [] _ => decide (g = ("list" : Str)) && decide (r = ("range" : Str)) && gl sc g && gl sc r && decide (g ∈ Y.blN) && decide (r ∈ Y.blN) && (match k with
      | .rng1 => decide (ps.length = 0) | .rng2 => decide (ps.length = 1) | .rng3 => decide (ps.length = 2) | _ => false) && chkA as sc (p :: ps)
    | _ => false
  | .din ng a b, sc, x => match x with
    | .Compare p [op] [q] _ => decide (op = (if ng then .NotIn else .In)) && !isSet q && chk a sc p && chk b sc q
    | _ => false
  | .dix a i, sc, x => match x with
    | .Subscript p q _ => notSlice q && chk a sc p && chk i sc q
    | _ => false
  | .bm m o as, sc, x => match x with
    | .Call (.Attribute e t ap) ps [] cp => decide (t = bmN m) && bmA m ps.length && (ap.endLine == cp.line) && noBase e && chk o sc e && chkA as sc ps
    | _ => false
  | .fld c o f, sc, x => match x with
    | .Attribute e n _ => (Y.clN c).isSome && decide (Y.fdN f = some n) && noBase e && chk o sc e
    | _ => false
  | .meth c o m as, sc, x => match x with
    | .Call (.Attribute e n ap) ps [] cp => decide (Y.meN c m = some n) && noBase e && (ap.endLine == cp.line) && decide (ps.length ≤ 20) && chk o sc e && chkA as sc ps
    | _ => false
  | .mk c as, sc, x => match x with
    | .Call (.Name g _) ps [] _ => decide (Y.clN c = some g) && gl sc g && !dbg g && chkA as sc ps
    | _ => false
  | .fstr as, sc, x => match x with
    | .JoinedStr (p :: q :: r) _ => decide ((p :: q :: r).length ≤ 12) && chkF as sc (p :: q :: r)
    | _ => false
  | .comp k src tg c e, sc, x => match x with
    | .ListComp elt [⟨t, iter, ifs, asy⟩] scope _ => decide (asy = 0) && !isSet iter && blkC N sc scope (ownOf tg t) && decide ((ownOf tg t).map (·.2) = slots tg) && tgC N false (relS scope sc) tg t &&
      (match k with
        | .plain => chk src sc iter
        | .keys => isVarE src && chk src sc iter
        | .keysR => srcV src && chk src sc iter
        | k => match itArgs Y.blN k sc t iter with
          | some es => chkA src sc es
          | none => false) &&
      (match ifs with
        | [] => isEmp c
        | [i] => chkT c (relS scope sc) i
        | _ => false) && chk e (relS scope sc) elt
    | _ => false
  | .dT0, _, x => match x with
    | .Dict [] [] _ => true
    | _ => false
  | .compT v is e, sc, x => match x with
    | .ListComp elt [⟨t, .Call (.Attribute o n ap) [] [] cp, [], asy⟩] scope _ => decide (asy = 0) && blkC N sc scope (ownOf (.many is) t) && decide ((ownOf (.many is) t).map (·.2) = is) && tgC N false (relS scope sc) (.many is) t && decide (n = "items") && noBase o && (ap.endLine == cp.line) && isVarE v && chk v sc o && chk e (relS scope sc) elt
    | _ => false
  | .bfX f as, sc, x => match x with
    | .Call (.Name g _) [p] [] _ => decide (g = bxN f) && gl sc g && decide (g ∈ Y.blN) && chkA as sc [p]
    | _ => false
  | .bmX m o as, sc, x => match x with
    | .Call (.Attribute e t ap) ps [] cp => decide (t = byN m) && decide (ps.length = byA m) && (ap.endLine == cp.line) && noBase e && chk o sc e && chkA as sc ps
    | _ => false
  | _, _, _ => false
def chkT : E → Scope → Expr → Bool
  | .nt a, sc, x => match x with
    | .UnaryOp .Not p _ => chkT a sc p
    | _ => false
  | .one a, sc, x => match x with
    | .BoolOp _ [p] _ => chkT a sc p
    | _ => false
  | .and a b, sc, x => match x with
    | .BoolOp .And (p :: q :: r) pos => chkT a sc p && chkT b sc (.BoolOp .And (q :: r) pos)
    | _ => false
  | .or a b, sc, x => match x with
    | .BoolOp .Or (p :: q :: r) pos => chkT a sc p && chkT b sc (.BoolOp .Or (q :: r) pos)
    | _ => false
  | .cmp o a b, sc, x => match x with
    | .Compare p [op] [q] _ => decide (op = cOp o) && !isSet q && chk a sc p && chk b sc q
    | _ => false
  | .chain o o' a b c, sc, x => match x with
    | .Compare p [op, op'] [q, r] _ => decide (op = cOp o) && decide (op' = cOp o') && !isSet q && !isSet r && chk a sc p && chk b sc q && chk c sc r
    | _ => false
  | .isn a, sc, x => match x with
    | .Compare p [.Is] [.Constant .none _ _] _ => chk a sc p
    | _ => false
  | .ntn a, sc, x => match x with
    | .Compare p [.IsNot] [.Constant .none _ _] _ => chk a sc p
    | _ => false
  | .din ng a b, sc, x => match x with
    | .Compare p [op] [q] _ => decide (op = (if ng then .NotIn else .In)) && !isSet q && chk a sc p && chk b sc q
    | _ => false
  | .val a, sc, x => plainT x && chk a sc x
  | .tdT a, sc, x => plainT x && isVarE a && chk a sc x
  | _, _, _ => false
def chkM : E → Scope → Expr → Bool
  | .fmt a, sc, e => match e with
    | .FormattedValue p c s _ => decide (c = -1) && s.isNone && chk a sc p
    | _ => false
  | .con (.str y), sc, e => match e with
    | .Constant (.str z) _ _ => decide (y = z) && decide (y.length ≤ 1000000)
    | _ => false
  | _, _, _ => false
def chkF : E → Scope → List Expr → Bool
  | .nil, _, es => match es with
    | [] => true
    | _ => false
  | .cons a as, sc, es => match es with
    | e :: es => chkM a sc e && chkF as sc es
    | _ => false
  | _, _, _ => false
def chkA : E → Scope → List Expr → Bool
  | .nil, _, es => match es with
    | [] => true
    | _ => false
  | .cons a as, sc, es => match es with
    | e :: es => notStar e && chk a sc e && chkA as sc es
    | _ => false
  | _, _, _ => false
end
end
end PL

set_option Elab.async false
set_option linter.all false
set_option maxRecDepth 100000
set_option maxHeartbeats 1000000
/-! PLG: expressions are as the evaluator says. -/
namespace PL
open PySem PySem.Spec PyProof.Rows L2

structure GOk (K : PySem.W.Frag) (mg : Str → Option Value) (G : Tab) (Y : Sx) (nm : Nm) (fa : Nat → Addr) (fd : Nat → FuncData) (ps : Nat → List Str) : Prop where
  co : ∀ (j : Nat) (x : Str), Y.coN j = some x → ∃ d u v, G.consts j = some d ∧ mg x = some u ∧ RelV v u ∧ ∀ W H, Rep K W H d v
  fn : ∀ (f : Nat) (x : Str), Y.fnN f = some x → (G.fns f).isSome = true ∧ mg x = some (.ref (fa f)) ∧ PySem.W.keepIn K (.ref (fa f)) = true
  bi : ∀ f : Nat, (G.fns f).isSome = true → Binds K (fd f) (ps f) []
  bl : ∀ x ∈ Y.blN, mg x = none
  ex : ∀ (c : Nat) (x : Str), Y.exN c = some x → mg x = some (.ref (nm.X c)) ∧ PySem.W.keepIn K (.ref (nm.X c)) = true ∧ PySem.W.excIn K (nm.X c) [.type "ValueError", .type "Exception", .type "BaseException", .type "object"] "ValueError.__new__" = true ∧
    PySem.W.subIn K (.ref (nm.X c)) (.type "BaseException") = some true ∧ PySem.W.typeIn K (.ref (nm.X c)) = some (.type "type")
  hd : ∀ (x : Str) (cs : List Nat), Y.hdl x = some cs → ∃ a : Addr, mg x = some (.ref a) ∧ ∀ c ∈ G.exs, PySem.W.exmOne K (.ref (nm.X c)) (.ref a) = some (decide (c ∈ cs))
  cl : ∀ (c : Nat) (x : Str), Y.clN c = some x → Cls K (nm.C c) ∧ mg x = some (.ref (nm.C c)) ∧ ∀ (f : Nat) (n : Str), Y.fdN f = some n → NoAttr K (nm.C c) n ∧ n = nm.fn f
  me : ∀ (c m : Nat) (n : Str), Y.meN c m = some n → ∃ f, G.meth c m = some f ∧ (G.fns f).isSome = true ∧ Cls K (nm.C c) ∧ Meth K (nm.C c) n (fa f) ∧ ∀ g, nm.fn g ≠ n
  mke : ∀ (c : Nat) (x : Str), Y.clN c = some x → ∃ f, G.init c = some f ∧ (G.fns f).isSome = true ∧ Mk K (nm.C c) (fa f)
  inj : ∀ f g, nm.fn f = nm.fn g → f = g
structure COk (P : Program) (w : World) (K : PySem.W.Frag) (mg : Str → Option Value) (base : Heap) (kk : Nat) (N : List Str) (sc : Scope) (X : Cx) : Prop where
  hP : X.prog = P
  hw : X.w = w
  hK : X.K = K
  hm : X.mg = mg
  hb : X.base = base
  hN : X.N = N
  nd : N.Nodup
  sc : X.env.scope = sc
  room : Room (2 * kk + 1) X.A
  calm : X.calm = true
  fr : FrOk X
/-- a def's promise: it hands back what the evaluator says -/
def spF (K : PySem.W.Frag) (nm : Nm) (G : Tab) (kk f : Nat) : Sp := fun vs H Q E => ∃ W S as, Rel K nm W S H ∧ Reps K W H as vs ∧ Wq K nm (rpD K) W H (run G kk f as S) Q fun c H' => E (.ref (nm.X c)) none H'

section
variable {P : Program} {w : World} {K : PySem.W.Frag} {mg : Str → Option Value} {base : Heap} {G : Tab} {Y : Sx} {nm : Nm} {fa : Nat → Addr} {fd : Nat → FuncData} {ps : Nat → List Str} {kk : Nat} {N : List Str}
variable (P w K mg base G Y nm kk N) in
structure Snd (e : E) : Prop where
  v : ∀ (sc : Scope) (a : Expr) (X : Cx) (Wi : WX), chk Y N e sc a = true → COk P w K mg base kk N sc X → Tk X Wi → PE X a (tE K nm Wi (ev G (run G kk) e))
  t : ∀ (sc : Scope) (a : Expr) (X : Cx) (Wi : WX), chkT Y N e sc a = true → COk P w K mg base kk N sc X → Tk X Wi → PT X a (tT K nm Wi fun env S => mapT (ev G (run G kk) e env S))
  l : ∀ (sc : Scope) (a : List Expr) (X : Cx) (Wi : WX), chkA Y N e sc a = true → COk P w K mg base kk N sc X → Tk X Wi → PA X a (tA K nm Wi (ev G (run G kk) e))
variable {sc : Scope} {X : Cx} {Wi : WX}
theorem vis_ok (C : COk P w K mg base kk N sc X) {x : Str} (h : vis sc x = true) : Vis X.env.scope x := by
  rw [C.sc]
  unfold vis at h
  split at h
  · exact .inl (by assumption)
  · exact .inr (.inl (by assumption))
  · exact .inr (.inr (by assumption))
  · cases h
theorem gl_ok (C : COk P w K mg base kk N sc X) {x : Str} (h : gl sc x = true) : Gl X x := by
  have := of_decide_eq_true h
  show X.env.scope.names.lookup x = _
  rw [C.sc]; exact this
theorem dbg_ok {x : Str} (h : dbg x = false) : (x == ("__debug__" : Str)) = false := h
theorem star_ok {e : Expr} {es : List Expr} {env : PySem.Env} (h : notStar e = true) : starEach (e :: es) env = (false, eval e env) :: starEach es env := by
  cases e <;> first | rfl | cases h
theorem mark_ok {op : CmpOp} {e : Expr} (h : isSet e = false) : behindInMarks op e = false := by
  cases e <;> first | rfl | cases h
theorem stars_ok {e : E} {env : PySem.Env} {sc : Scope} : ∀ {as : E} {es : List Expr}, chkA Y N as sc es = true → ∀ {pos : Pos}, (backTo pos (starEach es env)).any (·.1) = false := by
  intro as
  induction as with
  | nil => intro es h pos; cases es <;> first | rfl | (simp [chkA] at h)
  | cons a as _ ih =>
    intro es h pos
    cases es with
    | nil => rfl
    | cons e es =>
      simp only [chkA, Bool.and_eq_true] at h
      rw [star_ok h.1.1]
      have := ih h.2 (pos := pos)
      simpa [backTo] using this
  | _ => intro es h pos; simp [chkA] at h

theorem stars_ok1 {env : PySem.Env} {sc : Scope} {as : E} {e : Expr} {es : List Expr} (h : chkA Y N as sc (e :: es) = true) {pos : Pos} : (backTo pos (starEach es env)).any (·.1) = false := by
  cases as <;> simp only [chkA, Bool.and_eq_true] at h <;> first | (cases h; done) | exact stars_ok (e := .emp) h.2
/-! ### names, constants -/
theorem s_var (i : Nat) : Snd P w K mg base G Y nm kk N (.var i) := by
  refine ⟨fun sc a X Wi h C tk => ?_, fun sc a X Wi h C tk => by simp [chkT] at h, fun sc a X Wi h C tk => by simp [chkA] at h⟩
  cases a <;> simp only [chk] at h <;> first | (cases h; done) | skip
  simp only [Bool.and_eq_true, Bool.not_eq_true', decide_eq_true_eq] at h
  obtain ⟨⟨⟨h1, h2⟩, h3⟩, h4⟩ := h
  refine (pe_var (i := i) (by rw [C.hN]; exact h1) (vis_ok C h2) h3 h4).imp fun σ H Q ⟨W, S, env, E, r, q⟩ => ?_
  simp only [ev] at q
  split at q
  · rename_i d e
    obtain ⟨v, e1, e2⟩ := E.get i d e
    exact ⟨v, e1, q v W H Ext.refl r e2⟩
  · exact q.elim
theorem s_con (d : D) : Snd P w K mg base G Y nm kk N (.con d) := by
  refine ⟨fun sc a X Wi h C tk => ?_, fun sc a X Wi h C tk => by simp [chkT] at h, fun sc a X Wi h C tk => by simp [chkA] at h⟩
  simp only [chk] at h
  have fin : ∀ {v : V} {σ : L2.St} {H : Hp} {Q : VK}, (∀ W, Rep K W H d v) → tE K nm Wi (ev G (run G kk) (.con d)) σ H Q → Q v H := fun {v σ H Q} p ⟨W, S, env, E, r, q⟩ => q v W H Ext.refl r (p W)
  split at h <;> first | (cases h; done) | (have h' := of_decide_eq_true h; subst h') | skip
  · exact pe_int.imp fun σ H Q q => fin (fun _ => .int _) q
  · exact pe_bl.imp fun σ H Q q => fin (fun _ => .bl _) q
  · exact pe_non.imp fun σ H Q q => fin (fun _ => .non) q
  · exact pe_str.imp fun σ H Q q => fin (fun _ => .str _) q
theorem s_glb (g : GOk K mg G Y nm fa fd ps) (j : Nat) : Snd P w K mg base G Y nm kk N (.glb j) := by
  refine ⟨fun sc a X Wi h C tk => ?_, fun sc a X Wi h C tk => by simp [chkT] at h, fun sc a X Wi h C tk => by simp [chkA] at h⟩
  cases a <;> simp only [chk] at h <;> first | (cases h; done) | skip
  simp only [Bool.and_eq_true, Bool.not_eq_true', decide_eq_true_eq] at h
  obtain ⟨⟨h1, h2⟩, h3⟩ := h
  obtain ⟨d, u, v, e1, e2, e3, e4⟩ := g.co j _ h1
  refine (pe_glob (gl_ok C h2) (by rw [C.hm]; exact e2) e3 h3).imp fun σ H Q ⟨W, S, env, E, r, q⟩ => ?_
  simp only [ev, e1, R.of_some] at q
  exact q v W H Ext.refl r (e4 _ _)

/-! ### operators -/
theorem s_bin (o : BOp) (a b : E) (ia : Snd P w K mg base G Y nm kk N a) (ib : Snd P w K mg base G Y nm kk N b) : Snd P w K mg base G Y nm kk N (.bin o a b) := by
  refine ⟨fun sc x X Wi h C tk => ?_, fun sc a X Wi h C tk => by simp [chkT] at h, fun sc a X Wi h C tk => by simp [chkA] at h⟩
  cases x <;> simp only [chk] at h <;> first | (cases h; done) | skip
  simp only [Bool.and_eq_true, decide_eq_true_eq] at h
  obtain ⟨⟨h1, h2⟩, h3⟩ := h
  have pa := ia.v _ _ X Wi h2 C tk
  have pb := ib.v _ _ X Wi h3 C tk
  subst h1
  have U := C.room.units
  cases o with
  | add => exact (pe_op op_add4 pa pb).imp fun σ H Q wq => tX.op wq fun r p q z => by obtain ⟨d, e, f⟩ := z.fin; have := C.hK; subst this; exact add_ok r p q e f
  | sub => exact (pe_op op_sub pa pb).imp fun σ H Q wq => tX.op wq fun r p q z => by obtain ⟨d, e, f⟩ := z.fin; exact sub_ok r p q e f
  | mul => exact (pe_op op_mul3 pa pb).imp fun σ H Q wq => tX.op wq fun r p q z => by obtain ⟨d, e, f⟩ := z.fin; have := C.hK; subst this; exact mul_ok r p q e f
  | mod => exact (pe_op op_mod pa pb).imp fun σ H Q wq => tX.op wq fun r p q z => by obtain ⟨d, e, f⟩ := z.fin; exact mod_ok r p q e f
  | fdiv => exact (pe_op op_fdivW pa pb).imp fun σ H Q wq => tX.op wq fun r p q z => by obtain ⟨d, e, f⟩ := z.fin; exact fdiv_ok r p q e f
theorem bool_beq (a b : Bool) : (Value.bool a == Value.bool b) = decide (a = b) := by cases a <;> cases b <;> rfl
theorem op_isTruth : OpR X (compareOp .Is) (fun x y H Q => ∃ a b, x = .bl a ∧ y = .bl b ∧ Q (.bl (decide (a = b))) H) := by
  intro pins s σ H x y v u Q I rx ry h
  obtain ⟨a, b, rfl, rfl, q⟩ := h
  cases (show v = Value.bool a from rx)
  cases (show u = Value.bool b from ry)
  exact PySem.wpAny_is_plain rfl (fin_bl I q (bool_beq a b).symm)
theorem op_notTruth : OpR X (compareOp .IsNot) (fun x y H Q => ∃ a b, x = .bl a ∧ y = .bl b ∧ Q (.bl (!decide (a = b))) H) := by
  intro pins s σ H x y v u Q I rx ry h
  obtain ⟨a, b, rfl, rfl, q⟩ := h
  cases (show v = Value.bool a from rx)
  cases (show u = Value.bool b from ry)
  exact PySem.wpAny_isNot_plain rfl (fin_bl I q (congrArg not (bool_beq a b).symm))
/-- the comparisons, by values -/
theorem cop_ok (o : COp) (hK : X.K = K) (hu : X.A.units + 64 < cLine) (hu1 : X.A.in1.units + 64 < cLine) : ∃ r : R2, OpR X (compareOp (cOp o)) r ∧
    ∀ {W : Wd} {S : Store} {H : Hp} {dx dy : D} {b : Bool} {x y : V} {Q : VK}, Rel K nm W S H → Rep K W H dx x → Rep K W H dy y → cop o dx dy S = some b → Fin K nm W S H (.bl b) Q → r x y H Q := by
  subst hK
  cases o with
  | eq => exact ⟨_, (op_eq2 hu).or (op_eqK hu1 (by omega)), fun {W S H dx dy b x y Q} r p q h f => by
      simp only [cop] at h
      split at h
      · rename_i a b' e1 e2
        split at h
        · cases h; exact .inr (eqK_ok r p q e1 e2 (by assumption) f)
        · cases h
      · exact .inl (eq_ok r p q h f)⟩
  | ne => exact ⟨_, (op_ne2 hu).or (op_neK hu1 (by omega)), fun {W S H dx dy b x y Q} r p q h f => by
      simp only [cop] at h
      split at h
      · rename_i a b' e1 e2
        split at h
        · cases h; exact .inr (eqK_ok r p q e1 e2 (by assumption) f)
        · cases h
      · exact .inl (ne_ok r p q h f)⟩
  | lt => exact ⟨_, op_lt, fun r p q h f => ord_ok r p q h f⟩
  | le => exact ⟨_, op_le, fun r p q h f => ord_ok r p q h f⟩
  | gt => exact ⟨_, op_gt, fun r p q h f => ord_ok r p q h f⟩
  | ge => exact ⟨_, op_ge, fun r p q h f => ord_ok r p q h f⟩
  | inn => exact ⟨_, op_in2, fun {W S H dx dy b x y Q} r p q h f => by
      simp only [cop] at h
      split at h
      · exact in_ok (ng := false) r p q h (by assumption) f
      · cases h⟩
  | nin => exact ⟨_, op_nin2, fun {W S H dx dy b x y Q} r p q h f => by
      simp only [cop] at h
      split at h
      · rw [Option.map_eq_some_iff] at h
        obtain ⟨c, h1, h2⟩ := h
        exact in_ok (ng := true) r p q h1 (by assumption) (by simpa [h2] using f)
      · cases h⟩
  | iss => exact ⟨_, op_isTruth, fun {W S H dx dy b x y Q} r p q h f => by
      simp only [cop] at h
      split at h
      · cases h; cases p; cases q
        exact ⟨_, _, rfl, rfl, f.here r (.bl _)⟩
      · cases h⟩
  | nis => exact ⟨_, op_notTruth, fun {W S H dx dy b x y Q} r p q h f => by
      simp only [cop] at h
      split at h
      · cases h; cases p; cases q
        exact ⟨_, _, rfl, rfl, f.here r (.bl _)⟩
      · cases h⟩
/-- a truth that is tested -/
theorem bl_of {W : Wd} {S : Store} {H : Hp} {o : Option Bool} {Q : Bool → Hp → Prop} {Xc : Nat → Hp → Prop} {A : Prop} (z : Wq K nm rpB W H ((R.of (o.map D.bl) S).bind fun d S => R.of (truthy d S) S) Q Xc)
    (h : ∀ c, o = some c → Fin K nm W S H (.bl c) (fun x H' => ∃ k, x = .bl k ∧ Q k H') → A) : A := by
  cases o with
  | none => exact z.elim
  | some c =>
    refine h c rfl fun v W' H' e r p => ?_
    cases p
    exact ⟨c, rfl, z c W' H' e r rfl⟩
theorem s_cmp (o : COp) (a b : E) (ia : Snd P w K mg base G Y nm kk N a) (ib : Snd P w K mg base G Y nm kk N b) : Snd P w K mg base G Y nm kk N (.cmp o a b) := by
  refine ⟨fun sc x X Wi h C tk => ?_, fun sc x X Wi h C tk => ?_, fun sc a X Wi h C tk => by simp [chkA] at h⟩
  · simp only [chk] at h
    split at h <;> try (cases h; done)
    simp only [Bool.and_eq_true, decide_eq_true_eq, Bool.not_eq_true'] at h
    obtain ⟨⟨⟨h1, h0⟩, h2⟩, h3⟩ := h
    have pa := ia.v _ _ X Wi h2 C tk
    have pb := ib.v _ _ X Wi h3 C tk
    subst h1
    obtain ⟨rr, ho, hr⟩ := cop_ok (nm := nm) o C.hK C.room.units C.room.in1.units
    refine (pe_cmpR ho pa pb (mark_ok h0)).imp fun σ H Q wq => tX.op wq fun r p q z => ?_
    obtain ⟨d, e, f⟩ := z.fin
    rw [Option.map_eq_some_iff] at e
    obtain ⟨c, e1, e2⟩ := e
    subst e2
    exact hr r p q e1 f
  · simp only [chkT] at h
    split at h <;> try (cases h; done)
    simp only [Bool.and_eq_true, decide_eq_true_eq, Bool.not_eq_true'] at h
    obtain ⟨⟨⟨h1, h0⟩, h2⟩, h3⟩ := h
    have pa := ia.v _ _ X Wi h2 C tk
    have pb := ib.v _ _ X Wi h3 C tk
    subst h1
    obtain ⟨rr, ho, hr⟩ := cop_ok (nm := nm) o C.hK C.room.units C.room.in1.units
    refine (pt_cmpR ho pa pb (mark_ok h0)).imp fun σ H Q wq => ?_
    simp only [ev, mapT, R.bind_assoc] at wq
    exact tX.op wq fun r p q z => bl_of z fun c e f => hr r p q e f
end
end PL

set_option Elab.async false
set_option linter.all false
set_option maxRecDepth 100000
set_option maxHeartbeats 1000000
/-! PLH: expressions, the rest without comprehensions. -/
namespace PL
open PySem PySem.Spec PyProof.Rows L2
section
variable {P : Program} {w : World} {K : PySem.W.Frag} {mg : Str → Option Value} {base : Heap} {G : Tab} {Y : Sx} {nm : Nm} {fa : Nat → Addr} {fd : Nat → FuncData} {ps : Nat → List Str} {kk : Nat} {N : List Str}
variable {sc : Scope} {X : Cx} {Wi : WX}
theorem marks2_ok {op op' : CmpOp} {b c : Expr} (h : isSet c = false) : lastMarks [op, op'] [b, c] = false := by
  show behindInMarks op' c = false
  exact mark_ok h
theorem s_chain (o o' : COp) (a b c : E) (ia : Snd P w K mg base G Y nm kk N a) (ib : Snd P w K mg base G Y nm kk N b) (ic : Snd P w K mg base G Y nm kk N c) : Snd P w K mg base G Y nm kk N (.chain o o' a b c) := by
  refine ⟨fun sc x X Wi h C tk => ?_, fun sc x X Wi h C tk => ?_, fun sc a X Wi h C tk => by simp [chkA] at h⟩
  · simp only [chk] at h
    split at h <;> try (cases h; done)
    simp only [Bool.and_eq_true, decide_eq_true_eq, Bool.not_eq_true'] at h
    obtain ⟨⟨⟨⟨⟨⟨h1, h2⟩, h3⟩, h4⟩, h5⟩, h6⟩, h7⟩ := h
    subst h1 h2
    have pa := ia.v _ _ X Wi h5 C tk
    have pb := ib.v _ _ X Wi h6 C tk
    have pc := ic.v _ _ X Wi h7 C tk
    obtain ⟨rr, ho, hr⟩ := cop_ok (nm := nm) o C.hK C.room.units C.room.in1.units
    obtain ⟨rr', ho', hr'⟩ := cop_ok (nm := nm) o' C.hK C.room.units C.room.in1.units
    refine (pe_chain ho ho' pa pb pc (marks2_ok h4)).imp fun σ H Q wq => ?_
    obtain ⟨W, S, env, E, r, z⟩ := wq
    simp only [ev] at z
    refine ⟨W, S, env, E, r, (Wq.bind (rp := rpD K) z).mono fun x H1 z => ?_⟩
    obtain ⟨W1, S1, dx, e1, r1, p1, z⟩ := z
    have E1 := E.mono r.trk e1
    refine ⟨W1, S1, env, E1, r1, (Wq.bind (rp := rpD K) z).mono fun y H2 z => ?_⟩
    obtain ⟨W2, S2, dy, e2, r2, p2, z⟩ := z
    have E2 := E1.mono r1.trk e2
    cases hk : cop o dx dy S2 with
    | none => rw [hk] at z; exact z.elim
    | some k =>
      rw [hk] at z
      refine hr r2 (p1.mono r1.trk e2) p2 hk fun v W3 H3 e3 r3 p3 => ?_
      cases p3
      refine ⟨k, rfl, ?_⟩
      have z := Wq.ext e3 r3.trk z
      simp only [R.of_some, R.bind_ok] at z
      cases k with
      | false => exact z _ W3 H3 Ext.refl r3 (.bl false)
      | true =>
        have E3 := E2.mono r2.trk e3
        refine ⟨W3, S2, env, E3, r3, (Wq.bind (rp := rpD K) z).mono fun t H4 z => ?_⟩
        obtain ⟨W4, S4, dz, e4, r4, p4, z⟩ := z
        obtain ⟨d, e, f⟩ := z.fin
        rw [Option.map_eq_some_iff] at e
        obtain ⟨c', e5, e6⟩ := e
        subst e6
        exact hr' r4 ((p2.mono r2.trk e3).mono r3.trk e4) p4 e5 f
  · simp only [chkT] at h
    split at h <;> try (cases h; done)
    simp only [Bool.and_eq_true, decide_eq_true_eq, Bool.not_eq_true'] at h
    obtain ⟨⟨⟨⟨⟨⟨h1, h2⟩, h3⟩, h4⟩, h5⟩, h6⟩, h7⟩ := h
    subst h1 h2
    have pa := ia.v _ _ X Wi h5 C tk
    have pb := ib.v _ _ X Wi h6 C tk
    have pc := ic.v _ _ X Wi h7 C tk
    obtain ⟨rr, ho, hr⟩ := cop_ok (nm := nm) o C.hK C.room.units C.room.in1.units
    obtain ⟨rr', ho', hr'⟩ := cop_ok (nm := nm) o' C.hK C.room.units C.room.in1.units
    refine (pt_chain ho ho' pa pb pc (marks2_ok h4)).imp fun σ H Q wq => ?_
    obtain ⟨W, S, env, E, r, z⟩ := wq
    simp only [ev, mapT, R.bind_assoc] at z
    refine ⟨W, S, env, E, r, (Wq.bind (rp := rpD K) z).mono fun x H1 z => ?_⟩
    obtain ⟨W1, S1, dx, e1, r1, p1, z⟩ := z
    have E1 := E.mono r.trk e1
    refine ⟨W1, S1, env, E1, r1, (Wq.bind (rp := rpD K) z).mono fun y H2 z => ?_⟩
    obtain ⟨W2, S2, dy, e2, r2, p2, z⟩ := z
    have E2 := E1.mono r1.trk e2
    cases hk : cop o dx dy S2 with
    | none => rw [hk] at z; exact z.elim
    | some k =>
      rw [hk] at z
      refine hr r2 (p1.mono r1.trk e2) p2 hk fun v W3 H3 e3 r3 p3 => ?_
      cases p3
      refine ⟨k, rfl, ?_⟩
      have z := Wq.ext e3 r3.trk z
      simp only [R.of_some, R.bind_ok] at z
      cases k with
      | false => exact ⟨false, rfl, z false W3 H3 Ext.refl r3 rfl⟩
      | true =>
        have E3 := E2.mono r2.trk e3
        simp only [if_true, R.bind_assoc] at z
        refine ⟨W3, S2, env, E3, r3, (Wq.bind (rp := rpD K) z).mono fun t H4 z => ?_⟩
        obtain ⟨W4, S4, dz, e4, r4, p4, z⟩ := z
        exact bl_of z fun c' e f => hr' r4 ((p2.mono r2.trk e3).mono r3.trk e4) p4 e f
theorem isNon (d : D) {v : V} {W : Wd} {H : Hp} (p : Rep K W H d v) : decide (v = V.non) = isNonD d := by
  cases p <;> simp [isNonD]
theorem s_isn (a : E) (ia : Snd P w K mg base G Y nm kk N a) : Snd P w K mg base G Y nm kk N (.isn a) := by
  refine ⟨fun sc x X Wi h C tk => ?_, fun sc x X Wi h C tk => ?_, fun sc a X Wi h C tk => by simp [chkA] at h⟩
  · simp only [chk] at h
    split at h <;> try (cases h; done)
    have pa := ia.v _ _ X Wi h C tk
    refine (pe_cmp (pc_isN pa) rfl).imp fun σ H Q wq => ?_
    simp only [ev] at wq
    obtain ⟨W, S, env, E, r, z⟩ := tX.one (g := fun _ x S => .ok (D.bl (isNonD x)) S) wq
    refine ⟨W, S, env, E, r, z.mono fun x H1 z => ?_⟩
    obtain ⟨W1, S1, dx, env1, E1, r1, p1, z⟩ := z
    rw [isNon dx p1]
    exact z _ W1 H1 Ext.refl r1 (.bl _)
  · simp only [chkT] at h
    split at h <;> try (cases h; done)
    have pa := ia.v _ _ X Wi h C tk
    refine (pt_cmp (pc_isN pa) rfl).imp fun σ H Q wq => ?_
    simp only [ev, mapT, R.bind_assoc] at wq
    obtain ⟨W, S, env, E, r, z⟩ := tX.one (g := fun _ x S => (R.ok (D.bl (isNonD x)) S).bind fun d S => R.of (truthy d S) S) wq
    refine ⟨W, S, env, E, r, z.mono fun x H1 z => ?_⟩
    obtain ⟨W1, S1, dx, env1, E1, r1, p1, z⟩ := z
    rw [isNon dx p1]
    exact ⟨_, rfl, z _ W1 H1 Ext.refl r1 rfl⟩
theorem s_ntn (a : E) (ia : Snd P w K mg base G Y nm kk N a) : Snd P w K mg base G Y nm kk N (.ntn a) := by
  have key : ∀ {d : D} {v : V} {W : Wd} {H : Hp}, Rep K W H d v → (!decide (v = V.non)) = !isNonD d := fun {d v W H} p => by rw [isNon d p]
  refine ⟨fun sc x X Wi h C tk => ?_, fun sc x X Wi h C tk => ?_, fun sc a X Wi h C tk => by simp [chkA] at h⟩
  · simp only [chk] at h
    split at h <;> try (cases h; done)
    have pa := ia.v _ _ X Wi h C tk
    refine (pe_cmp (pc_notN pa) rfl).imp fun σ H Q wq => ?_
    simp only [ev] at wq
    obtain ⟨W, S, env, E, r, z⟩ := tX.one (g := fun _ x S => .ok (D.bl (!isNonD x)) S) wq
    refine ⟨W, S, env, E, r, z.mono fun x H1 z => ?_⟩
    obtain ⟨W1, S1, dx, env1, E1, r1, p1, z⟩ := z
    rw [key p1]
    exact z _ W1 H1 Ext.refl r1 (.bl _)
  · simp only [chkT] at h
    split at h <;> try (cases h; done)
    have pa := ia.v _ _ X Wi h C tk
    refine (pt_cmp (pc_notN pa) rfl).imp fun σ H Q wq => ?_
    simp only [ev, mapT, R.bind_assoc] at wq
    obtain ⟨W, S, env, E, r, z⟩ := tX.one (g := fun _ x S => (R.ok (D.bl (!isNonD x)) S).bind fun d S => R.of (truthy d S) S) wq
    refine ⟨W, S, env, E, r, z.mono fun x H1 z => ?_⟩
    obtain ⟨W1, S1, dx, env1, E1, r1, p1, z⟩ := z
    rw [key p1]
    exact ⟨_, rfl, z _ W1 H1 Ext.refl r1 rfl⟩
theorem s_neg (a : E) (ia : Snd P w K mg base G Y nm kk N a) : Snd P w K mg base G Y nm kk N (.neg a) := by
  refine ⟨fun sc x X Wi h C tk => ?_, fun sc x X Wi h C tk => by simp [chkT] at h, fun sc a X Wi h C tk => by simp [chkA] at h⟩
  simp only [chk] at h
  split at h <;> try (cases h; done)
  have pa := ia.v _ _ X Wi h C tk
  refine (pe_un un_neg pa).imp fun σ H Q wq => ?_
  simp only [ev] at wq
  obtain ⟨W, S, env, E, r, z⟩ := tX.one (g := fun _ x S => R.of (negD x) S) wq
  refine ⟨W, S, env, E, r, z.mono fun x H1 z => ?_⟩
  obtain ⟨W1, S1, dx, env1, E1, r1, p1, z⟩ := z
  obtain ⟨d, e, f⟩ := z.fin
  cases p1 <;> simp only [negD] at e <;> first | (cases e; done) | skip
  cases e
  exact ⟨_, rfl, f.here r1 (.int _)⟩

/-! ### truth -/
theorem tru_rep {d : D} {v : V} {k : Bool} {W : Wd} {S : Store} {H : Hp} (r : Rel K nm W S H) (p : Rep K W H d v) (h : truthy d S = some k) : TruV K v H k := by
  cases p with
  | non => cases h; rfl
  | bl b => cases h; rfl
  | int i => cases h; rfl
  | str x =>
    simp only [truthy] at h
    split at h
    · rename_i z
      cases h
      refine ⟨by rw [← SZ_eq]; exact z, ?_⟩
      simp [bne, BEq.beq]
      try omega
    · cases h
  | tup h1 h2 => cases h; exact .inr (.inl ⟨_, h1, by cases h2 <;> rfl⟩)
  | lst h1 h2 h3 h4 => cases h; exact .inl ⟨_, .inl h1, by cases h4 <;> rfl⟩
  | dct h1 h2 h3 h4 => cases h
  | scr h1 => cases h
  | @ref n a h1 =>
    simp only [truthy] at h
    split at h
    · rename_i xs q
      cases h
      obtain ⟨vs, e, z⟩ := r.ob n a _ h1 q
      exact .inl ⟨vs, .inl (.inl e), by cases z <;> rfl⟩
    · rename_i xs q
      cases h
      obtain ⟨vs, e, z⟩ := r.ob n a _ h1 q
      exact .inr (.inr ⟨vs, e, by cases z <;> rfl⟩)
    · cases h
theorem s_val (a : E) (ia : Snd P w K mg base G Y nm kk N a) : Snd P w K mg base G Y nm kk N (.val a) := by
  refine ⟨fun sc x X Wi h C tk => by simp [chk] at h, fun sc x X Wi h C tk => ?_, fun sc a X Wi h C tk => by simp [chkA] at h⟩
  simp only [chkT, Bool.and_eq_true] at h
  have pa := ia.v _ _ X Wi h.2 C tk
  have he : ∀ whole, isTrue x X.env whole = (do let v ← whole; standAt x.pos; holding [v] (PySem.truthy v)) := by
    have h1 := h.1
    cases x <;> first | (intro _; rfl) | cases h1
  refine (pt_truth pa he).imp fun σ H Q wq => ?_
  simp only [ev, mapT] at wq
  obtain ⟨W, S, env, E, r, z⟩ := tX.one (g := fun _ d S => R.of (truthy d S) S) wq
  refine ⟨W, S, env, E, r, z.mono fun x H1 z => ?_⟩
  obtain ⟨W1, S1, dx, env1, E1, r1, p1, z⟩ := z
  obtain ⟨k, e, f⟩ := z.of
  have := C.hK
  subst this
  exact ⟨k, tru_rep r1 p1 e, f k W1 H1 Ext.refl r1 rfl⟩
end
end PL

set_option Elab.async false
set_option linter.all false
set_option maxRecDepth 100000
set_option maxHeartbeats 1000000
/-! PLI: and, or, not, calls, displays. -/
namespace PL
open PySem PySem.Spec PyProof.Rows L2
section
variable {P : Program} {w : World} {K : PySem.W.Frag} {mg : Str → Option Value} {base : Heap} {G : Tab} {Y : Sx} {nm : Nm} {fa : Nat → Addr} {fd : Nat → FuncData} {ps : Nat → List Str} {kk : Nat} {N : List Str}
variable {sc : Scope} {X : Cx} {Wi : WX}
theorem s_nt (a : E) (ia : Snd P w K mg base G Y nm kk N a) : Snd P w K mg base G Y nm kk N (.nt a) := by
  refine ⟨fun sc x X Wi h C tk => ?_, fun sc x X Wi h C tk => ?_, fun sc a X Wi h C tk => by simp [chkA] at h⟩
  · simp only [chk] at h
    split at h <;> try (cases h; done)
    have pa := ia.v _ _ X Wi h C tk
    refine (pe_notT pa).imp fun σ H Q wq => ?_
    simp only [ev, mapT, R.bind_assoc] at wq
    obtain ⟨W, S, env, E, r, z⟩ := tX.one (g := fun _ x S => (R.of (truthy x S) S).bind fun k S => .ok (D.bl (!k)) S) wq
    refine ⟨W, S, env, E, r, z.mono fun x H1 z => ?_⟩
    obtain ⟨W1, S1, dx, env1, E1, r1, p1, z⟩ := z
    have := C.hK
    subst this
    cases e : truthy dx S1 with
    | none => rw [e] at z; exact z.elim
    | some k =>
      rw [e] at z
      exact ⟨k, tru_rep r1 p1 e, z _ W1 H1 Ext.refl r1 (.bl _)⟩
  · simp only [chkT] at h
    split at h <;> try (cases h; done)
    have pa := ia.t _ _ X Wi h C tk
    refine (pt_not pa).imp fun σ H Q wq => ?_
    have wq : tX K nm rpB Wi (fun env S => (mapT (ev G (run G kk) a env S)).bind fun k S => .ok (!k) S) σ H Q := by
      refine (?_ : (fun env S => _) = (fun env S => mapT (ev G (run G kk) (.nt a) env S))) ▸ wq
      funext env S
      simp only [ev, mapT, R.bind_assoc]
      cases ev G (run G kk) a env S with
      | ok x S1 =>
        simp only [R.bind_ok]
        cases e : truthy x S1 <;> rfl
      | ex c S1 => rfl
      | bad => rfl
    obtain ⟨W, S, env, E, r, z⟩ := tX.test (g := fun _ k S => .ok (!k) S) wq
    refine ⟨W, S, env, E, r, z.mono fun k H1 z => ?_⟩
    obtain ⟨W1, S1, env1, E1, r1, z⟩ := z
    exact z _ W1 H1 Ext.refl r1 rfl
theorem s_one (a : E) (ia : Snd P w K mg base G Y nm kk N a) : Snd P w K mg base G Y nm kk N (.one a) := by
  refine ⟨fun sc x X Wi h C tk => ?_, fun sc x X Wi h C tk => ?_, fun sc a X Wi h C tk => by simp [chkA] at h⟩
  · simp only [chk] at h
    split at h <;> try (cases h; done)
    exact pe_one (ia.v _ _ X Wi h C tk)
  · simp only [chkT] at h
    split at h <;> try (cases h; done)
    rename_i o p pos
    cases o with
    | And => exact (pw_and1 (ia.t _ _ X Wi h C tk)).pt
    | Or => exact (pw_or1 (ia.t _ _ X Wi h C tk)).pt
/-- a block of and, or as a test stands whatever its whole is -/
theorem pw_of {o : BoolOp} {vs : List Expr} {pos : Pos} {t : TT} (h : PT X (.BoolOp o vs pos) t) : PW X (.BoolOp o vs pos) t := by
  refine ⟨fun wh pins s σ H Q I q => ?_⟩
  exact h.run pins s σ H Q I q
theorem s_and (a b : E) (ia : Snd P w K mg base G Y nm kk N a) (ib : Snd P w K mg base G Y nm kk N b) : Snd P w K mg base G Y nm kk N (.and a b) := by
  refine ⟨fun sc x X Wi h C tk => ?_, fun sc x X Wi h C tk => ?_, fun sc a X Wi h C tk => by simp [chkA] at h⟩
  · simp only [chk] at h
    split at h <;> try (cases h; done)
    simp only [Bool.and_eq_true] at h
    have pa := ia.v _ _ X Wi h.1 C tk
    have pb := ib.v _ _ X Wi h.2 C tk
    refine (pe_andT pa pb).imp fun σ H Q wq => ?_
    simp only [ev] at wq
    obtain ⟨W, S, env, E, r, z⟩ := tX.one (g := fun env x S => (R.of (truthy x S) S).bind fun k S => if k then ev G (run G kk) b env S else .ok x S) wq
    refine ⟨W, S, env, E, r, z.mono fun x H1 z => ?_⟩
    obtain ⟨W1, S1, dx, env1, E1, r1, p1, z⟩ := z
    have := C.hK
    subst this
    cases e : truthy dx S1 with
    | none => rw [e] at z; exact z.elim
    | some k =>
      rw [e] at z
      refine ⟨k, tru_rep r1 p1 e, ?_⟩
      cases k with
      | false => exact z _ W1 H1 Ext.refl r1 p1
      | true => exact ⟨W1, S1, env1, E1, r1, z⟩
  · simp only [chkT] at h
    split at h <;> try (cases h; done)
    simp only [Bool.and_eq_true] at h
    have pa := ia.t _ _ X Wi h.1 C tk
    have pb := ib.t _ _ X Wi h.2 C tk
    refine (pw_and pa (pw_of pb)).pt.imp fun σ H Q wq => ?_
    have wq : tX K nm rpB Wi (fun env S => (mapT (ev G (run G kk) a env S)).bind fun k S => if k then mapT (ev G (run G kk) b env S) else .ok false S) σ H Q := by
      refine (?_ : (fun env S => _) = (fun env S => mapT (ev G (run G kk) (.and a b) env S))) ▸ wq
      funext env S
      simp only [ev, mapT]
      cases ev G (run G kk) a env S with
      | ok x S1 =>
        simp only [R.bind_ok]
        cases e : truthy x S1 with
        | none => rfl
        | some k =>
          cases k with
          | true => rfl
          | false => simp [e]
      | ex c S1 => rfl
      | bad => rfl
    obtain ⟨W, S, env, E, r, z⟩ := tX.test (g := fun env k S => if k then mapT (ev G (run G kk) b env S) else .ok false S) wq
    refine ⟨W, S, env, E, r, z.mono fun k H1 z => ?_⟩
    obtain ⟨W1, S1, env1, E1, r1, z⟩ := z
    cases k with
    | false => exact z _ W1 H1 Ext.refl r1 rfl
    | true => exact ⟨W1, S1, env1, E1, r1, z⟩
theorem s_or (a b : E) (ia : Snd P w K mg base G Y nm kk N a) (ib : Snd P w K mg base G Y nm kk N b) : Snd P w K mg base G Y nm kk N (.or a b) := by
  refine ⟨fun sc x X Wi h C tk => ?_, fun sc x X Wi h C tk => ?_, fun sc a X Wi h C tk => by simp [chkA] at h⟩
  · simp only [chk] at h
    split at h <;> try (cases h; done)
    simp only [Bool.and_eq_true] at h
    have pa := ia.v _ _ X Wi h.1 C tk
    have pb := ib.v _ _ X Wi h.2 C tk
    refine (pe_orT pa pb).imp fun σ H Q wq => ?_
    simp only [ev] at wq
    obtain ⟨W, S, env, E, r, z⟩ := tX.one (g := fun env x S => (R.of (truthy x S) S).bind fun k S => if k then .ok x S else ev G (run G kk) b env S) wq
    refine ⟨W, S, env, E, r, z.mono fun x H1 z => ?_⟩
    obtain ⟨W1, S1, dx, env1, E1, r1, p1, z⟩ := z
    have := C.hK
    subst this
    cases e : truthy dx S1 with
    | none => rw [e] at z; exact z.elim
    | some k =>
      rw [e] at z
      refine ⟨k, tru_rep r1 p1 e, ?_⟩
      cases k with
      | true => exact z _ W1 H1 Ext.refl r1 p1
      | false => exact ⟨W1, S1, env1, E1, r1, z⟩
  · simp only [chkT] at h
    split at h <;> try (cases h; done)
    simp only [Bool.and_eq_true] at h
    have pa := ia.t _ _ X Wi h.1 C tk
    have pb := ib.t _ _ X Wi h.2 C tk
    refine (pw_or pa (pw_of pb)).pt.imp fun σ H Q wq => ?_
    have wq : tX K nm rpB Wi (fun env S => (mapT (ev G (run G kk) a env S)).bind fun k S => if k then .ok true S else mapT (ev G (run G kk) b env S)) σ H Q := by
      refine (?_ : (fun env S => _) = (fun env S => mapT (ev G (run G kk) (.or a b) env S))) ▸ wq
      funext env S
      simp only [ev, mapT]
      cases ev G (run G kk) a env S with
      | ok x S1 =>
        simp only [R.bind_ok]
        cases e : truthy x S1 with
        | none => rfl
        | some k =>
          cases k with
          | false => rfl
          | true => simp [e]
      | ex c S1 => rfl
      | bad => rfl
    obtain ⟨W, S, env, E, r, z⟩ := tX.test (g := fun env k S => if k then .ok true S else mapT (ev G (run G kk) b env S)) wq
    refine ⟨W, S, env, E, r, z.mono fun k H1 z => ?_⟩
    obtain ⟨W1, S1, env1, E1, r1, z⟩ := z
    cases k with
    | true => exact z _ W1 H1 Ext.refl r1 rfl
    | false => exact ⟨W1, S1, env1, E1, r1, z⟩
theorem s_ite (c a b : E) (ic : Snd P w K mg base G Y nm kk N c) (ia : Snd P w K mg base G Y nm kk N a) (ib : Snd P w K mg base G Y nm kk N b) : Snd P w K mg base G Y nm kk N (.ite c a b) := by
  refine ⟨fun sc x X Wi h C tk => ?_, fun sc x X Wi h C tk => by simp [chkT] at h, fun sc a X Wi h C tk => by simp [chkA] at h⟩
  simp only [chk] at h
  split at h <;> try (cases h; done)
  simp only [Bool.and_eq_true] at h
  obtain ⟨⟨h1, h2⟩, h3⟩ := h
  refine (pe_ifExp (ic.t _ _ X Wi h1 C tk) (ia.v _ _ X Wi h2 C tk) (ib.v _ _ X Wi h3 C tk)).imp fun σ H Q wq => ?_
  simp only [ev] at wq
  obtain ⟨W, S, env, E, r, z⟩ := tX.test (g := fun env k S => if k then ev G (run G kk) a env S else ev G (run G kk) b env S) wq
  refine ⟨W, S, env, E, r, z.mono fun k H1 z => ?_⟩
  obtain ⟨W1, S1, env1, E1, r1, z⟩ := z
  cases k with
  | true => exact ⟨W1, S1, env1, E1, r1, z⟩
  | false => exact ⟨W1, S1, env1, E1, r1, z⟩

/-! ### arguments, displays -/
theorem s_nil : Snd P w K mg base G Y nm kk N .nil := by
  refine ⟨fun sc x X Wi h C tk => by simp [chk] at h, fun sc x X Wi h C tk => by simp [chkT] at h, fun sc a X Wi h C tk => ?_⟩
  cases a with
  | nil => exact pa_nil.imp fun σ H Q ⟨W, S, env, E, r, q⟩ => q [] W H Ext.refl r ⟨[], rfl, .nil⟩
  | cons x y => simp [chkA] at h
theorem s_cons (a as : E) (ia : Snd P w K mg base G Y nm kk N a) (ib : Snd P w K mg base G Y nm kk N as) : Snd P w K mg base G Y nm kk N (.cons a as) := by
  refine ⟨fun sc x X Wi h C tk => by simp [chk] at h, fun sc x X Wi h C tk => by simp [chkT] at h, fun sc es X Wi h C tk => ?_⟩
  simp only [chkA] at h
  split at h <;> try (cases h; done)
  simp only [Bool.and_eq_true] at h
  obtain ⟨⟨h1, h2⟩, h3⟩ := h
  refine (pa_cons (ia.v _ _ X Wi h2 C tk) (ib.l _ _ X Wi h3 C tk) (star_ok h1)).imp fun σ H Q wq => ?_
  obtain ⟨W, S, env, E, r, z⟩ := wq
  simp only [ev] at z
  refine ⟨W, S, env, E, r, (Wq.bind (rp := rpD K) z).mono fun x H1 z => ?_⟩
  obtain ⟨W1, S1, dx, e1, r1, p1, z⟩ := z
  refine ⟨W1, S1, env, E.mono r.trk e1, r1, (Wq.bind (rp := rpA K) z).mono fun vs H2 z => ?_⟩
  obtain ⟨W2, S2, dy, e2, r2, ⟨xs, e3, p2⟩, z⟩ := z
  subst e3
  exact z _ W2 H2 Ext.refl r2 ⟨_, rfl, .cons (p1.mono r1.trk e2) p2⟩
theorem Reps.sz {W : Wd} {H : Hp} {xs : List D} {vs : List V} (p : Reps K W H xs vs) (h : xs.length ≤ SZ) : vs.length ≤ sizeLine := by rw [p.lens, ← SZ_eq]; exact h
theorem mkTup_some {xs : List D} {d : D} (h : mkTup xs = some d) : xs.length ≤ SZ ∧ d = .tup xs := by
  unfold mkTup at h
  split at h
  · cases h; exact ⟨by assumption, rfl⟩
  · cases h
theorem mkLst_some {xs : List D} {d : D} (h : mkLst xs = some d) : xs.length ≤ SZ ∧ d = .lst xs := by
  unfold mkLst at h
  split at h
  · cases h; exact ⟨by assumption, rfl⟩
  · cases h
theorem s_tup (as : E) (ia : Snd P w K mg base G Y nm kk N as) : Snd P w K mg base G Y nm kk N (.tup as) := by
  refine ⟨fun sc x X Wi h C tk => ?_, fun sc x X Wi h C tk => by simp [chkT] at h, fun sc a X Wi h C tk => by simp [chkA] at h⟩
  simp only [chk] at h
  split at h <;> try (cases h; done)
  refine (pe_tup (ia.l _ _ X Wi h C tk)).imp fun σ H Q wq => ?_
  simp only [ev] at wq
  obtain ⟨W, S, env, E, r, z⟩ := tX.args (g := fun _ xs S => R.of (mkTup (toTup xs)) S) wq
  refine ⟨W, S, env, E, r, z.mono fun vs H1 z => ?_⟩
  obtain ⟨W1, S1, xs, env1, E1, r1, p1, z⟩ := z
  obtain ⟨d, e, f⟩ := z.fin
  obtain ⟨hz, e2⟩ := mkTup_some (xs := xs) e
  subst e2
  exact ⟨p1.sz hz, fun p hp => f.tup r1 p1 hp⟩
theorem s_lst (as : E) (ia : Snd P w K mg base G Y nm kk N as) : Snd P w K mg base G Y nm kk N (.lst as) := by
  refine ⟨fun sc x X Wi h C tk => ?_, fun sc x X Wi h C tk => by simp [chkT] at h, fun sc a X Wi h C tk => by simp [chkA] at h⟩
  simp only [chk] at h
  split at h <;> try (cases h; done)
  refine (pe_lst (ia.l _ _ X Wi h C tk)).imp fun σ H Q wq => ?_
  simp only [ev] at wq
  obtain ⟨W, S, env, E, r, z⟩ := tX.args (g := fun _ xs S => R.of (mkLst (toTup xs)) S) wq
  refine ⟨W, S, env, E, r, z.mono fun vs H1 z => ?_⟩
  obtain ⟨W1, S1, xs, env1, E1, r1, p1, z⟩ := z
  obtain ⟨d, e, f⟩ := z.fin
  obtain ⟨hz, e2⟩ := mkLst_some (xs := xs) e
  subst e2
  exact ⟨p1.sz hz, fun p hp => f.lst r1 p1 hp⟩

/-! ### calls -/
theorem star1 {as : E} {e : Expr} {es : List Expr} (h : chkA Y N as sc (e :: es) = true) : notStar e = true := by
  cases as <;> simp only [chkA, Bool.and_eq_true] at h <;> first | (cases h; done) | exact h.1.1
theorem star2 {as : E} {e e' : Expr} {es : List Expr} (h : chkA Y N as sc (e :: e' :: es) = true) : notStar e' = true := by
  cases as <;> simp only [chkA, Bool.and_eq_true] at h <;> first | (cases h; done) | exact star1 h.2
theorem s_call (g : GOk K mg G Y nm fa fd ps) (hF : ∀ f : Nat, (G.fns f).isSome = true → FnOk P w K mg base (L2.CX P w) (2 * kk) (fa f) (fd f) (ps f) (spF K nm G kk f)) (f : Nat) (as : E) (ia : Snd P w K mg base G Y nm kk N as) :
    Snd P w K mg base G Y nm kk N (.call f as) := by
  refine ⟨fun sc x X Wi h C tk => ?_, fun sc x X Wi h C tk => by simp [chkT] at h, fun sc a X Wi h C tk => by simp [chkA] at h⟩
  simp only [chk] at h
  split at h <;> try (cases h; done)
  simp only [Bool.and_eq_true, decide_eq_true_eq, Bool.not_eq_true'] at h
  obtain ⟨⟨⟨h1, h2⟩, h3⟩, h4⟩ := h
  obtain ⟨hl, hmg, hkp⟩ := g.fn f _ h1
  have F := hF f hl
  have pa := ia.l _ _ X Wi h4 C tk
  have hs := star1 h4
  have bb := g.bi f hl
  obtain ⟨e1, e2, e3, e4, e5⟩ := And.intro C.hP (And.intro C.hw (And.intro C.hK (And.intro C.hm C.hb)))
  subst e1 e2 e3 e4 e5
  refine (pe_callS (E := WE Wi) F (C.room.mono (by omega)) (gl_ok C h2) hmg hkp bb (fun σ => tk_at tk σ) pa (dbg_ok h3) (star_ok hs) (stars_ok1 h4)).imp fun σ H Q wq => ?_
  simp only [ev] at wq
  obtain ⟨W, S, env, E, r, z⟩ := tX.args (g := fun _ xs S => run G kk f (toTup xs) S) wq
  refine ⟨W, S, env, E, r, z.mono fun vs H1 z => ?_⟩
  obtain ⟨W1, S1, xs, env1, E1, r1, p1, z⟩ := z
  exact ⟨W1, S1, xs, r1, p1, z⟩
end
end PL

set_option Elab.async false
set_option linter.all false
set_option maxRecDepth 100000
set_option maxHeartbeats 1000000
/-! PLJ: isinstance, built-ins by name, subscripts. -/
namespace PL
open PySem PySem.Spec PyProof.Rows L2
section
variable {P : Program} {w : World} {K : PySem.W.Frag} {mg : Str → Option Value} {base : Heap} {G : Tab} {Y : Sx} {nm : Nm} {fa : Nat → Addr} {fd : Nat → FuncData} {ps : Nat → List Str} {kk : Nat} {N : List Str}
variable {sc : Scope} {X : Cx} {Wi : WX}
theorem ty_boot (t : Nat) (h : t < 4) : bootBuiltins (tyS t) = some (.type (tyN t)) ∧ tyS t ≠ "__name__" ∧ (tyS t == ("__debug__" : Str)) = false := by
  match t, h with
  | 0, _ => exact ⟨by decide +kernel, by decide +kernel, by decide +kernel⟩
  | 1, _ => exact ⟨by decide +kernel, by decide +kernel, by decide +kernel⟩
  | 2, _ => exact ⟨by decide +kernel, by decide +kernel, by decide +kernel⟩
  | 3, _ => exact ⟨by decide +kernel, by decide +kernel, by decide +kernel⟩
theorem s_isa (g : GOk K mg G Y nm fa fd ps) (a : E) (t : Nat) (ia : Snd P w K mg base G Y nm kk N a) : Snd P w K mg base G Y nm kk N (.isa a t) := by
  refine ⟨fun sc x X Wi h C tk => ?_, fun sc x X Wi h C tk => by simp [chkT] at h, fun sc a X Wi h C tk => by simp [chkA] at h⟩
  simp only [chk] at h
  split at h <;> try (cases h; done)
  simp only [Bool.and_eq_true, decide_eq_true_eq] at h
  obtain ⟨⟨⟨⟨⟨⟨⟨⟨h1, h2⟩, h3⟩, h4⟩, h5⟩, h6⟩, h7⟩, h8⟩, h9⟩ := h
  subst h1 h2
  obtain ⟨b1, b2, b3⟩ := ty_boot t h3
  have pa := ia.v _ _ X Wi h9 C tk
  have m1 : X.mg ("isinstance" : Str) = none := by rw [C.hm]; exact g.bl _ h6
  have m2 : X.mg (tyS t) = none := by rw [C.hm]; exact g.bl _ h7
  have e1 := C.hK
  subst e1
  refine (pe_callB call_isi (gl_ok C h4) m1 (by decide +kernel) (pa_cons pa (pa_cons (pe_bltn (v := V.ty (tyN t)) (gl_ok C h5) m2 b1 rfl b2 b3) pa_nil) (star_ok h8)) (he := star_ok h8)).imp fun σ H Q wq => ?_
  simp only [ev] at wq
  obtain ⟨W, S, env, E, r, z⟩ := tX.one (g := fun _ x S => if notIns x S then .ok (D.bl (isaD t x)) S else .bad) wq
  refine ⟨W, S, env, E, r, z.mono fun x H1 z => ?_⟩
  obtain ⟨W1, S1, dx, env1, E1, r1, p1, z⟩ := z
  cases hn : notIns dx S1 with
  | false => rw [hn] at z; exact z.elim
  | true =>
    rw [hn] at z
    obtain ⟨ty, b, k1, k2, k3⟩ := isa_ok (t := t) r1 p1 hn (show Fin X.K nm W1 S1 H1 (.bl (isaD t dx)) Q from z)
    exact ⟨x, .ty (tyN t), ty, _, b, rfl, .ty _, k1, k2, k3⟩
/-- a built-in function or type, called by its name -/
theorem s_bf_of (g : GOk K mg G Y nm fa fd ps) (f : Bf) (as : E) (ia : Snd P w K mg base G Y nm kk N as)
    (hb : ∀ (X : Cx), X.K = K → X.calm = true → X.A.units + 64 < cLine → ∃ (id : String) (r : List V → Hp → VK → Prop), ((CallR X (.builtin id) r ∧ bootBuiltins (bfN f) = some (.builtin id)) ∨ (CallR X (.type id) r ∧ bootBuiltins (bfN f) = some (.type id))) ∧ CallK X K nm (bfD f) r)
    (hn : bfN f ≠ "__name__" := by decide +kernel) (hd : (bfN f == ("__debug__" : Str)) = false := by decide +kernel) : Snd P w K mg base G Y nm kk N (.bf f as) := by
  refine ⟨fun sc x X Wi h C tk => ?_, fun sc x X Wi h C tk => by simp [chkT] at h, fun sc a X Wi h C tk => by simp [chkA] at h⟩
  simp only [chk] at h
  split at h <;> try (cases h; done)
  simp only [Bool.and_eq_true, decide_eq_true_eq] at h
  obtain ⟨⟨⟨⟨h0, h1⟩, h2⟩, h3⟩, h4⟩ := h
  subst h1
  have pa := ia.l _ _ X Wi h4 C tk
  have m1 : X.mg (bfN f) = none := by rw [C.hm]; exact g.bl _ h3
  obtain ⟨id, r, hc, ad⟩ := hb X C.hK C.calm C.room.units
  have fin : ∀ {σ : L2.St} {H : Hp} {Q : VK}, tE K nm Wi (ev G (run G kk) (.bf f as)) σ H Q → tCB r (tA K nm Wi (ev G (run G kk) as)) σ H Q := fun {σ H Q} wq => by
    simp only [ev] at wq
    obtain ⟨W, S, env, E, r', z⟩ := tX.args (g := fun _ xs S => R.of (bfD f (toTup xs) S) S) wq
    refine ⟨W, S, env, E, r', z.mono fun vs H1 z => ?_⟩
    obtain ⟨W1, S1, xs, env1, E1, r1, p1, z⟩ := z
    obtain ⟨d, e, fi⟩ := z.fin
    exact ad W1 S1 H1 xs vs d Q r1 p1 e fi
  rcases hc with ⟨hc, hv⟩ | ⟨hc, hv⟩
  · exact (pe_callB hc (gl_ok C h2) m1 hv pa hn hd (star_ok (star1 h4)) (stars_ok1 h4)).imp fun σ H Q wq => fin wq
  · exact (pe_callTy hc (gl_ok C h2) m1 hv pa hn hd (star_ok (star1 h4)) (stars_ok1 h4)).imp fun σ H Q wq => fin wq
theorem s_bf (g : GOk K mg G Y nm fa fd ps) (f : Bf) (as : E) (ia : Snd P w K mg base G Y nm kk N as) : Snd P w K mg base G Y nm kk N (.bf f as) := by
  cases f with
  | len => exact s_bf_of g .len as ia fun X e c u => ⟨"len", _, .inl ⟨call_len3, PySem.boot_len⟩, e ▸ len_ok (X := X)⟩
  | all => exact s_bf_of g .all as ia fun X e c u => ⟨"all", _, .inl ⟨cr_all c, by decide +kernel⟩, e ▸ all_ok (X := X)⟩
  | any => exact s_bf_of g .any as ia fun X e c u => ⟨"any", _, .inl ⟨cr_any c, by decide +kernel⟩, e ▸ any_ok (X := X)⟩
  | sum => exact s_bf_of g .sum as ia fun X e c u => ⟨"sum", _, .inl ⟨CallR.or (cr_sum c) (cr_sumT c), by decide +kernel⟩, e ▸ sum_ok (X := X)⟩
  | tuple => exact s_bf_of g .tuple as ia fun X e c u => ⟨"tuple", _, .inr ⟨call_tuple_of, by decide +kernel⟩, e ▸ tuple_ok (X := X)⟩
  | list => exact s_bf_of g .list as ia fun X e c u => ⟨"list", _, .inr ⟨call_list_of.or (call_listD c), by decide +kernel⟩, e ▸ list_ok (X := X)⟩
  | max => exact s_bf_of g .max as ia fun X e c u => ⟨"max", _, .inl ⟨call_max2 c, by decide +kernel⟩, max_ok (X := X)⟩
  | min => exact s_bf_of g .min as ia fun X e c u => ⟨"min", _, .inl ⟨call_min2 c, by decide +kernel⟩, min_ok (X := X)⟩
  | sorted => exact s_bf_of g .sorted as ia fun X e c u => ⟨"sorted", _, .inl ⟨cr_srt c, by decide +kernel⟩, e ▸ sorted_ok (X := X)⟩
  | str => exact s_bf_of g .str as ia fun X e c u => ⟨"str", _, .inr ⟨call_str_int, by decide +kernel⟩, str_ok (X := X)⟩
  | int => exact s_bf_of g .int as ia fun X e c u => ⟨"int", _, .inr ⟨call_int1.or call_int_str, by decide +kernel⟩, int_ok (X := X)⟩
theorem plainIx_ok {e : Expr} (h : notSlice e = true) : PlainIx e := by
  intro o i
  cases e <;> first | rfl | cases h
theorem s_ix (a i : E) (ia : Snd P w K mg base G Y nm kk N a) (ib : Snd P w K mg base G Y nm kk N i) : Snd P w K mg base G Y nm kk N (.ix a i) := by
  refine ⟨fun sc x X Wi h C tk => ?_, fun sc x X Wi h C tk => by simp [chkT] at h, fun sc a X Wi h C tk => by simp [chkA] at h⟩
  simp only [chk] at h
  split at h <;> try (cases h; done)
  simp only [Bool.and_eq_true] at h
  obtain ⟨⟨h1, h2⟩, h3⟩ := h
  have pa := ia.v _ _ X Wi h2 C tk
  have pb := ib.v _ _ X Wi h3 C tk
  have e1 := C.hK
  subst e1
  refine (pe_ix ix_seq pa pb (plainIx_ok h1)).imp fun σ H Q wq => ?_
  simp only [ev] at wq
  exact tX.op wq fun r p q z => by
    obtain ⟨d, e, f⟩ := z.fin
    exact ix_ok r p q e f
theorem s_emp : Snd P w K mg base G Y nm kk N .emp :=
  ⟨fun sc x X Wi h C tk => by simp [chk] at h, fun sc x X Wi h C tk => by simp [chkT] at h, fun sc a X Wi h C tk => by simp [chkA] at h⟩
def rpO : Wd → Hp → Option Int → Option Int → Prop := fun _ _ a b => a = b
/-- a slice's part -/
noncomputable def evP (G : Tab) (call : Calls) (lo : E) (env : Env) (S : Store) : R (Option Int) := if isEmp lo then .ok none S else (ev G call lo env S).bind fun d S => R.of (part d) S
theorem part_ok {lo : E} {l : Option Expr} (il : Snd P w K mg base G Y nm kk N lo) (h : (match l with | none => isEmp lo | some l => !isEmp lo && chk Y N lo sc l) = true) (C : COk P w K mg base kk N sc X) (tk : Tk X Wi) :
    PO X l (tX K nm rpO Wi (evP G (run G kk) lo)) := by
  cases l with
  | none =>
    have h : isEmp lo = true := h
    refine ⟨fun pins s σ H Q I q => po_none.run pins s σ H Q I ?_⟩
    obtain ⟨W, S, env, E, r, z⟩ := q
    unfold evP at z
    rw [if_pos h] at z
    exact z none W H Ext.refl r rfl
  | some l =>
    simp only [Bool.and_eq_true, Bool.not_eq_true'] at h
    have pl := il.v _ _ X Wi h.2 C tk
    refine ⟨fun pins s σ H Q I q => (po_some pl).run pins s σ H Q I ?_⟩
    obtain ⟨W, S, env, E, r, z⟩ := q
    unfold evP at z
    rw [if_neg (by rw [h.1]; exact Bool.false_ne_true)] at z
    refine ⟨W, S, env, E, r, (Wq.bind (rp := rpD K) z).mono fun x H1 z => ?_⟩
    obtain ⟨W1, S1, dx, e1, r1, p1, z⟩ := z
    obtain ⟨o, e, f⟩ := z.of
    cases p1 <;> simp only [part] at e <;> first | (cases e; done) | skip
    cases e
    exact ⟨_, rfl, f _ W1 H1 Ext.refl r1 rfl⟩
theorem s_sl (a lo hi : E) (ia : Snd P w K mg base G Y nm kk N a) (il : Snd P w K mg base G Y nm kk N lo) (ih : Snd P w K mg base G Y nm kk N hi) : Snd P w K mg base G Y nm kk N (.sl a lo hi) := by
  refine ⟨fun sc x X Wi h C tk => ?_, fun sc x X Wi h C tk => by simp [chkT] at h, fun sc a X Wi h C tk => by simp [chkA] at h⟩
  simp only [chk] at h
  split at h <;> try (cases h; done)
  simp only [Bool.and_eq_true] at h
  obtain ⟨⟨h1, h2⟩, h3⟩ := h
  have pa := ia.v _ _ X Wi h1 C tk
  have pl := part_ok il h2 C tk
  have ph := part_ok ih h3 C tk
  have e1 := C.hK
  subst e1
  refine (pe_slice sl_3 pa pl ph).imp fun σ H Q wq => ?_
  obtain ⟨W, S, env, E, r, z⟩ := wq
  have z : Wq X.K nm (rpD X.K) W H ((ev G (run G kk) a env S).bind fun x S => (evP G (run G kk) lo env S).bind fun l S => (evP G (run G kk) hi env S).bind fun h S => R.of (slD x l h S) S) Q (Xw nm Wi σ) := z
  refine ⟨W, S, env, E, r, (Wq.bind (rp := rpD X.K) z).mono fun x H1 z => ?_⟩
  obtain ⟨W1, S1, dx, e1, r1, p1, z⟩ := z
  have E1 := E.mono r.trk e1
  refine ⟨W1, S1, env, E1, r1, (Wq.bind (rp := rpO) z).mono fun l H2 z => ?_⟩
  obtain ⟨W2, S2, dl, e2, r2, p2, z⟩ := z
  have E2 := E1.mono r1.trk e2
  cases (show dl = l from p2)
  refine ⟨W2, S2, env, E2, r2, (Wq.bind (rp := rpO) z).mono fun h H3 z => ?_⟩
  obtain ⟨W3, S3, dh, e3, r3, p3, z⟩ := z
  cases (show dh = h from p3)
  obtain ⟨d, e, f⟩ := z.fin
  exact sl_ok r3 ((p1.mono r1.trk e2).mono r2.trk e3) e f
end
end PL

set_option Elab.async false
set_option linter.all false
set_option maxRecDepth 100000
set_option maxHeartbeats 1000000
/-! PLV: slices with a step, of tuples and of lists. -/
namespace HT
open PySem PyProof.Rows
open PL (stepIx)
section
variable {prog : Program} {w : World} {A : Around} {E : Value → Shared → Prop} {s : Shared}
theorem ceil_places {d c : Int} (hc : 0 < c) : (d + c - 1) / c = (d - 1) / c + 1 := by
  rw [show d + c - 1 = d - 1 + 1 * c by omega, Int.add_mul_ediv_right _ _ (by omega)]
theorem bounds_adjust {lo hi : Option Int} {st : Int} {n : Nat} (h0 : st ≠ 0) : ((sliceBounds lo hi (some st) n).1, (sliceBounds lo hi (some st) n).2.1) = Builtin.Slice.sliceAdjust lo hi st n := by
  unfold sliceBounds Builtin.Slice.sliceAdjust
  by_cases hp : st > 0
  · have hn : ¬ st < 0 := by omega
    simp only [Option.getD_some, hp, hn, if_true, if_false]
    refine Prod.ext ?_ ?_
    · cases lo with
      | none => rfl
      | some i => simp only; split <;> omega
    · cases hi with
      | none => rfl
      | some i => simp only; split <;> omega
  · have hn : st < 0 := by omega
    simp only [Option.getD_some, hp, hn, if_true, if_false]
    refine Prod.ext ?_ ?_
    · cases lo with
      | none => rfl
      | some i => simp only; split <;> omega
    · cases hi with
      | none => rfl
      | some i => simp only; split <;> omega
theorem range_places {a b c : Int} (h0 : c ≠ 0) : sliceRange a b c = (List.range (Builtin.Slice.slicePlaces a b c)).map fun (k : Nat) => (a + (k : Int) * c).toNat := by
  unfold sliceRange Builtin.Slice.slicePlaces
  have e : (if c > 0 then if a < b then (b - a + c - 1) / c else 0 else if a > b then (a - b - c - 1) / -c else 0) = (if c > 0 then (if a < b then (b - a - 1) / c + 1 else 0) else (if a > b then (a - b - 1) / (-c) + 1 else 0)) := by
    by_cases hc : c > 0
    · simp only [hc, if_true]
      split
      · rw [ceil_places hc]
      · rfl
    · simp only [hc, if_false]
      split
      · rw [show a - b - c - 1 = (a - b) + (-c) - 1 by omega, ceil_places (by omega)]
      · rfl
  simp only [e]
  refine List.map_congr_left fun k _ => ?_
  rw [Int.mul_comm]
theorem pick_step {items : Array Value} {lo hi : Option Int} {st : Int} (h0 : st ≠ 0) : slicePick items lo hi (some st) = ((stepIx items.size lo hi st).filterMap (items[·]?)).toArray := by
  have e := bounds_adjust (lo := lo) (hi := hi) (n := items.size) h0
  unfold slicePick stepIx
  have e1 : (sliceBounds lo hi (some st) items.size).1 = (Builtin.Slice.sliceAdjust lo hi st items.size).1 := by rw [← e]
  have e2 : (sliceBounds lo hi (some st) items.size).2.1 = (Builtin.Slice.sliceAdjust lo hi st items.size).2 := by rw [← e]
  have e3 : (sliceBounds lo hi (some st) items.size).2.2 = st := rfl
  rw [e1, e2, e3, range_places h0]
theorem applied_step {sl : Addr} {vl vu vs : Value} {lo hi : Option Int} {st : Int} {n : Nat} {Q : Int × Int × Nat → Shared → Prop} (hs : s.heap.IsSliceOf sl vl vu vs) (pl : IsPart vl lo) (pu : IsPart vu hi) (pz : IsPart vs (some st)) (h0 : st ≠ 0)
    (h : Q ((Builtin.Slice.sliceAdjust lo hi st n).1, st, Builtin.Slice.slicePlaces (Builtin.Slice.sliceAdjust lo hi st n).1 (Builtin.Slice.sliceAdjust lo hi st n).2 st) s) : wpAny (model prog w) A (Builtin.Slice.sliceApplied (.ref sl) (pure (n : Int))) Q E s := by
  obtain ⟨oz, hoz, hcz, hdz⟩ := id hs
  unfold Builtin.Slice.sliceApplied Builtin.Slice.sliceFields
  refine wpAny_bind (wpAny_bind (wpAny_field hoz hdz (x := vl) rfl (wpAny_bind (wpAny_field hoz hdz (x := vu) rfl (wpAny_bind (wpAny_field hoz hdz (x := vs) rfl (wpAny_pure ?_)))))))
  refine wpAny_bind (slicePart_ pz ?_)
  show wpAny _ _ (if (st == 0) = true then _ else _) _ _ s
  rw [if_neg (by simpa using h0)]
  refine wpAny_bind (slicePart_ pl (wpAny_bind (slicePart_ pu (wpAny_bind (wpAny_pure ?_)))))
  exact wpAny_pure h
theorem item_tuple_step {t sl : Addr} {items : Array Value} {vl vu vs : Value} {lo hi : Option Int} {st : Int} {Q : Value → Shared → Prop} (ht : IsTup s.heap t items) (hs : s.heap.IsSliceOf sl vl vu vs) (pl : IsPart vl lo) (pu : IsPart vu hi) (pz : IsPart vs (some st)) (h0 : st ≠ 0) (h1 : st ≠ 1)
    (h : Q (.ref s.heap.objs.size) { s with heap := s.heap.push { cls := .type "tuple", data := .seq ((stepIx items.size lo hi st).filterMap (items[·]?)).toArray } })
    (hsz : items.size ≤ sizeLine) : wpAny (model prog w) A (getItem (.ref t) (.ref sl)) Q E s := by
  have hfit : sizeOk (.seq ((stepIx items.size lo hi st).filterMap (items[·]?)).toArray) := by
    have := slicePick_size_le items lo hi (some st)
    rw [pick_step h0] at this
    exact Nat.le_trans this hsz
  obtain ⟨oz, hoz, hcz, hdz⟩ := id hs
  have hTz : s.TypeIs (.ref sl) "slice" := ⟨oz, hoz, hcz⟩
  unfold getItem
  try with_reducible refine wpAny_holding ?_
  first | refine wpAny_bind (wpAny_pure ?_) | skip
  refine wpAny_bind (wpAny_sequenceKey ht.typeIs (by decide) ?_)
  refine wpAny_bind (wpAny_callSpecial?_slot (name := Str.ofString "__getitem__") ht.typeIs PyProof.Rows.slot_tuple_getitem
    (wpAny_call_entry PyProof.Rows.slot_tuple_getitem ht.typeIs entry_tuple_getitem ?_ (args_tuple_getitem _ _)))
  show wpAny _ _ (Builtin.Tuple.tupleItemsOf (.ref t) >>= _) _ _ s
  refine wpAny_bind (tupleItemsOf_ ht ?_)
  refine wpAny_bind (wpAny_typeOf hTz ?_)
  rw [if_pos (by decide)]
  refine wpAny_bind (applied_step hs pl pu pz h0 ?_)
  have hno : ¬ (((Builtin.Slice.sliceAdjust lo hi st items.size).1 == 0 && st == 1 && (Builtin.Slice.slicePlaces (Builtin.Slice.sliceAdjust lo hi st items.size).1 (Builtin.Slice.sliceAdjust lo hi st items.size).2 st) == items.size) = true) := by
    intro q
    rw [Bool.and_eq_true, Bool.and_eq_true] at q
    exact h1 (eq_of_beq q.1.2)
  show wpAny _ _ (if ((Builtin.Slice.sliceAdjust lo hi st items.size).1 == 0 && st == 1 && (Builtin.Slice.slicePlaces (Builtin.Slice.sliceAdjust lo hi st items.size).1 (Builtin.Slice.sliceAdjust lo hi st items.size).2 st) == items.size) = true then _ else _) _ _ s
  rw [if_neg hno]
  unfold stepIx at h hfit
  rw [List.filterMap_map] at h hfit
  first
    | exact wpAny_bind (m := Builtin.Tuple.tupleExact _) (wpAny_newObj_type (wpAny_pure ⟨_, rfl, wpAny_pure h⟩) hfit)
    | exact wpAny_bind (m := Builtin.Tuple.tupleExact _) (wpAny_newObj_type (wpAny_bind (wpAny_pure (wpAny_pure ⟨_, rfl, wpAny_pure h⟩))) hfit)
    | exact wpAny_bind (wpAny_bind (m := Builtin.Tuple.tupleExact _) (wpAny_newObj_type (wpAny_pure (wpAny_pure ⟨_, rfl, wpAny_pure h⟩)) hfit))
    | exact wpAny_bind (wpAny_bind (m := Builtin.Tuple.tupleExact _) (wpAny_newObj_type (wpAny_pure ⟨_, rfl, wpAny_pure h⟩) hfit))
end
end HT

namespace PL
open PySem PySem.Spec PyProof.Rows L2
section
variable {X : Cx} {K : PySem.W.Frag}
theorem vals_at {xs : List V} {its : List Value} (r : Vals xs its) (i : Nat) : (∃ x v, xs[i]? = some x ∧ its[i]? = some v ∧ RelV x v) ∨ (xs[i]? = none ∧ its[i]? = none) := by
  induction xs generalizing its i with
  | nil => cases r; exact .inr ⟨rfl, rfl⟩
  | cons x xs ih =>
    cases r with
    | cons a b =>
      cases i with
      | zero => exact .inl ⟨_, _, rfl, rfl, a⟩
      | succ i => simpa using ih b i
theorem vals_pick {xs : List V} {its : List Value} (r : Vals xs its) : ∀ js : List Nat, Vals (js.filterMap (xs[·]?)) (js.filterMap (its[·]?))
  | [] => .nil
  | j :: js => by
    rcases vals_at r j with ⟨x, v, e, e', q⟩ | ⟨e, e'⟩
    · rw [List.filterMap_cons, List.filterMap_cons, e, e']
      exact .cons q (vals_pick r js)
    · rw [List.filterMap_cons, List.filterMap_cons, e, e']
      exact vals_pick r js
theorem reps_none {W : Wd} {H : Hp} {ds : List D} {vs : List V} (r : Reps K W H ds vs) (i : Nat) : (∃ x v, ds[i]? = some x ∧ vs[i]? = some v ∧ Rep K W H x v) ∨ (ds[i]? = none ∧ vs[i]? = none) := by
  induction ds generalizing vs i with
  | nil => cases r; exact .inr ⟨rfl, rfl⟩
  | cons x xs ih =>
    cases r with
    | cons a b =>
      cases i with
      | zero => exact .inl ⟨_, _, rfl, rfl, a⟩
      | succ i => simpa using ih b i
theorem reps_pick {W : Wd} {H : Hp} {ds : List D} {vs : List V} (r : Reps K W H ds vs) : ∀ js : List Nat, Reps K W H (js.filterMap (ds[·]?)) (js.filterMap (vs[·]?))
  | [] => .nil
  | j :: js => by
    rcases reps_none r j with ⟨x, v, e, e', q⟩ | ⟨e, e'⟩
    · rw [List.filterMap_cons, List.filterMap_cons, e, e']
      exact .cons q (reps_pick r js)
    · rw [List.filterMap_cons, List.filterMap_cons, e, e']
      exact reps_pick r js
theorem reps_step {W : Wd} {H : Hp} {ds : List D} {vs : List V} {lo hi : Option Int} {st : Int} (r : Reps K W H ds vs) : Reps K W H (stepD ds lo hi st) (stepD vs lo hi st) := by
  unfold stepD
  rw [r.lens]
  exact reps_pick r _
/-- a slice with a step, by values -/
def StepR (X : Cx) (r : V → Option Int → Option Int → Int → Hp → VK → Prop) : Prop :=
  ∀ (pins : List (Addr × Obj)) (s : Shared) (σ : L2.St) (H : Hp) (x : V) (v vl vu vs : Value) (lo hi : Option Int) (st : Int) (sl : Addr) (Q : VK), Inv X pins σ H s → RelV x v → s.heap.IsSliceOf sl vl vu vs → IsPart vl lo → IsPart vu hi → IsPart vs (some st) → r x lo hi st H Q →
    ∃ T id, typeLookup (.type T) "__getitem__" = pure (some (.builtin id)) ∧ s.TypeIs v T ∧ wpAny (model X.prog X.w) X.A (getItem v (.ref sl)) (EP X pins σ Q) X.xe s
def tStep (r : V → Option Int → Option Int → Int → Hp → VK → Prop) (te : TE) (tl th : TO) (st : Int) : TE := fun σ H Q => te σ H fun x H1 => tl σ H1 fun l H2 => th σ H2 fun u H3 => r x l u st H3 Q
theorem pe_step {e se : Expr} {te : TE} {lo hi : Option Expr} {tl th : TO} {pos p2 : Pos} {st : Int} {r : V → Option Int → Option Int → Int → Hp → VK → Prop} (hr : StepR X r) (he : PE X e te) (hl : PO X lo tl) (hu : PO X hi th) (hz : PO X (some se) fun _ H Q => Q (some st) H) :
    PE X (.Subscript e (.Slice lo hi (some se) p2) pos) (tStep r te tl th st) := by
  refine ⟨fun pins s σ H Q I h => ?_⟩
  refine Subscript_ (thn (he.run pins s σ H _ I h) fun v s1 ⟨x, H1, I1, r1, q1⟩ => ?_)
  refine wpAny_Slice (thn (hl.run pins s1 σ H1 _ I1 q1) fun vl s2 ⟨l, H2, I2, pl, q2⟩ => thn (hu.run pins s2 σ H2 _ I2 q2) fun vu s3 ⟨u, H3, I3, pu, q3⟩ => thn (hz.run pins s3 σ H3 (fun o H' => o = some st ∧ H' = H3) I3 ⟨rfl, rfl⟩) fun vz s4 ⟨o, H4, I4, pz, eo, e4⟩ => ?_)
  subst eo e4
  have I5 : Inv X pins σ H4 { s4 with heap := s4.heap.push { cls := .type "slice", data := .fields #[vl, vu, vz] } } := I4.kept (t' := s4.toks) fun b ob q => Heap.get?_push_of_some _ q
  obtain ⟨T, id, hT, ht, hg⟩ := hr pins { s4 with heap := s4.heap.push { cls := .type "slice", data := .fields #[vl, vu, vz] } } σ H4 x v vl vu vz l u st s4.heap.objs.size Q I5 r1 (Heap.IsSliceOf.new ..) pl pu pz q3
  exact tail_any (value := e) (slice := .Slice lo hi (some se) p2) (ops := [v, .ref s4.heap.objs.size]) ht hT hg (by with_unfolding_all rfl)
def rStT (K : PySem.W.Frag) : V → Option Int → Option Int → Int → Hp → VK → Prop := fun x lo hi st H Q => st ≠ 0 ∧ st ≠ 1 ∧ ∃ a xs, x = .ref a ∧ SqT K H a xs ∧ ∀ p, H p = none → Q (.ref p) (upd H p (.tup (stepD xs lo hi st)))
def rStL (K : PySem.W.Frag) : V → Option Int → Option Int → Int → Hp → VK → Prop := fun x lo hi st H Q => st ≠ 0 ∧ st ≠ 1 ∧ ∃ a xs, x = .ref a ∧ SqL K H a xs ∧ ∀ p, H p = none → Q (.ref p) (upd H p (.lst (stepD xs lo hi st)))
theorem st_tup : StepR X (rStT X.K) := by
  intro pins s σ H x v vl vu vz lo hi st sl Q I rx hs pl pu pz h
  obtain ⟨h0, h1, a, xs, rfl, hx, q⟩ := h
  cases rx
  obtain ⟨its, r, ht, hz⟩ := I.tuple hx
  have hlen : its.toArray.size = xs.length := by rw [List.size_toArray]; exact r.length.symm
  have ep : (stepIx its.toArray.size lo hi st).filterMap (its.toArray[·]?) = stepD its lo hi st := by
    unfold stepD
    rw [List.size_toArray]
    simp only [List.getElem?_toArray]
  have rp : Vals (stepD xs lo hi st) (stepD its lo hi st) := by
    unfold stepD
    rw [← r.length]
    exact vals_pick r _
  refine ⟨"tuple", _, PyProof.Rows.slot_tuple_getitem.lookup, ht.typeIs, ?_⟩
  refine HT.item_tuple_step ht hs pl pu pz h0 h1 ?_ (by rw [hlen]; exact hz)
  rw [ep]
  refine ⟨.ref s.heap.objs.size, _, I.laid (t' := s.toks) (o := .tup (stepD xs lo hi st)) (fun b ob q => Heap.get?_push_of_some _ q) (Nat.le_refl _) ?_, rfl, q _ (I.hok.fresh (Nat.le_refl _))⟩
  have fit := slicePick_size_le its.toArray lo hi (some st)
  rw [HT.pick_step h0, ep, List.size_toArray, List.size_toArray] at fit
  exact ⟨by rw [rp.length]; exact Nat.le_trans fit (by rw [← r.length]; exact hz), _, rp, IsTup.new _ _⟩
theorem st_lst : StepR X (rStL X.K) := by
  intro pins s σ H x v vl vu vz lo hi st sl Q I rx hs pl pu pz h
  obtain ⟨h0, h1, a, xs, rfl, hx, q⟩ := h
  cases rx
  obtain ⟨its, r, ht, hz⟩ := I.list hx
  have ep : (stepIx its.toArray.size lo hi st).filterMap (its.toArray[·]?) = stepD its lo hi st := by
    unfold stepD
    rw [List.size_toArray]
    simp only [List.getElem?_toArray]
  have rp : Vals (stepD xs lo hi st) (stepD its lo hi st) := by
    unfold stepD
    rw [← r.length]
    exact vals_pick r _
  refine ⟨"list", _, slot_list_getitem.lookup, ht.isList.typeIs, ?_⟩
  refine wpAny_getItem_list_slice ht.isList hs pl pu pz (by simpa using h0) ?_ (by rw [List.size_toArray, ← r.length]; exact hz)
  have fit := slicePick_size_le its.toArray lo hi (some st)
  rw [HT.pick_step h0, ep] at fit ⊢
  rw [List.size_toArray, List.size_toArray] at fit
  refine ⟨.ref s.heap.objs.size, _, I.laid (t' := s.toks) (o := .lst (stepD xs lo hi st)) (fun b ob q => Heap.get?_push_of_some _ q) (Nat.le_refl _) ?_, rfl, q _ (I.hok.fresh (Nat.le_refl _))⟩
  exact ⟨by rw [rp.length]; exact Nat.le_trans fit (by rw [← r.length]; exact hz), _, 0, rp, Heap.get?_push_size _ rfl⟩
def rSt (K : PySem.W.Frag) : V → Option Int → Option Int → Int → Hp → VK → Prop := fun x lo hi st H Q => rStT K x lo hi st H Q ∨ rStL K x lo hi st H Q
theorem st_any : StepR X (rSt X.K) := by
  intro pins s σ H x v vl vu vz lo hi st sl Q I rx hs pl pu pz h
  rcases h with h | h
  · exact st_tup pins s σ H x v vl vu vz lo hi st sl Q I rx hs pl pu pz h
  · exact st_lst pins s σ H x v vl vu vz lo hi st sl Q I rx hs pl pu pz h
variable {nm : Nm} {W : Wd} {H : Hp} {S : Store}
theorem st_ok {x d : D} {u : V} {lo hi : Option Int} {st : Int} {Q : VK} (r : Rel K nm W S H) (p : Rep K W H x u) (h : sl3D x lo hi st S = some d) (f : Fin K nm W S H d Q) : rSt K u lo hi st H Q := by
  unfold sl3D at h
  split at h
  · rename_i hz
    split at h
    · cases h
      cases p with
      | @tup _ a vs h1 p1 => exact .inl ⟨hz.1, hz.2, a, vs, rfl, h1, fun p hp => f.tup r (reps_step p1) hp⟩
    · cases h
      cases p with
      | @scr _ a h1 => exact .inr ⟨hz.1, hz.2, a, _, rfl, h1.sq, fun p hp => f.lst r (reps_step (reps_int _)) hp⟩
    · split at h
      · rename_i e
        cases h
        obtain ⟨a, vs, rfl, h1, p1⟩ := rep_lst r p e
        exact .inr ⟨hz.1, hz.2, a, vs, rfl, .inl h1, fun p hp => f.lst r (reps_step p1) hp⟩
      · cases h
  · cases h
theorem po_step {st : Int} {q : Expr} (h : stepC st q = true) : PO X (some q) fun _ H Q => Q (some st) H := by
  unfold stepC at h
  split at h
  · rw [decide_eq_true_eq] at h
    subst h
    exact ⟨fun pins s σ H Q I z => (po_some pe_int).run pins s σ H Q I ⟨_, rfl, z⟩⟩
  · rw [decide_eq_true_eq] at h
    subst h
    exact ⟨fun pins s σ H Q I z => (po_some (pe_un un_neg pe_int)).run pins s σ H Q I ⟨_, rfl, _, rfl, z⟩⟩
  · cases h
end
section
variable {P : Program} {w : World} {K : PySem.W.Frag} {mg : Str → Option Value} {base : Heap} {G : Tab} {Y : Sx} {nm : Nm} {fa : Nat → Addr} {fd : Nat → FuncData} {ps : Nat → List Str} {kk : Nat} {N : List Str}
theorem s_sl3 (a lo hi : E) (st : Int) (ia : Snd P w K mg base G Y nm kk N a) (il : Snd P w K mg base G Y nm kk N lo) (ih : Snd P w K mg base G Y nm kk N hi) : Snd P w K mg base G Y nm kk N (.sl3 a lo hi st) := by
  refine ⟨fun sc x X Wi h C tk => ?_, fun sc x X Wi h C tk => by simp [chkT] at h, fun sc a X Wi h C tk => by simp [chkA] at h⟩
  simp only [chk] at h
  split at h <;> try (cases h; done)
  simp only [Bool.and_eq_true] at h
  obtain ⟨⟨⟨h1, h2⟩, h3⟩, h4⟩ := h
  have pa := ia.v _ _ X Wi h1 C tk
  have pl := part_ok il h2 C tk
  have ph := part_ok ih h3 C tk
  have e1 := C.hK
  subst e1
  refine (pe_step st_any pa pl ph (po_step h4)).imp fun σ H Q wq => ?_
  obtain ⟨W, S, env, E, r, z⟩ := wq
  have z : Wq X.K nm (rpD X.K) W H ((ev G (run G kk) a env S).bind fun x S => (evP G (run G kk) lo env S).bind fun l S => (evP G (run G kk) hi env S).bind fun h S => R.of (sl3D x l h st S) S) Q (Xw nm Wi σ) := z
  refine ⟨W, S, env, E, r, (Wq.bind (rp := rpD X.K) z).mono fun x H1 z => ?_⟩
  obtain ⟨W1, S1, dx, e1, r1, p1, z⟩ := z
  have E1 := E.mono r.trk e1
  refine ⟨W1, S1, env, E1, r1, (Wq.bind (rp := rpO) z).mono fun l H2 z => ?_⟩
  obtain ⟨W2, S2, dl, e2, r2, p2, z⟩ := z
  have E2 := E1.mono r1.trk e2
  cases (show dl = l from p2)
  refine ⟨W2, S2, env, E2, r2, (Wq.bind (rp := rpO) z).mono fun h H3 z => ?_⟩
  obtain ⟨W3, S3, dh, e3, r3, p3, z⟩ := z
  cases (show dh = h from p3)
  obtain ⟨d, e, f⟩ := z.fin
  exact st_ok r3 ((p1.mono r1.trk e2).mono r2.trk e3) e f
end
end PL

set_option Elab.async false
set_option linter.all false
set_option maxRecDepth 100000
set_option maxHeartbeats 1000000
/-! PLT: enumerate of a tuple. -/
namespace PySem
open Sem (wp)
open AutoSeq1 (wpAny_loadPart')
theorem enumT_new {v : Value} {ob : Obj} {Hs : Heap → Prop} (B : Begins v ob Hs) :
    Meets (Builtin.«enumerate.__new__» ⟨[.type "enumerate", v], []⟩) (fun _ R s => Hs s.heap ∧
      R (.ok (.ret (.ref (s.heap.push ob).objs.size))) { s with heap := (s.heap.push ob).push { cls := .type "enumerate", data := .fields #[.none, .bool false, .ref s.heap.objs.size, rawInt 0, .none, .none] } }) :=
  .of_wp fun prog w A R s ⟨h1, h2⟩ => by
    obtain ⟨hp, gl, dd, tk, os⟩ := s
    have hsub := sub_enumerate
    have it1 : ∀ {A' : Around} {E : Value → Shared → Prop} {Q : Value → Shared → Prop}, Q (.ref hp.objs.size) ⟨hp.push ob, gl, dd, tk, os⟩ → wpAny (model prog w) A' (pyIter v) Q E ⟨hp, gl, dd, tk, os⟩ :=
      fun q => B.iter prog w _ _ ⟨hp, gl, dd, tk, os⟩ _ h1 q
    wp_walk using it1
    refine wpAny_stack_any fun st => wpAny_pure ?_
    split
    · rename_i c _ _ _ _ _
      cases c == Value.type "enumerate" <;> (wp_walk using it1; exact ⟨_, rfl, h2⟩)
    · wp_walk using it1
      exact ⟨_, rfl, h2⟩
theorem enumT_call {prog : Program} {w : World} {A : Around} {E : Value → Shared → Prop} {s : Shared} {v : Value} {ob : Obj} {Hs : Heap → Prop} {Q : Value → Shared → Prop} (B : Begins v ob Hs) (h1 : Hs s.heap)
    (k : ∀ g : Heap, IsEnum g (s.heap.objs.size + 1) s.heap.objs.size 0 .none → g.get? s.heap.objs.size = some ob → (∀ b o, s.heap.get? b = some o → g.get? b = some o) → Q (.ref (s.heap.objs.size + 1)) { s with heap := g }) :
    wpAny (model prog w) A (call (.type "enumerate") [v]) Q E s := by
  refine callType_new F.called_enumerate (by decide) (F.typeCall_enumerate_1 v) (F.newCall_enumerate_1 v) (fun obj => F.args_object_init_2 obj v) F.entry_enumerate_new (enumT_new B) ⟨h1, ?_⟩
  have sz : (s.heap.push ob).objs.size = s.heap.objs.size + 1 := Heap.size_push s.heap ob
  show _ ∧ _
  rw [sz]
  have en : IsEnum ((s.heap.push ob).push { cls := .type "enumerate", data := .fields #[.none, .bool false, .ref s.heap.objs.size, rawInt 0, .none, .none] }) (s.heap.objs.size + 1) s.heap.objs.size 0 .none := by
    have z := Heap.get?_push_size (s.heap.push ob) (o := { cls := .type "enumerate", data := .fields #[.none, .bool false, .ref s.heap.objs.size, rawInt 0, .none, .none] }) rfl
    rw [sz] at z
    exact z
  exact ⟨⟨_, en, rfl⟩, k _ en (Heap.get?_push_of_some _ (Heap.get?_push_size s.heap B.free)) fun b o e => Heap.get?_push_of_some _ (Heap.get?_push_of_some _ e)⟩
end PySem
namespace PL
open PySem PySem.Spec PyProof.Rows L2
/-- the tuple at a, each item in a new pair -/
def IteT (K : PySem.W.Frag) (a : Addr) : It :=
  ⟨fun i H => ∃ (xs : List V) (x : V), SqT K H a xs ∧ xs[i]? = some x, fun i H v H' => ∃ T x, v = .ref T ∧ H T = none ∧ H' = upd H T (.tup [.int (i : Nat), x]) ∧ ∀ xs, SqT K H a xs → xs[i]? = some x, fun i H => ∃ xs : List V, SqT K H a xs ∧ xs.length ≤ i⟩
theorem enum_apart {h : Heap} {e it t : Addr} {c : Int} {old : Value} {items : Array Value} (he : IsEnum h e it c old) (ht : h.IsTuple t items) : e ≠ t := by
  intro q
  subst q
  obtain ⟨o, h1, h2, _⟩ := ht
  cases (show h.get? e = some _ from he).symm.trans h1
  exact absurd (Value.type.inj h2) (by decide)
theorem titer_apart {h : Heap} {it t u : Addr} {i : Nat} {items : Array Value} (hi : h.IsTupleIter it u i) (ht : h.IsTuple t items) : t ≠ it := by
  intro q
  subst q
  obtain ⟨o, h1, h2, _⟩ := ht
  obtain ⟨o', h1', h2', _⟩ := hi
  cases h1.symm.trans h1'
  rw [h2] at h2'
  exact absurd (Value.type.inj h2') (by decide)
theorem turn_enumT {P : Program} {w : World} {K : PySem.W.Frag} {elts : List Expr} {kk : Nat} {tpos : Pos} (a e it : Addr) :
    Turn P w K (.Tuple elts kk tpos) (IteT K a) [e, it] e (fun i h => (∃ old, IsEnum h e it ((i : Nat) : Int) old) ∧ h.IsTupleIter it a i ∧ e ≠ it) where
  mem := by simp
  obj := fun i h st b hb => by
    obtain ⟨⟨old, he⟩, ⟨o, ho, hc, hd⟩, _⟩ := st
    have e' : b = e ∨ b = it := by simpa using hb
    rcases e' with z | z
    · rw [z]; exact ⟨_, he, fun v q => nomatch q⟩
    · rw [z]; exact ⟨o, ho, fun v q => by rw [hd] at q; cases q⟩
  keep := fun i h h' ⟨⟨old, he⟩, hi, hne⟩ k => ⟨⟨old, k e (by simp) _ he⟩, hi.at fun o q => k it (by simp) o q, hne⟩
  item := by
    intro X hP hw hK hc i pins s σ H E I hf st hg
    subst hP hw hK
    obtain ⟨⟨old, he⟩, hit, hne⟩ := st
    obtain ⟨xs, x, hq, hx⟩ := hg
    obtain ⟨its, rv, p, hz⟩ := I.tuple hq
    obtain ⟨u, hu, ru⟩ := rv.get hx
    have p' : s.heap.IsTuple a its.toArray := p
    have hel : e < s.heap.objs.size := Heap.lt_size he
    have hil : it < s.heap.objs.size := by obtain ⟨_, q, _⟩ := hit; exact Heap.lt_size q
    have hea := enum_apart he p'
    refine wpAny_pyNext_enum_itemC (Draws.tuple (A := X.A.in1) (I.ok.hd hc) it a (titer_apart hit p') its.toArray) he ⟨hit, p'⟩ (by have := (List.getElem?_eq_some_iff.mp hu).1; simpa using this) hne (by simp [hne, hea]) fun y h' tk hy ho hst hT hsz hk => ?_
    obtain rfl : y = u := by
      have z : its.toArray[i]? = some u := by simpa using hu
      rw [z] at hy
      exact (Option.some.inj hy).symm
    refine ⟨_, rfl, wpAny_letOwnedTupleGo_enum (s := { s with heap := h', toks := tk + 1 }) ho fun h2 he' sb => ?_⟩
    have hT2 : h2.get? s.heap.objs.size = some { cls := .type "tuple", data := .seq #[.int (i : Nat) tk, y] } := (sb.2 _ (Nat.ne_of_gt hel)).trans hT
    have new : ObjOk X.prog X.w (upd H s.heap.objs.size (.tup [.int (i : Nat), x])) h2 s.heap.objs.size (.tup [.int (i : Nat), x]) :=
      ⟨by show 2 ≤ sizeLine; decide, [.int (i : Nat) tk, y], .cons ⟨_, rfl⟩ (.cons ru .nil), ⟨_, hT2, rfl, _, rfl⟩⟩
    have I1 : Inv X pins σ (upd H s.heap.objs.size (.tup [.int (i : Nat), x])) { s with heap := h2, toks := tk + 1 } :=
      I.turnedNew (ch := [e, it]) (fun b ob hb q => (sb.2 b (fun z => hb (by simp [z]))).trans (hk b ob (fun z => hb (by simp [z])) (fun z => hb (by simp [z])) q)) hf (Nat.le_refl _) new
    refine ⟨.ref s.heap.objs.size, _, I1, rfl, ⟨_, x, rfl, I.hok.fresh (Nat.le_refl _), rfl, fun ys hy => by rw [I.tuple_inj hy hq]; exact hx⟩, ⟨⟨y, ?_⟩, hst.1.at fun o q => (sb.2 it (Ne.symm hne)).trans q, hne⟩, fun b hb => ?_⟩
    · have e1 : ((i + 1 : Nat) : Int) = (i : Int) + 1 := by omega
      rw [e1]
      exact he'
    · have hb' : b < s.heap.objs.size := by
        rcases List.mem_cons.mp hb with z | z
        · rw [z]; exact hel
        · rw [List.mem_singleton.mp z]; exact hil
      rw [upd_ne (Nat.ne_of_lt hb')]
      exact (hf b hb).1
  done := by
    intro X hP hw hK hc i pins s σ H E I hf st hg
    subst hP hw hK
    obtain ⟨⟨old, he⟩, hit, hne⟩ := st
    obtain ⟨xs, hq, hx⟩ := hg
    obtain ⟨its, rv, p, hz⟩ := I.tuple hq
    have p' : s.heap.IsTuple a its.toArray := p
    obtain ⟨f0, f1, f2, f3, f4, f5⟩ := hf it (by simp)
    have hl := rv.length
    have D : Draws X.prog X.w X.A.in1 it [it, a] i (fun _ _ => True) (fun j h => j = i ∧ h.IsTupleIter it a i ∧ h.IsTuple a its.toArray) :=
      { live := fun _ _ st => let ⟨o, ho, _⟩ := st.2.1; ⟨o, ho⟩
        frame := fun _ _ _ st hk => ⟨st.1, st.2.1.at fun o e => hk it (by simp) o e, st.2.2.at fun o e => hk a (by simp) o e⟩
        item := fun j s Q E hj st hQ => absurd st.1 (Nat.ne_of_lt hj)
        done := fun s Q E st hE => wpAny_nextOf_tuple_end (I.ok.hd hc) st.2.1 st.2.2 (by simp; omega) hE }
    exact wpAny_pyNext_enum_endD D he ⟨rfl, hit, p'⟩ fun h' eb => ⟨rfl, I.turned (t' := s.toks) (fun b o hb q => eb b o hb q) f0 f1 f3 f4 f5⟩
  self := fun A i s Q E st h => let ⟨⟨_, he⟩, _⟩ := st; wpAny_pyIter_enum he h
def iEnumA (K : PySem.W.Frag) (ta : TA) : TI := fun σ H R => ta σ H fun vs H1 => ∃ a xs, vs = [.ref a] ∧ ((SqL K H1 a xs ∧ R (Ite K a) H1) ∨ (SqT K H1 a xs ∧ R (IteT K a) H1))
theorem pi_enumA {X : Cx} {e : Expr} {ta : TA} {p pos tpos : Pos} {elts : List Expr} {kk : Nat} (hg : Gl X "enumerate") (hm : X.mg "enumerate" = none) (ha : PA X [e] ta) (hs : starEach [e] X.env = [(false, eval e X.env)]) :
    PI X (.Tuple elts kk tpos) (.Call (.Name "enumerate" p) [e] [] pos) (iEnumA X.K ta) := by
  refine ⟨fun pins s σ H R I h => Call_ (ld_blt I hg hm boot_enumerate (PyProof.Rows.callWith_type1 (thn (ha.run pos pins s σ H _ I h) fun us s1 ⟨vs, H1, I1, r1, q1⟩ => ?_) hs rfl))⟩
  obtain ⟨a, xs, rfl, q1⟩ := q1
  obtain rfl := Vals.ref1 r1
  have le : ∀ b ∈ [s1.heap.objs.size + 1, s1.heap.objs.size], FpOk X pins H1 b := fun b hb => by
    have le : s1.heap.objs.size ≤ b := by
      rcases List.mem_cons.mp hb with z | z
      · rw [z]; exact Nat.le_succ _
      · rw [List.mem_singleton.mp z]; exact Nat.le_refl _
    exact I1.fpOk le (I1.hok.fresh le)
  rcases q1 with ⟨hq, q⟩ | ⟨hq, q⟩
  · obtain ⟨its, rv, p', hz⟩ := I1.list hq
    refine enumT_call (begins_list a its.toArray) p'.isList fun g he hit hk => wpAny_pyIter_enum he ?_
    have I2 : Inv X pins σ H1 { s1 with heap := g } := I1.kept (t' := s1.toks) hk
    exact ⟨s1.heap.objs.size + 1, [s1.heap.objs.size + 1, s1.heap.objs.size], _, _, H1, rfl, I2, turn_enum a (s1.heap.objs.size + 1) s1.heap.objs.size, ⟨⟨.none, he⟩, ⟨_, hit, rfl, rfl⟩, Nat.succ_ne_self _⟩, le, q⟩
  · obtain ⟨its, rv, p', hz⟩ := I1.tuple hq
    have p2 : s1.heap.IsTuple a its.toArray := p'
    refine enumT_call (begins_tuple a its.toArray) p2 fun g he hit hk => wpAny_pyIter_enum he ?_
    have I2 : Inv X pins σ H1 { s1 with heap := g } := I1.kept (t' := s1.toks) hk
    exact ⟨s1.heap.objs.size + 1, [s1.heap.objs.size + 1, s1.heap.objs.size], _, _, H1, rfl, I2, turn_enumT a (s1.heap.objs.size + 1) s1.heap.objs.size, ⟨⟨.none, he⟩, ⟨_, hit, rfl, rfl⟩, Nat.succ_ne_self _⟩, le, q⟩
end PL

set_option Elab.async false
set_option linter.all false
set_option maxRecDepth 100000
set_option maxHeartbeats 1000000
/-! PLK: what a loop walks. -/
namespace PL
open PySem PySem.Spec PyProof.Rows L2
section
variable {K : PySem.W.Frag} {nm : Nm} {W W' : Wd} {H H' : Hp} {S : Store}
/-- an address more is set aside -/
def Wd.add (W : Wd) (p : Addr) : Wd := ⟨W.m, p :: W.B⟩
mutual
theorem Rep.addB {p : Addr} {o : HO} (n : H p = none) : ∀ {d : D} {v : V}, Rep K W H d v → Rep K (W.add p) (upd H p o) d v
  | _, _, .non => .non
  | _, _, .bl b => .bl b
  | _, _, .int i => .int i
  | _, _, .str x => .str x
  | _, _, .tup h r => .tup (by
      rcases h with (h | ⟨u, h⟩) | h
      · exact .inl (.inl (same_upd n _ _ h))
      · exact .inl (.inr ⟨u, same_upd n _ _ h⟩)
      · exact .inr h) (Reps.addB n r)
  | _, _, .lst h a b r => .lst (by
      rcases h with h | ⟨u, h⟩
      · exact .inl (same_upd n _ _ h)
      · exact .inr ⟨u, same_upd n _ _ h⟩) a (by
      simp only [Wd.add, List.mem_cons, not_or]
      refine ⟨fun e => ?_, b⟩
      subst e
      rcases h with h | ⟨u, h⟩ <;> (rw [n] at h; cases h)) (Reps.addB n r)
  | _, _, .dct h a b r => .dct (by
      rcases h with h | ⟨u, h⟩
      · exact .inl (same_upd n _ _ h)
      · exact .inr ⟨u, same_upd n _ _ h⟩) a (by
      simp only [Wd.add, List.mem_cons, not_or]
      refine ⟨fun e => ?_, b⟩
      subst e
      rcases h with h | ⟨u, h⟩ <;> (rw [n] at h; cases h)) (RepK.addB n r)
  | _, _, .ref h => .ref h
  | _, _, .scr h => .scr (by
      rcases h with ⟨u, h⟩ | h
      · exact .inl ⟨u, same_upd n _ _ h⟩
      · exact .inr h)
theorem Reps.addB {p : Addr} {o : HO} (n : H p = none) : ∀ {d : List D} {v : List V}, Reps K W H d v → Reps K (W.add p) (upd H p o) d v
  | _, _, .nil => .nil
  | _, _, .cons r rs => .cons (Rep.addB n r) (Reps.addB n rs)
theorem RepK.addB {p : Addr} {o : HO} (n : H p = none) : ∀ {d : List (Ky × D)} {v : List (Key × V)}, RepK K W H d v → RepK K (W.add p) (upd H p o) d v
  | _, _, .nil => .nil
  | _, _, .cons r rs => .cons (Rep.addB n r) (RepK.addB n rs)
end
mutual
theorem Rep.delB {p : Addr} : ∀ {d : D} {v : V}, Rep K (W.add p) H d v → Rep K W H d v
  | _, _, .non => .non
  | _, _, .bl b => .bl b
  | _, _, .int i => .int i
  | _, _, .str x => .str x
  | _, _, .tup h r => .tup h (Reps.delB r)
  | _, _, .lst h a b r => .lst h a (fun z => b (List.mem_cons_of_mem _ z)) (Reps.delB r)
  | _, _, .dct h a b r => .dct h a (fun z => b (List.mem_cons_of_mem _ z)) (RepK.delB r)
  | _, _, .ref h => .ref h
  | _, _, .scr h => .scr h
theorem Reps.delB {p : Addr} : ∀ {d : List D} {v : List V}, Reps K (W.add p) H d v → Reps K W H d v
  | _, _, .nil => .nil
  | _, _, .cons r rs => .cons (Rep.delB r) (Reps.delB rs)
theorem RepK.delB {p : Addr} : ∀ {d : List (Ky × D)} {v : List (Key × V)}, RepK K (W.add p) H d v → RepK K W H d v
  | _, _, .nil => .nil
  | _, _, .cons r rs => .cons (Rep.delB r) (RepK.delB rs)
end
theorem ob_map {W W' : Wd} {H H' : Hp} {a : Addr} {o : Ob} (hm : ∀ d v, Rep K W H d v → Rep K W' H' d v) (hs : ∀ d v, Reps K W H d v → Reps K W' H' d v) (hk : ∀ d v, RepK K W H d v → RepK K W' H' d v) (ha : ∀ u, H a = some u → H' a = some u)
    (q : ObRep K nm W H a o) : ObRep K nm W' H' a o := by
  cases o with
  | lst xs => obtain ⟨vs, e, z⟩ := q; exact ⟨vs, ha _ e, hs _ _ z⟩
  | dct xs => obtain ⟨vs, e, z⟩ := q; exact ⟨vs, ha _ e, hk _ _ z⟩
  | dtt xs =>
    obtain ⟨vs, e, z⟩ := q
    refine ⟨vs, ha _ e, ?_⟩
    clear e
    induction z with
    | nil => exact .nil
    | cons r _ ih => exact .cons (hm _ _ r) ih
  | ins c fs =>
    obtain ⟨dx, vs, e, z⟩ := q
    refine ⟨dx, vs, ha _ e, ?_⟩
    clear e
    induction z with
    | nil => exact .nil
    | cons r _ ih => exact .cons (hm _ _ r) ih
  | lck xs => obtain ⟨od, vs, e, z⟩ := q; exact ⟨od, vs, ha _ e, hk _ _ z⟩
  | lct xs =>
    obtain ⟨od, vs, e, z⟩ := q
    refine ⟨od, vs, ha _ e, ?_⟩
    clear e
    induction z with
    | nil => exact .nil
    | cons r _ ih => exact .cons (hm _ _ r) ih
theorem Rel.addB {p : Addr} {o : HO} (r : Rel K nm W S H) (n : H p = none) : Rel K nm (W.add p) S (upd H p o) := by
  refine ⟨r.len, r.nd, fun k a ob h1 h2 => ob_map (fun d v q => q.addB n) (fun d v q => q.addB n) (fun d v q => q.addB n) (fun u e => same_upd n _ _ e) (r.ob k a ob h1 h2), fun b hb => ?_⟩
  rcases List.mem_cons.mp hb with rfl | hb
  · exact ⟨(r.fresh n).1, o, upd_same⟩
  · obtain ⟨h1, u, h2⟩ := r.bs b hb
    exact ⟨h1, u, same_upd n _ _ h2⟩
theorem Rel.delB {p : Addr} (r : Rel K nm (W.add p) S H) : Rel K nm W S H :=
  ⟨r.len, r.nd, fun k a ob h1 h2 => ob_map (fun d v q => q.delB) (fun d v q => q.delB) (fun d v q => q.delB) (fun u e => e) (r.ob k a ob h1 h2), fun b hb => r.bs b (List.mem_cons_of_mem _ hb)⟩
/-- the list that is set aside grows -/
theorem Rel.putB {p : Addr} {o : HO} (r : Rel K nm (W.add p) S H) (hB : ∀ d v, Rep K (W.add p) H d v → Rep K (W.add p) (upd H p o) d v) (hBs : ∀ d v, Reps K (W.add p) H d v → Reps K (W.add p) (upd H p o) d v) (hBk : ∀ d v, RepK K (W.add p) H d v → RepK K (W.add p) (upd H p o) d v) :
    Rel K nm (W.add p) S (upd H p o) := by
  refine ⟨r.len, r.nd, fun k a ob h1 h2 => ob_map hB hBs hBk (fun u e => ?_) (r.ob k a ob h1 h2), fun b hb => ?_⟩
  · have : a ≠ p := fun z => (r.bs p (List.mem_cons_self)).1 (z ▸ List.mem_of_getElem? h1)
    rw [upd_ne this]; exact e
  · by_cases e : b = p
    · subst e; exact ⟨(r.bs b hb).1, o, upd_same⟩
    · obtain ⟨h1, u, h2⟩ := r.bs b hb
      exact ⟨h1, u, by rw [upd_ne e]; exact h2⟩
mutual
theorem Rep.putB {p : Addr} {xs : List V} {o : HO} (hp : H p = some (.lst xs)) : ∀ {d : D} {v : V}, Rep K (W.add p) H d v → Rep K (W.add p) (upd H p o) d v
  | _, _, .non => .non
  | _, _, .bl b => .bl b
  | _, _, .int i => .int i
  | _, _, .str x => .str x
  | _, _, .tup (a := a) h r => .tup (by
      have ne : ∀ u, H a = some u → (∀ l, u ≠ .lst l) → upd H p o a = some u := fun u e hu => by
        have : a ≠ p := fun z => by subst z; rw [hp] at e; cases e; exact hu _ rfl
        rw [upd_ne this]; exact e
      rcases h with (h | ⟨u, h⟩) | h
      · exact .inl (.inl (ne _ h (by simp)))
      · exact .inl (.inr ⟨u, ne _ h (by simp)⟩)
      · exact .inr h) (Reps.putB hp r)
  | _, _, .lst h a b r => .lst (by
      have : _ ≠ p := fun z => b (z ▸ List.mem_cons_self)
      rcases h with h | ⟨u, h⟩
      · exact .inl (by rw [upd_ne this]; exact h)
      · exact .inr ⟨u, by rw [upd_ne this]; exact h⟩) a b (Reps.putB hp r)
  | _, _, .dct h a b r => .dct (by
      have : _ ≠ p := fun z => b (z ▸ List.mem_cons_self)
      rcases h with h | ⟨u, h⟩
      · exact .inl (by rw [upd_ne this]; exact h)
      · exact .inr ⟨u, by rw [upd_ne this]; exact h⟩) a b (RepK.putB hp r)
  | _, _, .ref h => .ref h
  | _, _, .scr (a := a) h => .scr (by
      rcases h with ⟨u, h⟩ | h
      · have : a ≠ p := fun z => by subst z; rw [hp] at h; cases h
        exact .inl ⟨u, by rw [upd_ne this]; exact h⟩
      · exact .inr h)
theorem Reps.putB {p : Addr} {xs : List V} {o : HO} (hp : H p = some (.lst xs)) : ∀ {d : List D} {v : List V}, Reps K (W.add p) H d v → Reps K (W.add p) (upd H p o) d v
  | _, _, .nil => .nil
  | _, _, .cons r rs => .cons (Rep.putB hp r) (Reps.putB hp rs)
theorem RepK.putB {p : Addr} {xs : List V} {o : HO} (hp : H p = some (.lst xs)) : ∀ {d : List (Ky × D)} {v : List (Key × V)}, RepK K (W.add p) H d v → RepK K (W.add p) (upd H p o) d v
  | _, _, .nil => .nil
  | _, _, .cons r rs => .cons (Rep.putB hp r) (RepK.putB hp rs)
end
theorem ERep.addB {env : Env} {σ : L2.St} {p : Addr} {o : HO} (E : ERep K W H env σ) (n : H p = none) : ERep K (W.add p) (upd H p o) env σ :=
  ⟨E.len, fun i d h => let ⟨v, a, b⟩ := E.get i d h; ⟨v, a, b.addB n⟩⟩
theorem ERep.delB {env : Env} {σ : L2.St} {p : Addr} (E : ERep K (W.add p) H env σ) : ERep K W H env σ :=
  ⟨E.len, fun i d h => let ⟨v, a, b⟩ := E.get i d h; ⟨v, a, b.delB⟩⟩

mutual
theorem Rep.monoB {p : Addr} (t : Trk W H) (e : Ext W H W' H') (n : H p = none) : ∀ {d : D} {v : V}, Rep K W H d v → Rep K (W'.add p) H' d v
  | _, _, .non => .non
  | _, _, .bl b => .bl b
  | _, _, .int i => .int i
  | _, _, .str x => .str x
  | _, _, .tup h r => .tup (e.sqT t h) (Reps.monoB t e n r)
  | _, _, .lst h a b r => .lst (e.rd h a).1 (e.rd h a).2 (by
      simp only [Wd.add, List.mem_cons, not_or]
      refine ⟨fun z => ?_, by rw [e.B]; exact b⟩
      subst z
      rcases h with h | ⟨u, h⟩ <;> (rw [n] at h; cases h)) (Reps.monoB t e n r)
  | _, _, .dct h a b r => .dct (e.rd h a).1 (e.rd h a).2 (by
      simp only [Wd.add, List.mem_cons, not_or]
      refine ⟨fun z => ?_, by rw [e.B]; exact b⟩
      subst z
      rcases h with h | ⟨u, h⟩ <;> (rw [n] at h; cases h)) (RepK.monoB t e n r)
  | _, _, .ref h => .ref (by
      obtain ⟨t, e1, _⟩ := e.m
      show W'.m[_]? = _
      rw [e1]
      exact (List.getElem?_append_left (List.getElem?_eq_some_iff.mp h).1).trans h)
  | _, _, .scr h => .scr (e.scr t h)
theorem Reps.monoB {p : Addr} (t : Trk W H) (e : Ext W H W' H') (n : H p = none) : ∀ {d : List D} {v : List V}, Reps K W H d v → Reps K (W'.add p) H' d v
  | _, _, .nil => .nil
  | _, _, .cons r rs => .cons (Rep.monoB t e n r) (Reps.monoB t e n rs)
theorem RepK.monoB {p : Addr} (t : Trk W H) (e : Ext W H W' H') (n : H p = none) : ∀ {d : List (Ky × D)} {v : List (Key × V)}, RepK K W H d v → RepK K (W'.add p) H' d v
  | _, _, .nil => .nil
  | _, _, .cons r rs => .cons (Rep.monoB t e n r) (RepK.monoB t e n rs)
end
theorem ERep.monoB {env : Env} {σ : L2.St} {p : Addr} (t : Trk W H) (e : Ext W H W' H') (n : H p = none) (E : ERep K W H env σ) : ERep K (W'.add p) H' env σ :=
  ⟨E.len, fun i d h => let ⟨v, a, b⟩ := E.get i d h; ⟨v, a, b.monoB t e n⟩⟩

/-! ### walks of items -/
/-- wherever Gr holds J gives the items xs -/
def Wlk (K : PySem.W.Frag) (nm : Nm) (Gr : Wd → Hp → Prop) (J : It) (xs : List D) : Prop := ∃ (Gd : Hp → Prop) (Yd : Nat → Hp → V → Hp → Prop), Walk J xs.length Gd Yd ∧ (∀ W H, Gr W H → Gd H) ∧
  ∀ (i : Nat) W S H x H', i < xs.length → Gr W H → Rel K nm W S H → Yd i H x H' → ∃ d, xs[i]? = some d ∧ Ext W H W H' ∧ (∀ a o, H a = some o → H' a = some o) ∧ Rep K W H' d x
def ExtB (W0 : Wd) (H0 : Hp) (p : Addr) : Wd → Hp → Prop := fun W H => ∃ W', W = W'.add p ∧ Ext W0 H0 W' H
/-- .. with an address set aside, too -/
def ItOk (K : PySem.W.Frag) (nm : Nm) (W : Wd) (H : Hp) (J : It) (xs : List D) : Prop := Wlk K nm (Ext W H) J xs ∧ ∀ p, H p = none → Wlk K nm (ExtB W H p) J xs
variable {Gr : Wd → Hp → Prop}
theorem wlk_list {a : Addr} {xs : List D} {vs : List V} (h : ∀ W H, Gr W H → Rd H a (.lst vs)) (p : ∀ W H, Gr W H → Reps K W H xs vs) (hl : xs.length = vs.length) : Wlk K nm Gr (Itl K a) xs := by
  refine ⟨_, _, hl ▸ walk_list (xs := vs), fun W' H' e => .inl (h _ _ e), fun i W' S H' x H2 hi e r y => ?_⟩
  obtain ⟨rfl, y⟩ := y
  have hl : i < xs.length := hi
  obtain ⟨v, h1, h2⟩ := (p _ _ e).get (i := i) (d := xs[i]) (by simp [hl])
  rw [h1] at y; cases y
  exact ⟨_, by simp [hl], Ext.refl, fun _ _ z => z, h2⟩
theorem wlk_tup {a : Addr} {xs : List D} {vs : List V} (h : ∀ W H, Gr W H → SqT K H a vs) (p : ∀ W H, Gr W H → Reps K W H xs vs) (hl : xs.length = vs.length) : Wlk K nm Gr (Itt K a) xs := by
  refine ⟨_, _, hl ▸ walk_tup (xs := vs), fun W' H' e => h _ _ e, fun i W' S H' x H2 hi e r y => ?_⟩
  obtain ⟨rfl, y⟩ := y
  have hl : i < xs.length := hi
  obtain ⟨v, h1, h2⟩ := (p _ _ e).get (i := i) (d := xs[i]) (by simp [hl])
  rw [h1] at y; cases y
  exact ⟨_, by simp [hl], Ext.refl, fun _ _ z => z, h2⟩
theorem rngD_get {lo c : Int} {n i : Nat} (h : i < n) : (rngD lo c n)[i]? = some (.int (lo + i * c)) := by
  simp [rngD, h]
theorem rngD_len {lo c : Int} {n : Nat} : (rngD lo c n).length = n := by simp [rngD]
theorem wlk_range {lo : Int} {n : Nat} : Wlk K nm Gr (L2.Itr lo n) (rngD lo 1 n) := by
  refine ⟨_, _, (by rw [rngD_len]; exact walk_range), fun _ _ _ => trivial, fun i W' S H' x H2 hi e r y => ?_⟩
  obtain ⟨rfl, rfl⟩ := y
  rw [rngD_len] at hi
  exact ⟨_, rngD_get hi, Ext.refl, fun _ _ z => z, by rw [Int.mul_one]; exact .int _⟩
theorem wlk_rangeC {lo c : Int} {n : Nat} : Wlk K nm Gr (Itc lo c n) (rngD lo c n) := by
  refine ⟨_, _, (by rw [rngD_len]; exact walk_rangeC), fun _ _ _ => trivial, fun i W' S H' x H2 hi e r y => ?_⟩
  obtain ⟨rfl, rfl⟩ := y
  rw [rngD_len] at hi
  exact ⟨_, rngD_get hi, Ext.refl, fun _ _ z => z, .int _⟩
theorem chars_len {x : Str} : (chars x).length = x.cps.size := by simp [chars]
theorem wlk_str {z : Str} : Wlk K nm Gr (Its z) (chars z) := by
  refine ⟨_, _, (by rw [chars_len]; exact walk_str), fun _ _ _ => trivial, fun i W' S H' x H2 hi e r y => ?_⟩
  obtain ⟨rfl, c, h1, rfl⟩ := y
  exact ⟨.str ⟨#[c]⟩, by simp [chars, h1], Ext.refl, fun _ _ z => z, .str _⟩
theorem pair_new {W : Wd} {H : Hp} {S : Store} {T : Addr} {x y : V} {d e : D} (r : Rel K nm W S H) (n : H T = none) (p : Rep K W H d x) (q : Rep K W H e y) : Ext W H W (upd H T (.tup [x, y])) ∧ (∀ a o, H a = some o → upd H T (.tup [x, y]) a = some o) ∧ Rep K W (upd H T (.tup [x, y])) (.tup [d, e]) (.ref T) :=
  ⟨Ext.alloc n, same_upd n, .tup (SqT.of upd_same) (.cons (p.mono r.trk (Ext.alloc n)) (.cons (q.mono r.trk (Ext.alloc n)) .nil))⟩
theorem zipD_get {xs ys : List D} {i : Nat} {d e : D} (h1 : xs[i]? = some d) (h2 : ys[i]? = some e) : (xs.zipWith (fun x y => D.tup [x, y]) ys)[i]? = some (.tup [d, e]) := by
  simp [List.getElem?_zipWith, h1, h2]
theorem walk_zipT {a b : Addr} {xs ys : List V} {n : Nat} (hn : n = min xs.length ys.length) : Walk (RZ.ItzT K a b) n (fun H => SqT K H a xs ∧ SqT K H b ys) (YPair (fun i => xs[i]?) (fun i => ys[i]?)) := by
  subst hn
  refine ⟨fun i _ hi q => ?_, fun _ q => ⟨xs, ys, q.1, q.2, by omega⟩, fun i H v H' _ q y => ?_⟩
  · have h1 : i < xs.length := by omega
    have h2 : i < ys.length := by omega
    exact ⟨xs, ys, xs[i], ys[i], q.1, q.2, by simp [h1], by simp [h2]⟩
  · obtain ⟨T, x, z, h1, h2, h3, h4, h5⟩ := y
    exact ⟨T, x, z, h1, h2, h3, h4 xs q.1, h5 ys q.2⟩
theorem wlk_zip {J : It} {xs ys : List D} {vs us : List V} {Gd : Hp → Prop} (w : Walk J (xs.zipWith (fun x y => D.tup [x, y]) ys).length Gd (YPair (fun i => vs[i]?) (fun i => us[i]?))) (h : ∀ W H, Gr W H → Gd H) (p : ∀ W H, Gr W H → Reps K W H xs vs) (p' : ∀ W H, Gr W H → Reps K W H ys us) :
    Wlk K nm Gr J (xs.zipWith (fun x y => .tup [x, y]) ys) := by
  refine ⟨_, _, w, h, fun i W' S H' x H2 hi e r y => ?_⟩
  rw [List.length_zipWith] at hi
  obtain ⟨T, x1, y1, rfl, hT, rfl, g1, g2⟩ := y
  obtain ⟨v, q1, q2⟩ := (p _ _ e).get (i := i) (d := xs[i]'(by omega)) (by simp [show i < xs.length by omega])
  obtain ⟨v', q3, q4⟩ := (p' _ _ e).get (i := i) (d := ys[i]'(by omega)) (by simp [show i < ys.length by omega])
  cases q1.symm.trans g1
  cases q3.symm.trans g2
  obtain ⟨z1, z2, z3⟩ := pair_new r hT q2 q4
  exact ⟨_, zipD_get (by simp [show i < xs.length by omega]) (by simp [show i < ys.length by omega]), z1, z2, z3⟩
theorem enumD_len {xs : List D} : (enumD xs).length = xs.length := by simp [enumD]
theorem enumD_get {xs : List D} {i : Nat} {d : D} (h : xs[i]? = some d) : (enumD xs)[i]? = some (.tup [.int i, d]) := by
  have hl := (List.getElem?_eq_some_iff.mp h).1
  obtain ⟨_, rfl⟩ := List.getElem?_eq_some_iff.mp h
  simp [enumD, List.getElem?_zipWith, hl, List.getElem?_range hl]
theorem wlk_enum {J : It} {xs : List D} {vs : List V} {Gd : Hp → Prop} (w : Walk J (enumD xs).length Gd (YPair (fun i => some (.int (i : Nat))) (fun i => vs[i]?))) (h : ∀ W H, Gr W H → Gd H) (p : ∀ W H, Gr W H → Reps K W H xs vs) : Wlk K nm Gr J (enumD xs) := by
  refine ⟨_, _, w, h, fun i W' S H' x H2 hi e r y => ?_⟩
  rw [enumD_len] at hi
  obtain ⟨T, x1, y1, rfl, hT, rfl, g1, g2⟩ := y
  obtain ⟨v, q1, q2⟩ := (p _ _ e).get (i := i) (d := xs[i]) (by simp [hi])
  cases q1.symm.trans g2
  cases g1
  obtain ⟨z1, z2, z3⟩ := pair_new r hT (.int _) q2
  exact ⟨_, enumD_get (by simp [hi]), z1, z2, z3⟩
theorem ItOk.of {J : It} {xs : List D} (h : ∀ Gr : Wd → Hp → Prop, (∀ W' H', Gr W' H' → ∃ W2, Ext W H W2 H' ∧ (W' = W2 ∨ ∃ p, H p = none ∧ W' = W2.add p)) → Wlk K nm Gr J xs) : ItOk K nm W H J xs :=
  ⟨h _ fun W' H' e => ⟨W', e, .inl rfl⟩, fun p hp => h _ fun W' H' ⟨W2, e1, e2⟩ => ⟨W2, e2, .inr ⟨p, hp, e1⟩⟩⟩
theorem reps_gr {xs : List D} {vs : List V} (t : Trk W H) (p : Reps K W H xs vs) {W' W2 : Wd} {H' : Hp} (e : Ext W H W2 H') (h : W' = W2 ∨ ∃ p, H p = none ∧ W' = W2.add p) : Reps K W' H' xs vs := by
  rcases h with rfl | ⟨q, hq, rfl⟩
  · exact p.mono t e
  · exact p.monoB t e hq
theorem ItOk.list {a : Addr} {xs : List D} {vs : List V} (t : Trk W H) (h : Rd H a (.lst vs)) (n : a ∉ W.m) (p : Reps K W H xs vs) : ItOk K nm W H (Itl K a) xs :=
  .of fun Gr g => wlk_list (fun W' H' e => let ⟨_, e1, _⟩ := g _ _ e; (e1.rd h n).1) (fun W' H' e => let ⟨_, e1, e2⟩ := g _ _ e; reps_gr t p e1 e2) p.length
theorem ItOk.tup {a : Addr} {xs : List D} {vs : List V} (t : Trk W H) (h : SqT K H a vs) (p : Reps K W H xs vs) : ItOk K nm W H (Itt K a) xs :=
  .of fun Gr g => wlk_tup (fun W' H' e => let ⟨_, e1, _⟩ := g _ _ e; e1.sqT t h) (fun W' H' e => let ⟨_, e1, e2⟩ := g _ _ e; reps_gr t p e1 e2) p.length
theorem ItOk.enumL {a : Addr} {xs : List D} {vs : List V} (t : Trk W H) (h : Rd H a (.lst vs)) (n : a ∉ W.m) (p : Reps K W H xs vs) : ItOk K nm W H (Ite K a) (enumD xs) :=
  .of fun Gr g => wlk_enum (by rw [enumD_len, p.length]; exact walk_enum (xs := vs)) (fun W' H' e => let ⟨_, e1, _⟩ := g _ _ e; Or.inl (e1.rd h n).1) (fun W' H' e => let ⟨_, e1, e2⟩ := g _ _ e; reps_gr t p e1 e2)
theorem walk_enumT {a : Addr} {xs : List V} : Walk (IteT K a) xs.length (fun H => SqT K H a xs) (YPair (fun i => some (.int (i : Nat))) (fun i => xs[i]?)) := by
  refine ⟨fun i _ hi q => ⟨xs, xs[i], q, by simp [hi]⟩, fun _ q => ⟨xs, q, Nat.le_refl _⟩, fun i H v H' _ q y => ?_⟩
  obtain ⟨T, x, h1, h2, h3, h4⟩ := y
  exact ⟨T, .int (i : Nat), x, h1, h2, h3, rfl, h4 xs q⟩
theorem ItOk.enumT {a : Addr} {xs : List D} {vs : List V} (t : Trk W H) (h : SqT K H a vs) (p : Reps K W H xs vs) : ItOk K nm W H (IteT K a) (enumD xs) :=
  .of fun Gr g => wlk_enum (by rw [enumD_len, p.length]; exact walk_enumT (xs := vs)) (fun W' H' e => let ⟨_, e1, _⟩ := g _ _ e; e1.sqT t h) (fun W' H' e => let ⟨_, e1, e2⟩ := g _ _ e; reps_gr t p e1 e2)
theorem wlk_keys {d : Addr} {o : Obj} {ds : List (Ky × D)} {kvs : List (Key × V)} (h : ∀ W H, Gr W H → H d = some (.frz o (.dK kvs))) (p : kvs.map (·.1) = ds.map (·.1)) : Wlk K nm Gr (Itk d o kvs) (ds.map fun p => kyD p.1) := by
  have hl : kvs.length = (ds.map fun p => kyD p.1).length := by
    have := congrArg List.length p
    simpa using this
  refine ⟨_, _, hl ▸ walk_keys, fun W' H' e => h _ _ e, fun i W' S H' x H2 hi e r y => ?_⟩
  obtain ⟨rfl, k, v, hk, rfl⟩ := y
  have hi' : i < ds.length := by simpa using hi
  have e1 : (kvs.map (·.1))[i]? = some k := by simp [hk]
  rw [p, List.getElem?_map] at e1
  obtain ⟨q, e2, e3⟩ := Option.map_eq_some_iff.mp e1
  subst e3
  refine ⟨kyD q.1, by simp [e2], Ext.refl, fun _ _ z => z, ?_⟩
  cases q.1 with
  | inl i => exact .int i
  | inr x => exact .str x
theorem ItOk.keys {d : Addr} {o : Obj} {ds : List (Ky × D)} {kvs : List (Key × V)} (h : H d = some (.frz o (.dK kvs))) (n : d ∉ W.m) (p : RepK K W H ds kvs) : ItOk K nm W H (Itk d o kvs) (ds.map fun p => kyD p.1) :=
  .of fun Gr g => wlk_keys (fun W' H' e => let ⟨_, e1, _⟩ := g _ _ e; e1.keep _ _ h n) (repK_keys p)
theorem ItOk.keysF {d : Addr} {o : Obj} {ds : List (Ky × D)} {kvs : List (Key × V)} (h : H d = some (.frz o (.dK kvs))) (p : RepK K W H ds kvs) : ItOk K nm W H (Itk d o kvs) (ds.map fun p => kyD p.1) :=
  .of fun Gr g => wlk_keys (fun W' H' e => let ⟨_, e1, _⟩ := g _ _ e; e1.fz _ _ _ h) (repK_keys p)
theorem repK_gr {xs : List (Ky × D)} {vs : List (Key × V)} (t : Trk W H) (p : RepK K W H xs vs) {W' W2 : Wd} {H' : Hp} (e : Ext W H W2 H') (h : W' = W2 ∨ ∃ p, H p = none ∧ W' = W2.add p) : RepK K W' H' xs vs := by
  rcases h with rfl | ⟨q, hq, rfl⟩
  · exact p.mono t e
  · exact p.monoB t e hq
theorem repK_at {ds : List (Ky × D)} {kvs : List (Key × V)} (p : RepK K W H ds kvs) {i : Nat} {q : Ky × D} (h : ds[i]? = some q) : ∃ v, kvs[i]? = some (q.1, v) ∧ Rep K W H q.2 v := by
  induction ds generalizing kvs i with
  | nil => simp at h
  | cons x ds ih => cases p with | cons a b => cases i with
    | zero => simp at h; subst h; exact ⟨_, rfl, a⟩
    | succ i => simp at h; obtain ⟨v, e, q⟩ := ih b h; exact ⟨v, by simpa using e, q⟩
theorem wlk_itemsK {Gr : Wd → Hp → Prop} {d : Addr} {o : Obj} {ds : List (Ky × D)} {kvs : List (Key × V)} (h : ∀ W H, Gr W H → H d = some (.frz o (.dK kvs))) (p : ∀ W H, Gr W H → RepK K W H ds kvs) (hl : kvs.length = ds.length) : Wlk K nm Gr (Iti d o kvs) (ds.map fun p => .tup [kyD p.1, p.2]) := by
  refine ⟨_, _, (by rw [List.length_map, ← hl]; exact walk_items), fun W' H' e => h _ _ e, fun i W' S H' x H2 hi e r y => ?_⟩
  rw [List.length_map] at hi
  obtain ⟨T, x1, y1, rfl, hT, rfl, g1, g2⟩ := y
  have hx : ds[i]? = some ds[i] := List.getElem?_eq_getElem hi
  obtain ⟨v, q1, q2⟩ := repK_at (p _ _ e) hx
  simp only [q1, Option.map_some, Option.some.injEq] at g1 g2
  subst g1 g2
  have q0 : Rep K W' H' (kyD ds[i].1) (kV ds[i].1) := by
    cases ds[i].1 with
    | inl i => exact .int i
    | inr x => exact .str x
  obtain ⟨z1, z2, z3⟩ := pair_new r hT q0 q2
  exact ⟨.tup [kyD ds[i].1, ds[i].2], by rw [List.getElem?_map, hx]; rfl, z1, z2, z3⟩
theorem ItOk.itemsF {d : Addr} {o : Obj} {ds : List (Ky × D)} {kvs : List (Key × V)} (t : Trk W H) (h : H d = some (.frz o (.dK kvs))) (p : RepK K W H ds kvs) : ItOk K nm W H (Iti d o kvs) (ds.map fun p => .tup [kyD p.1, p.2]) :=
  .of fun Gr g => wlk_itemsK (fun W' H' e => let ⟨_, e1, _⟩ := g _ _ e; e1.fz _ _ _ h) (fun W' H' e => let ⟨_, e1, e2⟩ := g _ _ e; repK_gr t p e1 e2) p.length.symm
theorem ItOk.zipL {a b : Addr} {xs ys : List D} {vs us : List V} (t : Trk W H) (h : Rd H a (.lst vs)) (n : a ∉ W.m) (p : Reps K W H xs vs) (h' : Rd H b (.lst us)) (n' : b ∉ W.m) (p' : Reps K W H ys us) : ItOk K nm W H (Itz K a b) (xs.zipWith (fun x y => .tup [x, y]) ys) :=
  .of fun Gr g => wlk_zip (walk_zip (xs := vs) (ys := us) (by rw [List.length_zipWith, p.length, p'.length])) (fun W' H' e => let ⟨_, e1, _⟩ := g _ _ e; ⟨Or.inl (e1.rd h n).1, Or.inl (e1.rd h' n').1⟩) (fun W' H' e => let ⟨_, e1, e2⟩ := g _ _ e; reps_gr t p e1 e2) (fun W' H' e => let ⟨_, e1, e2⟩ := g _ _ e; reps_gr t p' e1 e2)
theorem ItOk.zipT {a b : Addr} {xs ys : List D} {vs us : List V} (t : Trk W H) (h : SqT K H a vs) (p : Reps K W H xs vs) (h' : SqT K H b us) (p' : Reps K W H ys us) : ItOk K nm W H (RZ.ItzT K a b) (xs.zipWith (fun x y => .tup [x, y]) ys) :=
  .of fun Gr g => wlk_zip (walk_zipT (xs := vs) (ys := us) (by rw [List.length_zipWith, p.length, p'.length])) (fun W' H' e => let ⟨_, e1, _⟩ := g _ _ e; ⟨e1.sqT t h, e1.sqT t h'⟩) (fun W' H' e => let ⟨_, e1, e2⟩ := g _ _ e; reps_gr t p e1 e2) (fun W' H' e => let ⟨_, e1, e2⟩ := g _ _ e; reps_gr t p' e1 e2)
/-- what is walked -/
def ItFor (K : PySem.W.Frag) (nm : Nm) (W : Wd) (H : Hp) (it : PL.Itr) (J : It) : Prop := match it with
  | .items xs => ItOk K nm W H J xs
  | .live n en => ∃ a, W.m[n]? = some a ∧ J = (if en then Ite K a else Itl K a)
  | .lkd _ _ _ => False
end
section
variable {P : Program} {w : World} {K : PySem.W.Frag} {mg : Str → Option Value} {base : Heap} {G : Tab} {Y : Sx} {nm : Nm} {fa : Nat → Addr} {fd : Nat → FuncData} {ps : Nat → List Str} {kk : Nat} {N : List Str}
variable {sc : Scope} {X : Cx} {Wi : WX}
theorem _root_.L2.PI.or {tg e : Expr} {w1 w2 : TI} (h1 : PI X tg e w1) (h2 : PI X tg e w2) : PI X tg e (fun σ H R => w1 σ H R ∨ w2 σ H R) :=
  ⟨fun pins s σ H R I w => w.elim (h1.run pins s σ H R I) (h2.run pins s σ H R I)⟩
theorem _root_.L2.PI.imp {tg e : Expr} {w1 w2 : TI} (h1 : PI X tg e w1) (h : ∀ σ H R, w2 σ H R → w1 σ H R) : PI X tg e w2 := ⟨fun pins s σ H R I w => h1.run pins s σ H R I (h σ H R w)⟩
def tI (K : PySem.W.Frag) (nm : Nm) (Wi : WX) (k : IK) (f : Env → Store → R D) : TI := tX K nm (ItFor K nm) Wi fun env S => (f env S).bind fun d S => R.of (mkIt k (srcL k d) S) S
theorem pi_plain {tg e : Expr} {f : Env → Store → R D} (hK : X.K = K) (he : PE X e (tE K nm Wi f)) : PI X tg e (tI K nm Wi .plain f) := by
  subst hK
  refine (((pi_list he).or (pi_tup he)).or (pi_str he)).imp fun σ H R q => ?_
  obtain ⟨W, S, env, E, r, z⟩ := q
  dsimp only at z
  cases hd : f env S with
  | bad => rw [hd] at z; exact z.elim
  | ex c S1 => rw [hd] at z; exact .inl (.inl ⟨W, S, env, E, r, by rw [hd]; exact z⟩)
  | ok d S1 =>
    rw [hd] at z
    cases d with
    | tup xs =>
      refine .inl (.inr ⟨W, S, env, E, r, ?_⟩)
      rw [hd]
      intro v W' H' e' r' p
      cases p with
      | @tup _ a vs h1 h2 => exact ⟨a, rfl, ⟨vs, h1⟩, z _ W' H' e' r' (.tup r'.trk h1 h2)⟩
    | lst xs =>
      refine .inl (.inl ⟨W, S, env, E, r, ?_⟩)
      rw [hd]
      intro v W' H' e' r' p
      cases p with
      | @lst _ a vs h1 h2 h3 h4 => exact ⟨a, rfl, ⟨vs, .inl h1⟩, z _ W' H' e' r' (.list r'.trk h1 h2 h4)⟩
    | str x =>
      refine .inr ⟨W, S, env, E, r, ?_⟩
      rw [hd]
      intro v W' H' e' r' p
      cases p
      exact ⟨x, rfl, z _ W' H' e' r' ⟨wlk_str, fun _ _ => wlk_str⟩⟩
    | ref n =>
      refine .inl (.inl ⟨W, S, env, E, r, ?_⟩)
      rw [hd]
      intro v W' H' e' r' p
      simp only [PL.R.bind_ok, srcL, mkIt] at z
      cases p with
      | @ref _ a h1 =>
        split at z
        · rename_i xs q
          obtain ⟨vs, h2, h3⟩ := r'.ob n a _ h1 q
          exact ⟨a, rfl, ⟨vs, .inl (.inl h2)⟩, z _ W' H' e' r' ⟨a, h1, rfl⟩⟩
        · exact z.elim
    | _ => exact z.elim
theorem b62_ok {i : Int} (h : b62 i = true) : -(2 ^ 62) ≤ i ∧ i < 2 ^ 62 := tst_iff.mp h
theorem star_one {a : Expr} {env : PySem.Env} (h : notStar a = true) : starEach [a] env = [(false, eval a env)] := star_ok h
theorem pi_args {tg iter : Expr} {es : List Expr} {ik : IK} {f : Env → Store → R D} {wi : TA → TI} (hne : ∀ d, srcL ik d = toTup d) (hi : PI X tg iter (wi (tA K nm Wi f)))
    (hw : ∀ {σ : L2.St} {H : Hp} {R : It → Hp → Prop} {Q : List V → Hp → Prop}, tA K nm Wi f σ H Q → (∀ vs H1, Q vs H1 → wi (fun _ H Q => Q vs H) σ H1 R) → wi (tA K nm Wi f) σ H R)
    (h : ∀ {W : Wd} {S : Store} {H1 : Hp} {xs : List D} {vs : List V} {it : PL.Itr} {σ : L2.St} {R : It → Hp → Prop}, Rel K nm W S H1 → Reps K W H1 xs vs → mkIt ik xs S = some it → (∀ J, ItFor K nm W H1 it J → R J H1) → wi (fun _ H Q => Q vs H) σ H1 R) : PI X tg iter (tI K nm Wi ik f) := by
  refine hi.imp fun σ H R q => ?_
  obtain ⟨W, S, env, E, r, z⟩ := tX.args (g := fun _ d S => PL.R.of (mkIt ik (srcL ik d) S) S) q
  refine hw (Q := _) ⟨W, S, env, E, r, z⟩ fun vs H1 z => ?_
  obtain ⟨W1, S1, xs, env1, E1, r1, p1, z⟩ := z
  obtain ⟨it, e, z⟩ := z.of
  rw [hne] at e
  have e : mkIt ik xs S1 = some it := e
  exact h r1 p1 e fun J hJ => z J W1 H1 Ext.refl r1 hJ
theorem tA.mono {f : Env → Store → R D} {σ : L2.St} {H : Hp} {Q Q' : List V → Hp → Prop} (w : tA K nm Wi f σ H Q) (h : ∀ v H, Q v H → Q' v H) : tA K nm Wi f σ H Q' := by
  obtain ⟨W, S, env, E, r, z⟩ := w
  exact ⟨W, S, env, E, r, z.mono h⟩
theorem pi_rng1 {tg a : Expr} {f : Env → Store → R D} {p pos : Pos} (hg : Gl X "range") (hm : X.mg "range" = none) (hs : notStar a = true) (ha : PA X [a] (tA K nm Wi f)) : PI X tg (.Call (.Name "range" p) [a] [] pos) (tI K nm Wi .rng1 f) := by
  refine pi_args (es := [a]) (wi := iRng1) (fun _ => rfl) (pi_range1 hg hm ha (star_one hs)) (fun q h => tA.mono q fun v H z => h v H z) fun r p1 e z => ?_
  cases p1 with
  | nil => cases e
  | cons p1 p2 => cases p2 with
    | nil =>
      cases p1 <;> simp only [mkIt] at e <;> first | (cases e; done) | skip
      split at e
      · rename_i h
        cases e
        exact ⟨_, rfl, (b62_ok h).1, (b62_ok h).2, z _ ⟨wlk_range, fun _ _ => wlk_range⟩⟩
      · cases e
    | cons p2 p3 => cases p1 <;> cases e
theorem pi_rng2 {tg a b : Expr} {f : Env → Store → R D} {p pos : Pos} (hg : Gl X "range") (hm : X.mg "range" = none) (hs : notStar a = true) (hs2 : notStar b = true) (ha : PA X [a, b] (tA K nm Wi f)) : PI X tg (.Call (.Name "range" p) [a, b] [] pos) (tI K nm Wi .rng2 f) := by
  refine pi_args (es := [a, b]) (wi := iRng2) (fun _ => rfl) (pi_range2 hg hm ha (by rw [star_ok hs, star_ok hs2]; rfl) (star_one hs2)) (fun q h => tA.mono q fun v H z => h v H z) fun r p1 e z => ?_
  simp only [mkIt] at e
  split at e <;> try (rename_i h; cases h; done)
  all_goals first | (cases e; done) | skip
  rename_i i j h
  split at e
  · rename_i hb
    cases e
    simp only [Bool.and_eq_true] at hb
    obtain ⟨v, u, rfl, q1, q2⟩ := reps2 p1
    cases q1; cases q2
    exact ⟨_, _, rfl, ⟨(b62_ok hb.1).1, (b62_ok hb.1).2, (b62_ok hb.2).1, (b62_ok hb.2).2⟩, z _ ⟨wlk_range, fun _ _ => wlk_range⟩⟩
  · cases e
theorem pi_zipR {a b : Expr} {f : Env → Store → R D} {p pos tpos : Pos} {elts : List Expr} {q : Nat} (hK : X.K = K) (hg : Gl X "zip") (hm : X.mg "zip" = none) (hs : notStar a = true) (hs2 : notStar b = true) (ha : PA X [a, b] (tA K nm Wi f)) :
    PI X (.Tuple elts q tpos) (.Call (.Name "zip" p) [a, b] [] pos) (tI K nm Wi .zip f) := by
  subst hK
  refine pi_args (es := [a, b]) (wi := RZ.iZipA X.K) (fun _ => rfl) (RZ.pi_zipA hg hm ha (star_ok hs) (by rw [star_ok hs2]; rfl)) (fun q h => tA.mono q fun v H z => h v H z) fun r p1 e z => ?_
  simp only [mkIt] at e
  split at e <;> try (rename_i h; cases h; done)
  all_goals first | (cases e; done) | skip
  · cases e
    obtain ⟨v, u, rfl, q1, q2⟩ := reps2 p1
    cases q1 with | tup h1 h2 => cases q2 with | tup h3 h4 => exact ⟨_, _, _, _, rfl, .inr ⟨h1, h3, z _ (.zipT r.trk h1 h2 h3 h4)⟩⟩
  · cases e
    obtain ⟨v, u, rfl, q1, q2⟩ := reps2 p1
    cases q1 with | lst h1 n1 b1 h2 => cases q2 with | lst h3 n3 b3 h4 => exact ⟨_, _, _, _, rfl, .inl ⟨.inl h1, .inl h3, z _ (.zipL r.trk h1 n1 h2 h3 n3 h4)⟩⟩

theorem rangeC_ok {i j c : Int} (hi : b62 i = true) (hj : b62 j = true) (hc : 0 < c ∧ c < 1000000) : RgC i j c ((j - i + c - 1) / c).toNat := by
  have a := b62_ok hi
  have b := b62_ok hj
  have key : Builtin.Range.rangeSize i j c = (((j - i + c - 1) / c).toNat : Int) := by
    unfold Builtin.Range.rangeSize
    rw [if_pos hc.1]
    split
    · have e : j - i + c - 1 = (j - i - 1) + c * 1 := by omega
      rw [e, Int.add_mul_ediv_left _ _ (by omega)]
      have := Int.ediv_nonneg (a := j - i - 1) (b := c) (by omega) (by omega)
      omega
    · have : (j - i + c - 1) / c ≤ 0 := by
        by_cases z : j - i + c - 1 < 0
        · have := Int.ediv_neg_of_neg_of_pos z hc.1; omega
        · rw [Int.ediv_eq_zero_of_lt (by omega) (by omega)]; omega
      omega
  have hz : Builtin.Range.rangeSize i j c ≤ 2 ^ 63 - 1 := by
    unfold Builtin.Range.rangeSize
    rw [if_pos hc.1]
    split
    · have := Int.ediv_le_self c (show (0 : Int) ≤ j - i - 1 by omega); omega
    · omega
  refine ⟨by omega, by omega, ?_, key⟩
  unfold Builtin.Range.small
  simp only [Builtin.Range.rangeFitsLong, Bool.and_eq_true, Bool.or_eq_true, decide_eq_true_eq, beq_iff_eq]
  refine ⟨⟨⟨⟨⟨by omega, by omega⟩, by omega, by omega⟩, by omega, by omega⟩, by rw [key]; omega, by omega⟩, .inr ?_⟩
  rw [if_pos hc.1, Bool.and_eq_true, decide_eq_true_eq, decide_eq_true_eq]
  omega
theorem pi_rng3 {tg a b c : Expr} {f : Env → Store → R D} {p pos : Pos} (hg : Gl X "range") (hm : X.mg "range" = none) (hs : notStar a = true) (hs2 : notStar b = true) (hs3 : notStar c = true) (ha : PA X [a, b, c] (tA K nm Wi f)) : PI X tg (.Call (.Name "range" p) [a, b, c] [] pos) (tI K nm Wi .rng3 f) := by
  refine pi_args (es := [a, b, c]) (wi := iRng3) (fun _ => rfl) (pi_range3 hg hm ha (star_ok hs) (by rw [star_ok hs2, star_ok hs3]; rfl)) (fun q h => tA.mono q fun v H z => h v H z) fun r p1 e z => ?_
  simp only [mkIt] at e
  split at e <;> try (rename_i h; cases h; done)
  all_goals first | (cases e; done) | skip
  rename_i i j c h
  split at e
  · rename_i hb
    cases e
    simp only [Bool.and_eq_true] at hb
    cases p1 with | cons q1 p1 => cases p1 with | cons q2 p1 => cases p1 with | cons q3 p1 =>
    cases p1; cases q1; cases q2; cases q3
    exact ⟨_, _, _, _, rfl, rangeC_ok hb.1.1 hb.1.2 (tst_iff.mp hb.2), z _ ⟨wlk_rangeC, fun _ _ => wlk_rangeC⟩⟩
  · cases e
theorem pi_enumR {a : Expr} {f : Env → Store → R D} {p pos tpos : Pos} {elts : List Expr} {q : Nat} (hK : X.K = K) (hg : Gl X "enumerate") (hm : X.mg "enumerate" = none) (hs : notStar a = true) (ha : PA X [a] (tA K nm Wi f)) :
    PI X (.Tuple elts q tpos) (.Call (.Name "enumerate" p) [a] [] pos) (tI K nm Wi .enum f) := by
  subst hK
  refine pi_args (es := [a]) (wi := iEnumA X.K) (fun _ => rfl) (pi_enumA hg hm ha (star_one hs)) (fun q h => tA.mono q fun v H z => h v H z) fun r p1 e z => ?_
  simp only [mkIt] at e
  split at e <;> try (rename_i h; cases h; done)
  all_goals first | (cases e; done) | skip
  · cases e
    obtain ⟨v, rfl, q1⟩ := reps1 p1
    cases q1 with | tup h1 h2 => exact ⟨_, _, rfl, .inr ⟨h1, z _ (.enumT r.trk h1 h2)⟩⟩
  · cases e
    obtain ⟨v, rfl, q1⟩ := reps1 p1
    cases q1 with | lst h1 n1 b1 h2 => exact ⟨_, _, rfl, .inl ⟨.inl h1, z _ (.enumL r.trk h1 n1 h2)⟩⟩
  · split at e
    · rename_i hs'
      cases e
      obtain ⟨v, rfl, q1⟩ := reps1 p1
      cases q1 with | ref h1 =>
      obtain ⟨vs, h2, h3⟩ := r.ob _ _ _ h1 hs'
      exact ⟨_, vs, rfl, .inl ⟨.inl (.inl h2), z _ ⟨_, h1, rfl⟩⟩⟩
    · cases e
/-! ### targets -/
structure ERepO (K : PySem.W.Frag) (W : Wd) (H : Hp) (env : Env) (σ : L2.St) (sl : List Nat) : Prop where
  len : env.length = σ.length
  get : ∀ (i : Nat) (d : D), i ∉ sl → env[i]? = some (some d) → ∃ v : V, σ[i]? = some (some v) ∧ Rep K W H d v
theorem ERep.o {W : Wd} {H : Hp} {env : Env} {σ : L2.St} (E : ERep K W H env σ) (sl : List Nat) : ERepO K W H env σ sl := ⟨E.len, fun i d _ h => E.get i d h⟩
theorem ERepO.set {W : Wd} {H : Hp} {env : Env} {σ : L2.St} {i : Nat} {sl : List Nat} {d : D} {v : V} (E : ERepO K W H env σ (i :: sl)) (p : Rep K W H d v) : ERepO K W H (env.set i (some d)) (σ.set i (some v)) sl := by
  refine ⟨by simp [E.len], fun j d' hj h => ?_⟩
  by_cases e : i = j
  · subst e
    by_cases hl : i < env.length
    · rw [List.getElem?_set_self hl] at h
      cases h
      exact ⟨v, by rw [List.getElem?_set_self (by rw [← E.len]; exact hl)], p⟩
    · rw [List.getElem?_eq_none (by simpa using hl)] at h
      cases h
  · rw [List.getElem?_set_ne e] at h
    obtain ⟨v', a, b⟩ := E.get j d' (by simp only [List.mem_cons, not_or]; exact ⟨fun z => e z.symm, hj⟩) h
    exact ⟨v', by rw [List.getElem?_set_ne e]; exact a, b⟩
theorem ERepO.nil {W : Wd} {H : Hp} {env : Env} {σ : L2.St} (E : ERepO K W H env σ []) : ERep K W H env σ := ⟨E.len, fun i d h => E.get i d (by simp) h⟩
theorem wipe_comm {σ : L2.St} {v : Nat} {x : Option V} : ∀ {vs : List Nat}, wipe (σ.set v x) (v :: vs) = wipe σ (v :: vs) := by
  have key : ∀ (vs : List Nat) (σ : L2.St), (wipe (σ.set v x) vs).set v none = (wipe σ vs).set v none := by
    intro vs
    induction vs with
    | nil => intro σ; show (σ.set v x).set v none = σ.set v none; rw [List.set_set]
    | cons u us ih =>
      intro σ
      show ((wipe (σ.set v x) us).set u none).set v none = ((wipe σ us).set u none).set v none
      by_cases e : u = v
      · subst e; rw [List.set_set, List.set_set, ih]
      · rw [List.set_comm _ _ e, ih, List.set_comm _ _ (Ne.symm e)]
  exact fun {vs} => key vs σ
theorem wipe_same {σ σ' : L2.St} {v : Nat} {vs : List Nat} (h : wipe σ vs = wipe σ' vs) : wipe σ (v :: vs) = wipe σ' (v :: vs) := by
  show (wipe σ vs).set v none = (wipe σ' vs).set v none
  rw [h]
def gTg (K : PySem.W.Frag) (tg : Tg) : TG := fun v σ H Q => ∃ W d env env', ERepO K W H env σ (slots tg) ∧ Rep K W H d v ∧ bindT tg d env = some env' ∧ ∀ σ', ERep K W H env' σ' → wipe σ' (slots tg) = wipe σ (slots tg) → Q σ' H
theorem pg_one {fl : Bool} (hN : X.N = N) (nd : N.Nodup) (hs : X.env.scope = sc) (hf : fl = true → ∀ x, X.fn x = true) {i : Nat} {e : Expr} (h : tgN N fl sc i e = true) : PG X e (gName i) ∧ ∀ es env, starEach (e :: es) env = (false, eval e env) :: starEach es env ∧ assignEach (e :: es) env = (false, assign e env) :: assignEach es env := by
  cases e <;> simp only [tgN] at h <;> first | (cases h; done) | skip
  simp only [Bool.and_eq_true, Bool.or_eq_true, decide_eq_true_eq] at h
  obtain ⟨h1, h2⟩ := h
  subst hN hs
  refine ⟨?_, fun es env => ⟨rfl, rfl⟩⟩
  rcases h2 with h2 | ⟨h3, h2⟩
  · exact pg_name nd h1 (.inl h2) (.inr h2)
  · exact pg_name nd h1 (.inr h2) (.inl (hf h3 _))
def gNames : List Nat → TGs
  | [] => gNil
  | i :: is => gCons (gName i) (gNames is)
theorem pgs_ok {fl : Bool} (hN : X.N = N) (nd : N.Nodup) (hs : X.env.scope = sc) (hf : fl = true → ∀ x, X.fn x = true) : ∀ {is : List Nat} {es : List Expr}, tgNs N fl sc is es = true →
    PGs X es (gNames is) ∧ (∀ env, (assignEach es env).length = is.length) ∧ ∀ env, (assignEach es env).findIdx? (·.1) = none
  | [], [], _ => ⟨pgs_nil, fun _ => rfl, fun _ => rfl⟩
  | [], _ :: _, h => by cases h
  | _ :: _, [], h => by cases h
  | i :: is, e :: es, h => by
    simp only [tgNs, Bool.and_eq_true] at h
    obtain ⟨a, b⟩ := pg_one hN nd hs hf h.1
    obtain ⟨c, d, f⟩ := pgs_ok hN nd hs hf h.2
    exact ⟨pgs_cons a c (by rw [(b es _).2]; rfl), fun env => by rw [(b es _).2]; simp [d], fun env => by rw [(b es _).2]; simp [List.findIdx?_cons, f]⟩
theorem gNames_ok {W : Wd} {H : Hp} : ∀ {is : List Nat} {xs : List D} {vs : List V} {env env' : Env} {σ : L2.St} {Q : L2.St → Hp → Prop}, ERepO K W H env σ is → Reps K W H xs vs → bindL is xs env = some env' →
    (∀ σ', ERep K W H env' σ' → wipe σ' is = wipe σ is → Q σ' H) → gNames is vs σ H Q
  | [], [], _, env, env', σ, Q, E, .nil, h, q => by
    cases h
    exact ⟨rfl, q _ E.nil rfl⟩
  | [], _ :: _, _, env, env', σ, Q, E, _, h, q => by cases h
  | _ :: _, [], _, env, env', σ, Q, E, _, h, q => by cases h
  | i :: is, x :: xs, _, env, env', σ, Q, E, .cons a b, h, q => by
    refine ⟨_, _, rfl, ?_⟩
    refine gNames_ok (E.set a) b h fun σ' E' hw => q σ' E' ?_
    rw [wipe_same hw, wipe_comm]
theorem pg_ok {fl : Bool} {tg : Tg} {t : Expr} (hK : X.K = K) (hN : X.N = N) (nd : N.Nodup) (hs : X.env.scope = sc) (hc : X.calm = true) (hf : fl = true → ∀ x, X.fn x = true) (h : tgC N fl sc tg t = true) : PG X t (gTg K tg) := by
  subst hK
  cases tg with
  | one i =>
    obtain ⟨a, _⟩ := pg_one hN nd hs hf h
    refine ⟨fun pins s σ H v u Q I r q => a.run pins s σ H v u Q I r ?_⟩
    obtain ⟨W, d, env, env', E, p, hb, q⟩ := q
    cases hb
    exact q _ (E.set p).nil (wipe_comm (vs := []))
  | many is =>
    cases t <;> simp only [tgC] at h <;> first | (cases h; done) | skip
    obtain ⟨a, b, c⟩ := pgs_ok hN nd hs hf h
    refine ⟨fun pins s σ H v u Q I r q => (pg_tup hc a (b _) (c _)).run pins s σ H v u Q I r ?_⟩
    obtain ⟨W, d, env, env', E, p, hb, q⟩ := q
    cases p <;> simp only [bindT] at hb <;> first | (cases hb; done) | skip
    rename_i xs a' vs h1 h2
    refine ⟨a', vs, rfl, h1, ?_, gNames_ok E h2 hb q⟩
    have key : ∀ {is : List Nat} {xs : List D} {env env' : Env}, bindL is xs env = some env' → xs.length = is.length := by
      intro is
      induction is with
      | nil => intro xs env env' h; cases xs <;> first | rfl | cases h
      | cons i is ih => intro xs env env' h; cases xs with
        | nil => cases h
        | cons x xs => simp [ih h]
    rw [h2.lens]; exact key hb
end
end PL

set_option Elab.async false
set_option linter.all false
set_option maxRecDepth 100000
set_option maxHeartbeats 2000000
/-! PLL: list comprehensions. -/
namespace PL
open PySem PySem.Spec PyProof.Rows L2
section
variable {P : Program} {w : World} {K : PySem.W.Frag} {mg : Str → Option Value} {base : Heap} {G : Tab} {Y : Sx} {nm : Nm} {fa : Nat → Addr} {fd : Nat → FuncData} {ps : Nat → List Str} {kk : Nat} {N : List Str}
variable {sc : Scope} {X : Cx} {Wi : WX}
theorem fold_ok {e : Expr} (h : isSet e = false) (env : PySem.Env) (x : Value) : foldedSetIterable e env x = pure x := by
  cases e <;> first | rfl | cases h
theorem blk_ok {s : Shared} {H : Hp} {scope : Scope} {cl : List (Str × Addr)} {Ca : Addr} {fp : List Addr} {σ0 : L2.St} (C : COk P w K mg base kk N sc X) : COk P w K mg base kk N (relS scope sc) (blkX X Wi σ0 s H scope (compEnvC scope cl Ca X.env) fp) :=
  ⟨C.hP, C.hw, C.hK, C.hm, C.hb, C.hN, C.nd, by rw [← C.sc]; rfl, C.room, C.calm, let ⟨e0, o0, L, h1, h2, h3⟩ := C.fr; ⟨e0, o0, L, h1, h2, h3⟩⟩
abbrev noX : WX := fun _ _ _ _ => False
theorem ext_loop {W1 W2 W4 : Wd} {H1 H H4 : Hp} {Dl : Addr} {o : HO} (e : Ext W1 H1 W2 H) (t : Trk W2 H) (e4 : Ext (W2.add Dl) H W4 H4) (n : H1 Dl = none) : Ext W1 H1 ⟨W4.m, W1.B⟩ (upd H4 Dl o) := by
  have e5 : Ext W2 H ⟨W4.m, W2.B⟩ H4 := ⟨rfl, e4.m, e4.keep, e4.fz⟩
  have e6 := e.trans t e5
  refine ⟨rfl, e6.m, fun a u h na => ?_, fun a od u h => ?_⟩
  · rw [upd_ne (ne_of_none h n)]
    exact e6.keep a u h na
  · rw [upd_ne (ne_of_none h n)]
    exact e6.fz a od u h
theorem wd_eta {W2 W4 : Wd} {Dl : Addr} (h : W4.B = (W2.add Dl).B) : W4 = (⟨W4.m, W2.B⟩ : Wd).add Dl := by
  cases W4; cases h; rfl
theorem wipe_set {v : Nat} : ∀ (us : List Nat) (σ : L2.St), wipe (σ.set v none) us = (wipe σ us).set v none
  | [], _ => rfl
  | u :: us, σ => by
    show (wipe (σ.set v none) us).set u none = ((wipe σ us).set u none).set v none
    rw [wipe_set us]
    by_cases e : v = u
    · subst e; rfl
    · rw [List.set_comm _ _ e]
theorem wipe_idem (σ : L2.St) : ∀ vs : List Nat, wipe (wipe σ vs) vs = wipe σ vs
  | [] => rfl
  | v :: vs => by
    show (wipe ((wipe σ vs).set v none) vs).set v none = (wipe σ vs).set v none
    rw [wipe_set, wipe_idem σ vs, List.set_set]
/-- the target, the test, the element, of a turn -/
noncomputable def cBody (G : Tab) (call : Calls) (tg : Tg) (c e : E) (env : Env) : D → Store → R (Option D) := fun x S => match bindT tg x env with
  | some env' => (mapT (ev G call c env' S)).bind fun k S => if k then (ev G call e env' S).bind fun y S => .ok (some y) S else .ok none S
  | none => .bad
theorem ext_back {W1 W2 W4 : Wd} {H1 H H4 : Hp} {Dl : Addr} (e : Ext W1 H1 W2 H) (t : Trk W2 H) (e4 : Ext (W2.add Dl) H W4 H4) : Ext W1 H1 ⟨W4.m, W1.B⟩ H4 := by
  have e5 : Ext W2 H ⟨W4.m, W2.B⟩ H4 := ⟨rfl, e4.m, e4.keep, e4.fz⟩
  have e6 := e.trans t e5
  exact ⟨rfl, e6.m, e6.keep, e6.fz⟩
/-- b is a, perhaps quiet -/
def Quk (a b : D → Store → R (Option D)) : Prop := ∀ x S, (∀ o S', a x S = .ok o S' → b x S = .ok o S') ∧ (a x S = .bad → b x S = .bad) ∧ ∀ c S', a x S = .ex c S' → b x S = .bad ∨ b x S = .ex c S'
theorem quk (k : IK) (a : D → Store → R (Option D)) : Quk a (qk k a) := by
  intro x S
  cases k <;> first | (refine ⟨fun o S' h => ?_, fun h => ?_, fun c S' h => .inl ?_⟩ <;> (show (a x S).quiet = _; rw [h]; rfl)) | exact ⟨fun o S' h => h, fun h => h, fun c S' h => .inr h⟩
/-- a turn: its target, test and element -/
theorem comp_turn {call : Calls} {tg : Tg} {c e : E} {env : Env} {σ : L2.St} {W1 : Wd} {H1 : Hp} {S1 S2 : Store} {Dl : Addr} {m2 : List Addr} {acc : List D} {av : List V} {H H' : Hp} {d : D} {x : V} {bd : D → Store → R (Option D)} {kn : List D → Store → R (List D)} {res : R (List D)} {Nx : Hp → Prop}
    (E : ERep K W1 H1 env σ) (r1 : Rel K nm W1 S1 H1) (hD : H1 Dl = none) (hbd : Quk (cBody G call tg c e env) bd) (e1 : Ext W1 H1 ⟨m2, W1.B⟩ H) (r2 : Rel K nm ((⟨m2, W1.B⟩ : Wd).add Dl) S2 H) (hd : H Dl = some (.lst av)) (p2 : Reps K ((⟨m2, W1.B⟩ : Wd).add Dl) H acc av)
    (ex : Ext ((⟨m2, W1.B⟩ : Wd).add Dl) H ((⟨m2, W1.B⟩ : Wd).add Dl) H') (keep : ∀ a o, H a = some o → H' a = some o) (rep : Rep K ((⟨m2, W1.B⟩ : Wd).add Dl) H' d x)
    (eq : res = (bd d S2).bind fun o S' => match o with
      | some y => if acc.length < SZ then kn (acc ++ [y]) S' else .bad
      | none => kn acc S')
    (nb : res ≠ .bad) (exc : ∀ c' Sf m3 H3, res = .ex c' Sf → Ext W1 H1 ⟨m3, W1.B⟩ H3 → Rel K nm ⟨m3, W1.B⟩ Sf H3 → Wi (.ref (nm.X c')) none σ H3)
    (hNx : ∀ m3 S3 acc' av' H3, Ext W1 H1 ⟨m3, W1.B⟩ H3 → Rel K nm ((⟨m3, W1.B⟩ : Wd).add Dl) S3 H3 → H3 Dl = some (.lst av') → Reps K ((⟨m3, W1.B⟩ : Wd).add Dl) H3 acc' av' → res = kn acc' S3 → Nx H3) :
    gTg K tg x (wipe σ (slots tg)) H' fun σ2 H2 => wipe σ2 (slots tg) = wipe σ (slots tg) ∧ tT K nm (WB Wi σ) (fun env S => mapT (ev G call c env S)) σ2 H2 fun b H3 =>
        if b = true then tE K nm (WB Wi σ) (ev G call e) σ2 H3 fun y H4 => ∃ acc, H4 Dl = some (.lst acc) ∧ acc.length < sizeLine ∧ Nx (upd H4 Dl (.lst (acc ++ [y]))) else Nx H3 := by
  have r2' := r2.grow ex keep
  have t2 : Trk ((⟨m2, W1.B⟩ : Wd).add Dl) H := r2.trk
  have hDm : Dl ∉ m2 := (r2.bs Dl (List.mem_cons_self)).1
  obtain ⟨q1, q2, q3⟩ := hbd d S2
  cases hb : bindT tg d env with
  | none =>
    rw [q2 (by simp only [cBody, hb])] at eq
    exact absurd eq nb
  | some env' =>
    have EB : ERep K ((⟨m2, W1.B⟩ : Wd).add Dl) H' env σ := (E.monoB r1.trk e1 hD).mono t2 ex
    refine ⟨(⟨m2, W1.B⟩ : Wd).add Dl, d, env, env', ⟨by rw [EB.len, wipe_length], fun j d' hj h => ?_⟩, rep, hb, fun σ' E' hw => ⟨hw.trans (wipe_idem _ _), ?_⟩⟩
    · obtain ⟨v, a, b⟩ := EB.get j d' h
      exact ⟨v, by rw [wipe_out hj]; exact a, b⟩
    · refine ⟨(⟨m2, W1.B⟩ : Wd).add Dl, S2, env', E', r2', ?_⟩
      have cb : cBody G call tg c e env d S2 = (mapT (ev G call c env' S2)).bind fun k S => if k then (ev G call e env' S).bind fun y S => .ok (some y) S else .ok none S := by simp only [cBody, hb]
      cases hc : mapT (ev G call c env' S2) with
      | bad =>
        rw [hc] at cb
        rw [q2 cb] at eq
        exact absurd eq nb
      | ex c' S3 =>
        rw [hc] at cb
        rcases q3 c' S3 cb with h | h
        · rw [h] at eq; exact absurd eq nb
        · rw [h] at eq
          dsimp only
          rw [hc]
          intro W3 H3 e3 r3
          have w3 := wd_eta e3.B
          exact exc c' S3 W3.m H3 eq (ext_back e1 (fun a ha => t2 a ha) (ex.trans r2'.trk e3)) (w3 ▸ r3 : Rel K nm ((⟨W3.m, W1.B⟩ : Wd).add Dl) S3 H3).delB
      | ok b S3 =>
        rw [hc] at cb
        simp only [R.bind_ok] at cb
        dsimp only
        rw [hc]
        intro b' W3 H3 e3 r3 pb
        cases (show b = b' from pb)
        have hd3 : H3 Dl = some (.lst av) := e3.keep _ _ (keep _ _ hd) hDm
        have w3 := wd_eta e3.B
        have e13 := ext_back e1 (fun a ha => t2 a ha) (ex.trans r2'.trk e3)
        cases b with
        | false =>
          simp only [Bool.false_eq_true, if_false] at cb ⊢
          rw [q1 _ _ cb] at eq
          exact hNx W3.m S3 acc av H3 e13 (w3 ▸ r3) hd3 (w3 ▸ ((p2.mono t2 ex).mono r2'.trk e3)) eq
        | true =>
          simp only [if_true] at cb ⊢
          refine ⟨W3, S3, env', E'.mono r2'.trk e3, r3, ?_⟩
          cases he : ev G call e env' S3 with
          | bad =>
            rw [he] at cb
            rw [q2 cb] at eq
            exact absurd eq nb
          | ex c' S4 =>
            rw [he] at cb
            rcases q3 c' S4 cb with h | h
            · rw [h] at eq; exact absurd eq nb
            · rw [h] at eq
              intro W4 H4 e4 r4
              have w4 := wd_eta (e4.B.trans e3.B)
              exact exc c' S4 W4.m H4 eq (ext_back e1 (fun a ha => t2 a ha) ((ex.trans r2'.trk e3).trans r3.trk e4)) (w4 ▸ r4 : Rel K nm ((⟨W4.m, W1.B⟩ : Wd).add Dl) S4 H4).delB
          | ok y S4 =>
            rw [he] at cb
            simp only [R.bind_ok] at cb
            rw [q1 _ _ cb] at eq
            simp only [R.bind_ok] at eq
            intro v W4 H4 e4 r4 p4
            have hDm3 : Dl ∉ W3.m := (r3.bs Dl (by rw [e3.B]; exact List.mem_cons_self)).1
            have hd4 : H4 Dl = some (.lst av) := e4.keep _ _ hd3 hDm3
            have w4 := wd_eta (e4.B.trans e3.B)
            have p2' := (((p2.mono t2 ex).mono r2'.trk e3).mono r3.trk e4)
            by_cases hz : acc.length < SZ
            · rw [if_pos hz] at eq
              refine ⟨av, hd4, by rw [p2.lens, ← SZ_eq]; exact hz, hNx W4.m S4 (acc ++ [y]) (av ++ [v]) _ (ext_loop e1 (fun a ha => t2 a ha) ((ex.trans r2'.trk e3).trans r3.trk e4) hD) ?_ upd_same ?_ eq⟩
              · rw [w4] at r4
                exact r4.putB (fun _ _ q => q.putB hd4) (fun _ _ q => q.putB hd4) (fun _ _ q => q.putB hd4)
              · rw [w4] at p2' p4
                exact (p2'.putB hd4).append (.cons (p4.putB hd4) .nil)
            · rw [if_neg hz] at eq
              exact absurd eq nb
/-- the reading of a comprehension's loop -/
abbrev CLoop (K : PySem.W.Frag) (nm : Nm) (G : Tab) (Wi : WX) (call : Calls) (tg : Tg) (c e : E) (σ : L2.St) (H1 : Hp) (J : It) (Q : VK) : Prop := ∀ Dl, H1 Dl = none → ∃ Wm : Nat → Nat → Hp → Prop, (∃ m, Wm 0 m (upd H1 Dl (.lst []))) ∧ ∀ i m H, Wm i m H →
      (J.stop i H ∧ Q (.ref Dl) H) ∨ (J.go i H ∧ ∃ Nx : Hp → Prop, (∀ H', Nx H' → ∃ m', m' < m ∧ Wm (i + 1) m' H') ∧ ∀ x H', J.yld i H x H' → gTg K tg x (wipe σ (slots tg)) H' fun σ2 H2 => wipe σ2 (slots tg) = wipe σ (slots tg) ∧ tT K nm (WB Wi σ) (fun env S => mapT (ev G call c env S)) σ2 H2 fun b H3 =>
        if b = true then tE K nm (WB Wi σ) (ev G call e) σ2 H3 fun y H4 => ∃ acc, H4 Dl = some (.lst acc) ∧ acc.length < sizeLine ∧ Nx (upd H4 Dl (.lst (acc ++ [y]))) else Nx H3)
/-- over items -/
theorem comp_items {call : Calls} {tg : Tg} {c e : E} {env : Env} {σ : L2.St} {W1 : Wd} {H1 : Hp} {S1 : Store} {J : It} {xs : List D} {Q : VK} {bd : D → Store → R (Option D)}
    (E : ERep K W1 H1 env σ) (r1 : Rel K nm W1 S1 H1) (hJ : ItOk K nm W1 H1 J xs) (hbd : Quk (cBody G call tg c e env) bd) (nb : goComp bd xs [] S1 ≠ .bad)
    (exc : ∀ c' Sf m3 H3, goComp bd xs [] S1 = .ex c' Sf → Ext W1 H1 ⟨m3, W1.B⟩ H3 → Rel K nm ⟨m3, W1.B⟩ Sf H3 → Wi (.ref (nm.X c')) none σ H3)
    (fin : ∀ ys Sf, goComp bd xs [] S1 = .ok ys Sf → ∀ (Dl : Addr) (m2 : List Addr) (av : List V) (H : Hp), H1 Dl = none → Ext W1 H1 ⟨m2, W1.B⟩ H → Rel K nm ((⟨m2, W1.B⟩ : Wd).add Dl) Sf H → H Dl = some (.lst av) → Reps K ((⟨m2, W1.B⟩ : Wd).add Dl) H ys av → Q (.ref Dl) H) :
    CLoop K nm G Wi call tg c e σ H1 J Q := by
  intro Dl hD
  obtain ⟨Gd, Yd, wk, st, yl⟩ := hJ.2 Dl hD
  refine lc_it wk (fun i H => ∃ (m2 : List Addr) (S2 : Store) (acc : List D) (av : List V), Ext W1 H1 ⟨m2, W1.B⟩ H ∧ Rel K nm ((⟨m2, W1.B⟩ : Wd).add Dl) S2 H ∧ H Dl = some (.lst av) ∧ Reps K ((⟨m2, W1.B⟩ : Wd).add Dl) H acc av ∧
    goComp bd xs [] S1 = goComp bd (xs.drop i) acc S2) ?_ ?_ ?_ ?_
  · exact ⟨W1.m, S1, [], [], Ext.alloc hD, r1.addB hD, upd_same, .nil, rfl⟩
  · rintro i H hi ⟨m2, S2, acc, av, e1, r2, hd, p2, eq⟩
    exact st _ _ ⟨_, rfl, e1⟩
  · rintro i x H H' hi ⟨m2, S2, acc, av, e1, r2, hd, p2, eq⟩ y
    obtain ⟨d, hx, ex, keep, rep⟩ := yl i _ S2 H x H' hi ⟨_, rfl, e1⟩ r2 y
    have hdrop : xs.drop i = d :: xs.drop (i + 1) := by
      obtain ⟨hl, hv⟩ := List.getElem?_eq_some_iff.mp hx
      rw [List.drop_eq_getElem_cons hl, hv]
    rw [hdrop] at eq
    exact comp_turn (kn := goComp bd (xs.drop (i + 1))) E r1 hD hbd e1 r2 hd p2 ex keep rep eq nb exc fun m3 S3 acc' av' H3 g1 g2 g3 g4 g5 => ⟨m3, S3, acc', av', g1, g2, g3, g4, g5⟩
  · rintro H ⟨m2, S2, acc, av, e1, r2, hd, p2, eq⟩
    rw [List.drop_eq_nil_of_le (Nat.le_refl _)] at eq
    simp only [goComp] at eq
    exact fin _ _ eq Dl m2 av H hD e1 r2 hd p2
/-- over a list of the store -/
theorem comp_live {call : Calls} {tg : Tg} {c e : E} {env : Env} {σ : L2.St} {W1 : Wd} {H1 : Hp} {S1 : Store} {n : Nat} {en : Bool} {a : Addr} {Q : VK} {bd : D → Store → R (Option D)}
    (E : ERep K W1 H1 env σ) (r1 : Rel K nm W1 S1 H1) (ha : W1.m[n]? = some a) (hbd : Quk (cBody G call tg c e env) bd) (nb : goCompL n en bd LOOP 0 [] S1 ≠ .bad)
    (exc : ∀ c' Sf m3 H3, goCompL n en bd LOOP 0 [] S1 = .ex c' Sf → Ext W1 H1 ⟨m3, W1.B⟩ H3 → Rel K nm ⟨m3, W1.B⟩ Sf H3 → Wi (.ref (nm.X c')) none σ H3)
    (fin : ∀ ys Sf, goCompL n en bd LOOP 0 [] S1 = .ok ys Sf → ∀ (Dl : Addr) (m2 : List Addr) (av : List V) (H : Hp), H1 Dl = none → Ext W1 H1 ⟨m2, W1.B⟩ H → Rel K nm ((⟨m2, W1.B⟩ : Wd).add Dl) Sf H → H Dl = some (.lst av) → Reps K ((⟨m2, W1.B⟩ : Wd).add Dl) H ys av → Q (.ref Dl) H) :
    CLoop K nm G Wi call tg c e σ H1 (if en then Ite K a else Itl K a) Q := by
  intro Dl hD
  refine ⟨fun i m H => ∃ (m2 : List Addr) (S2 : Store) (acc : List D) (av : List V), Ext W1 H1 ⟨m2, W1.B⟩ H ∧ Rel K nm ((⟨m2, W1.B⟩ : Wd).add Dl) S2 H ∧ H Dl = some (.lst av) ∧ Reps K ((⟨m2, W1.B⟩ : Wd).add Dl) H acc av ∧
    goCompL n en bd LOOP 0 [] S1 = goCompL n en bd m i acc S2, ⟨LOOP, W1.m, S1, [], [], Ext.alloc hD, r1.addB hD, upd_same, .nil, rfl⟩, ?_⟩
  rintro i m H ⟨m2, S2, acc, av, e1, r2, hd, p2, eq⟩
  cases m with
  | zero => exact absurd eq nb
  | succ m =>
    have ha2 : ((⟨m2, W1.B⟩ : Wd).add Dl).m[n]? = some a := by
      obtain ⟨t, h, _⟩ := e1.m
      show m2[n]? = some a
      rw [show m2 = W1.m ++ t from h]
      exact (List.getElem?_append_left (List.getElem?_eq_some_iff.mp ha).1).trans ha
    simp only [goCompL, itemAt] at eq
    cases hs : S2[n]? with
    | none => rw [hs] at eq; exact absurd eq nb
    | some o =>
      rw [hs] at eq
      cases o with
      | lst ys =>
        obtain ⟨vs, h1, h2⟩ := r2.ob n a _ ha2 hs
        dsimp only at eq
        cases hy : ys[i]? with
        | none =>
          rw [hy] at eq
          have stop : vs.length ≤ i := by rw [h2.lens]; exact List.getElem?_eq_none_iff.mp hy
          refine .inl ⟨?_, fin _ _ eq Dl m2 av H hD e1 r2 hd p2⟩
          cases en with
          | true => exact ⟨vs, SqL.of h1, stop⟩
          | false => exact ⟨vs, SqL.of h1, stop⟩
        | some d =>
          rw [hy] at eq
          obtain ⟨v, h3, h4⟩ := h2.get hy
          refine .inr ⟨?_, fun H => ∃ (m2 : List Addr) (S2 : Store) (acc : List D) (av : List V), Ext W1 H1 ⟨m2, W1.B⟩ H ∧ Rel K nm ((⟨m2, W1.B⟩ : Wd).add Dl) S2 H ∧ H Dl = some (.lst av) ∧ Reps K ((⟨m2, W1.B⟩ : Wd).add Dl) H acc av ∧
            goCompL n en bd LOOP 0 [] S1 = goCompL n en bd m (i + 1) acc S2, fun H' q => ⟨m, Nat.lt_succ_self _, q⟩, ?_⟩
          · cases en with
            | true => exact ⟨vs, v, SqL.of h1, h3⟩
            | false => exact ⟨vs, v, SqL.of h1, h3⟩
          · intro x H' yl
            cases en with
            | false =>
              obtain ⟨rfl, hx⟩ := yl
              have := hx vs (SqL.of h1)
              rw [h3] at this
              cases this
              exact comp_turn (kn := goCompL n false bd m (i + 1)) E r1 hD hbd e1 r2 hd p2 Ext.refl (fun _ _ z => z) h4 eq nb exc fun m3 S3 acc' av' H3 g1 g2 g3 g4 g5 => ⟨m3, S3, acc', av', g1, g2, g3, g4, g5⟩
            | true =>
              obtain ⟨T, x1, rfl, hT, rfl, hx⟩ := yl
              have := hx vs (SqL.of h1)
              rw [h3] at this
              cases this
              obtain ⟨z1, z2, z3⟩ := pair_new r2 hT (.int (i : Nat)) h4
              exact comp_turn (kn := goCompL n true bd m (i + 1)) E r1 hD hbd e1 r2 hd p2 z1 z2 z3 eq nb exc fun m3 S3 acc' av' H3 g1 g2 g3 g4 g5 => ⟨m3, S3, acc', av', g1, g2, g3, g4, g5⟩
      | _ => exact absurd eq nb
theorem itArgs_no {b : List Str} {t iter : Expr} {k : IK} (h : k = .items ∨ k = .keys) : itArgs b k sc t iter = none := by
  unfold itArgs
  split
  · split
    · rcases h with rfl | rfl <;> rfl
    · rfl
  · rfl
theorem star3 {as : E} {e e' e'' : Expr} {es : List Expr} (h : chkA Y N as sc (e :: e' :: e'' :: es) = true) : notStar e'' = true := by
  cases as <;> simp only [chkA, Bool.and_eq_true] at h <;> first | (cases h; done) | exact star2 h.2
theorem pi_src (g : GOk K mg G Y nm fa fd ps) {k : IK} {src : E} (is : Snd P w K mg base G Y nm kk N src) (C : COk P w K mg base kk N sc X) (tk : Tk X Wi) {t iter : Expr}
    (h : (match k with
        | .plain => chk Y N src sc iter
        | .keys => isVarE src && chk Y N src sc iter
        | .keysR => srcV src && chk Y N src sc iter
        | k => match itArgs Y.blN k sc t iter with
          | some es => chkA Y N src sc es
          | none => false) = true) (hk : k ≠ .keys ∧ k ≠ .keysR) : PI X t iter (tI K nm Wi k (ev G (run G kk) src)) := by
  cases k with
  | plain => exact pi_plain C.hK (is.v _ _ X Wi h C tk)
  | rng1 =>
    simp only [itArgs] at h
    split at h <;> try (cases h; done)
    rename_i es hes
    split at hes <;> try (cases hes; done)
    split at hes <;> try (cases hes; done)
    rename_i hg
    simp only [Bool.and_eq_true, decide_eq_true_eq] at hg
    split at hes <;> try (cases hes; done)
    all_goals try (rename_i hk; cases hk; done)
    split at hes <;> try (cases hes; done)
    rename_i hr
    cases hes
    subst hr
    exact pi_rng1 (gl_ok C hg.1) (by rw [C.hm]; exact g.bl _ hg.2) (star1 h) (is.l _ _ X Wi h C tk)
  | rng2 =>
    simp only [itArgs] at h
    split at h <;> try (cases h; done)
    rename_i es hes
    split at hes <;> try (cases hes; done)
    split at hes <;> try (cases hes; done)
    rename_i hg
    simp only [Bool.and_eq_true, decide_eq_true_eq] at hg
    split at hes <;> try (cases hes; done)
    all_goals try (rename_i hk; cases hk; done)
    split at hes <;> try (cases hes; done)
    rename_i hr
    cases hes
    subst hr
    have h2 : notStar _ = true := star2 h
    exact pi_rng2 (gl_ok C hg.1) (by rw [C.hm]; exact g.bl _ hg.2) (star1 h) h2 (is.l _ _ X Wi h C tk)
  | zip =>
    simp only [itArgs] at h
    split at h <;> try (cases h; done)
    rename_i es hes
    split at hes <;> try (cases hes; done)
    split at hes <;> try (cases hes; done)
    rename_i hg
    simp only [Bool.and_eq_true, decide_eq_true_eq] at hg
    split at hes <;> try (cases hes; done)
    all_goals try (rename_i hk; cases hk; done)
    split at hes <;> try (cases hes; done)
    rename_i hr
    cases hes
    obtain ⟨hr, ht⟩ := hr
    subst hr
    have h2 : notStar _ = true := star2 h
    cases t <;> simp only [isTup] at ht <;> first | (cases ht; done) | skip
    exact pi_zipR C.hK (gl_ok C hg.1) (by rw [C.hm]; exact g.bl _ hg.2) (star1 h) h2 (is.l _ _ X Wi h C tk)
  | keys => exact absurd rfl hk.1
  | rng3 =>
    simp only [itArgs] at h
    split at h <;> try (cases h; done)
    rename_i es hes
    split at hes <;> try (cases hes; done)
    split at hes <;> try (cases hes; done)
    rename_i hg
    simp only [Bool.and_eq_true, decide_eq_true_eq] at hg
    split at hes <;> try (cases hes; done)
    all_goals try (rename_i hk; cases hk; done)
    split at hes <;> try (cases hes; done)
    rename_i hr
    cases hes
    subst hr
    have h2 : notStar _ = true := star2 h
    have h3 : notStar _ = true := star3 h
    exact pi_rng3 (gl_ok C hg.1) (by rw [C.hm]; exact g.bl _ hg.2) (star1 h) h2 h3 (is.l _ _ X Wi h C tk)
  | enum =>
    simp only [itArgs] at h
    split at h <;> try (cases h; done)
    rename_i es hes
    split at hes <;> try (cases hes; done)
    split at hes <;> try (cases hes; done)
    rename_i hg
    simp only [Bool.and_eq_true, decide_eq_true_eq] at hg
    split at hes <;> try (cases hes; done)
    all_goals try (rename_i hk; cases hk; done)
    split at hes <;> try (cases hes; done)
    rename_i hr
    cases hes
    obtain ⟨hr, ht⟩ := hr
    subst hr
    cases t <;> simp only [isTup] at ht <;> first | (cases ht; done) | skip
    exact pi_enumR C.hK (gl_ok C hg.1) (by rw [C.hm]; exact g.bl _ hg.2) (star1 h) (is.l _ _ X Wi h C tk)
  | items =>
    dsimp only at h
    rw [itArgs_no (k := .items) (by simp)] at h
    cases h
  | keysR => exact absurd rfl hk.2
/-! ### a dict is locked while its keys are walked -/
/-- the heaps differ at a alone, a dict, locked or not -/
structure Swp (a : Addr) (vs : List (Key × V)) (H H' : Hp) : Prop where
  ne : ∀ b, b ≠ a → H' b = H b
  at1 : Rd H a (.dK vs)
  at2 : Rd H' a (.dK vs)
theorem Rd.uniq {H : Hp} {a : Addr} {us vs : List (Key × V)} (h : Rd H a (.dK us)) (h' : Rd H a (.dK vs)) : us = vs := by
  rcases h with h | ⟨o, h⟩ <;> rcases h' with h' | ⟨o', h'⟩ <;> (rw [h] at h'; cases h'; try rfl)
theorem Swp.tup {a b : Addr} {vs : List (Key × V)} {us : List V} {H H' : Hp} (q : Swp a vs H H') (h : SqT K H b us) : SqT K H' b us := by
  by_cases e : b = a
  · subst e
    rcases h with (h | ⟨o, h⟩) | h
    · rcases q.at1 with z | ⟨_, z⟩ <;> (rw [h] at z; cases z)
    · rcases q.at1 with z | ⟨_, z⟩ <;> (rw [h] at z; cases z)
    · exact .inr h
  · rcases h with (h | ⟨o, h⟩) | h
    · exact .inl (.inl (by rw [q.ne b e]; exact h))
    · exact .inl (.inr ⟨o, by rw [q.ne b e]; exact h⟩)
    · exact .inr h
theorem Swp.lst {a b : Addr} {vs : List (Key × V)} {us : List V} {H H' : Hp} (q : Swp a vs H H') (h : Rd H b (.lst us)) : Rd H' b (.lst us) := by
  by_cases e : b = a
  · subst e
    rcases h with h | ⟨o, h⟩
    · rcases q.at1 with z | ⟨_, z⟩ <;> (rw [h] at z; cases z)
    · rcases q.at1 with z | ⟨_, z⟩ <;> (rw [h] at z; cases z)
  · rcases h with h | ⟨o, h⟩
    · exact .inl (by rw [q.ne b e]; exact h)
    · exact .inr ⟨o, by rw [q.ne b e]; exact h⟩
theorem Swp.dct {a b : Addr} {vs us : List (Key × V)} {H H' : Hp} (q : Swp a vs H H') (h : Rd H b (.dK us)) : Rd H' b (.dK us) := by
  by_cases e : b = a
  · subst e
    rw [Rd.uniq h q.at1]
    exact q.at2
  · rcases h with h | ⟨o, h⟩
    · exact .inl (by rw [q.ne b e]; exact h)
    · exact .inr ⟨o, by rw [q.ne b e]; exact h⟩
theorem Swp.scr {a b : Addr} {vs : List (Key × V)} {ns : List Int} {H H' : Hp} (q : Swp a vs H H') (h : ScrAt K H b ns) : ScrAt K H' b ns := by
  by_cases e : b = a
  · subst e
    rcases h with ⟨o, h⟩ | h
    · rcases q.at1 with z | ⟨_, z⟩ <;> (rw [h] at z; cases z)
    · exact .inr h
  · rcases h with ⟨o, h⟩ | h
    · exact .inl ⟨o, by rw [q.ne b e]; exact h⟩
    · exact .inr h
mutual
theorem Rep.swp {W : Wd} {a : Addr} {us : List (Key × V)} {H H' : Hp} (q : Swp a us H H') : ∀ {d : D} {v : V}, Rep K W H d v → Rep K W H' d v
  | _, _, .non => .non
  | _, _, .bl b => .bl b
  | _, _, .int i => .int i
  | _, _, .str x => .str x
  | _, _, .tup h r => .tup (q.tup h) (Reps.swp q r)
  | _, _, .lst h n b r => .lst (q.lst h) n b (Reps.swp q r)
  | _, _, .dct h n b r => .dct (q.dct h) n b (RepK.swp q r)
  | _, _, .ref h => .ref h
  | _, _, .scr h => .scr (q.scr h)
theorem Reps.swp {W : Wd} {a : Addr} {us : List (Key × V)} {H H' : Hp} (q : Swp a us H H') : ∀ {d : List D} {v : List V}, Reps K W H d v → Reps K W H' d v
  | _, _, .nil => .nil
  | _, _, .cons r rs => .cons (Rep.swp q r) (Reps.swp q rs)
theorem RepK.swp {W : Wd} {a : Addr} {us : List (Key × V)} {H H' : Hp} (q : Swp a us H H') : ∀ {d : List (Ky × D)} {v : List (Key × V)}, RepK K W H d v → RepK K W H' d v
  | _, _, .nil => .nil
  | _, _, .cons r rs => .cons (Rep.swp q r) (RepK.swp q rs)
end
theorem Rel.swp {W : Wd} {S : Store} {a : Addr} {us : List (Key × V)} {H H' : Hp} (q : Swp a us H H') (n : a ∉ W.m) (nb : a ∉ W.B) (r : Rel K nm W S H) : Rel K nm W S H' := by
  refine ⟨r.len, r.nd, fun k b ob h1 h2 => ob_map (fun d v p => p.swp q) (fun d v p => p.swp q) (fun d v p => p.swp q) (fun u e => ?_) (r.ob k b ob h1 h2), fun b hb => ?_⟩
  · rw [q.ne b (fun z => n (z ▸ List.mem_of_getElem? h1))]; exact e
  · obtain ⟨h1, u, h2⟩ := r.bs b hb
    exact ⟨h1, u, by rw [q.ne b (fun z => nb (z ▸ hb))]; exact h2⟩
theorem ERep.swp {W : Wd} {env : Env} {σ : L2.St} {a : Addr} {us : List (Key × V)} {H H' : Hp} (q : Swp a us H H') (E : ERep K W H env σ) : ERep K W H' env σ :=
  ⟨E.len, fun i d h => let ⟨v, a, b⟩ := E.get i d h; ⟨v, a, b.swp q⟩⟩
theorem swp_lock {a : Addr} {vs : List (Key × V)} {H : Hp} {od : Obj} (h : H a = some (.dK vs)) : Swp a vs H (upd H a (.frz od (.dK vs))) := ⟨fun b e => upd_ne e, .inl h, .inr ⟨od, upd_same⟩⟩
theorem swp_unlock {a : Addr} {vs : List (Key × V)} {H : Hp} {od : Obj} (h : H a = some (.frz od (.dK vs))) : Swp a vs H (upd H a (.dK vs)) := ⟨fun b e => upd_ne e, .inr ⟨od, h⟩, .inl upd_same⟩
theorem _root_.L2.PE.or {X : Cx} {e : Expr} {t u : TE} (h : PE X e t) (h' : PE X e u) : PE X e fun σ H Q => t σ H Q ∨ u σ H Q := ⟨fun pins s σ H Q I w => w.elim (h.run pins s σ H Q I) (h'.run pins s σ H Q I)⟩

/-- a dict of the store is locked, unlocked -/
theorem Rel.swpS {W : Wd} {S : Store} {a : Addr} {us : List (Key × V)} {H H' : Hp} {n : Nat} {o' : Ob} (q : Swp a us H H') (r : Rel K nm W S H) (hn : W.m[n]? = some a) (ho : ObRep K nm W H' a o') : Rel K nm W (S.set n o') H' := by
  have ha : a ∈ W.m := List.mem_of_getElem? hn
  refine ⟨by simp [r.len], r.nd, fun k b ob h1 h2 => ?_, fun b hb => ?_⟩
  · by_cases hk : k = n
    · subst hk
      rw [hn] at h1; cases h1
      rw [List.getElem?_set_self (by rw [← r.len]; exact (List.getElem?_eq_some_iff.mp hn).1)] at h2
      cases h2
      exact ho
    · rw [List.getElem?_set_ne (fun z => hk z.symm)] at h2
      have hne : b ≠ a := by
        intro z
        subst z
        obtain ⟨l1, e1⟩ := List.getElem?_eq_some_iff.mp h1
        obtain ⟨l2, e2⟩ := List.getElem?_eq_some_iff.mp hn
        exact hk ((List.getElem_inj r.nd).mp (e1.trans e2.symm))
      exact ob_map (fun d v p => p.swp q) (fun d v p => p.swp q) (fun d v p => p.swp q) (fun u e => by rw [q.ne b hne]; exact e) (r.ob k b ob h1 h2)
  · obtain ⟨h1, u, h2⟩ := r.bs b hb
    exact ⟨h1, u, by rw [q.ne b (fun z => h1 (z ▸ ha))]; exact h2⟩
theorem dctOf_lck {S : Store} {n : Nat} {kvs : List (Ky × D)} (h : S[n]? = some (.dct kvs)) (d : D) : dctOf d (S.set n (.lck kvs)) = dctOf d S := by
  cases d with
  | ref m =>
    by_cases e : n = m
    · subst e
      simp only [dctOf, h, List.getElem?_set_self (List.getElem?_eq_some_iff.mp h).1]
    · simp only [dctOf, List.getElem?_set_ne e]
  | _ => rfl
theorem src_ok {call : Calls} {env : Env} {S : Store} {src : E} (h : srcV src = true) : (∃ d, ev G call src env S = .ok d S) ∨ ev G call src env S = .bad := by
  cases src <;> simp only [srcV] at h <;> first | (cases h; done) | skip
  · rename_i i
    simp only [ev]
    split
    · exact .inl ⟨_, rfl⟩
    · exact .inr rfl
  · rename_i a b
    cases a <;> try (first | (simp only [srcV] at h; done) | (simp only [srcV] at h; cases h; done) | (cases h; done))
    cases b <;> try (first | (simp only [srcV] at h; done) | (simp only [srcV] at h; cases h; done) | (cases h; done))
    simp only [ev]
    split
    · rename_i x _
      simp only [R.bind_ok]
      split
      · rename_i y _
        simp only [R.bind_ok]
        cases dixD x y S with
        | none => exact .inr rfl
        | some d => exact .inl ⟨d, rfl⟩
      · exact .inr rfl
    · exact .inr rfl
theorem src_lck {call : Calls} {env : Env} {S : Store} {src : E} {n : Nat} {kvs : List (Ky × D)} {d : D} (h : srcV src = true) (hn : S[n]? = some (.dct kvs)) (he : ev G call src env S = .ok d S) : ev G call src env (S.set n (.lck kvs)) = .ok d (S.set n (.lck kvs)) := by
  cases src <;> simp only [srcV] at h <;> first | (cases h; done) | skip
  · rename_i i
    simp only [ev] at he ⊢
    split at he
    · cases he; rfl
    · cases he
  · rename_i a b
    cases a <;> try (first | (simp only [srcV] at h; done) | (simp only [srcV] at h; cases h; done) | (cases h; done))
    cases b <;> try (first | (simp only [srcV] at h; done) | (simp only [srcV] at h; cases h; done) | (cases h; done))
    simp only [ev] at he ⊢
    split at he
    · rename_i x _
      simp only [R.bind_ok] at he ⊢
      split at he
      · rename_i y _
        simp only [R.bind_ok] at he ⊢
        have e : dixD x y (S.set n (.lck kvs)) = dixD x y S := by unfold dixD; rw [dctOf_lck hn]
        rw [e]
        cases hd : dixD x y S with
        | none => rw [hd] at he; cases he
        | some d' => rw [hd] at he; cases he; rfl
      · cases he
    · cases he
theorem unlS_some {n : Nat} {S S' : Store} (h : unlS n S = some S') : ∃ k, S[n]? = some (.lck k) ∧ S' = S.set n (.dct k) := by
  unfold unlS at h
  split at h
  · rename_i k e; cases h; exact ⟨k, e, rfl⟩
  · cases h
/-- the walk ends, the dict is free again -/
theorem unlock_ok {W W1 : Wd} {S Sf S' : Store} {H H2 : Hp} {n : Nat} {a : Addr} {od : Obj} {vs : List (Key × V)} (r : Rel K nm W S H) (ha : W.m[n]? = some a) (h1 : H a = some (.dK vs)) (e : Ext W (upd H a (.frz od (.dK vs))) W1 H2) {B : List Addr} (r2 : Rel K nm ⟨W1.m, B⟩ Sf H2) (hu : unlS n Sf = some S') :
    H2 a = some (.frz od (.dK vs)) ∧ Ext W H W1 (upd H2 a (.dK vs)) ∧ Rel K nm ⟨W1.m, B⟩ S' (upd H2 a (.dK vs)) ∧ Swp a vs H2 (upd H2 a (.dK vs)) := by
  have ha2 : H2 a = some (.frz od (.dK vs)) := e.fz _ _ _ upd_same
  obtain ⟨k, hk, rfl⟩ := unlS_some hu
  have q2 := swp_unlock ha2
  obtain ⟨tt, et, ft⟩ := e.m
  have hm : W1.m[n]? = some a := by rw [et]; exact (List.getElem?_append_left (List.getElem?_eq_some_iff.mp ha).1).trans ha
  obtain ⟨od', vs', e5, pk⟩ := r2.ob n a _ hm hk
  rw [ha2] at e5
  cases e5
  have na : ∀ b, b ∉ W.m → b ≠ a := fun b hb z => hb (z ▸ List.mem_of_getElem? ha)
  refine ⟨ha2, ⟨e.B, ⟨tt, et, fun b hb => ?_⟩, fun b o hb nb => ?_, fun b od' u hb => ?_⟩, r2.swpS q2 hm ⟨vs, upd_same, pk.swp q2⟩, q2⟩
  · have := ft b hb
    by_cases z : b = a
    · subst z; rw [upd_same] at this; cases this
    · rw [upd_ne z] at this; exact this
  · rw [upd_ne (na b nb)]
    exact e.keep b o (by rw [upd_ne (na b nb)]; exact hb) nb
  · have z : b ≠ a := fun z => by subst z; rw [h1] at hb; cases hb
    rw [upd_ne z]
    exact e.fz b od' u (by rw [upd_ne z]; exact hb)

/-! ### a comprehension; fr: what its list is taken as -/
def CompFr (K : PySem.W.Frag) (nm : Nm) (fr : List D → Store → R D) : Prop := ∀ (W1 : Wd) (H1 : Hp) (S1 Sf : Store) (ys : List D) (Dl : Addr) (m2 : List Addr) (av : List V) (H : Hp) (Q : VK) (Xc : Nat → Hp → Prop), Rel K nm W1 S1 H1 → H1 Dl = none → Ext W1 H1 ⟨m2, W1.B⟩ H →
  Rel K nm ((⟨m2, W1.B⟩ : Wd).add Dl) Sf H → H Dl = some (.lst av) → Reps K ((⟨m2, W1.B⟩ : Wd).add Dl) H ys av → Wq K nm (rpD K) W1 H1 (fr ys Sf) Q Xc → Q (.ref Dl) H
theorem fr_lst : CompFr K nm fun ys S => .ok (.lst ys) S := by
  intro W1 H1 S1 Sf ys Dl m2 av H Q Xc r1 hD e1 r2 hd p2 z
  refine z _ ⟨m2, W1.B⟩ H e1 r2.delB (.lst (.inl hd) (r2.bs Dl (List.mem_cons_self)).1 (fun hm => ?_) p2.delB)
  obtain ⟨_, o, ho⟩ := r1.bs Dl hm
  rw [hD] at ho; cases ho
noncomputable def evC (G : Tab) (call : Calls) (k : IK) (src : E) (tg : Tg) (c e : E) (fr : List D → Store → R D) (env : Env) (S : Store) : R D := (ev G call src env S).bind fun xs S => match mkIt k (srcL k xs) S with
  | some it => (goIt it (qk k (cBody G call tg c e env)) S).bind fr
  | none => .bad
theorem comp_gen (g : GOk K mg G Y nm fa fd ps) (k : IK) (src : E) (tg : Tg) (c e : E) (is : Snd P w K mg base G Y nm kk N src) (ic : Snd P w K mg base G Y nm kk N c) (ie : Snd P w K mg base G Y nm kk N e) {fr : List D → Store → R D} (hfr : CompFr K nm fr) {x : Expr}
    (h : chk Y N (.comp k src tg c e) sc x = true) (C : COk P w K mg base kk N sc X) (tk : Tk X Wi) (hk : k ≠ .keys ∧ k ≠ .keysR) (F : TE → Prop) (himp : ∀ t u : TE, F t → (∀ σ H Q, u σ H Q → t σ H Q) → F u)
    (hF : ∀ (elt tg iter : Expr) (ifs : List Expr) (scope : Scope) (own : List (Str × Nat)) (pos : Pos) (wi : TI) (g : TG) (tt : L2.St → TT) (te : L2.St → TE), x = .ListComp elt [⟨tg, iter, ifs, 0⟩] scope pos → PI X tg iter wi → BlkOk X.N X.env.scope scope own →
      (∀ (s : Shared) (H : Hp) (C : Addr) (cl : List (Str × Addr)) (fp : List Addr), PG (X.blk s H scope (compEnvC scope cl C X.env) fp) tg g) →
      (∀ (σ : L2.St) (s : Shared) (H : Hp) (C : Addr) (cl : List (Str × Addr)) (fp : List Addr), PTs (blkX X Wi σ s H scope (compEnvC scope cl C X.env) fp) ifs (tt σ)) →
      (∀ (σ : L2.St) (s : Shared) (H : Hp) (C : Addr) (cl : List (Str × Addr)) (fp : List Addr), PE (blkX X Wi σ s H scope (compEnvC scope cl C X.env) fp) elt (te σ)) → (∀ x, foldedSetIterable iter X.env x = pure x) →
      F (fun σ H Q => tLc wi g (tt σ) (te σ) (own.map (·.2)) σ H Q)) : F (tE K nm Wi (evC G (run G kk) k src tg c e fr)) := by
  simp only [chk] at h
  split at h <;> try (cases h; done)
  rename_i elt t iter ifs asy scope pos
  simp only [Bool.and_eq_true, decide_eq_true_eq, Bool.not_eq_true'] at h
  obtain ⟨⟨⟨⟨⟨⟨⟨h1, h2⟩, h3⟩, h4⟩, h5⟩, h6⟩, h7⟩, h8⟩ := h
  subst h1
  have ok : BlkOk X.N X.env.scope scope (ownOf tg t) := by
    rw [C.hN, C.sc]
    exact blkOk_by h3
  have pcs : ∀ (σ0 : L2.St) (s : Shared) (H : Hp) (Ca : Addr) (cl : List (Str × Addr)) (fp : List Addr), PTs (blkX X Wi σ0 s H scope (compEnvC scope cl Ca X.env) fp) ifs (tT K nm (WB Wi σ0) (fun env S => mapT (ev G (run G kk) c env S))) := fun σ0 s H Ca cl fp => by
    have C' := blk_ok (s := s) (H := H) (scope := scope) (cl := cl) (Ca := Ca) (fp := fp) (σ0 := σ0) (Wi := Wi) C
    cases ifs with
    | nil =>
      have h7 : isEmp c = true := h7
      cases c <;> simp only [isEmp] at h7 <;> first | (cases h7; done) | skip
      refine ⟨fun pins s σ H Q I q => pts_nil.run pins s σ H Q I ?_⟩
      obtain ⟨W, S, env, E, r, z⟩ := q
      exact z true W H Ext.refl r rfl
    | cons i is =>
      cases is with
      | nil => exact pts_one (ic.t _ _ _ _ h7 C' blkX_tk)
      | cons _ _ => cases h7
  have pgs : ∀ (s : Shared) (H : Hp) (Ca : Addr) (cl : List (Str × Addr)) (fp : List Addr), PG (X.blk s H scope (compEnvC scope cl Ca X.env) fp) t (gTg K tg) := fun s H Ca cl fp =>
    pg_ok (X := X.blk s H scope (compEnvC scope cl Ca X.env) fp) (sc := relS scope sc) C.hK C.hN C.nd (by rw [← C.sc]; rfl) C.calm (fl := false) (by simp) h5
  have pes : ∀ (σ0 : L2.St) (s : Shared) (H : Hp) (Ca : Addr) (cl : List (Str × Addr)) (fp : List Addr), PE (blkX X Wi σ0 s H scope (compEnvC scope cl Ca X.env) fp) elt (tE K nm (WB Wi σ0) (ev G (run G kk) e)) := fun σ0 s H Ca cl fp =>
    ie.v _ _ _ _ h8 (blk_ok (s := s) (H := H) (scope := scope) (cl := cl) (Ca := Ca) (fp := fp) (σ0 := σ0) (Wi := Wi) C) blkX_tk
  have ndN : X.N.Nodup := by rw [C.hN]; exact C.nd
  refine himp _ _ (hF _ _ _ _ _ (ownOf tg t) _ _ (gTg K tg) _ (fun σ0 => tE K nm (WB Wi σ0) (ev G (run G kk) e)) rfl (pi_src g is C tk h6 hk) ok pgs pcs pes (fold_ok h2 X.env)) fun σ H Q wq => ?_
  obtain ⟨W, S, env, E, r, z⟩ := wq
  refine ⟨W, S, env, E, r, ?_⟩
  simp only [evC] at z
  cases hsrc : ev G (run G kk) src env S with
  | bad => rw [hsrc] at z; exact z.elim
  | ex _ _ => rw [hsrc] at z; dsimp only; rw [hsrc]; exact z
  | ok d S1 =>
    rw [hsrc] at z
    dsimp only
    rw [hsrc]
    simp only [R.bind_ok] at z ⊢
    cases hit : mkIt k (srcL k d) S1 with
    | none => rw [hit] at z; exact z.elim
    | some it =>
      rw [hit] at z
      dsimp only at z
      intro J W1 H1 e1 r1 hJ
      have z := Wq.ext e1 r1.trk z
      have hq : Quk (cBody G (run G kk) tg c e env) (qk k (cBody G (run G kk) tg c e env)) := quk _ _
      generalize hbd : qk k (cBody G (run G kk) tg c e env) = bd at z hq
      have bk : ∀ {m3 : List Addr} {H3 : Hp}, (⟨m3, W1.B⟩ : Wd) = ⟨m3, W1.B⟩ := fun {_ _} => rfl
      cases it with
      | items xs =>
        simp only [goIt] at z
        rw [h4]
        exact comp_items (E.mono r.trk e1) r1 hJ hq (fun h => by rw [h] at z; exact z.elim) (fun c' Sf m3 H3 h g1 g2 => by rw [h] at z; exact z _ H3 g1 g2) fun ys Sf hg Dl m2 av H2 hD ex r2 hd2 p2 => hfr W1 H1 S1 Sf ys Dl m2 av H2 Q (Xw nm Wi σ) r1 hD ex r2 hd2 p2 (by rw [hg] at z; exact z)
      | lkd _ _ _ => exact hJ.elim
      | live n en =>
        simp only [goIt] at z
        rw [h4]
        obtain ⟨a, ha, rfl⟩ := hJ
        exact comp_live (E.mono r.trk e1) r1 ha hq (fun h => by rw [h] at z; exact z.elim) (fun c' Sf m3 H3 h g1 g2 => by rw [h] at z; exact z _ H3 g1 g2) fun ys Sf hg Dl m2 av H2 hD ex r2 hd2 p2 => hfr W1 H1 S1 Sf ys Dl m2 av H2 Q (Xw nm Wi σ) r1 hD ex r2 hd2 p2 (by rw [hg] at z; exact z)
theorem comp_of (g : GOk K mg G Y nm fa fd ps) (k : IK) (src : E) (tg : Tg) (c e : E) (is : Snd P w K mg base G Y nm kk N src) (ic : Snd P w K mg base G Y nm kk N c) (ie : Snd P w K mg base G Y nm kk N e) {fr : List D → Store → R D} (hfr : CompFr K nm fr) {x : Expr}
    (h : chk Y N (.comp k src tg c e) sc x = true) (C : COk P w K mg base kk N sc X) (tk : Tk X Wi) : PE X x (tE K nm Wi (evC G (run G kk) k src tg c e fr)) := by
  by_cases hkR : k = .keysR
  · simp only [chk] at h
    split at h <;> try (cases h; done)
    rename_i elt t iter ifs asy scope pos
    simp only [Bool.and_eq_true, decide_eq_true_eq, Bool.not_eq_true'] at h
    obtain ⟨⟨⟨⟨⟨⟨⟨h1, h2⟩, h3⟩, h4⟩, h5⟩, h6⟩, h7⟩, h8⟩ := h
    subst h1
    have ok : BlkOk X.N X.env.scope scope (ownOf tg t) := by
      rw [C.hN, C.sc]
      exact blkOk_by h3
    have pcs : ∀ (σ0 : L2.St) (s : Shared) (H : Hp) (Ca : Addr) (cl : List (Str × Addr)) (fp : List Addr), PTs (blkX X Wi σ0 s H scope (compEnvC scope cl Ca X.env) fp) ifs (tT K nm (WB Wi σ0) (fun env S => mapT (ev G (run G kk) c env S))) := fun σ0 s H Ca cl fp => by
      have C' := blk_ok (s := s) (H := H) (scope := scope) (cl := cl) (Ca := Ca) (fp := fp) (σ0 := σ0) (Wi := Wi) C
      cases ifs with
      | nil =>
        have h7 : isEmp c = true := h7
        cases c <;> simp only [isEmp] at h7 <;> first | (cases h7; done) | skip
        refine ⟨fun pins s σ H Q I q => pts_nil.run pins s σ H Q I ?_⟩
        obtain ⟨W, S, env, E, r, z⟩ := q
        exact z true W H Ext.refl r rfl
      | cons i is =>
        cases is with
        | nil => exact pts_one (ic.t _ _ _ _ h7 C' blkX_tk)
        | cons _ _ => cases h7
    have pgs : ∀ (s : Shared) (H : Hp) (Ca : Addr) (cl : List (Str × Addr)) (fp : List Addr), PG (X.blk s H scope (compEnvC scope cl Ca X.env) fp) t (gTg K tg) := fun s H Ca cl fp =>
      pg_ok (X := X.blk s H scope (compEnvC scope cl Ca X.env) fp) (sc := relS scope sc) C.hK C.hN C.nd (by rw [← C.sc]; rfl) C.calm (fl := false) (by simp) h5
    have pes : ∀ (σ0 : L2.St) (s : Shared) (H : Hp) (Ca : Addr) (cl : List (Str × Addr)) (fp : List Addr), PE (blkX X Wi σ0 s H scope (compEnvC scope cl Ca X.env) fp) elt (tE K nm (WB Wi σ0) (ev G (run G kk) e)) := fun σ0 s H Ca cl fp =>
      ie.v _ _ _ _ h8 (blk_ok (s := s) (H := H) (scope := scope) (cl := cl) (Ca := Ca) (fp := fp) (σ0 := σ0) (Wi := Wi) C) blkX_tk
    have ndN : X.N.Nodup := by rw [C.hN]; exact C.nd
    subst hkR
    simp only [Bool.and_eq_true] at h6
    obtain ⟨h60, h6⟩ := h6
    have pv := is.v _ _ X Wi h6 C tk
    have pe1 := pe_lcX (pos := pos) (own := ownOf tg t) (g := gTg K tg) (te := fun σ0 => tE K nm (WB Wi σ0) (ev G (run G kk) e)) C.calm ndN tk C.fr (pi_keys pv) ok pgs pcs pes (fold_ok h2 X.env)
    refine (pe_lock pe1).imp fun σ H Q wq => ?_
    obtain ⟨W, S, env, E, r, z⟩ := wq
    simp only [evC] at z
    rcases src_ok (G := G) (call := run G kk) (env := env) (S := S) h60 with ⟨d, hd⟩ | hd
    rotate_left
    · rw [hd] at z; exact z.elim
    rw [hd] at z
    simp only [R.bind_ok, srcL] at z
    cases d <;> simp only [mkIt] at z <;> first | exact z.elim | skip
    rename_i n
    split at z
    rotate_left
    · rename_i hno
      split at hno <;> first | exact z.elim | (cases hno; done)
    rename_i it hit
    split at hit <;> first | (cases hit; done) | skip
    rename_i kvs hS
    cases hit
    have hl : n < W.m.length := by rw [r.len]; exact (List.getElem?_eq_some_iff.mp hS).1
    obtain ⟨a, ha⟩ : ∃ a, W.m[n]? = some a := ⟨_, List.getElem?_eq_getElem hl⟩
    obtain ⟨vs, h1, h4'⟩ := r.ob n a _ ha hS
    have hq : Quk (cBody G (run G kk) tg c e env) (qk .keysR (cBody G (run G kk) tg c e env)) := quk _ _
    have noex : ∀ c' Sf xs acc S, goComp (qk .keysR (cBody G (run G kk) tg c e env)) xs acc S ≠ .ex c' Sf := by
      intro c' Sf xs
      induction xs with
      | nil => intro acc S h; cases h
      | cons x xs ih =>
        intro acc S
        simp only [goComp, qk]
        cases cBody G (run G kk) tg c e env x S with
        | bad => intro h; cases h
        | ex _ _ => intro h; cases h
        | ok o S' =>
          cases o with
          | none => exact ih acc S'
          | some y =>
            simp only [R.quiet_ok, R.bind_ok]
            split
            · exact ih _ S'
            · intro h; cases h
    generalize hbd : qk .keysR (cBody G (run G kk) tg c e env) = bd at z hq noex
    simp only [goIt] at z
    refine ⟨a, .dK vs, h1, trivial, fun od => ?_⟩
    have q := swp_lock (od := od) h1
    have rL : Rel K nm W (S.set n (.lck kvs)) (upd H a (.frz od (.dK vs))) := r.swpS q ha ⟨od, vs, upd_same, h4'.swp q⟩
    have evL := src_lck h60 hS hd
    refine ⟨W, S.set n (.lck kvs), env, E.swp q, rL, ?_⟩
    rw [evL]
    intro v W1 H1 e1 r1 p1
    have nb : goComp bd (kvs.map fun p => kyD p.1) [] (S.set n (.lck kvs)) ≠ .bad := fun h => by rw [h] at z; exact z.elim
    cases p1 with
    | @ref _ a1 hv =>
    obtain ⟨tt, et, ft⟩ := e1.m
    have ea : a1 = a := by
      rw [et, List.getElem?_append_left hl, ha] at hv
      exact (Option.some.inj hv).symm
    subst ea
    have fz1 : H1 a1 = some (.frz od (.dK vs)) := e1.fz _ _ _ upd_same
    refine ⟨a1, od, rfl, .inl ⟨vs, fz1, ?_⟩⟩
    rw [h4]
    refine comp_items (Q := fun v H' => H' a1 = some (.frz od (.dK vs)) ∧ Q v (upd H' a1 (.dK vs))) ((E.swp q).mono rL.trk e1) r1 (.keysF fz1 ((h4'.swp q).mono rL.trk e1)) hq nb (fun c' Sf m3 H3 h => absurd h (noex _ _ _ _ _)) fun ys Sf hg Dl m2 av H2 hD ex r2 hd2 p2 => ?_
    rw [hg] at z
    simp only [unlL] at z
    cases hu : unlS n Sf with
    | none => rw [hu] at z; exact z.elim
    | some S' =>
    rw [hu] at z
    simp only [R.bind_ok] at z
    have eB := e1.B
    have rB := r2.bs Dl (List.mem_cons_self)
    have eT := e1.trans r1.trk ex
    have hDa : Dl ≠ a1 := fun z => by subst z; rw [fz1] at hD; cases hD
    have hD0 : H Dl = none := by
      cases hx : H Dl with
      | none => rfl
      | some o =>
        exfalso
        by_cases hm : Dl ∈ W.m
        · obtain ⟨o', ho, _⟩ := r1.trk Dl (by rw [et]; exact List.mem_append_left _ hm)
          rw [hD] at ho; cases ho
        · have := e1.keep Dl o (by rw [upd_ne hDa]; exact hx) hm
          rw [hD] at this; cases this
    obtain ⟨u1, u2, u3, u4⟩ := unlock_ok (W1 := ⟨m2, W1.B⟩) r ha h1 eT (B := ((⟨m2, W1.B⟩ : Wd).add Dl).B) r2 hu
    rw [eB] at u2 u3 p2
    exact ⟨u1, hfr W H S S' ys Dl m2 av _ Q (Xw nm Wi σ) r hD0 u2 u3 (by rw [upd_ne hDa]; exact hd2) (p2.swp u4) z⟩
  by_cases hk : k = .keys
  · simp only [chk] at h
    split at h <;> try (cases h; done)
    rename_i elt t iter ifs asy scope pos
    simp only [Bool.and_eq_true, decide_eq_true_eq, Bool.not_eq_true'] at h
    obtain ⟨⟨⟨⟨⟨⟨⟨h1, h2⟩, h3⟩, h4⟩, h5⟩, h6⟩, h7⟩, h8⟩ := h
    subst h1
    have ok : BlkOk X.N X.env.scope scope (ownOf tg t) := by
      rw [C.hN, C.sc]
      exact blkOk_by h3
    have pcs : ∀ (σ0 : L2.St) (s : Shared) (H : Hp) (Ca : Addr) (cl : List (Str × Addr)) (fp : List Addr), PTs (blkX X Wi σ0 s H scope (compEnvC scope cl Ca X.env) fp) ifs (tT K nm (WB Wi σ0) (fun env S => mapT (ev G (run G kk) c env S))) := fun σ0 s H Ca cl fp => by
      have C' := blk_ok (s := s) (H := H) (scope := scope) (cl := cl) (Ca := Ca) (fp := fp) (σ0 := σ0) (Wi := Wi) C
      cases ifs with
      | nil =>
        have h7 : isEmp c = true := h7
        cases c <;> simp only [isEmp] at h7 <;> first | (cases h7; done) | skip
        refine ⟨fun pins s σ H Q I q => pts_nil.run pins s σ H Q I ?_⟩
        obtain ⟨W, S, env, E, r, z⟩ := q
        exact z true W H Ext.refl r rfl
      | cons i is =>
        cases is with
        | nil => exact pts_one (ic.t _ _ _ _ h7 C' blkX_tk)
        | cons _ _ => cases h7
    have pgs : ∀ (s : Shared) (H : Hp) (Ca : Addr) (cl : List (Str × Addr)) (fp : List Addr), PG (X.blk s H scope (compEnvC scope cl Ca X.env) fp) t (gTg K tg) := fun s H Ca cl fp =>
      pg_ok (X := X.blk s H scope (compEnvC scope cl Ca X.env) fp) (sc := relS scope sc) C.hK C.hN C.nd (by rw [← C.sc]; rfl) C.calm (fl := false) (by simp) h5
    have pes : ∀ (σ0 : L2.St) (s : Shared) (H : Hp) (Ca : Addr) (cl : List (Str × Addr)) (fp : List Addr), PE (blkX X Wi σ0 s H scope (compEnvC scope cl Ca X.env) fp) elt (tE K nm (WB Wi σ0) (ev G (run G kk) e)) := fun σ0 s H Ca cl fp =>
      ie.v _ _ _ _ h8 (blk_ok (s := s) (H := H) (scope := scope) (cl := cl) (Ca := Ca) (fp := fp) (σ0 := σ0) (Wi := Wi) C) blkX_tk
    have ndN : X.N.Nodup := by rw [C.hN]; exact C.nd
    subst hk
    simp only [Bool.and_eq_true] at h6
    obtain ⟨h60, h6⟩ := h6
    cases src <;> simp only [isVarE] at h60 <;> first | (cases h60; done) | skip
    rename_i vi
    cases iter <;> simp only [chk] at h6 <;> first | (cases h6; done) | skip
    rename_i vx vp
    simp only [Bool.and_eq_true, Bool.not_eq_true', decide_eq_true_eq] at h6
    obtain ⟨⟨⟨g1, g2⟩, g3⟩, g4⟩ := h6
    have pv := pe_var (i := vi) (X := X) (pos := vp) (by rw [C.hN]; exact g1) (vis_ok C g2) g3 g4
    have pe1 := pe_lcX (pos := pos) (own := ownOf tg t) (g := gTg K tg) (te := fun σ0 => tE K nm (WB Wi σ0) (ev G (run G kk) e)) C.calm ndN tk C.fr (pi_keys pv) ok pgs pcs pes (fold_ok h2 X.env)
    refine (pe1.or (pe_lock pe1)).imp fun σ H Q wq => ?_
    obtain ⟨W, S, env, E, r, z⟩ := wq
    simp only [evC, ev] at z
    split at z
    · rename_i d hd
      simp only [R.bind_ok, srcL] at z
      obtain ⟨v, e1, e2⟩ := E.get vi d hd
      cases d <;> simp only [mkIt] at z <;> first | exact z.elim | skip
      rename_i kvs
      have hq : Quk (cBody G (run G kk) tg c e env) (qk .keys (cBody G (run G kk) tg c e env)) := quk _ _
      have noex : ∀ c' Sf xs acc S, goComp (qk .keys (cBody G (run G kk) tg c e env)) xs acc S ≠ .ex c' Sf := by
        intro c' Sf xs
        induction xs with
        | nil => intro acc S h; cases h
        | cons x xs ih =>
          intro acc S
          simp only [goComp, qk]
          cases cBody G (run G kk) tg c e env x S with
          | bad => intro h; cases h
          | ex _ _ => intro h; cases h
          | ok o S' =>
            cases o with
            | none => exact ih acc S'
            | some y =>
              simp only [R.quiet_ok, R.bind_ok]
              split
              · exact ih _ S'
              · intro h; cases h
      generalize hbd : qk .keys (cBody G (run G kk) tg c e env) = bd at z hq noex
      cases e2 with
      | @dct _ a vs h1 h2' h3' h4' =>
      simp only [goIt] at z
      have nb : goComp bd (kvs.map fun p => kyD p.1) [] S ≠ .bad := fun h => by rw [h] at z; exact z.elim
      rcases h1 with h1 | ⟨o, h1⟩
      · refine .inr ⟨a, .dK vs, h1, trivial, fun od => ?_⟩
        have q := swp_lock (od := od) h1
        have rL := r.swp q h2' h3'
        refine ⟨_, e1, a, od, rfl, .inl ⟨vs, upd_same, ?_⟩⟩
        rw [h4]
        refine comp_items (Q := fun v H' => H' a = some (.frz od (.dK vs)) ∧ Q v (upd H' a (.dK vs))) (E.swp q) rL (.keys upd_same h2' (h4'.swp q)) hq nb (fun c' Sf m3 H3 h => absurd h (noex _ _ _ _ _)) fun ys Sf hg Dl m2 av H2 hD ex r2 hd2 p2 => ?_
        have z : Wq K nm (rpD K) W H (fr ys Sf) Q (Xw nm Wi σ) := by rw [hg] at z; exact z
        have ha : H2 a = some (.frz od (.dK vs)) := ex.keep _ _ upd_same h2'
        have hDa : Dl ≠ a := fun z => by subst z; rw [upd_same] at hD; cases hD
        have q2 := swp_unlock ha
        have na : a ∉ m2 := ex.mem (W := W) upd_same h2'
        have nB : a ∉ ((⟨m2, W.B⟩ : Wd).add Dl).B := by
          simp only [Wd.add, List.mem_cons, not_or]
          exact ⟨Ne.symm hDa, h3'⟩
        have hD0 : H Dl = none := by rw [← upd_ne (H := H) (o := .frz od (.dK vs)) hDa]; exact hD
        refine ⟨ha, hfr W H S Sf ys Dl m2 av _ Q (Xw nm Wi σ) r hD0 ⟨rfl, ?_, fun b o hb nb => ?_, fun b od' u hb => ?_⟩ (r2.swp q2 na nB) (by rw [upd_ne hDa]; exact hd2) (p2.swp q2) z⟩
        · obtain ⟨tt, et, ft⟩ := ex.m
          refine ⟨tt, et, fun b hb => ?_⟩
          have := ft b hb
          by_cases z : b = a
          · subst z; rw [upd_same] at this; cases this
          · rw [upd_ne z] at this; exact this
        · by_cases z : b = a
          · subst z
            rw [upd_same]
            rw [h1] at hb
            exact hb
          · rw [upd_ne z]
            exact ex.keep b o (by rw [upd_ne z]; exact hb) nb
        · have z : b ≠ a := fun z => by subst z; rw [h1] at hb; cases hb
          rw [upd_ne z]
          exact ex.fz b od' u (by rw [upd_ne z]; exact hb)
      · refine .inl ⟨_, e1, a, o, rfl, .inl ⟨vs, h1, ?_⟩⟩
        rw [h4]
        exact comp_items E r (.keys h1 h2' h4') hq nb (fun c' Sf m3 H3 h => absurd h (noex _ _ _ _ _)) fun ys Sf hg Dl m2 av H2 hD ex r2 hd2 p2 => hfr W H S Sf ys Dl m2 av H2 Q (Xw nm Wi σ) r hD ex r2 hd2 p2 (by rw [hg] at z; exact z)
    · exact z.elim
  · refine comp_gen g k src tg c e is ic ie hfr h C tk ⟨hk, hkR⟩ (PE X x) (fun t u pt i => pt.imp i) fun elt tg iter ifs scope own pos wi g tt te hx hi ok hg ht he hs => ?_
    subst hx
    have ndN : X.N.Nodup := by rw [C.hN]; exact C.nd
    exact pe_lcX C.calm ndN tk C.fr hi ok hg ht he hs
/-- name = [..] -/
theorem comp_asg (g : GOk K mg G Y nm fa fd ps) (k : IK) (src : E) (tg : Tg) (c e : E) (is : Snd P w K mg base G Y nm kk N src) (ic : Snd P w K mg base G Y nm kk N c) (ie : Snd P w K mg base G Y nm kk N e) {fr : List D → Store → R D} (hfr : CompFr K nm fr) {x : Expr}
    (h : chk Y N (.comp k src tg c e) sc x = true) (C : COk P w K mg base kk N sc X) (tk : Tk X Wi) (hk : k ≠ .keys ∧ k ≠ .keysR) {i : Nat} {y : Str} {py spos : Pos} (hy : X.N[i]? = some y) (hyl : X.env.scope.names.lookup y = some .local)
    (hsw : swapsWith x (some (.Name y py)) spos.line X.env = pure true) : PS X (.Assign [.Name y py] x spos) (tAsg (tE K nm Wi (evC G (run G kk) k src tg c e fr)) (gName i)) := by
  refine comp_gen g k src tg c e is ic ie hfr h C tk hk (fun t => PS X (.Assign [.Name y py] x spos) (tAsg t (gName i))) (fun t u pt im => pt.imp fun D σ H q => im _ _ _ q) fun elt tg iter ifs scope own pos wi g tt te hx hi ok hg ht he hs => ?_
  subst hx
  have ndN : X.N.Nodup := by rw [C.hN]; exact C.nd
  exact ps_setLcX C.calm ndN tk C.fr hy hyl hsw hi ok hg ht he hs
theorem s_comp (g : GOk K mg G Y nm fa fd ps) (k : IK) (src : E) (tg : Tg) (c e : E) (is : Snd P w K mg base G Y nm kk N src) (ic : Snd P w K mg base G Y nm kk N c) (ie : Snd P w K mg base G Y nm kk N e) : Snd P w K mg base G Y nm kk N (.comp k src tg c e) :=
  ⟨fun sc x X Wi h C tk => comp_of g k src tg c e is ic ie fr_lst h C tk, fun sc x X Wi h C tk => by simp [chkT] at h, fun sc a X Wi h C tk => by simp [chkA] at h⟩
end
end PL

set_option Elab.async false
set_option linter.all false
set_option maxRecDepth 100000
set_option maxHeartbeats 2000000
/-! PLX: objects of the store: a new list, append. -/
namespace PL
open PySem PySem.Spec PyProof.Rows L2
section
variable {P : Program} {w : World} {K : PySem.W.Frag} {mg : Str → Option Value} {base : Heap} {G : Tab} {Y : Sx} {nm : Nm} {fa : Nat → Addr} {fd : Nat → FuncData} {ps : Nat → List Str} {kk : Nat} {N : List Str}
variable {sc : Scope} {X : Cx} {Wi : WX} {W W' : Wd} {H H' : Hp} {S S' : Store}
theorem ObRep.mono {a : Addr} {o : Ob} (t : Trk W H) (e : Ext W H W' H') (h : ∀ u, H a = some u → H' a = some u) (q : ObRep K nm W H a o) : ObRep K nm W' H' a o := by
  cases o with
  | lst xs => obtain ⟨vs, e1, q⟩ := q; exact ⟨vs, h _ e1, q.mono t e⟩
  | dct xs => obtain ⟨vs, e1, q⟩ := q; exact ⟨vs, h _ e1, q.mono t e⟩
  | dtt xs => obtain ⟨vs, e1, q⟩ := q; exact ⟨vs, h _ e1, q.mono t e⟩
  | ins c fs => obtain ⟨dx, vs, e1, q⟩ := q; exact ⟨dx, vs, h _ e1, q.mono t e⟩
  | lck xs => obtain ⟨od, vs, e1, q⟩ := q; exact ⟨od, vs, h _ e1, q.mono t e⟩
  | lct xs => obtain ⟨od, vs, e1, q⟩ := q; exact ⟨od, vs, h _ e1, q.mono t e⟩
/-- a new object joins the store -/
theorem Ext.join {p : Addr} {o : HO} (h : H p = none) : Ext W H ⟨W.m ++ [p], W.B⟩ (upd H p o) := ⟨rfl, ⟨[p], rfl, by intro a ha; simp only [List.mem_singleton] at ha; rw [ha]; exact h⟩, fun a u e _ => by rw [upd_ne (ne_of_none e h)]; exact e, fun a od u e => by rw [upd_ne (ne_of_none e h)]; exact e⟩
theorem Rel.join (r : Rel K nm W S H) {p : Addr} {o : HO} {ob : Ob} (h : H p = none) (q : ObRep K nm ⟨W.m ++ [p], W.B⟩ (upd H p o) p ob) : Rel K nm ⟨W.m ++ [p], W.B⟩ (S ++ [ob]) (upd H p o) := by
  have t := r.trk
  have e : Ext W H ⟨W.m ++ [p], W.B⟩ (upd H p o) := Ext.join h
  have hp := (r.fresh h).1
  refine ⟨by simp [r.len], ?_, fun n a ob' h1 h2 => ?_, fun b hb => ?_⟩
  · refine List.nodup_append.mpr ⟨r.nd, by simp, fun a ha b hb => ?_⟩
    simp only [List.mem_singleton] at hb
    intro e; rw [e, hb] at ha; exact hp ha
  · by_cases hn : n < W.m.length
    · have h1' : W.m[n]? = some a := by
        have : (W.m ++ [p])[n]? = some a := h1
        rwa [List.getElem?_append_left hn] at this
      rw [List.getElem?_append_left (by rw [← r.len]; exact hn)] at h2
      exact (r.ob n a ob' h1' h2).mono t e (same_upd h a)
    · have h1' : (W.m ++ [p])[n]? = some a := h1
      rw [List.getElem?_append_right (by omega)] at h1'
      rw [List.getElem?_append_right (by rw [← r.len]; omega)] at h2
      rw [r.len] at h1'
      cases hk : n - S.length with
      | zero =>
        rw [hk] at h1' h2
        simp at h1' h2
        subst h1' h2
        exact q
      | succ k => rw [hk] at h2; simp at h2
  · obtain ⟨z, o', e1⟩ := r.bs b hb
    refine ⟨fun z' => ?_, o', same_upd h _ _ e1⟩
    rcases List.mem_append.mp z' with z' | z'
    · exact z z'
    · simp only [List.mem_singleton] at z'
      rw [z', h] at e1; cases e1
/-- an object of the store is written -/
theorem Ext.put {a : Addr} {o : HO} (h : a ∈ W.m) (hu : Unf H a) : Ext W H W (upd H a o) := ⟨rfl, ⟨[], by simp⟩, fun b u e hb => by rw [upd_ne (show b ≠ a from fun z => hb (by rw [z]; exact h))]; exact e, fun b od u e => by rw [upd_ne (show b ≠ a from fun z => hu od u (z ▸ e))]; exact e⟩
theorem unf_of {a : Addr} {o : HO} (h : H a = some o) (ho : ∀ od u, o ≠ .frz od u) : Unf H a := fun od u z => by rw [h] at z; exact ho od u (Option.some.inj z)
theorem Rel.put (r : Rel K nm W S H) {n : Nat} {a : Addr} {o : HO} {ob : Ob} (h : W.m[n]? = some a) (hu : Unf H a) (q : ObRep K nm W (upd H a o) a ob) : Rel K nm W (S.set n ob) (upd H a o) := by
  have t := r.trk
  have ha : a ∈ W.m := List.mem_of_getElem? h
  have e : Ext W H W (upd H a o) := Ext.put ha hu
  refine ⟨by simp [r.len], r.nd, fun m b ob' h1 h2 => ?_, fun b hb => ?_⟩
  · by_cases hm : m = n
    · subst hm
      rw [h] at h1; cases h1
      rw [List.getElem?_set_self (by rw [← r.len]; exact (List.getElem?_eq_some_iff.mp h).1)] at h2
      cases h2
      exact q
    · rw [List.getElem?_set_ne (fun z => hm z.symm)] at h2
      have hne : b ≠ a := by
        intro z
        subst z
        obtain ⟨l1, e1⟩ := List.getElem?_eq_some_iff.mp h1
        obtain ⟨l2, e2⟩ := List.getElem?_eq_some_iff.mp h
        exact hm ((List.getElem_inj r.nd).mp (e1.trans e2.symm))
      exact (r.ob m b ob' h1 h2).mono t e fun u hu => by rw [upd_ne hne]; exact hu
  · obtain ⟨z, o', e1⟩ := r.bs b hb
    exact ⟨z, o', by rw [upd_ne (show b ≠ a from fun y => z (by rw [y]; exact ha))]; exact e1⟩
/-- the new list joins the store -/
theorem adopt {xs : List D} {vs : List V} {p : Addr} {Q : VK} {Xc : Nat → Hp → Prop} (r : Rel K nm W S H) (pr : Reps K W H xs vs) (hp : H p = none) (z : Wq K nm (rpD K) W H (R.ok (.ref S.length) (S ++ [.lst xs])) Q Xc) : Q (.ref p) (upd H p (.lst vs)) := by
  have e : Ext W H ⟨W.m ++ [p], W.B⟩ (upd H p (.lst vs)) := Ext.join hp
  refine z (.ref p) ⟨W.m ++ [p], W.B⟩ _ e (r.join hp ⟨vs, upd_same, pr.mono r.trk e⟩) (.ref ?_)
  show (W.m ++ [p])[S.length]? = some p
  rw [← r.len, List.getElem?_append_right (Nat.le_refl _), Nat.sub_self]
  rfl
theorem adoptL {xs : List D} {Q : VK} {Xc : Nat → Hp → Prop} (r : Rel K nm W S H) (z : Wq K nm (rpD K) W H (R.ok (.ref S.length) (S ++ [.lst xs])) Q Xc) : FinL K W H xs Q := fun _ _ pr hp => adopt r pr hp z
/-- what .new makes of a value -/
def nw (d : D) (S : Store) : R D := match d with
  | .lst xs => .ok (.ref S.length) (S ++ [.lst xs])
  | _ => .bad
theorem ev_new {call : Calls} {e : E} {env : Env} {S : Store} : ev G call (.new e) env S = (ev G call e env S).bind nw := rfl
theorem nw_of {o : Option D} {Q : VK} {Xc : Nat → Hp → Prop} (z : Wq K nm (rpD K) W H ((R.of o S).bind nw) Q Xc) : ∃ xs, o = some (.lst xs) ∧ Wq K nm (rpD K) W H (R.ok (.ref S.length) (S ++ [.lst xs])) Q Xc := by
  cases o with
  | none => exact z.elim
  | some d => cases d <;> first | exact z.elim | exact ⟨_, rfl, z⟩
variable (P w K mg base G Y nm kk N) in
/-- a new list of this expression -/
structure SndN (e : E) : Prop where
  v : ∀ (sc : Scope) (a : Expr) (X : Cx) (Wi : WX), isFresh e = true → chk Y N e sc a = true → COk P w K mg base kk N sc X → Tk X Wi → PE X a (tE K nm Wi (ev G (run G kk) (.new e)))
theorem SndN.no {e : E} (h : isFresh e = false) : SndN P w K mg base G Y nm kk N e := ⟨fun sc a X Wi q => by rw [h] at q; cases q⟩
theorem s_new (e : E) (ie : SndN P w K mg base G Y nm kk N e) : Snd P w K mg base G Y nm kk N (.new e) := by
  refine ⟨fun sc x X Wi h C tk => ?_, fun sc x X Wi h C tk => by simp [chkT] at h, fun sc a X Wi h C tk => by simp [chkA] at h⟩
  simp only [chk, Bool.and_eq_true] at h
  exact ie.v _ _ _ _ h.1 h.2 C tk
theorem n_lst (as : E) (ia : Snd P w K mg base G Y nm kk N as) : SndN P w K mg base G Y nm kk N (.lst as) := by
  refine ⟨fun sc x X Wi _ h C tk => ?_⟩
  simp only [chk] at h
  split at h <;> try (cases h; done)
  refine (pe_lst (ia.l _ _ X Wi h C tk)).imp fun σ H Q wq => ?_
  have wq : tE K nm Wi (fun env S => (ev G (run G kk) as env S).bind fun xs S => (R.of (mkLst (toTup xs)) S).bind nw) σ H Q := by
    refine (?_ : (fun env S => _) = (fun env S => ev G (run G kk) (.new (.lst as)) env S)) ▸ wq
    funext env S
    rw [ev_new]
    simp only [ev, R.bind_assoc]
  obtain ⟨W, S, env, E, r, z⟩ := tX.args (g := fun _ xs S => (R.of (mkLst (toTup xs)) S).bind nw) wq
  refine ⟨W, S, env, E, r, z.mono fun vs H1 z => ?_⟩
  obtain ⟨W1, S1, xs, env1, E1, r1, p1, z⟩ := z
  obtain ⟨ys, e, z⟩ := nw_of z
  obtain ⟨hz, e2⟩ := mkLst_some (xs := xs) e
  cases e2
  exact ⟨p1.sz hz, fun p hp => adopt r1 p1 hp z⟩
theorem n_bf_of (g : GOk K mg G Y nm fa fd ps) (f : Bf) (as : E) (ia : Snd P w K mg base G Y nm kk N as)
    (hb : ∀ (X : Cx), X.K = K → X.calm = true → ∃ (id : String) (r : List V → Hp → VK → Prop), ((CallR X (.builtin id) r ∧ bootBuiltins (bfN f) = some (.builtin id)) ∨ (CallR X (.type id) r ∧ bootBuiltins (bfN f) = some (.type id))) ∧
      ∀ (W : Wd) (S : Store) (H : Hp) (as : List D) (vs : List V) (xs : List D) (Q : VK), Rel K nm W S H → Reps K W H as vs → bfD f as S = some (.lst xs) → FinL K W H xs Q → r vs H Q)
    (hn : bfN f ≠ "__name__" := by decide +kernel) (hd : (bfN f == ("__debug__" : Str)) = false := by decide +kernel) : SndN P w K mg base G Y nm kk N (.bf f as) := by
  refine ⟨fun sc x X Wi _ h C tk => ?_⟩
  simp only [chk] at h
  split at h <;> try (cases h; done)
  simp only [Bool.and_eq_true, decide_eq_true_eq] at h
  obtain ⟨⟨⟨⟨h0, h1⟩, h2⟩, h3⟩, h4⟩ := h
  subst h1
  have pa := ia.l _ _ X Wi h4 C tk
  have m1 : X.mg (bfN f) = none := by rw [C.hm]; exact g.bl _ h3
  obtain ⟨id, r, hc, ad⟩ := hb X C.hK C.calm
  have fin : ∀ {σ : L2.St} {H : Hp} {Q : VK}, tE K nm Wi (ev G (run G kk) (.new (.bf f as))) σ H Q → tCB r (tA K nm Wi (ev G (run G kk) as)) σ H Q := fun {σ H Q} wq => by
    have wq : tE K nm Wi (fun env S => (ev G (run G kk) as env S).bind fun xs S => (R.of (bfD f (toTup xs) S) S).bind nw) σ H Q := by
      refine (?_ : (fun env S => _) = (fun env S => ev G (run G kk) (.new (.bf f as)) env S)) ▸ wq
      funext env S
      rw [ev_new]
      simp only [ev, R.bind_assoc]
    obtain ⟨W, S, env, E, r', z⟩ := tX.args (g := fun _ xs S => (R.of (bfD f (toTup xs) S) S).bind nw) wq
    refine ⟨W, S, env, E, r', z.mono fun vs H1 z => ?_⟩
    obtain ⟨W1, S1, xs, env1, E1, r1, p1, z⟩ := z
    obtain ⟨ys, e, z⟩ := nw_of z
    exact ad W1 S1 H1 xs vs ys Q r1 p1 e (adoptL r1 z)
  rcases hc with ⟨hc, hv⟩ | ⟨hc, hv⟩
  · exact (pe_callB hc (gl_ok C h2) m1 hv pa hn hd (star_ok (star1 h4)) (stars_ok1 h4)).imp fun σ H Q wq => fin wq
  · exact (pe_callTy hc (gl_ok C h2) m1 hv pa hn hd (star_ok (star1 h4)) (stars_ok1 h4)).imp fun σ H Q wq => fin wq
theorem n_bf (g : GOk K mg G Y nm fa fd ps) (f : Bf) (as : E) (ia : Snd P w K mg base G Y nm kk N as) : SndN P w K mg base G Y nm kk N (.bf f as) := by
  cases f with
  | list => exact n_bf_of g .list as ia fun X e c => ⟨"list", _, .inr ⟨call_list_of.or (call_listD c), by decide +kernel⟩, fun W S H as vs xs Q r p h f => e ▸ list_new r p h f⟩
  | sorted => exact n_bf_of g .sorted as ia fun X e c => ⟨"sorted", _, .inl ⟨cr_srt c, by decide +kernel⟩, fun W S H as vs xs Q r p h f => e ▸ sort_new r p h f⟩
  | _ => exact SndN.no rfl
theorem cat_new {x y : D} {u v : V} {zs : List D} {Q : VK} (r : Rel K nm W S H) (p : Rep K W H x u) (q : Rep K W H y v) (h : bop .add x y S = some (.lst zs)) (f : FinL K W H zs Q) : rAdd4 K u v H Q := by
  simp only [bop, addD] at h
  split at h
  · cases h
  · split at h <;> cases h
  · split at h <;> cases h
  · split at h
    · rename_i a b e1 e2
      split at h
      · rename_i hz
        cases h
        obtain ⟨a, vs, rfl, h1, p1⟩ := rep_lst r p e1
        obtain ⟨b, ws, rfl, h2, p2⟩ := rep_lst r q e2
        exact .inr ⟨a, b, vs, ws, rfl, rfl, h1, h2, by rw [p1.lens, p2.lens, ← SZ_eq]; exact hz, fun p hp => f _ _ (p1.append p2) hp⟩
      · cases h
    · cases h
theorem rep_new {x y : D} {u v : V} {zs : List D} {Q : VK} (r : Rel K nm W S H) (p : Rep K W H x u) (q : Rep K W H y v) (h : bop .mul x y S = some (.lst zs)) (f : FinL K W H zs Q) : rMul3 K u v H Q := by
  simp only [bop, mulD] at h
  split at h
  · split at h <;> cases h
  · split at h <;> cases h
  · split at h
    · split at h
      · rename_i e1 z
        cases h
        cases q
        obtain ⟨a, vs, rfl, h1, p1⟩ := rep_lst r p e1
        refine .inr ⟨a, _, vs, rfl, rfl, h1, by omega, by omega, ?_, fun p hp => f _ _ (p1.rep _) hp⟩
        rw [p1.lens, sizeLine_eq]
        have := Nat.mul_le_mul z.2.2 (show (Int.toNat _) ≤ 1000 from Int.toNat_le.mpr z.2.1)
        omega
      · cases h
    · cases h
  · cases h
theorem n_bin (o : BOp) (a b : E) (ia : Snd P w K mg base G Y nm kk N a) (ib : Snd P w K mg base G Y nm kk N b) : SndN P w K mg base G Y nm kk N (.bin o a b) := by
  refine ⟨fun sc x X Wi fr h C tk => ?_⟩
  cases x <;> simp only [chk] at h <;> first | (cases h; done) | skip
  simp only [Bool.and_eq_true, decide_eq_true_eq] at h
  obtain ⟨⟨h1, h2⟩, h3⟩ := h
  have pa := ia.v _ _ X Wi h2 C tk
  have pb := ib.v _ _ X Wi h3 C tk
  subst h1
  have eq : (fun env S => ev G (run G kk) (.new (.bin o a b)) env S) = fun env S => (ev G (run G kk) a env S).bind fun x S => (ev G (run G kk) b env S).bind fun y S => (R.of (bop o x y S) S).bind nw := by
    funext env S
    rw [ev_new]
    simp only [ev, R.bind_assoc]
  rw [show ev G (run G kk) (.new (.bin o a b)) = _ from eq]
  have e1 := C.hK
  subst e1
  cases o with
  | add => exact (pe_op op_add4 pa pb).imp fun σ H Q wq => tX.op wq fun r p q z => by obtain ⟨zs, e, z⟩ := nw_of z; exact cat_new r p q e (adoptL r z)
  | mul => exact (pe_op op_mul3 pa pb).imp fun σ H Q wq => tX.op wq fun r p q z => by obtain ⟨zs, e, z⟩ := nw_of z; exact rep_new r p q e (adoptL r z)
  | _ => cases fr
theorem sl_new {x : D} {u : V} {lo hi : Option Int} {zs : List D} {Q : VK} (r : Rel K nm W S H) (p : Rep K W H x u) (h : slD x lo hi S = some (.lst zs)) (f : FinL K W H zs Q) : rSl3 K u lo hi H Q := by
  simp only [slD] at h
  split at h
  · split at h <;> cases h
  · cases h
  · cases h
    cases p with
    | @scr _ a h1 => exact .inl (.inr ⟨a, _, rfl, h1.sq, fun p hp => f _ _ (reps_cut (reps_int _)) hp⟩)
  · split at h
    · rename_i e
      cases h
      obtain ⟨a, vs, rfl, h1, p1⟩ := rep_lst r p e
      exact .inl (.inr ⟨a, vs, rfl, .inl h1, fun p hp => f _ _ (reps_cut p1) hp⟩)
    · cases h
theorem n_sl (a lo hi : E) (ia : Snd P w K mg base G Y nm kk N a) (il : Snd P w K mg base G Y nm kk N lo) (ih : Snd P w K mg base G Y nm kk N hi) : SndN P w K mg base G Y nm kk N (.sl a lo hi) := by
  refine ⟨fun sc x X Wi _ h C tk => ?_⟩
  simp only [chk] at h
  split at h <;> try (cases h; done)
  simp only [Bool.and_eq_true] at h
  obtain ⟨⟨h1, h2⟩, h3⟩ := h
  have pa := ia.v _ _ X Wi h1 C tk
  have pl := part_ok il h2 C tk
  have ph := part_ok ih h3 C tk
  have e1 := C.hK
  subst e1
  refine (pe_slice sl_3 pa pl ph).imp fun σ H Q wq => ?_
  obtain ⟨W, S, env, E, r, z⟩ := wq
  have z : Wq X.K nm (rpD X.K) W H ((ev G (run G kk) a env S).bind fun x S => (evP G (run G kk) lo env S).bind fun l S => (evP G (run G kk) hi env S).bind fun h S => (R.of (slD x l h S) S).bind nw) Q (Xw nm Wi σ) := by
    rw [ev_new] at z
    simp only [ev, R.bind_assoc] at z
    exact z
  refine ⟨W, S, env, E, r, (Wq.bind (rp := rpD X.K) z).mono fun x H1 z => ?_⟩
  obtain ⟨W1, S1, dx, e1, r1, p1, z⟩ := z
  have E1 := E.mono r.trk e1
  refine ⟨W1, S1, env, E1, r1, (Wq.bind (rp := rpO) z).mono fun l H2 z => ?_⟩
  obtain ⟨W2, S2, dl, e2, r2, p2, z⟩ := z
  have E2 := E1.mono r1.trk e2
  cases (show dl = l from p2)
  refine ⟨W2, S2, env, E2, r2, (Wq.bind (rp := rpO) z).mono fun h H3 z => ?_⟩
  obtain ⟨W3, S3, dh, e3, r3, p3, z⟩ := z
  cases (show dh = h from p3)
  obtain ⟨zs, e, z⟩ := nw_of z
  exact sl_new r3 ((p1.mono r1.trk e2).mono r2.trk e3) e (adoptL r3 z)
mutual
theorem Rep.moveB {p : Addr} : ∀ {d : D} {v : V}, Rep K (W.add p) H d v → Rep K ⟨W.m ++ [p], W.B⟩ H d v
  | _, _, .non => .non
  | _, _, .bl b => .bl b
  | _, _, .int i => .int i
  | _, _, .str x => .str x
  | _, _, .tup h r => .tup h (Reps.moveB r)
  | _, _, .lst h a b r => .lst h (by
      simp only [Wd.add, List.mem_cons, not_or] at a b
      simp only [List.mem_append, List.mem_singleton, not_or]
      exact ⟨a, b.1⟩) (fun z => b (List.mem_cons_of_mem _ z)) (Reps.moveB r)
  | _, _, .dct h a b r => .dct h (by
      simp only [Wd.add, List.mem_cons, not_or] at a b
      simp only [List.mem_append, List.mem_singleton, not_or]
      exact ⟨a, b.1⟩) (fun z => b (List.mem_cons_of_mem _ z)) (RepK.moveB r)
  | _, _, .ref h => .ref ((List.getElem?_append_left (List.getElem?_eq_some_iff.mp h).1).trans h)
  | _, _, .scr h => .scr h
theorem Reps.moveB {p : Addr} : ∀ {d : List D} {v : List V}, Reps K (W.add p) H d v → Reps K ⟨W.m ++ [p], W.B⟩ H d v
  | _, _, .nil => .nil
  | _, _, .cons r rs => .cons (Rep.moveB r) (Reps.moveB rs)
theorem RepK.moveB {p : Addr} : ∀ {d : List (Ky × D)} {v : List (Key × V)}, RepK K (W.add p) H d v → RepK K ⟨W.m ++ [p], W.B⟩ H d v
  | _, _, .nil => .nil
  | _, _, .cons r rs => .cons (Rep.moveB r) (RepK.moveB rs)
end
theorem Rel.moveB {p : Addr} {xs : List D} {vs : List V} (r : Rel K nm (W.add p) S H) (hp : H p = some (.lst vs)) (pr : Reps K (W.add p) H xs vs) (nb : p ∉ W.B) : Rel K nm ⟨W.m ++ [p], W.B⟩ (S ++ [.lst xs]) H := by
  have hn := (r.bs p List.mem_cons_self).1
  refine ⟨?_, ?_, fun n a ob h1 h2 => ?_, fun b hb => ?_⟩
  · have := r.len
    simp only [Wd.add] at this
    simp [this]
  · exact List.nodup_append.mpr ⟨r.nd, by simp, fun a ha b hb => by
      simp only [List.mem_singleton] at hb
      intro e; rw [e, hb] at ha; exact hn ha⟩
  · have hl : W.m.length = S.length := r.len
    by_cases hlt : n < W.m.length
    · have h1' : W.m[n]? = some a := by
        have : (W.m ++ [p])[n]? = some a := h1
        rwa [List.getElem?_append_left hlt] at this
      rw [List.getElem?_append_left (by rw [← hl]; exact hlt)] at h2
      exact ob_map (fun d v q => q.moveB) (fun d v q => q.moveB) (fun d v q => q.moveB) (fun u e => e) (r.ob n a ob h1' h2)
    · have h1' : (W.m ++ [p])[n]? = some a := h1
      rw [List.getElem?_append_right (by omega)] at h1'
      rw [List.getElem?_append_right (by omega)] at h2
      rw [hl] at h1'
      cases hk : n - S.length with
      | zero =>
        rw [hk] at h1' h2
        simp at h1' h2
        subst h1' h2
        exact ⟨vs, hp, pr.moveB⟩
      | succ k => rw [hk] at h2; simp at h2
  · have hb' : b ∈ (W.add p).B := List.mem_cons_of_mem _ hb
    obtain ⟨z, o, e⟩ := r.bs b hb'
    refine ⟨fun q => ?_, o, e⟩
    rcases List.mem_append.mp q with q | q
    · exact z q
    · rw [List.mem_singleton.mp q] at hb; exact nb hb
theorem Rel.moveO {p : Addr} {ob : Ob} (r : Rel K nm (W.add p) S H) (hp : ObRep K nm ⟨W.m ++ [p], W.B⟩ H p ob) (nb : p ∉ W.B) : Rel K nm ⟨W.m ++ [p], W.B⟩ (S ++ [ob]) H := by
  have hn := (r.bs p List.mem_cons_self).1
  refine ⟨?_, ?_, fun n a o h1 h2 => ?_, fun b hb => ?_⟩
  · have := r.len
    simp only [Wd.add] at this
    simp [this]
  · exact List.nodup_append.mpr ⟨r.nd, by simp, fun a ha b hb => by
      simp only [List.mem_singleton] at hb
      intro e; rw [e, hb] at ha; exact hn ha⟩
  · have hl : W.m.length = S.length := r.len
    by_cases hlt : n < W.m.length
    · have h1' : W.m[n]? = some a := by
        have : (W.m ++ [p])[n]? = some a := h1
        rwa [List.getElem?_append_left hlt] at this
      rw [List.getElem?_append_left (by rw [← hl]; exact hlt)] at h2
      exact ob_map (fun d v q => q.moveB) (fun d v q => q.moveB) (fun d v q => q.moveB) (fun u e => e) (r.ob n a o h1' h2)
    · have h1' : (W.m ++ [p])[n]? = some a := h1
      rw [List.getElem?_append_right (by omega)] at h1'
      rw [List.getElem?_append_right (by omega)] at h2
      rw [hl] at h1'
      cases hk : n - S.length with
      | zero =>
        rw [hk] at h1' h2
        simp at h1' h2
        subst h1' h2
        exact hp
      | succ k => rw [hk] at h2; simp at h2
  · have hb' : b ∈ (W.add p).B := List.mem_cons_of_mem _ hb
    obtain ⟨z, o, e⟩ := r.bs b hb'
    refine ⟨fun q => ?_, o, e⟩
    rcases List.mem_append.mp q with q | q
    · exact z q
    · rw [List.mem_singleton.mp q] at hb; exact nb hb
/-! ### list(range(..)) -/
/-- the range of these arguments -/
theorem rng_of {k : IK} {xs ys : List D} {vs : List V} (p : Reps K W H xs vs) (h : mkIt k xs S = some (.items ys)) (hk : k = .rng1 ∨ k = .rng2 ∨ k = .rng3) :
    ∃ lo hi c n, RgA vs lo hi c ∧ Builtin.Range.small lo hi c = true ∧ Builtin.Range.rangeSize lo hi c = ((n : Nat) : Int) ∧ ys = rngD lo c n := by
  rcases hk with rfl | rfl | rfl
  · simp only [mkIt] at h
    split at h <;> try (cases h; done)
    all_goals first | (rename_i hc; cases hc; done) | skip
    rename_i j hk
    split at h <;> cases h
    rename_i hj
    obtain ⟨v, rfl, q⟩ := reps1 p
    cases q
    refine ⟨0, j, 1, j.toNat, .inl ⟨rfl, rfl, rfl⟩, small_one (by omega) (by omega) (b62_ok hj).1 (b62_ok hj).2, ?_, rfl⟩
    rw [rangeSize_one]
    split <;> omega
  · simp only [mkIt] at h
    split at h <;> try (cases h; done)
    all_goals first | (rename_i hc; cases hc; done) | skip
    rename_i i j hk
    split at h <;> cases h
    rename_i hb
    simp only [Bool.and_eq_true] at hb
    obtain ⟨v, u, rfl, q1, q2⟩ := reps2 p
    cases q1; cases q2
    refine ⟨i, j, 1, (j - i).toNat, .inr (.inl ⟨rfl, rfl⟩), small_one (b62_ok hb.1).1 (b62_ok hb.1).2 (b62_ok hb.2).1 (b62_ok hb.2).2, ?_, rfl⟩
    rw [rangeSize_one]
    split <;> omega
  · simp only [mkIt] at h
    split at h <;> try (cases h; done)
    all_goals first | (rename_i hc; cases hc; done) | skip
    rename_i i j c hk
    split at h <;> cases h
    rename_i hb
    simp only [Bool.and_eq_true] at hb
    have hc := tst_iff.mp hb.2
    obtain ⟨c0, c1, c2, c3⟩ := rangeC_ok hb.1.1 hb.1.2 hc
    cases p with | cons q1 p => cases p with | cons q2 p => cases p with | cons q3 p =>
    cases p; cases q1; cases q2; cases q3
    exact ⟨i, j, c, _, .inr (.inr ⟨rfl, by omega, by omega⟩), c2, c3, rfl⟩
theorem reps_rng {lo c : Int} {n : Nat} : Reps K W H (rngD lo c n) ((List.range n).map fun (i : Nat) => V.int (lo + i * c)) := by
  unfold rngD
  induction List.range n with
  | nil => exact .nil
  | cons k l ih => exact .cons (.int _) ih
theorem lrng_of (g : GOk K mg G Y nm fa fd ps) (k : IK) (as : E) (ia : Snd P w K mg base G Y nm kk N as) {fr : List D → Store → R D} (hfr : ∀ {W : Wd} {S : Store} {H : Hp} {ys : List D} {Q : VK} {Xc : Nat → Hp → Prop}, Rel K nm W S H → Wq K nm (rpD K) W H (fr ys S) Q Xc → FinL K W H ys Q) {x : Expr}
    (h : chk Y N (.lrng k as) sc x = true) (C : COk P w K mg base kk N sc X) (tk : Tk X Wi) : PE X x (tE K nm Wi fun env S => (ev G (run G kk) as env S).bind fun xs S => match mkIt k (toTup xs) S with
    | some (.items ys) => if ys.length ≤ SZ then fr ys S else .bad
    | _ => .bad) := by
  simp only [chk] at h
  split at h <;> try (cases h; done)
  rename_i g1 p1 r1 p2 q qs pos1 pos2
  simp only [Bool.and_eq_true, decide_eq_true_eq] at h
  obtain ⟨⟨⟨⟨⟨⟨⟨h1, h2⟩, h3⟩, h4⟩, h5⟩, h6⟩, h7⟩, h8⟩ := h
  subst h1 h2
  have hk : k = .rng1 ∨ k = .rng2 ∨ k = .rng3 := by
    cases k <;> first | exact .inl rfl | exact .inr (.inl rfl) | exact .inr (.inr rfl) | cases h7
  refine (pe_listRc C.calm (gl_ok C h3) (by rw [C.hm]; exact g.bl _ h5) (prc (gl_ok C h4) (by rw [C.hm]; exact g.bl _ h6) (ia.l _ _ X Wi h8 C tk) (star_ok (star1 h8)) (stars_ok1 h8)) rfl).imp fun σ H Q wq => ?_
  obtain ⟨W, S, env, E, r, z⟩ := tX.args (g := fun _ xs S => match mkIt k (toTup xs) S with
    | some (.items ys) => if ys.length ≤ SZ then fr ys S else .bad
    | _ => .bad) wq
  refine ⟨W, S, env, E, r, z.mono fun vs H1 z => ?_⟩
  obtain ⟨W1, S1, xs, env1, E1, r1, p1, z⟩ := z
  cases hm : mkIt k (toTup (.tup xs)) S1 with
  | none => rw [hm] at z; exact z.elim
  | some it =>
    rw [hm] at z
    cases it with
    | live _ _ => exact z.elim
    | lkd _ _ _ => exact z.elim
    | items ys =>
      dsimp only at z
      split at z <;> try exact z.elim
      rename_i hz
      obtain ⟨lo, hi, c, n, e1, e2, e3, rfl⟩ := rng_of p1 hm hk
      refine ⟨lo, hi, c, e1, n, e2, e3, ?_, fun q hq => hfr r1 z _ _ reps_rng hq⟩
      rw [rngD_len] at hz
      exact hz
theorem s_lrng (g : GOk K mg G Y nm fa fd ps) (k : IK) (as : E) (ia : Snd P w K mg base G Y nm kk N as) : Snd P w K mg base G Y nm kk N (.lrng k as) :=
  ⟨fun sc x X Wi h C tk => lrng_of g k as ia (fr := fun ys S => .ok (.lst ys) S) (fun r z => by
    have f : Fin K nm _ _ _ _ _ := fun v W' H' e r' p => z v W' H' e r' p
    exact f.finL r) h C tk, fun sc x X Wi h C tk => by simp [chkT] at h, fun sc a X Wi h C tk => by simp [chkA] at h⟩
theorem n_lrng (g : GOk K mg G Y nm fa fd ps) (k : IK) (as : E) (ia : Snd P w K mg base G Y nm kk N as) : SndN P w K mg base G Y nm kk N (.lrng k as) := by
  refine ⟨fun sc x X Wi _ h C tk => ?_⟩
  have eq : ev G (run G kk) (.new (.lrng k as)) = fun env S => (ev G (run G kk) as env S).bind fun xs S => match mkIt k (toTup xs) S with
      | some (.items ys) => if ys.length ≤ SZ then R.ok (.ref S.length) (S ++ [.lst ys]) else .bad
      | _ => .bad := by
    funext env S
    rw [ev_new]
    simp only [ev, R.bind_assoc]
    congr 1
    funext xs S
    cases mkIt k (toTup xs) S with
    | none => rfl
    | some it =>
      cases it with
      | live _ _ => rfl
      | lkd _ _ _ => rfl
      | items ys =>
        dsimp only
        split <;> rfl
  rw [eq]
  exact lrng_of g k as ia (fr := fun ys S => .ok (.ref S.length) (S ++ [.lst ys])) (fun r z => adoptL r z) h C tk
theorem fr_new : CompFr K nm fun ys S => .ok (.ref S.length) (S ++ [.lst ys]) := by
  intro W1 H1 S1 Sf ys Dl m2 av H Q Xc r1 hD e1 r2 hd p2 z
  obtain ⟨t, et, ft⟩ := e1.m
  have et : m2 = W1.m ++ t := et
  refine z (.ref Dl) ⟨m2 ++ [Dl], W1.B⟩ H ⟨rfl, ⟨t ++ [Dl], by rw [et, List.append_assoc], fun a ha => ?_⟩, e1.keep, e1.fz⟩ (r2.moveB hd p2 fun hm => ?_) (.ref ?_)
  · rcases List.mem_append.mp ha with ha | ha
    · exact ft a ha
    · rw [List.mem_singleton.mp ha]; exact hD
  · obtain ⟨_, o, ho⟩ := r1.bs Dl hm
    rw [hD] at ho; cases ho
  · have hl : m2.length = Sf.length := r2.len
    show (m2 ++ [Dl])[Sf.length]? = some Dl
    rw [← hl, List.getElem?_append_right (Nat.le_refl _), Nat.sub_self]
    rfl
theorem new_comp_eq {k : IK} {src : E} {tg : Tg} {c e : E} : ev G (run G kk) (.new (.comp k src tg c e)) = evC G (run G kk) k src tg c e fun ys S => .ok (.ref S.length) (S ++ [.lst ys]) := by
  funext env S
  rw [ev_new]
  simp only [ev, evC, R.bind_assoc]
  congr 1
  funext xs S
  cases mkIt k (srcL k xs) S with
  | none => rfl
  | some it =>
    show ((goIt it (qk k (cBody G (run G kk) tg c e env)) S).bind fun ys S => R.ok (D.lst ys) S).bind nw = _
    rw [R.bind_assoc]
    rfl
theorem n_comp (g : GOk K mg G Y nm fa fd ps) (k : IK) (src : E) (tg : Tg) (c e : E) (is : Snd P w K mg base G Y nm kk N src) (ic : Snd P w K mg base G Y nm kk N c) (ie : Snd P w K mg base G Y nm kk N e) : SndN P w K mg base G Y nm kk N (.comp k src tg c e) := by
  refine ⟨fun sc x X Wi _ h C tk => ?_⟩
  rw [new_comp_eq]
  exact comp_of g k src tg c e is ic ie fr_new h C tk
end
end PL

set_option Elab.async false
set_option linter.all false
set_option maxRecDepth 100000
set_option maxHeartbeats 2000000
/-! PLY: dicts, methods of built-ins, f-strings. -/
namespace PL
open PySem PySem.Spec PyProof.Rows L2
section
variable {P : Program} {w : World} {K : PySem.W.Frag} {mg : Str → Option Value} {base : Heap} {G : Tab} {Y : Sx} {nm : Nm} {fa : Nat → Addr} {fd : Nat → FuncData} {ps : Nat → List Str} {kk : Nat} {N : List Str}
variable {sc : Scope} {X : Cx} {Wi : WX} {W W' : Wd} {H H' : Hp} {S S' : Store}
/-! ### dicts, by values -/
theorem key_ok {d : D} {v : V} {k : Ky} (p : Rep K W H d v) (h : keyOf d = some k) : v = kV k := by
  cases p <;> simp only [keyOf] at h <;> first | (cases h; done) | (cases h; rfl)
theorem val_ok {ds : List (Ky × D)} {vs : List (Key × V)} (p : RepK K W H ds vs) (k : Ky) : (∀ d, getK ds k = some d → ∃ v, valV vs k = some v ∧ Rep K W H d v) ∧ (getK ds k = none → valV vs k = none) := by
  induction ds generalizing vs with
  | nil => cases p; exact ⟨fun d h => (by cases h), fun _ => rfl⟩
  | cons x ds ih =>
    cases p with
    | @cons k' d v _ vs a b =>
      obtain ⟨i1, i2⟩ := ih b
      by_cases e : k' = k
      · subst e
        rw [valV_pos (p := (k', v)) rfl]
        simp only [getK, if_true]
        exact ⟨fun d' h => (by cases h; exact ⟨v, rfl, a⟩), fun h => (by cases h)⟩
      · rw [valV_neg (p := (k', v)) e]
        simp only [getK, if_neg e]
        exact ⟨i1, i2⟩
theorem any_keys {ds : List (Ky × D)} {vs : List (Key × V)} (p : RepK K W H ds vs) (k : Ky) : (vs.any fun kv => decide (kv.1 = k)) = ds.any fun e => decide (e.1 = k) := by
  induction ds generalizing vs with
  | nil => cases p; rfl
  | cons x ds ih =>
    cases p with
    | cons a b => simp [ih b]
theorem repK_append {ds es : List (Ky × D)} {vs us : List (Key × V)} (p : RepK K W H ds vs) (q : RepK K W H es us) : RepK K W H (ds ++ es) (vs ++ us) := by
  induction ds generalizing vs with
  | nil => cases p; exact q
  | cons x ds ih =>
    cases p with
    | cons a b => exact .cons a (ih b)
theorem put_map {ds : List (Ky × D)} {vs : List (Key × V)} {k : Ky} {d : D} {v : V} (p : RepK K W H ds vs) (q : Rep K W H d v) : RepK K W H (ds.map fun e => if e.1 = k then (e.1, d) else e) (vs.map fun kv => if kv.1 = k then (kv.1, v) else kv) := by
  induction ds generalizing vs with
  | nil => cases p; exact .nil
  | cons x ds ih =>
    cases p with
    | @cons k' d' v' _ vs a b =>
      simp only [List.map_cons]
      by_cases e : k' = k
      · subst e
        simp only [if_true]
        exact .cons q (ih b)
      · simp only [if_neg e]
        exact .cons a (ih b)
theorem put_ok {ds : List (Ky × D)} {vs : List (Key × V)} {k : Ky} {d : D} {v : V} (p : RepK K W H ds vs) (q : Rep K W H d v) : RepK K W H (setK ds k d) (putK vs k v) := by
  unfold setK putK
  rw [any_keys p k]
  split
  · exact put_map p q
  · exact repK_append p (.cons q .nil)
theorem drop_ok {ds : List (Ky × D)} {vs : List (Key × V)} {k : Ky} (p : RepK K W H ds vs) : RepK K W H (delK ds k) (dropK vs k) := by
  unfold delK dropK
  induction ds generalizing vs with
  | nil => cases p; exact .nil
  | cons x ds ih =>
    cases p with
    | @cons k' d' v' _ vs a b =>
      simp only [List.filter_cons]
      by_cases e : k' = k
      · subst e; simpa using ih b
      · simp only [ne_eq, e, not_false_eq_true, decide_true, if_true]
        exact .cons a (ih b)
/-- a dict of the store is written -/
theorem Rel.putD (r : Rel K nm W S H) {n : Nat} {a : Addr} {ds : List (Ky × D)} {vs : List (Key × V)} (h : W.m[n]? = some a) (hu : Unf H a) (q : RepK K W H ds vs) : Ext W H W (upd H a (.dK vs)) ∧ Rel K nm W (S.set n (.dct ds)) (upd H a (.dK vs)) := by
  have e : Ext W H W (upd H a (.dK vs)) := Ext.put (List.mem_of_getElem? h) hu
  exact ⟨e, r.put h hu ⟨vs, upd_same, q.mono r.trk e⟩⟩
theorem Rel.putL (r : Rel K nm W S H) {n : Nat} {a : Addr} {ds : List D} {vs : List V} (h : W.m[n]? = some a) (hu : Unf H a) (q : Reps K W H ds vs) : Ext W H W (upd H a (.lst vs)) ∧ Rel K nm W (S.set n (.lst ds)) (upd H a (.lst vs)) := by
  have e : Ext W H W (upd H a (.lst vs)) := Ext.put (List.mem_of_getElem? h) hu
  exact ⟨e, r.put h hu ⟨vs, upd_same, q.mono r.trk e⟩⟩
theorem s_dict0 : Snd P w K mg base G Y nm kk N .dict0 := by
  refine ⟨fun sc x X Wi h C tk => ?_, fun sc x X Wi h C tk => by simp [chkT] at h, fun sc a X Wi h C tk => by simp [chkA] at h⟩
  simp only [chk] at h
  split at h <;> try (cases h; done)
  refine pe_dnewK.imp fun σ H Q wq p hp => ?_
  obtain ⟨W, S, env, E, r, z⟩ := wq
  simp only [ev] at z
  have e : Ext W H ⟨W.m ++ [p], W.B⟩ (upd H p (.dK [])) := Ext.join hp
  refine z (.ref p) ⟨W.m ++ [p], W.B⟩ _ e (r.join hp ⟨[], upd_same, .nil⟩) (.ref ?_)
  show (W.m ++ [p])[S.length]? = some p
  rw [← r.len, List.getElem?_append_right (Nat.le_refl _), Nat.sub_self]
  rfl
theorem din_ok {x y : D} {b : Bool} {u v : V} (r : Rel K nm W S H) (p : Rep K W H x u) (q : Rep K W H y v) (h : dinD x y S = some b) : ∃ a o, v = .ref a ∧ DGet H a u o ∧ o.isSome = b := by
  simp only [dinD] at h
  split at h
  · rename_i kvs e
    rw [Option.map_eq_some_iff] at h
    obtain ⟨k, h1, h2⟩ := h
    obtain ⟨a, vs, rfl, h3, h4⟩ := rep_dct r q e
    refine ⟨a, valV vs k, rfl, .inl ⟨vs, k, h3, key_ok p h1, rfl⟩, ?_⟩
    obtain ⟨g1, g2⟩ := val_ok h4 k
    cases hg : getK kvs k with
    | none => rw [hg] at h2; rw [g2 hg]; exact h2
    | some d => rw [hg] at h2; obtain ⟨v, e1, _⟩ := g1 d hg; rw [e1]; exact h2
  · cases h
def ngB : Bool → Bool → Bool
  | true, b => !b
  | false, b => b
theorem din_core {ng : Bool} {a b : E} {σ : L2.St} {Q : VK} (wq : tE K nm Wi (ev G (run G kk) (.din ng a b)) σ H Q) : (tE K nm Wi (ev G (run G kk) a)) σ H fun y H1 => (tE K nm Wi (ev G (run G kk) b)) σ H1 fun x H2 => ∃ a o, x = .ref a ∧ DGet H2 a y o ∧ Q (.bl (ngB ng o.isSome)) H2 := by
  simp only [ev] at wq
  refine tX.op (rr := fun y x H2 Q => ∃ a o, x = .ref a ∧ DGet H2 a y o ∧ Q (.bl (ngB ng o.isSome)) H2) wq fun r p q z => ?_
  obtain ⟨d, e, f⟩ := z.fin
  rw [Option.map_eq_some_iff] at e
  obtain ⟨c, e1, e2⟩ := e
  subst e2
  obtain ⟨a, o, e3, e4, e5⟩ := din_ok r p q e1
  refine ⟨a, o, e3, e4, ?_⟩
  rw [e5, show ngB ng c = (c != ng) by cases ng <;> cases c <;> rfl]
  exact f.here r (.bl _)
theorem s_din (ng : Bool) (a b : E) (ia : Snd P w K mg base G Y nm kk N a) (ib : Snd P w K mg base G Y nm kk N b) : Snd P w K mg base G Y nm kk N (.din ng a b) := by
  refine ⟨fun sc x X Wi h C tk => ?_, fun sc x X Wi h C tk => ?_, fun sc a X Wi h C tk => by simp [chkA] at h⟩
  · simp only [chk] at h
    split at h <;> try (cases h; done)
    simp only [Bool.and_eq_true, decide_eq_true_eq, Bool.not_eq_true'] at h
    obtain ⟨⟨⟨h1, h0⟩, h2⟩, h3⟩ := h
    have pa := ia.v _ _ X Wi h2 C tk
    have pb := ib.v _ _ X Wi h3 C tk
    subst h1
    have hu : X.A.units + 1 < cLine := by have := C.room.units; omega
    cases ng with
    | false => exact (pe_cmp (pc_din hu pa pb) (mark_ok h0)).imp fun σ H Q wq => din_core wq
    | true => exact (pe_cmp (pc_dnotin hu pa pb) (mark_ok h0)).imp fun σ H Q wq => din_core wq
  · simp only [chkT] at h
    split at h <;> try (cases h; done)
    simp only [Bool.and_eq_true, decide_eq_true_eq, Bool.not_eq_true'] at h
    obtain ⟨⟨⟨h1, h0⟩, h2⟩, h3⟩ := h
    have pa := ia.v _ _ X Wi h2 C tk
    have pb := ib.v _ _ X Wi h3 C tk
    subst h1
    have hu : X.A.units + 1 < cLine := by have := C.room.units; omega
    have cv : ∀ {σ : L2.St} {H : Hp} {Q : Bool → Hp → Prop}, tT K nm Wi (fun env S => mapT (ev G (run G kk) (.din ng a b) env S)) σ H Q → tE K nm Wi (ev G (run G kk) (.din ng a b)) σ H fun x H' => ∃ k, x = .bl k ∧ Q k H' := fun {σ H Q} wq => by
      obtain ⟨W, S, env, E, r, z⟩ := wq
      refine ⟨W, S, env, E, r, ?_⟩
      revert z
      simp only [mapT]
      cases hd : ev G (run G kk) (.din ng a b) env S with
      | bad => exact fun z => z
      | ex c S1 => exact fun z => z
      | ok d S1 =>
        obtain ⟨c, rfl⟩ : ∃ c, d = .bl c := by
          simp only [ev] at hd
          cases h1 : ev G (run G kk) a env S with
          | ok x S2 =>
            rw [h1] at hd
            simp only [R.bind_ok] at hd
            cases h2 : ev G (run G kk) b env S2 with
            | ok y S3 =>
              rw [h2] at hd
              simp only [R.bind_ok] at hd
              cases h3 : dinD x y S3 with
              | none => rw [h3] at hd; cases hd
              | some c => rw [h3] at hd; cases hd; exact ⟨_, rfl⟩
            | ex _ _ => rw [h2] at hd; cases hd
            | bad => rw [h2] at hd; cases hd
          | ex _ _ => rw [h1] at hd; cases hd
          | bad => rw [h1] at hd; cases hd
        intro z v W' H' e r' p
        cases p
        exact ⟨c, rfl, z c W' H' e r' rfl⟩
    cases ng with
    | false => exact (pt_cmp (pc_din hu pa pb) (mark_ok h0)).imp fun σ H Q wq => din_core (cv wq)
    | true => exact (pt_cmp (pc_dnotin hu pa pb) (mark_ok h0)).imp fun σ H Q wq => din_core (cv wq)
theorem s_dix (a i : E) (ia : Snd P w K mg base G Y nm kk N a) (ib : Snd P w K mg base G Y nm kk N i) : Snd P w K mg base G Y nm kk N (.dix a i) := by
  refine ⟨fun sc x X Wi h C tk => ?_, fun sc x X Wi h C tk => by simp [chkT] at h, fun sc a X Wi h C tk => by simp [chkA] at h⟩
  simp only [chk] at h
  split at h <;> try (cases h; done)
  simp only [Bool.and_eq_true] at h
  obtain ⟨⟨h1, h2⟩, h3⟩ := h
  have hu : X.A.units + 1 < cLine := by have := C.room.units; omega
  have pa := ia.v _ _ X Wi h2 C tk
  have pb := ib.v _ _ X Wi h3 C tk
  refine (pe_dget hu pa pb (plainIx_ok h1)).imp fun σ H Q wq => ?_
  simp only [ev] at wq
  refine tX.op (rr := fun x y H2 Q => ∃ a v, x = .ref a ∧ DGet H2 a y (some v) ∧ Q v H2) wq fun r p q z => ?_
  obtain ⟨d, e, f⟩ := z.fin
  simp only [dixD] at e
  split at e
  · rename_i kvs e1
    obtain ⟨k, e2, e3⟩ := Option.bind_eq_some_iff.mp e
    obtain ⟨a, vs, rfl, h3, h4⟩ := rep_dct r p e1
    obtain ⟨v, g1, g2⟩ := (val_ok h4 k).1 d e3
    exact ⟨a, v, rfl, .inl ⟨vs, k, h3, key_ok q e2, g1.symm⟩, f.here r g2⟩
  · cases e

/-! ### methods of built-ins -/
theorem mt_dget (hu : X.A.units + 1 < cLine) : MtR X "dict.get" (fun x xs H Q => ∃ a kvs k, x = .ref a ∧ Rd H a (.dK kvs) ∧ ((xs = [kV k] ∧ Q ((valV kvs k).getD .non) H) ∨ ∃ d, xs = [kV k, d] ∧ Q ((valV kvs k).getD d) H)) := by
  intro pins s σ H x xs v us Q I rx rs h
  obtain ⟨a, kvs, k, rfl, hr, h⟩ := h
  cases rx
  rcases h with ⟨rfl, q⟩ | ⟨d, rfl, q⟩
  · obtain ⟨u, rfl, ru⟩ := vals1 rs
    exact d_get1 hu I (.inl ⟨kvs, k, hr, rfl, rfl⟩) ru fun w' s3 I3 rw' => ⟨_, H, I3, rw', q⟩
  · obtain ⟨u, u', rfl, ru, ru'⟩ := vals2 rs
    exact d_get2 hu I (.inl ⟨kvs, k, hr, rfl, rfl⟩) ru ru' fun w' s3 I3 rw' => ⟨_, H, I3, rw', q⟩
theorem mt_dpop : MtR X "dict.pop" (fun x xs H Q => ∃ a kvs k, x = .ref a ∧ H a = some (.dK kvs) ∧ ((∃ v, xs = [kV k] ∧ valV kvs k = some v ∧ Q v (upd H a (.dK (dropK kvs k)))) ∨
    ∃ d, xs = [kV k, d] ∧ (∀ v, valV kvs k = some v → Q v (upd H a (.dK (dropK kvs k)))) ∧ (valV kvs k = none → Q d H))) := by
  intro pins s σ H x xs v us Q I rx rs h
  obtain ⟨a, kvs, k, rfl, hr, h⟩ := h
  cases rx
  rcases h with ⟨v, rfl, l, q⟩ | ⟨d, rfl, q1, q2⟩
  · obtain ⟨u, rfl, ru⟩ := vals1 rs
    exact d_pop I hr ru l (.inl rfl) fun w' s3 I3 rw' => ⟨v, _, I3, rw', q⟩
  · obtain ⟨u, u', rfl, ru, ru'⟩ := vals2 rs
    cases l : valV kvs k with
    | some v => exact d_pop I hr ru l (.inr ⟨u', rfl⟩) fun w' s4 I4 rw' => ⟨v, _, I4, rw', q1 v l⟩
    | none => exact d_popD I hr ru l fun s4 I4 => ⟨d, H, I4, ru', q2 l⟩
theorem mt_dsetd : MtR X "dict.setdefault" (fun x xs H Q => ∃ a kvs k d, x = .ref a ∧ H a = some (.dK kvs) ∧ kvs.length < sizeLine ∧ xs = [kV k, d] ∧ (∀ v, valV kvs k = some v → Q v H) ∧ (valV kvs k = none → Q d (upd H a (.dK (putK kvs k d))))) := by
  intro pins s σ H x xs v us Q I rx rs h
  obtain ⟨a, kvs, k, d, rfl, hr, hl, rfl, q1, q2⟩ := h
  cases rx
  obtain ⟨u, u', rfl, ru, ru'⟩ := vals2 rs
  exact d_setd I hr ru ru' hl (fun v hv w' s4 I4 rw' => ⟨v, _, I4, rw', q1 v hv⟩) fun hn w' s4 I4 rw' => ⟨d, _, I4, rw', q2 hn⟩
/-- a method with arguments -/
theorem Reps.erase {ds : List D} {vs : List V} (i : Nat) (r : Reps K W H ds vs) : Reps K W H (ds.eraseIdx i) (vs.eraseIdx i) := by
  induction ds generalizing vs i with
  | nil => cases r; exact .nil
  | cons x ds ih => cases r with | cons a b => cases i with
    | zero => exact b
    | succ i => exact .cons a (ih i b)
theorem mt_index0 {X : Cx} (hc : X.calm = true) : MtS X "str.index" (rIndexX noX) := fun pins s σ H x xs v us Q I rx rs h =>
  wpAny_mono (mt_indexX (X := X.nox) (W := noX) hc takes0 pins s σ H x xs v us Q (I.wish _) rx rs h) (fun _ _ ⟨v, H', I', r, q⟩ => ⟨v, H', I'.unwish, r, q⟩) fun _ _ z => False.elim z
theorem s_bm_of (m : Bm) (o as : E) (io : Snd P w K mg base G Y nm kk N o) (ia : Snd P w K mg base G Y nm kk N as) (hne : bmA m 0 = false)
    (hb : ∀ (X : Cx) (Wi : WX), X.K = K → X.calm = true → X.A.units + 64 < cLine → Tk X Wi → ∃ (T id : String) (r : L2.St → V → List V → Hp → VK → Prop), PlainAttrs T ∧ Slot T (bmN m) id ∧ typeOf (.builtin id) = pure (.type "method_descriptor") ∧ MtS X id r ∧
      (∀ (W : Wd) (S : Store) (H : Hp) (d : D) (x : V), Rel K nm W S H → Rep K W H d x → bmOk m d S = true → tyV K T x H) ∧
      ∀ (W : Wd) (S : Store) (H : Hp) (d : D) (x : V) (as : List D) (vs : List V) (Q : VK) (σ : L2.St), Rel K nm W S H → Rep K W H d x → Reps K W H as vs → Wq K nm (rpD K) W H (bmD m d as S) Q (Xw nm Wi σ) → r σ x vs H Q) : Snd P w K mg base G Y nm kk N (.bm m o as) := by
  refine ⟨fun sc x X Wi h C tk => ?_, fun sc x X Wi h C tk => by simp [chkT] at h, fun sc a X Wi h C tk => by simp [chkA] at h⟩
  simp only [chk] at h
  split at h <;> try (cases h; done)
  rename_i e t ap ps cp
  simp only [Bool.and_eq_true, decide_eq_true_eq] at h
  obtain ⟨⟨⟨⟨⟨h0, h1⟩, h2⟩, h3⟩, h4⟩, h5⟩ := h
  subst h0
  obtain ⟨T, id, r, pA, sl, ty, mt, ok1, ok2⟩ := hb X Wi C.hK C.calm C.room.units tk
  have base : ∀ n : Str, attributeBase e n X.env (eval e X.env) = eval e X.env := fun n => base_ok h3
  have go : ∀ {σ : L2.St} {H : Hp} {Q : VK}, tE K nm Wi (ev G (run G kk) (.bm m o as)) σ H Q → tBMS K T r (tE K nm Wi (ev G (run G kk) o)) (tA K nm Wi (ev G (run G kk) as)) σ H Q := fun {σ H Q} wq => by
    obtain ⟨W, S, env, E, r0, z⟩ := wq
    simp only [ev] at z
    refine ⟨W, S, env, E, r0, (Wq.bind (rp := rpD K) z).mono fun x H1 z => ?_⟩
    obtain ⟨W1, S1, dx, e1, r1, p1, z⟩ := z
    split at z <;> try exact z.elim
    rename_i hk
    refine ⟨ok1 W1 S1 H1 dx x r1 p1 hk, W1, S1, env, E.mono r0.trk e1, r1, (Wq.bind (rp := rpA K) z).mono fun us H2 z => ?_⟩
    obtain ⟨W2, S2, dy, e2, r2, ⟨ys, e3, p2⟩, z⟩ := z
    subst e3
    exact ok2 W2 S2 H2 dx x ys us Q σ r2 (p1.mono r1.trk e2) p2 z
  have e1 := C.hK
  subst e1
  cases ps with
  | nil => rw [show ([] : List Expr).length = 0 from rfl, hne] at h1; cases h1
  | cons p ps =>
    have s1 := star1 h5
    have few : ((backTo cp (starEach (p :: ps) X.env)).all (fun x => !x.1) && (backToKw cp (keywordEach [] X.env)).all (fun x => x.1.isSome) && decide ((p :: ps).length + ([] : List Keyword).length + (if ([] : List Keyword).isEmpty then 0 else 1) < 30)) = true := by
      cases ps with
      | nil => rw [star_ok s1]; rfl
      | cons q ps =>
        have s2 := star2 h5
        cases ps with
        | nil => rw [star_ok s1, star_ok s2]; rfl
        | cons _ _ =>
          simp only [List.length_cons] at h1
          cases m <;> simp [bmA] at h1
    exact (pe_bmS pA sl ty mt (io.v _ _ X Wi h4 C tk) (ia.l _ _ X Wi h5 C tk) (base _) few h2 (star_ok s1) (stars_ok1 h5)).imp fun σ H Q wq => go wq
theorem tyV_str {d : D} {x : V} (p : Rep K W H d x) (h : isStrD d = true) : tyV K "str" x H := by
  cases p <;> first | rfl | cases h
theorem lstR_ok {d : D} {x : V} (r : Rel K nm W S H) (p : Rep K W H d x) (h : isLstR d S = true) : tyV K "list" x H := by
  cases p with
  | @ref n a h1 =>
    simp only [isLstR] at h
    split at h
    · rename_i xs e
      obtain ⟨vs, hv, _⟩ := r.ob n a _ h1 e
      exact .inl ⟨rfl, vs, .inl (.inl hv)⟩
    · cases h
  | _ => cases h
theorem dctR_ok {d : D} {x : V} (r : Rel K nm W S H) (p : Rep K W H d x) (h : isDctR d S = true) : tyV K "dict" x H := by
  cases p with
  | @ref n a h1 =>
    simp only [isDctR] at h
    split at h
    · rename_i xs e
      obtain ⟨vs, hv, _⟩ := r.ob n a _ h1 e
      exact .inr (.inr (.inl ⟨rfl, .inl ⟨vs, hv⟩⟩))
    · cases h
  | _ => cases h
theorem reps_strs {xs : List D} {is : List Str} {vs : List V} (p : Reps K W H xs vs) (h : strsD xs = some is) : vs = is.map V.str := by
  induction xs generalizing is vs with
  | nil => cases p; cases h; rfl
  | cons x xs ih =>
    cases p with
    | cons a b =>
      cases a with
      | str i =>
        simp only [strsD, Option.map_eq_some_iff] at h
        obtain ⟨js, h1, h2⟩ := h
        subst h2
        simp [ih b h1]
      | _ => cases h
theorem len_ne0 {b : Str} (h : b.length ≠ 0) : (b.length == 0) = false := by simpa using h
theorem str_arg {d : D} {x : V} {a : Str} (p : Rep K W H d x) (h : d = .str a) : x = .str a := by subst h; cases p; rfl
/-- texts' methods: what the result comes from -/
theorem bm_str {m : Bm} {d : D} {as : List D} {Q : VK} {Xc : Nat → Hp → Prop} (hm : m ≠ .append ∧ m ≠ .get ∧ m ≠ .pop ∧ m ≠ .setdefault ∧ m ≠ .popL) (z : Wq K nm (rpD K) W H (bmD m d as S) Q Xc) : ∃ a d', d = .str a ∧ bmStr m a as S = some d' ∧ Fin K nm W S H d' Q := by
  unfold bmD at z
  split at z <;> first | (exfalso; exact absurd rfl hm.1) | (exfalso; exact absurd rfl hm.2.1) | (exfalso; exact absurd rfl hm.2.2.1) | (exfalso; exact absurd rfl hm.2.2.2.1) | (exfalso; exact absurd rfl hm.2.2.2.2) | skip
  · obtain ⟨d', e, f⟩ := z.fin
    exact ⟨_, d', rfl, e, f⟩
  · exact z.elim
theorem strs_laid {ys : List Str} {Q : VK} (r : Rel K nm W S H) (f : Fin K nm W S H (.lst (ys.map .str)) Q) : rNewStrs ys H Q := fun p hp => f.lst r (reps_str ys) hp
theorem s_bm (m : Bm) (o as : E) (io : Snd P w K mg base G Y nm kk N o) (ia : Snd P w K mg base G Y nm kk N as) : Snd P w K mg base G Y nm kk N (.bm m o as) := by
  cases m with
  | append =>
    refine s_bm_of .append o as io ia rfl fun X Wi eK c u tk => ⟨"list", "list.append", _, PySem.F.plainAttrs_list, PySem.F.slot_list_append, PySem.F.type_list_append, MtR.toS mt_append, fun W S H d x r p h => lstR_ok r p h, fun W S H d x as vs Q σ r p q z => ?_⟩
    unfold bmD at z
    split at z <;> first | exact z.elim | skip
    all_goals first | (rename_i hc; cases hc; done) | skip
    · split at z <;> try exact z.elim
      rename_i xs hS
      split at z <;> try exact z.elim
      rename_i hz
      cases p with
      | ref hm =>
      obtain ⟨v1, rfl, q1⟩ := reps1 q
      obtain ⟨ws, hw, pw⟩ := r.ob _ _ _ hm hS
      obtain ⟨e, r'⟩ := r.putL hm (unf_of hw fun _ _ z => by cases z) (pw.append (.cons q1 .nil))
      exact ⟨_, ws, v1, rfl, rfl, hw, by rw [pw.lens, ← SZ_eq]; exact hz, z .non W _ e r' .non⟩
  | get =>
    refine s_bm_of .get o as io ia rfl fun X Wi eK c u tk => ⟨"dict", "dict.get", _, PySem.F.plainAttrs_dict, PySem.F.slot_dict_get, PySem.F.type_dict_get, MtR.toS (mt_dget (by omega)), fun W S H d x r p h => dctR_ok r p h, fun W S H d x as vs Q σ r p q z => ?_⟩
    unfold bmD at z
    split at z <;> first | exact z.elim | skip
    all_goals first | (rename_i hc; cases hc; done) | skip
    · split at z <;> try exact z.elim
      rename_i kvs k e1 e2
      obtain ⟨v1, rfl, q1⟩ := reps1 q
      obtain ⟨a, ws, rfl, h3, h4⟩ := rep_dct r p e1
      refine ⟨a, ws, k, rfl, h3, .inl ⟨by rw [key_ok q1 e2], ?_⟩⟩
      obtain ⟨g1, g2⟩ := val_ok h4 k
      cases hg : getK kvs k with
      | none => rw [hg] at z; rw [g2 hg]; exact z _ W H Ext.refl r .non
      | some d => rw [hg] at z; obtain ⟨v, e3, e4⟩ := g1 d hg; rw [e3]; exact z _ W H Ext.refl r e4
    · split at z <;> try exact z.elim
      rename_i kvs k e1 e2
      obtain ⟨v1, v2, rfl, q1, q2⟩ := reps2 q
      obtain ⟨a, ws, rfl, h3, h4⟩ := rep_dct r p e1
      refine ⟨a, ws, k, rfl, h3, .inr ⟨v2, by rw [key_ok q1 e2], ?_⟩⟩
      obtain ⟨g1, g2⟩ := val_ok h4 k
      cases hg : getK kvs k with
      | none => rw [hg] at z; rw [g2 hg]; exact z _ W H Ext.refl r q2
      | some d => rw [hg] at z; obtain ⟨v, e3, e4⟩ := g1 d hg; rw [e3]; exact z _ W H Ext.refl r e4
  | pop =>
    refine s_bm_of .pop o as io ia rfl fun X Wi eK c u tk => ⟨"dict", "dict.pop", _, PySem.F.plainAttrs_dict, PySem.F.slot_dict_pop, PySem.F.type_dict_pop, MtR.toS mt_dpop, fun W S H d x r p h => dctR_ok r p h, fun W S H d x as vs Q σ r p q z => ?_⟩
    unfold bmD at z
    split at z <;> first | exact z.elim | skip
    all_goals first | (rename_i hc; cases hc; done) | skip
    · split at z <;> try exact z.elim
      rename_i kvs k hS e2
      split at z <;> try exact z.elim
      rename_i dv hg
      cases p with
      | ref hm =>
      obtain ⟨v1, rfl, q1⟩ := reps1 q
      obtain ⟨ws, hw, pw⟩ := r.ob _ _ _ hm hS
      obtain ⟨e, r'⟩ := r.putD hm (unf_of hw fun _ _ z => by cases z) (drop_ok (k := k) pw)
      obtain ⟨v, e3, e4⟩ := (val_ok pw k).1 _ hg
      exact ⟨_, ws, k, rfl, hw, .inl ⟨v, by rw [key_ok q1 e2], e3, z _ W _ e r' (e4.mono r.trk e)⟩⟩
    · split at z <;> try exact z.elim
      rename_i kvs k hS e2
      cases p with
      | ref hm =>
      obtain ⟨v1, v2, rfl, q1, q2⟩ := reps2 q
      obtain ⟨ws, hw, pw⟩ := r.ob _ _ _ hm hS
      obtain ⟨e, r'⟩ := r.putD hm (unf_of hw fun _ _ z => by cases z) (drop_ok (k := k) pw)
      obtain ⟨g1, g2⟩ := val_ok pw k
      refine ⟨_, ws, k, rfl, hw, .inr ⟨v2, by rw [key_ok q1 e2], fun v hv => ?_, fun hv => ?_⟩⟩
      · cases hg : getK kvs k with
        | none => rw [g2 hg] at hv; cases hv
        | some dv =>
          rw [hg] at z
          obtain ⟨v', e3, e4⟩ := g1 _ hg
          rw [e3] at hv; cases hv
          exact z _ W _ e r' (e4.mono r.trk e)
      · cases hg : getK kvs k with
        | none => rw [hg] at z; exact z _ W H Ext.refl r q2
        | some dv => obtain ⟨v', e3, e4⟩ := g1 _ hg; rw [e3] at hv; cases hv
  | setdefault =>
    refine s_bm_of .setdefault o as io ia rfl fun X Wi eK c u tk => ⟨"dict", "dict.setdefault", _, PySem.F.plainAttrs_dict, PySem.F.slot_dict_setdefault, PySem.F.type_dict_setdefault, MtR.toS mt_dsetd, fun W S H d x r p h => dctR_ok r p h, fun W S H d x as vs Q σ r p q z => ?_⟩
    unfold bmD at z
    split at z <;> first | exact z.elim | skip
    all_goals first | (rename_i hc; cases hc; done) | skip
    · split at z <;> try exact z.elim
      rename_i kvs k hS e2
      split at z <;> try exact z.elim
      rename_i hz
      cases p with
      | ref hm =>
      obtain ⟨v1, v2, rfl, q1, q2⟩ := reps2 q
      obtain ⟨ws, hw, pw⟩ := r.ob _ _ _ hm hS
      obtain ⟨g1, g2⟩ := val_ok pw k
      refine ⟨_, ws, k, v2, rfl, hw, by rw [← pw.length, ← SZ_eq]; exact hz, by rw [key_ok q1 e2], fun v hv => ?_, fun hv => ?_⟩
      · cases hg : getK kvs k with
        | none => rw [g2 hg] at hv; cases hv
        | some dv =>
          rw [hg] at z
          obtain ⟨v', e3, e4⟩ := g1 _ hg
          rw [e3] at hv; cases hv
          exact z _ W H Ext.refl r e4
      · cases hg : getK kvs k with
        | none =>
          rw [hg] at z
          obtain ⟨e, r'⟩ := r.putD hm (unf_of hw fun _ _ z => by cases z) (put_ok (k := k) pw q2)
          exact z _ W _ e r' (q2.mono r.trk e)
        | some dv => obtain ⟨v', e3, e4⟩ := g1 _ hg; rw [e3] at hv; cases hv
  | popL =>
    refine s_bm_of .popL o as io ia rfl fun X Wi eK c u tk => ⟨"list", "list.pop", _, PySem.F.plainAttrs_list, PySem.F.slot_list_pop, PySem.F.type_list_pop, MtR.toS mt_popAt, fun W S H d x r p h => lstR_ok r p h, fun W S H d x as vs Q σ r p q z => ?_⟩
    unfold bmD at z
    split at z <;> first | exact z.elim | skip
    all_goals first | (rename_i hc; cases hc; done) | skip
    · split at z <;> try exact z.elim
      rename_i xs hS
      split at z <;> try exact z.elim
      rename_i hz
      split at z <;> try exact z.elim
      rename_i dv hg
      cases p with
      | ref hm =>
      obtain ⟨v1, rfl, q1⟩ := reps1 q
      cases q1
      obtain ⟨ws, hw, pw⟩ := r.ob _ _ _ hm hS
      obtain ⟨hi, hx⟩ := List.getElem?_eq_some_iff.mp hg
      obtain ⟨v, e3, e4⟩ := pw.get hg
      obtain ⟨e, r'⟩ := r.putL hm (unf_of hw fun _ _ z => by cases z) (pw.erase _)
      have hS' : SZ = 16777216 := rfl
      refine ⟨_, ws, _, _, v, rfl, rfl, hw, by omega, by omega, ?_, e3, z _ W _ e r' (e4.mono r.trk e)⟩
      rw [pw.lens]
      unfold seqIndex?
      have h0 := Int.not_lt.mpr hz.1
      have h1 := hz.1
      simp only [if_neg h0]
      rw [if_pos (by simp; omega)]
  | split =>
    refine s_bm_of .split o as io ia rfl fun X Wi eK c u tk => ⟨"str", "str.split", _, PySem.F.plainAttrs_str, PySem.F.slot_str_split, PySem.F.type_str_split, MtR.toS mt_split, fun W S H d x r p h => tyV_str p h, fun W S H d x as vs Q σ r p q z => ?_⟩
    obtain ⟨a, d', rfl, e, f⟩ := bm_str (by simp) z
    have := str_arg p rfl; subst this
    simp only [bmStr] at e
    split at e <;> try (cases e; done)
    all_goals first | (rename_i hc _; cases hc; done) | (rename_i hc; cases hc; done) | skip
    obtain ⟨v1, rfl, q1⟩ := reps1 q
    cases q1
    split at e
    · rename_i hz
      cases e
      exact ⟨a, _, rfl, rfl, len_ne0 hz.1, by rw [← SZ_eq]; exact hz.2, strs_laid r f⟩
    · cases e
  | partition =>
    refine s_bm_of .partition o as io ia rfl fun X Wi eK c u tk => ⟨"str", "str.partition", _, PySem.F.plainAttrs_str, PySem.F.slot_str_partition, PySem.F.type_str_partition, MtR.toS mt_partition, fun W S H d x r p h => tyV_str p h, fun W S H d x as vs Q σ r p q z => ?_⟩
    obtain ⟨a, d', rfl, e, f⟩ := bm_str (by simp) z
    have := str_arg p rfl; subst this
    simp only [bmStr] at e
    split at e <;> try (cases e; done)
    all_goals first | (rename_i hc _; cases hc; done) | (rename_i hc; cases hc; done) | skip
    obtain ⟨v1, rfl, q1⟩ := reps1 q
    cases q1
    split at e
    · rename_i hz
      cases e
      exact ⟨a, _, rfl, rfl, len_ne0 hz.1, by rw [← SZ_eq]; exact hz.2, fun p hp => f.tup r (.cons (.str _) (.cons (.str _) (.cons (.str _) .nil))) hp⟩
    · cases e
  | join =>
    refine s_bm_of .join o as io ia rfl fun X Wi eK c u tk => ⟨"str", "str.join", _, PySem.F.plainAttrs_str, PySem.F.slot_str_join, PySem.F.type_str_join, MtR.toS mt_join, fun W S H d x r p h => tyV_str p h, fun W S H d x as vs Q σ r p q z => ?_⟩
    subst eK
    obtain ⟨a, d', rfl, e, f⟩ := bm_str (by simp) z
    have := str_arg p rfl; subst this
    simp only [bmStr] at e
    split at e <;> try (cases e; done)
    all_goals first | (rename_i hc _; cases hc; done) | (rename_i hc; cases hc; done) | skip
    obtain ⟨v1, rfl, q1⟩ := reps1 q
    split at e <;> try (cases e; done)
    rename_i xs hs
    split at e <;> try (cases e; done)
    rename_i ys hy
    split at e <;> try (cases e; done)
    rename_i hz
    cases e
    obtain ⟨b, ws, rfl, h1, h2⟩ := rep_seq r q1 hs
    have := reps_strs h2 hy
    subst this
    exact ⟨a, b, ys, rfl, rfl, h1, hz, f.here r (.str _)⟩
  | find =>
    refine s_bm_of .find o as io ia rfl fun X Wi eK c u tk => ⟨"str", "str.find", _, PySem.F.plainAttrs_str, PySem.F.slot_str_find, PySem.F.type_str_find, MtR.toS mt_find, fun W S H d x r p h => tyV_str p h, fun W S H d x as vs Q σ r p q z => ?_⟩
    obtain ⟨a, d', rfl, e, f⟩ := bm_str (by simp) z
    have := str_arg p rfl; subst this
    simp only [bmStr] at e
    split at e <;> try (cases e; done)
    all_goals first | (rename_i hc _; cases hc; done) | (rename_i hc; cases hc; done) | skip
    obtain ⟨v1, rfl, q1⟩ := reps1 q
    cases q1
    cases e
    exact ⟨a, _, rfl, rfl, f.here r (.int _)⟩
  | startswith =>
    refine s_bm_of .startswith o as io ia rfl fun X Wi eK c u tk => ⟨"str", "str.startswith", _, PySem.F.plainAttrs_str, PySem.F.slot_str_startswith, PySem.F.type_str_startswith, MtR.toS mt_startswith, fun W S H d x r p h => tyV_str p h, fun W S H d x as vs Q σ r p q z => ?_⟩
    obtain ⟨a, d', rfl, e, f⟩ := bm_str (by simp) z
    have := str_arg p rfl; subst this
    simp only [bmStr] at e
    split at e <;> try (cases e; done)
    all_goals first | (rename_i hc _; cases hc; done) | (rename_i hc; cases hc; done) | skip
    obtain ⟨v1, rfl, q1⟩ := reps1 q
    cases q1
    cases e
    exact ⟨a, _, rfl, rfl, f.here r (.bl _)⟩
  | index =>
    refine s_bm_of .index o as io ia rfl fun X Wi eK c u tk => ⟨"str", "str.index", _, PySem.F.plainAttrs_str, PySem.F.slot_str_index, PySem.F.type_str_index, mt_index0 c, fun W S H d x r p h => tyV_str p h, fun W S H d x as vs Q σ r p q z => ?_⟩
    obtain ⟨a, d', rfl, e, f⟩ := bm_str (by simp) z
    have := str_arg p rfl; subst this
    simp only [bmStr] at e
    split at e <;> try (cases e; done)
    all_goals first | (rename_i hc _; cases hc; done) | (rename_i hc; cases hc; done) | skip
    obtain ⟨v1, rfl, q1⟩ := reps1 q
    cases q1
    rw [Option.map_eq_some_iff] at e
    obtain ⟨k, e1, e2⟩ := e
    subst e2
    exact ⟨a, _, rfl, rfl, fun k' h' => by rw [e1] at h'; cases h'; exact f.here r (.int _), fun h' => by rw [e1] at h'; cases h'⟩
  | count =>
    exact ⟨fun sc x X Wi h C tk => by
      simp only [chk] at h
      split at h <;> try (cases h; done)
      rename_i ps _
      simp only [Bool.and_eq_true] at h
      have := h.1.1.1.1.2
      rcases ps with _ | ⟨_, _ | ⟨_, _ | _⟩⟩ <;> simp [bmA] at this, fun sc x X Wi h C tk => by simp [chkT] at h, fun sc a X Wi h C tk => by simp [chkA] at h⟩
  | upper =>
    refine ⟨fun sc x X Wi h C tk => ?_, fun sc x X Wi h C tk => by simp [chkT] at h, fun sc a X Wi h C tk => by simp [chkA] at h⟩
    simp only [chk] at h
    split at h <;> try (cases h; done)
    rename_i e t ap ps cp
    simp only [Bool.and_eq_true, decide_eq_true_eq] at h
    obtain ⟨⟨⟨⟨⟨h0, h1⟩, h2⟩, h3⟩, h4⟩, h5⟩ := h
    subst h0
    have base : ∀ n : Str, attributeBase e n X.env (eval e X.env) = eval e X.env := fun n => base_ok h3
    cases ps with
    | cons p ps => cases ps <;> simp [bmA] at h1
    | nil =>
      refine (pe_bm0 PySem.F.plainAttrs_str PySem.F.slot_str_upper PySem.F.type_str_upper mt_upper (io.v _ _ X Wi h4 C tk) (base _) h2).imp fun σ H Q wq => ?_
      obtain ⟨W, S, env, E, r0, z⟩ := wq
      simp only [ev] at z
      refine ⟨W, S, env, E, r0, (Wq.bind (rp := rpD K) z).mono fun x H1 z => ?_⟩
      obtain ⟨W1, S1, dx, e1, r1, p1, z⟩ := z
      split at z <;> try exact z.elim
      rename_i hk
      have e1 := C.hK
      subst e1
      refine ⟨tyV_str p1 hk, ?_⟩
      have hc : as = .nil := by cases as <;> simp only [chkA] at h5 <;> first | rfl | cases h5
      subst hc
      simp only [ev, R.bind_ok, toTup] at z
      obtain ⟨a, d', rfl, e, f⟩ := bm_str (by simp) z
      have := str_arg p1 rfl; subst this
      simp only [bmStr] at e
      split at e
      · rename_i hz
        cases e
        exact ⟨a, rfl, rfl, hz, f.here r1 (.str _)⟩
      · cases e
/-! ### f-strings -/
theorem fmt_len {d : D} {y : Str} (h : fmtD d = some y) : y.length ≤ 1000000 := by
  cases d with
  | str x =>
    simp only [fmtD] at h
    split at h
    · cases h; assumption
    · cases h
  | int i =>
    simp only [fmtD] at h
    split at h
    · rename_i z
      obtain ⟨z1, z2⟩ := tst_iff.mp z
      cases h
      obtain ⟨n, rfl⟩ : ∃ n : Nat, i = n := ⟨i.toNat, by omega⟩
      have e : (TL.tl (Str.ofString (toString ((n : Nat) : Int)))).length ≤ 100 := by
        rw [TL.tl_num]
        exact TL.numL_len (by decide) (by exact_mod_cast z2)
      have := TL.len_tl (Str.ofString (toString ((n : Nat) : Int)))
      show (Str.ofString (toString ((n : Nat) : Int))).length ≤ 1000000
      omega
    · cases h
  | _ => cases h
theorem str_len_append (x y : Str) : (x ++ y).length = x.length + y.length := by
  rw [TL.len_tl, TL.len_tl x, TL.len_tl y, TL.tl_append, List.length_append]
theorem log2_small {i : Int} (h0 : 0 ≤ i) (h : i < 10 ^ 100) : i.natAbs.log2 < 1920 := by
  by_cases z : i.natAbs = 0
  · rw [z]; decide
  · rw [Nat.log2_lt z]
    have h1 : i.natAbs < 10 ^ 100 := by
      have : ((i.natAbs : Nat) : Int) < ((10 ^ 100 : Nat) : Int) := by
        rw [Int.natAbs_of_nonneg h0]
        exact_mod_cast h
      exact_mod_cast this
    exact Nat.lt_of_lt_of_le h1 (by decide +kernel)
variable (P w K mg base G Y nm kk N) in
/-- a part of f'..' -/
structure SndM (e : E) : Prop where
  v : ∀ (sc : Scope) (a : Expr) (X : Cx) (Wi : WX), chkM Y N e sc a = true → COk P w K mg base kk N sc X → Tk X Wi → ∃ t : TE, PE X a t ∧ ∀ (σ : L2.St) (H : Hp) (Q : VK), tE K nm Wi (ev G (run G kk) e) σ H (fun x H' => (∃ y : Str, x = .str y ∧ y.length ≤ 1000000) → Q x H') → t σ H Q
theorem m_fmt (a : E) (ia : Snd P w K mg base G Y nm kk N a) : SndM P w K mg base G Y nm kk N (.fmt a) := by
  refine ⟨fun sc x X Wi h C tk => ?_⟩
  simp only [chkM] at h
  split at h <;> try (cases h; done)
  rename_i p c s pos
  simp only [Bool.and_eq_true, decide_eq_true_eq] at h
  obtain ⟨⟨h1, h2⟩, h3⟩ := h
  subst h1
  cases s with
  | some _ => cases h2
  | none =>
  refine ⟨_, pe_fmt (ia.v _ _ X Wi h3 C tk), fun σ H Q wq => ?_⟩
  simp only [ev] at wq
  obtain ⟨W, S, env, E, r, z⟩ := tX.one (g := fun _ x S => R.of ((fmtD x).map D.str) S) wq
  refine ⟨W, S, env, E, r, z.mono fun x H1 z => ?_⟩
  obtain ⟨W1, S1, dx, env1, E1, r1, p1, z⟩ := z
  obtain ⟨d, e, f⟩ := z.fin
  rw [Option.map_eq_some_iff] at e
  obtain ⟨y, e1, e2⟩ := e
  subst e2
  have hl := fmt_len e1
  have fin : Q (.str y) H1 := f _ W1 H1 Ext.refl r1 (.str _) ⟨y, rfl, hl⟩
  cases dx with
  | str x =>
    simp only [fmtD] at e1
    split at e1
    · cases e1
      cases p1
      exact .inl ⟨y, rfl, by rw [sizeLine_eq]; omega, fin⟩
    · cases e1
  | int i =>
    simp only [fmtD] at e1
    split at e1
    · rename_i z
      obtain ⟨z1, z2⟩ := tst_iff.mp z
      cases e1
      cases p1
      exact .inr ⟨i, rfl, log2_small z1 z2, fin⟩
    · cases e1
  | _ => cases e1
theorem m_con (d : D) : SndM P w K mg base G Y nm kk N (.con d) := by
  refine ⟨fun sc x X Wi h C tk => ?_⟩
  cases d <;> simp only [chkM] at h <;> first | (cases h; done) | skip
  split at h <;> try (cases h; done)
  simp only [Bool.and_eq_true, decide_eq_true_eq] at h
  obtain ⟨rfl, h2⟩ := h
  exact ⟨_, pe_str, fun σ H Q ⟨W, S, env, E, r, z⟩ => z _ W H Ext.refl r (.str _) ⟨_, rfl, h2⟩⟩
variable (P w K mg base G Y nm kk N) in
/-- the parts of f'..' -/
structure SndF (e : E) : Prop where
  v : ∀ (sc : Scope) (es : List Expr) (X : Cx) (Wi : WX), chkF Y N e sc es = true → COk P w K mg base kk N sc X → Tk X Wi → ∃ ts : List TE, PJ X es ts ∧ ∀ (n : Nat) (acc : Str) (σ : L2.St) (H : Hp) (Q : Str → Hp → Prop), es.length + n ≤ 12 → acc.length ≤ n * 1000000 →
    tA K nm Wi (ev G (run G kk) e) σ H (fun vs H' => ∀ y : Str, (∃ zs : List Str, vs = zs.map V.str ∧ y = zs.foldr (fun a b => a ++ b) Str.empty) → Q (acc ++ y) H') → tJs ts acc σ H Q
theorem f_nil : SndF P w K mg base G Y nm kk N .nil := by
  refine ⟨fun sc es X Wi h C tk => ?_⟩
  cases es with
  | cons _ _ => simp [chkF] at h
  | nil =>
    refine ⟨[], .nil, fun n acc σ H Q _ _ wq => ?_⟩
    obtain ⟨W, S, env, E, r, z⟩ := wq
    have := z [] W H Ext.refl r ⟨[], rfl, .nil⟩ Str.empty ⟨[], rfl, rfl⟩
    rwa [Str.append_right_empty (by rfl)] at this
theorem f_cons (a as : E) (ia : SndM P w K mg base G Y nm kk N a) (ib : SndF P w K mg base G Y nm kk N as) : SndF P w K mg base G Y nm kk N (.cons a as) := by
  refine ⟨fun sc es X Wi h C tk => ?_⟩
  cases es with
  | nil => simp [chkF] at h
  | cons e es =>
    simp only [chkF, Bool.and_eq_true] at h
    obtain ⟨t, pe, rt⟩ := ia.v _ _ X Wi h.1 C tk
    obtain ⟨ts, pj, rs⟩ := ib.v _ _ X Wi h.2 C tk
    refine ⟨t :: ts, .cons pe pj, fun n acc σ H Q hn ha wq => rt σ H _ ?_⟩
    obtain ⟨W, S, env, E, r, z⟩ := wq
    simp only [ev] at z
    refine ⟨W, S, env, E, r, (Wq.bind (rp := rpD K) z).mono fun x H1 z => ?_⟩
    rintro ⟨y, rfl, hy⟩
    obtain ⟨W1, S1, dx, e1, r1, p1, z⟩ := z
    have hl : (acc ++ y).length ≤ (n + 1) * 1000000 := by rw [str_len_append]; omega
    simp only [List.length_cons] at hn
    refine ⟨y, rfl, by rw [sizeLine_eq]; omega, rs (n + 1) (acc ++ y) σ H1 Q (by omega) hl ⟨W1, S1, env, E.mono r.trk e1, r1, (Wq.bind (rp := rpA K) z).mono fun vs H2 z => ?_⟩⟩
    rintro y2 ⟨zs, rfl, rfl⟩
    obtain ⟨W2, S2, dy, e2, r2, ⟨xs, e3, p2⟩, z⟩ := z
    subst e3
    have := z _ W2 H2 Ext.refl r2 ⟨_, rfl, .cons (p1.mono r1.trk e2) p2⟩ _ ⟨y :: zs, rfl, rfl⟩
    rw [PySem.Str.append_assoc]
    exact this
theorem f_no {e : E} (h : ∀ sc es, chkF Y N e sc es = false) : SndF P w K mg base G Y nm kk N e := ⟨fun sc es X Wi q => by rw [h] at q; cases q⟩
theorem m_no {e : E} (h : ∀ sc es, chkM Y N e sc es = false) : SndM P w K mg base G Y nm kk N e := ⟨fun sc es X Wi q => by rw [h] at q; cases q⟩
theorem catD_strs {xs : List D} {y : Str} {vs : List V} (p : Reps K W H xs vs) (h : catD xs = some y) : ∃ zs : List Str, vs = zs.map V.str ∧ y = zs.foldr (fun a b => a ++ b) Str.empty := by
  induction xs generalizing y vs with
  | nil => cases p; cases h; exact ⟨[], rfl, rfl⟩
  | cons x xs ih =>
    cases p with
    | cons a b =>
      cases a with
      | str i =>
        simp only [catD, Option.map_eq_some_iff] at h
        obtain ⟨js, h1, h2⟩ := h
        subst h2
        obtain ⟨zs, e1, e2⟩ := ih b h1
        exact ⟨i :: zs, by simp [e1], by simp [e2]⟩
      | _ => cases h
theorem vstr_inj : ∀ {a b : List Str}, a.map V.str = b.map V.str → a = b
  | [], [], _ => rfl
  | [], _ :: _, h => by cases h
  | _ :: _, [], h => by cases h
  | x :: a, y :: b, h => by
    simp only [List.map_cons, List.cons.injEq, V.str.injEq] at h
    rw [h.1, vstr_inj h.2]
theorem s_fstr (as : E) (ia : SndF P w K mg base G Y nm kk N as) : Snd P w K mg base G Y nm kk N (.fstr as) := by
  refine ⟨fun sc x X Wi h C tk => ?_, fun sc x X Wi h C tk => by simp [chkT] at h, fun sc a X Wi h C tk => by simp [chkA] at h⟩
  simp only [chk] at h
  split at h <;> try (cases h; done)
  simp only [Bool.and_eq_true, decide_eq_true_eq] at h
  obtain ⟨ts, pj, rs⟩ := ia.v _ _ X Wi h.2 C tk
  refine (pe_joined pj).imp fun σ H Q wq => rs 0 Str.empty σ H _ (by omega) (by decide) ?_
  simp only [ev] at wq
  obtain ⟨W, S, env, E, r, z⟩ := tX.args (g := fun _ xs S => R.of ((catD (toTup xs)).map D.str) S) wq
  refine ⟨W, S, env, E, r, z.mono fun vs H1 z => ?_⟩
  obtain ⟨W1, S1, xs, env1, E1, r1, p1, z⟩ := z
  obtain ⟨d, e, f⟩ := z.fin
  rw [Option.map_eq_some_iff] at e
  obtain ⟨y, e1, e2⟩ := e
  subst e2
  rintro y2 ⟨zs, h1, h2⟩
  obtain ⟨zs', h3, h4⟩ := catD_strs (xs := xs) p1 e1
  have : zs' = zs := vstr_inj (h3.symm.trans h1)
  subst this
  rw [← h4] at h2
  subst h2
  rw [Str.append_left_empty (by rfl)]
  exact f.here r1 (.str _)
/-! ### dict displays -/
variable (P w K mg base G Y nm kk N) in
/-- the values of a display -/
structure SndD (e : E) : Prop where
  v : ∀ (sc : Scope) (ks : List (Option Expr)) (es : List Expr) (xs : List Str) (X : Cx) (Wi : WX) (pos : Pos), chkA Y N e sc es = true → ks.map keyStr = xs.map some → ks.length = es.length → COk P w K mg base kk N sc X → Tk X Wi →
    ∃ trs : List (TE × TE), PPs X pos ks es trs ∧ ∀ (σ : L2.St) (H : Hp) (Q : List (V × V) → Hp → Prop), tA K nm Wi (ev G (run G kk) e) σ H (fun vs H' => vs.length = xs.length → Q ((xs.map V.str).zip vs) H') → tPairs trs σ H Q
theorem d_nil : SndD P w K mg base G Y nm kk N .nil := by
  refine ⟨fun sc ks es xs X Wi pos h hk hl C tk => ?_⟩
  cases es with
  | cons _ _ => simp [chkA] at h
  | nil =>
    have : ks = [] := List.eq_nil_of_length_eq_zero hl
    subst this
    have hx : xs = [] := by cases xs <;> first | rfl | cases hk
    subst hx
    refine ⟨[], pps_nil, fun σ H Q wq => ?_⟩
    obtain ⟨W, S, env, E, r, z⟩ := wq
    exact z [] W H Ext.refl r ⟨[], rfl, .nil⟩ rfl
theorem d_cons (a as : E) (ia : Snd P w K mg base G Y nm kk N a) (ib : SndD P w K mg base G Y nm kk N as) : SndD P w K mg base G Y nm kk N (.cons a as) := by
  refine ⟨fun sc ks es xs X Wi pos h hk hl C tk => ?_⟩
  cases es with
  | nil => simp [chkA] at h
  | cons e es =>
    cases ks with
    | nil => cases hl
    | cons k ks =>
      cases xs with
      | nil => cases hk
      | cons x xs =>
        simp only [List.map_cons, List.cons.injEq] at hk
        obtain ⟨hk1, hk2⟩ := hk
        simp only [chkA, Bool.and_eq_true] at h
        have pe := ia.v _ _ X Wi h.1.2 C tk
        obtain ⟨trs, pps, rd⟩ := ib.v sc ks es xs X Wi pos h.2 hk2 (by simpa using hl) C tk
        unfold keyStr at hk1
        split at hk1 <;> cases hk1
        refine ⟨_, pps_cons pe_str pe pps, fun σ H Q wq => ?_⟩
        show tE K nm Wi (ev G (run G kk) a) σ H fun y H2 => tPairs trs σ H2 fun ps H3 => Q ((V.str x, y) :: ps) H3
        obtain ⟨W, S, env, E, r, z⟩ := wq
        simp only [ev] at z
        refine ⟨W, S, env, E, r, (Wq.bind (rp := rpD K) z).mono fun y H1 z => rd σ H1 _ ?_⟩
        obtain ⟨W1, S1, dx, e1, r1, p1, z⟩ := z
        refine ⟨W1, S1, env, E.mono r.trk e1, r1, (Wq.bind (rp := rpA K) z).mono fun vs H2 z hv => ?_⟩
        obtain ⟨W2, S2, dy, e2, r2, ⟨ys, e3, p2⟩, z⟩ := z
        subst e3
        exact z _ W2 H2 Ext.refl r2 ⟨_, rfl, .cons (p1.mono r1.trk e2) p2⟩ (by simp [hv])
theorem d_no {e : E} (h : ∀ sc es, chkA Y N e sc es = false) : SndD P w K mg base G Y nm kk N e := ⟨fun sc ks es xs X Wi pos q => by rw [h] at q; cases q⟩
theorem repK_zip : ∀ {xs : List Str} {ds : List D} {vs : List V} {W : Wd} {H : Hp}, xs.length = ds.length → Reps K W H ds vs → RepK K W H ((xs.map Sum.inr).zip ds) ((xs.map Sum.inr).zip vs)
  | [], _, _, _, _, _, _ => .nil
  | _ :: _, [], _, _, _, h, _ => by cases h
  | x :: xs, d :: ds, _, _, _, h, .cons a b => .cons a (repK_zip (by simpa using h) b)
theorem merge_ok {W : Wd} {H : Hp} : ∀ {es ds : List (Ky × D)} {us vs : List (Key × V)}, RepK K W H es us → RepK K W H ds vs → RepK K W H (es.foldl (fun acc kv => setK acc kv.1 kv.2) ds) (mergeK vs us)
  | [], ds, us, vs, p, q => by cases p; exact q
  | e :: es, ds, us, vs, p, q => by
    cases p with
    | @cons k d v _ vs' a b =>
      have := merge_ok b (put_ok (k := k) q a)
      exact this
theorem s_dict (ks vs : E) (iv : SndD P w K mg base G Y nm kk N vs) : Snd P w K mg base G Y nm kk N (.dict ks vs) := by
  refine ⟨fun sc x X Wi h C tk => ?_, fun sc x X Wi h C tk => by simp [chkT] at h, fun sc a X Wi h C tk => by simp [chkA] at h⟩
  simp only [chk] at h
  split at h <;> try (cases h; done)
  rename_i keys es pos
  split at h <;> try (cases h; done)
  rename_i xs hxs
  simp only [Bool.and_eq_true, decide_eq_true_eq] at h
  obtain ⟨⟨⟨h1, h2⟩, h3⟩, h4⟩ := h
  obtain ⟨trs, pps, rd⟩ := iv.v sc keys es xs X Wi pos h4 h1 h3 C tk
  have lx : keys.length = xs.length := by have := congrArg List.length h1; simpa using this
  have all : keys.all (·.isSome) = true := by
    rw [List.all_eq_true]
    intro k hk
    cases k with
    | some _ => rfl
    | none =>
      have : keyStr none ∈ keys.map keyStr := List.mem_map.mpr ⟨none, hk, rfl⟩
      rw [h1] at this
      obtain ⟨y, _, e⟩ := List.mem_map.mp this
      cases e
  refine (pe_disp pps all h3 (fun z => by rw [z] at h2; simp at h2) h2.2).imp fun σ H Q wq => ?_
  obtain ⟨W, S, env, E, r, z⟩ := wq
  simp only [ev] at z
  intro p hp
  refine rd σ _ _ ⟨W.add p, S, env, E.addB hp, r.addB hp, ?_⟩
  have al : Ext W H W (upd H p (.dK [])) := Ext.alloc hp
  have ta : Trk W (upd H p (.dK [])) := (r.alloc hp).trk
  cases hv : ev G (run G kk) vs env S with
  | bad => rw [hv] at z; exact z.elim
  | ex c S1 =>
    rw [hv] at z
    intro W' H' e' r'
    have w' := wd_eta (W2 := W) e'.B
    exact z _ H' (ext_back al ta e') (w' ▸ r' : Rel K nm ((⟨W'.m, W.B⟩ : Wd).add p) S1 H').delB
  | ok d S1 =>
    rw [hv] at z
    simp only [R.bind_ok, hxs] at z
    intro us W' H' e' r' ⟨ys, e3, p3⟩ hl
    subst e3
    have hy : ys.length = xs.length := by rw [← hl]; exact p3.lens.symm
    simp only [toTup, hy, if_true] at z
    have w' := wd_eta (W2 := W) e'.B
    rw [w'] at r' p3
    have np : p ∉ W.m := (r.fresh hp).1
    have nB : p ∉ W.B := (r.fresh hp).2
    have hH : H' p = some (.dK []) := e'.keep p _ upd_same np
    refine ⟨hH, (xs.map Sum.inr).zip us, ?_, ?_, ?_⟩
    · have : ∀ (xs : List Str) (us : List V), (xs.map V.str).zip us = ((xs.map Sum.inr).zip us).map fun kv : Key × V => (kV kv.1, kv.2) := by
        intro xs
        induction xs with
        | nil => intro us; rfl
        | cons x xs ih => intro us; cases us with
          | nil => rfl
          | cons u us => simp only [List.map_cons, List.zip_cons_cons, ih us]; rfl
      exact this xs us
    · rw [List.length_zip, List.length_map]; omega
    · have em : Ext W H ⟨W'.m ++ [p], W.B⟩ H' := by
        obtain ⟨t, et, ft⟩ := (ext_back al ta e').m
        refine ⟨rfl, ⟨t ++ [p], by show W'.m ++ [p] = _; rw [show W'.m = W.m ++ t from et, List.append_assoc], fun a ha => ?_⟩, (ext_back al ta e').keep, (ext_back al ta e').fz⟩
        rcases List.mem_append.mp ha with ha | ha
        · exact ft a ha
        · rw [List.mem_singleton.mp ha]; exact hp
      have r2 : Rel K nm ⟨W'.m ++ [p], W.B⟩ (S1 ++ [.dct []]) H' := r'.moveO (ob := .dct []) ⟨[], hH, .nil⟩ nB
      have hl' : W'.m.length = S1.length := r'.len
      have at1 : (⟨W'.m ++ [p], W.B⟩ : Wd).m[S1.length]? = some p := by
        show (W'.m ++ [p])[S1.length]? = some p
        rw [← hl', List.getElem?_append_right (Nat.le_refl _), Nat.sub_self]
        rfl
      have pk : RepK K ⟨W'.m ++ [p], W.B⟩ H' (mergeD ((xs.map Sum.inr).zip ys)) (mergeK [] ((xs.map Sum.inr).zip us)) := merge_ok (repK_zip hy.symm p3.moveB) .nil
      obtain ⟨e4, r4⟩ := r2.putD at1 (unf_of hH fun _ _ z => by cases z) pk
      rw [List.set_append_right _ _ (Nat.le_refl _), Nat.sub_self] at r4
      exact z (.ref p) _ _ (em.trans r2.trk e4) r4 (.ref at1)
end
end PL

set_option Elab.async false
set_option linter.all false
set_option maxRecDepth 100000
set_option maxHeartbeats 2000000
/-! PLZ: exceptions; fields, methods, making. -/
namespace PL
open PySem PySem.Spec PyProof.Rows L2
/-- X(), X an own exception class without own __init__ -/
theorem pmk_own0 {X : Cx} {C : Addr} {bmB : List Value} {B newId initId : String} {x : Str} {p pos : Pos} (F : ExcBaseFacts B newId initId bmB) (q : PySem.W.excIn X.K C bmB newId = true) (gC : X.mg x = some (.ref C)) (kC : PySem.W.keepIn X.K (.ref C) = true)
    (r : Raises X (.ref C)) (hg : Gl X x) (hdb : (x == ("__debug__" : Str)) = false) : PMk X (.Call (.Name x p) [] [] pos) (fun _ H Q => Q (.ref C) none H) := by
  intro pins s σ H Q I h
  refine wpAny_Call_Name_kw (ld_glob I hg gC (PySem.W.callWith_K0 I.kIn kC ?_) hdb)
  obtain ⟨bm, N, nm, qn, bs, hdct, sn, sub, ab, col, dd, k0, k1, k2, k3, k5, mN, hC, hN, hni, T⟩ := exc_obj I.kIn q
  refine wpAny_call_exc_subT F T hC hN hni (fun h' e hm => ?_) (Nat.zero_le _)
  exact mk_of I hm r h (I.hok.gone hm.new)
section
variable {P : Program} {w : World} {K : PySem.W.Frag} {mg : Str → Option Value} {base : Heap} {G : Tab} {Y : Sx} {nm : Nm} {fa : Nat → Addr} {fd : Nat → FuncData} {ps : Nat → List Str} {kk : Nat} {N : List Str}
variable {sc : Scope} {X : Cx} {Wi : WX} {W W' : Wd} {H H' : Hp} {S S' : Store}
/-! ### fields -/
theorem fld_at (inj : ∀ f g, nm.fn f = nm.fn g → f = g) {ds : List (Nat × D)} {vs : List (Str × V)} (p : RepF K W H nm.fn ds vs) {f : Nat} {d : D} (h : fldOf ds f = some d) : ∃ v, vs.lookup (nm.fn f) = some v ∧ Rep K W H d v := by
  induction p with
  | nil => cases h
  | @cons g d' v' ds vs a _ ih =>
    simp only [fldOf] at h
    by_cases e : g = f
    · subst e
      rw [if_pos rfl] at h
      cases h
      exact ⟨v', by simp, a⟩
    · rw [if_neg e] at h
      obtain ⟨v, h1, h2⟩ := ih h
      refine ⟨v, ?_, h2⟩
      have hb : (nm.fn f == nm.fn g) = false := beq_eq_false_iff_ne.mpr fun z => e (inj _ _ z).symm
      rw [List.lookup_cons, hb]
      exact h1
theorem fld_no {ds : List (Nat × D)} {vs : List (Str × V)} (p : RepF K W H nm.fn ds vs) {n : Str} (h : ∀ g, nm.fn g ≠ n) : vs.lookup n = none := by
  induction p with
  | nil => rfl
  | @cons g d' v' ds vs a _ ih =>
    have hb : (n == nm.fn g) = false := beq_eq_false_iff_ne.mpr fun z => h g z.symm
    rw [List.lookup_cons, hb]
    exact ih
theorem fld_len {ds : List (Nat × D)} {vs : List (Str × V)} (p : RepF K W H nm.fn ds vs) : ds.length = vs.length := by
  induction p with
  | nil => rfl
  | cons _ _ ih => simp [ih]
theorem fld_put (inj : ∀ f g, nm.fn f = nm.fn g → f = g) {ds : List (Nat × D)} {vs : List (Str × V)} (p : RepF K W H nm.fn ds vs) {f : Nat} {d : D} {v : V} (q : Rep K W H d v) : RepF K W H nm.fn (fldPut ds f d) (putF (nm.fn f) v vs) := by
  induction p with
  | nil => exact .cons q .nil
  | @cons g d' v' ds vs a b ih =>
    simp only [fldPut, putF]
    by_cases e : g = f
    · subst e
      rw [if_pos rfl, if_pos rfl]
      exact .cons q b
    · rw [if_neg e, if_neg fun z => e (inj _ _ z)]
      exact .cons a ih
theorem ins_at {d : D} {v : V} {c : Nat} (r : Rel K nm W S H) (p : Rep K W H d v) (h : clsD d S = some c) : ∃ (n : Nat) (a dx : Addr) (fs : List (Nat × D)) (vs : List (Str × V)), d = .ref n ∧ v = .ref a ∧ W.m[n]? = some a ∧ S[n]? = some (.ins c fs) ∧ H a = some (.ins (nm.C c) dx vs) ∧ RepF K W H nm.fn fs vs := by
  cases p with
  | @ref n a h1 =>
    simp only [clsD] at h
    split at h
    · rename_i c' fs e
      cases h
      obtain ⟨dx, vs, e1, e2⟩ := r.ob n a _ h1 e
      exact ⟨n, a, dx, fs, vs, rfl, rfl, h1, e, e1, e2⟩
    · cases h
  | _ => cases h
theorem s_fld (g : GOk K mg G Y nm fa fd ps) (c : Nat) (o : E) (f : Nat) (io : Snd P w K mg base G Y nm kk N o) : Snd P w K mg base G Y nm kk N (.fld c o f) := by
  refine ⟨fun sc x X Wi h C tk => ?_, fun sc x X Wi h C tk => by simp [chkT] at h, fun sc a X Wi h C tk => by simp [chkA] at h⟩
  simp only [chk] at h
  split at h <;> try (cases h; done)
  simp only [Bool.and_eq_true, decide_eq_true_eq] at h
  obtain ⟨⟨⟨h1, h2⟩, h3⟩, h4⟩ := h
  obtain ⟨cx, hc⟩ := Option.isSome_iff_exists.mp h1
  obtain ⟨cls, _, na⟩ := g.cl c cx hc
  obtain ⟨na, rfl⟩ := na f _ h2
  have eK := C.hK
  subst eK
  refine (pe_fld (io.v _ _ X Wi h4 C tk) (base_ok h3)).imp fun σ H Q wq => ?_
  simp only [ev] at wq
  obtain ⟨W, S, env, E, r, z⟩ := tX.one (g := fun _ x S => if clsD x S = some c then R.of (fldD x f S) S else R.bad) wq
  refine ⟨W, S, env, E, r, z.mono fun x H1 z => ?_⟩
  obtain ⟨W1, S1, dx, env1, E1, r1, p1, z⟩ := z
  split at z <;> try exact z.elim
  rename_i hcl
  obtain ⟨d, e, fi⟩ := z.fin
  obtain ⟨n, a, dx', fs, vs, rfl, rfl, h5, h6, h7, h8⟩ := ins_at r1 p1 hcl
  simp only [fldD, h6] at e
  obtain ⟨v, h9, h10⟩ := fld_at g.inj h8 e
  exact ⟨a, nm.C c, dx', vs, v, rfl, h7, cls, na, h9, fi.here r1 h10⟩

/-! ### methods -/
theorem meth_eval {o : Expr} {m : Str} {apos pos : Pos} {args : List Expr} {env : PySem.Env} (hb : attributeBase o m env (eval o env) = eval o env) (hf : methodCallForm (args.length + ([] : List Keyword).length) (backTo pos (starEach args env)) (backToKw pos (keywordEach [] env)) = true) (hl : (apos.endLine == pos.line) = true) :
    eval (.Call (.Attribute o m apos) args [] pos) env = (do let ov ← eval o env; standAt apos.atName; let (f, first) ← holding [ov] (getMethod ov m (do return (← importBound o env).getD true)); callWith pos f first (backTo pos (starEach args env)) (backToKw pos (keywordEach [] env))) := by
  have hp : methodCallPos true o env apos pos = pure pos := by unfold methodCallPos; simp [hl]
  rw [arm_eval_Call, hb]
  unfold methodCall
  rw [hf, hp]
  rfl
theorem form_ok {as : E} {es : List Expr} {env : PySem.Env} {pos : Pos} (h : chkA Y N as sc es = true) (hl : es.length ≤ 20) : methodCallForm (es.length + ([] : List Keyword).length) (backTo pos (starEach es env)) (backToKw pos (keywordEach [] env)) = true := by
  have h1 : (backTo pos (starEach es env)).any (·.1) = false := stars_ok (e := .emp) h
  have h2 : (backTo pos (starEach es env)).all (fun x => !x.1) = true := by
    rw [List.all_eq_not_any_not]
    simpa using h1
  unfold methodCallForm
  rw [h2]
  have h3 : decide (es.length + ([] : List Keyword).length + 0 < 30) = true := decide_eq_true (by simp; omega)
  exact h3
def tMethS (C : Addr) (m : Str) (sp : Sp) (E : L2.St → XK) (ta : TE) (t : TA) : TE := fun σ H Q => ta σ H fun x H1 => ∃ a dx fs, x = .ref a ∧ H1 a = some (.ins C dx fs) ∧ fs.lookup m = none ∧ t σ H1 fun vs H2 => sp (x :: vs) H2 Q (E σ)
theorem pe_methAt {X : Cx} {o e : Expr} {es : List Expr} {m : Str} {apos pos : Pos} {ta : TE} {t : TA} {C f : Addr} {CX : CXT} {k : Nat} {fdt : FuncData} {psf : List Str} {sp : Sp} {E : L2.St → XK} {pl : Sem Bool} (he : PE X o ta) (c : Cls X.K C) (hm : Meth X.K C m f) (F : FnOk X.prog X.w X.K X.mg X.base CX k f fdt psf sp)
    (hr : Room k X.A) (hb : Binds X.K fdt psf []) (hx : ∀ σ, PassesAt CX X σ (E σ)) (ha : PA X (e :: es) t) (hst : starEach (e :: es) X.env = (false, eval e X.env) :: starEach es X.env) (hpl : (backTo pos (starEach es X.env)).any (·.1) = false)
    (ht : eval (.Call (.Attribute o m apos) (e :: es) [] pos) X.env = (do let ov ← eval o X.env; standAt apos.atName; let (f, first) ← holding [ov] (getMethod ov m pl); callWith pos f first (backTo pos (starEach (e :: es) X.env)) (backToKw pos (keywordEach [] X.env)))) :
    PE X (.Call (.Attribute o m apos) (e :: es) [] pos) (tMethS C m sp E ta t) := by
  refine ⟨fun pins s σ H Q I h => ?_⟩
  refine PySem.W.methodCall_KW (pl := pl) (thn (he.run pins s σ H _ I h) fun u s1 ⟨x, H1, I1, rx, a, dx, fs, ex, ea, l, q⟩ => ?_) ht
  subst ex
  cases (show u = Value.ref a from rx)
  refine getmeth_ok I1 ea c hm l (PySem.W.callWith_K (first := [.ref a]) (h₀ := X.base) I1.ok.mod.kin hm.kp (thn (ha.run pos pins s1 σ H1 _ I1 q) fun us s2 ⟨vs, H2, I2, r, q2⟩ => ⟨I2.kIn, ?_⟩) hst hpl)
  exact run_fnS (us := .ref a :: us) (vs := .ref a :: vs) F hr hb (hx σ) I2 (.cons rfl r) q2
theorem pe_methAt0 {X : Cx} {o : Expr} {m : Str} {apos pos : Pos} {ta : TE} {C f : Addr} {CX : CXT} {k : Nat} {fdt : FuncData} {psf : List Str} {sp : Sp} {E : L2.St → XK} {pl : Sem Bool} (he : PE X o ta) (c : Cls X.K C) (hm : Meth X.K C m f) (F : FnOk X.prog X.w X.K X.mg X.base CX k f fdt psf sp)
    (hr : Room k X.A) (hb : Binds X.K fdt psf []) (hx : ∀ σ, PassesAt CX X σ (E σ))
    (ht : eval (.Call (.Attribute o m apos) [] [] pos) X.env = (do let ov ← eval o X.env; standAt apos.atName; let (f, first) ← holding [ov] (getMethod ov m pl); callWith pos f first (backTo pos (starEach [] X.env)) (backToKw pos (keywordEach [] X.env)))) :
    PE X (.Call (.Attribute o m apos) [] [] pos) (tMethS C m sp E ta tNil) := by
  refine ⟨fun pins s σ H Q I h => ?_⟩
  refine PySem.W.methodCall_KW (pl := pl) (thn (he.run pins s σ H _ I h) fun u s1 ⟨x, H1, I1, rx, a, dx, fs, ex, ea, l, q⟩ => ?_) ht
  subst ex
  cases (show u = Value.ref a from rx)
  refine getmeth_ok I1 ea c hm l ?_
  exact PySem.W.callWith_K0 (first := [.ref a]) I1.kIn hm.kp (run_fnS (us := [.ref a]) (vs := [.ref a]) F hr hb (hx σ) I1 (.cons rfl .nil) q)
theorem s_meth (g : GOk K mg G Y nm fa fd ps) (hF : ∀ f : Nat, (G.fns f).isSome = true → FnOk P w K mg base (L2.CX P w) (2 * kk) (fa f) (fd f) (ps f) (spF K nm G kk f)) (c : Nat) (o : E) (m : Nat) (as : E) (io : Snd P w K mg base G Y nm kk N o) (ia : Snd P w K mg base G Y nm kk N as) :
    Snd P w K mg base G Y nm kk N (.meth c o m as) := by
  refine ⟨fun sc x X Wi h C tk => ?_, fun sc x X Wi h C tk => by simp [chkT] at h, fun sc a X Wi h C tk => by simp [chkA] at h⟩
  simp only [chk] at h
  split at h <;> try (cases h; done)
  rename_i e n ap es cp
  simp only [Bool.and_eq_true, decide_eq_true_eq] at h
  obtain ⟨⟨⟨⟨⟨h1, h2⟩, hln⟩, h20⟩, h3⟩, h4⟩ := h
  obtain ⟨f, hf, hl, cls, meth, nof⟩ := g.me c m n h1
  have hev := meth_eval (o := e) (m := n) (base_ok (n := n) (env := X.env) h2) (form_ok (pos := cp) h4 h20) hln
  have F := hF f hl
  have bb := g.bi f hl
  obtain ⟨e1, e2, e3, e4, e5⟩ := And.intro C.hP (And.intro C.hw (And.intro C.hK (And.intro C.hm C.hb)))
  subst e1 e2 e3 e4 e5
  have po := io.v _ _ X Wi h3 C tk
  have pa := ia.l _ _ X Wi h4 C tk
  have go : ∀ {σ : L2.St} {H : Hp} {Q : VK}, tE X.K nm Wi (ev G (run G kk) (.meth c o m as)) σ H Q → tMethS (nm.C c) n (spF X.K nm G kk f) (WE Wi) (tE X.K nm Wi (ev G (run G kk) o)) (tA X.K nm Wi (ev G (run G kk) as)) σ H Q := fun {σ H Q} wq => by
    obtain ⟨W, S, env, E, r, z⟩ := wq
    simp only [ev] at z
    refine ⟨W, S, env, E, r, (Wq.bind (rp := rpD X.K) z).mono fun x H1 z => ?_⟩
    obtain ⟨W1, S1, dx, e1, r1, p1, z⟩ := z
    rw [hf] at z
    cases hc : clsD dx S1 with
    | none => rw [hc] at z; exact z.elim
    | some c' =>
      rw [hc] at z
      dsimp only at z
      split at z <;> try exact z.elim
      rename_i hcc
      subst hcc
      obtain ⟨n', a, dx', fs, vs, rfl, rfl, h5, h6, h7, h8⟩ := ins_at r1 p1 hc
      refine ⟨a, dx', vs, rfl, h7, fld_no h8 nof, W1, S1, env, E.mono r.trk e1, r1, (Wq.bind (rp := rpA X.K) z).mono fun us H2 z => ?_⟩
      obtain ⟨W2, S2, dy, e2, r2, ⟨ys, e3, p2⟩, z⟩ := z
      subst e3
      exact ⟨W2, S2, .ref n' :: ys, r2, .cons (p1.mono r1.trk e2) p2, z⟩
  cases es with
  | nil =>
    have hc : as = .nil := by cases as <;> simp only [chkA] at h4 <;> first | rfl | cases h4
    subst hc
    refine (pe_methAt0 (E := WE Wi) (k := 2 * kk) po cls meth F (C.room.mono (by omega)) bb (fun σ => tk_at tk σ) hev).imp fun σ H Q wq => ?_
    obtain ⟨W, S, env, E, r, z⟩ := go wq
    refine ⟨W, S, env, E, r, z.mono fun x H1 z => ?_⟩
    obtain ⟨a, dx, fs, h5, h6, h7, W1, S1, env1, E1, r1, z⟩ := z
    exact ⟨a, dx, fs, h5, h6, h7, z [] W1 H1 Ext.refl r1 ⟨[], rfl, .nil⟩⟩
  | cons p es =>
    exact (pe_methAt (E := WE Wi) (k := 2 * kk) po cls meth F (C.room.mono (by omega)) bb (fun σ => tk_at tk σ) pa (star_ok (star1 h4)) (stars_ok1 h4) hev).imp fun σ H Q wq => go wq

/-! ### making -/
def tMakeS (C : Addr) (sp : Sp) (E : L2.St → XK) (t : TA) : TE := fun σ H Q => t σ H fun vs H1 => ∀ x dx, H1 x = none → H1 dx = none → dx ≠ x → sp (.ref x :: vs) (upd (upd H1 dx (.own x)) x (.ins C dx [])) (fun v H2 => v = .non ∧ Q (.ref x) H2) (E σ)
theorem run_makeS {X : Cx} {CX : CXT} {k : Nat} {f C : Addr} {fdt : FuncData} {psf : List Str} {sp : Sp} {E : XK} {pins : List (Addr × Obj)} {σ : L2.St} {H : Hp} {s : Shared} {Q : VK} {us : List Value} {vs : List V} (M : Mk X.K C f) (F : FnOk X.prog X.w X.K X.mg X.base CX k f fdt psf sp)
    (hr : Room (k + 1) X.A) (hb : Binds X.K fdt psf []) (hx : PassesAt CX X σ E) (I : Inv X pins σ H s) (r : Vals vs us)
    (h : ∀ x dx, H x = none → H dx = none → dx ≠ x → sp (.ref x :: vs) (upd (upd H dx (.own x)) x (.ins C dx [])) (fun v H2 => v = .non ∧ Q (.ref x) H2) E) : wpAny (model X.prog X.w) X.A (call (.ref C) us) (EP X pins σ Q) X.xe s := by
  have hq := h (s.heap.objs.size + 1) s.heap.objs.size (I.hok.fresh (Nat.le_succ _)) (I.hok.fresh (Nat.le_refl _)) (Nat.ne_of_lt (Nat.lt_succ_self _))
  have I2 := Inv.made (C := C) I
  have r2 : Vals (V.ref (s.heap.objs.size + 1) :: vs) (Value.ref (s.heap.objs.size + 1) :: us) := .cons rfl r
  have hl : (Value.ref (s.heap.objs.size + 1) :: us ++ ([] : List Value)).length = psf.length := by
    have e := r2.length
    rw [F.len _ _ _ _ hq] at e
    rw [List.append_nil]
    exact e.symm
  have b := hb _ (Value.ref (s.heap.objs.size + 1) :: us) I2.kIn hl
  rw [List.append_nil] at b
  refine wpAny_call (make_map (f := f) I.kIn M.makes M.init (beq_iff_eq.mp M.fn) (codeAny_mono (F.run _ X.stack _ _ ⟨Value.ref (s.heap.objs.size + 1) :: us, []⟩ (Value.ref (s.heap.objs.size + 1) :: us) _ _ E (hr.make C us [])
    (I2.env0.make C us []) b r2 hq) fun r s' hq' => ?_))
  cases r with
  | error e => exact hx pins _ _ e s' I2 hq'
  | ok fl =>
    cases fl with
    | ret u =>
      obtain ⟨v, H', I3, rv, ev, q3⟩ := I2.after hq'
      subst ev
      exact ⟨rv, ⟨V.ref (s.heap.objs.size + 1), H', I3, rfl, q3⟩⟩
    | next => exact hq'.elim
    | brk => exact hq'.elim
    | cont => exact hq'.elim
theorem pe_makeAt {X : Cx} {CX : CXT} {k : Nat} {f C : Addr} {fdt : FuncData} {psf : List Str} {sp : Sp} {E : L2.St → XK} {x : Str} {p pos : Pos} {e : Expr} {es : List Expr} {t : TA} (M : Mk X.K C f) (F : FnOk X.prog X.w X.K X.mg X.base CX k f fdt psf sp)
    (hr : Room (k + 1) X.A) (hg : Gl X x) (hm : X.mg x = some (.ref C)) (hb : Binds X.K fdt psf []) (hx : ∀ σ, PassesAt CX X σ (E σ)) (ha : PA X (e :: es) t) (hdb : (x == ("__debug__" : Str)) = false)
    (he : starEach (e :: es) X.env = (false, eval e X.env) :: starEach es X.env) (hpl : (backTo pos (starEach es X.env)).any (·.1) = false) : PE X (.Call (.Name x p) (e :: es) [] pos) (tMakeS C sp E t) := by
  refine ⟨fun pins s σ H Q I h => wpAny_Call_Name_kw (ld_glob I hg hm (PySem.W.callWith_K (h₀ := X.base) I.ok.mod.kin M.kp (thn (ha.run pos pins s σ H _ I h) fun us s1 ⟨vs, H1, I1, r, q⟩ => ⟨I1.kIn, ?_⟩) he hpl) hdb)⟩
  exact run_makeS M F hr hb (hx σ) I1 r q
theorem pe_makeAt0 {X : Cx} {CX : CXT} {k : Nat} {f C : Addr} {fdt : FuncData} {psf : List Str} {sp : Sp} {E : L2.St → XK} {x : Str} {p pos : Pos} (M : Mk X.K C f) (F : FnOk X.prog X.w X.K X.mg X.base CX k f fdt psf sp)
    (hr : Room (k + 1) X.A) (hg : Gl X x) (hm : X.mg x = some (.ref C)) (hb : Binds X.K fdt psf []) (hx : ∀ σ, PassesAt CX X σ (E σ)) (hdb : (x == ("__debug__" : Str)) = false) : PE X (.Call (.Name x p) [] [] pos) (tMakeS C sp E tNil) :=
  ⟨fun pins s σ H Q I h => wpAny_Call_Name_kw (ld_glob I hg hm (PySem.W.callWith_K0 I.kIn M.kp (run_makeS (us := []) M F hr hb (hx σ) I .nil h)) hdb)⟩
theorem s_mk (g : GOk K mg G Y nm fa fd ps) (hF : ∀ f : Nat, (G.fns f).isSome = true → FnOk P w K mg base (L2.CX P w) (2 * kk) (fa f) (fd f) (ps f) (spF K nm G kk f)) (c : Nat) (as : E) (ia : Snd P w K mg base G Y nm kk N as) : Snd P w K mg base G Y nm kk N (.mk c as) := by
  refine ⟨fun sc x X Wi h C tk => ?_, fun sc x X Wi h C tk => by simp [chkT] at h, fun sc a X Wi h C tk => by simp [chkA] at h⟩
  simp only [chk] at h
  split at h <;> try (cases h; done)
  rename_i x np es cp
  simp only [Bool.and_eq_true, decide_eq_true_eq, Bool.not_eq_true'] at h
  obtain ⟨⟨⟨h1, h2⟩, h3⟩, h4⟩ := h
  obtain ⟨f, hf, hl, M⟩ := g.mke c x h1
  obtain ⟨cls, hmg, _⟩ := g.cl c x h1
  have F := hF f hl
  have bb := g.bi f hl
  obtain ⟨e1, e2, e3, e4, e5⟩ := And.intro C.hP (And.intro C.hw (And.intro C.hK (And.intro C.hm C.hb)))
  subst e1 e2 e3 e4 e5
  have pa := ia.l _ _ X Wi h4 C tk
  have core : ∀ {W : Wd} {S : Store} {H1 : Hp} {xs : List D} {vs : List V} {Q : VK} {σ : L2.St}, Rel X.K nm W S H1 → Reps X.K W H1 xs vs → Wq X.K nm (rpD X.K) W H1 ((run G kk f (.ref S.length :: xs) (S ++ [.ins c []])).bind fun d S' => match d with
      | .non => .ok (.ref S.length) S'
      | _ => .bad) Q (Xw nm Wi σ) → ∀ x dx, H1 x = none → H1 dx = none → dx ≠ x → spF X.K nm G kk f (.ref x :: vs) (upd (upd H1 dx (.own x)) x (.ins (nm.C c) dx [])) (fun v H2 => v = .non ∧ Q (.ref x) H2) (WE Wi σ) := by
    intro W S H1 xs vs Q σ r p z x dx hx hdx hne
    have r1 : Rel X.K nm W S (upd H1 dx (.own x)) := r.alloc hdx
    have hx1 : upd H1 dx (.own x) x = none := by rw [upd_ne (Ne.symm hne)]; exact hx
    have e1 : Ext W H1 W (upd H1 dx (.own x)) := Ext.alloc hdx
    have e2 : Ext W (upd H1 dx (.own x)) ⟨W.m ++ [x], W.B⟩ (upd (upd H1 dx (.own x)) x (.ins (nm.C c) dx [])) := Ext.join hx1
    have r2 := r1.join (ob := .ins c []) (o := .ins (nm.C c) dx []) hx1 ⟨dx, [], upd_same, .nil⟩
    have hm : (W.m ++ [x])[S.length]? = some x := by
      rw [← r.len, List.getElem?_append_right (Nat.le_refl _), Nat.sub_self]
      rfl
    have e12 : Ext W H1 ⟨W.m ++ [x], W.B⟩ (upd (upd H1 dx (.own x)) x (.ins (nm.C c) dx [])) := by
      refine ⟨rfl, ⟨[x], rfl, fun a ha => by rw [List.mem_singleton.mp ha]; exact hx⟩, fun a o h n => by rw [upd_ne (ne_of_none h hx), upd_ne (ne_of_none h hdx)]; exact h, fun a od u h => by rw [upd_ne (ne_of_none h hx), upd_ne (ne_of_none h hdx)]; exact h⟩
    refine ⟨⟨W.m ++ [x], W.B⟩, S ++ [.ins c []], .ref S.length :: xs, r2, .cons (.ref hm) (p.mono r.trk e12), ?_⟩
    have z := Wq.ext e12 r2.trk z
    refine (Wq.bind (rp := rpD X.K) z).mono fun v H2 z => ?_
    obtain ⟨W2, S2, d, e3, r3, p3, z⟩ := z
    cases d with
    | non =>
      cases p3
      obtain ⟨t, et, _⟩ := e3.m
      exact ⟨rfl, z (.ref x) W2 H2 Ext.refl r3 (.ref (by rw [et, List.getElem?_append_left (List.getElem?_eq_some_iff.mp hm).1]; exact hm))⟩
    | _ => exact z.elim
  have go : ∀ {σ : L2.St} {H : Hp} {Q : VK}, tE X.K nm Wi (ev G (run G kk) (.mk c as)) σ H Q → tMakeS (nm.C c) (spF X.K nm G kk f) (WE Wi) (tA X.K nm Wi (ev G (run G kk) as)) σ H Q := fun {σ H Q} wq => by
    simp only [ev, hf] at wq
    obtain ⟨W, S, env, E, r, z⟩ := tX.args (g := fun _ xs S => (run G kk f (.ref S.length :: toTup xs) (S ++ [.ins c []])).bind fun d S' => match d with
      | .non => .ok (D.ref S.length) S'
      | _ => .bad) wq
    refine ⟨W, S, env, E, r, z.mono fun vs H1 z => ?_⟩
    obtain ⟨W1, S1, xs, env1, E1, r1, p1, z⟩ := z
    exact core r1 p1 z
  cases es with
  | nil =>
    have hc : as = .nil := by cases as <;> simp only [chkA] at h4 <;> first | rfl | cases h4
    subst hc
    refine (pe_makeAt0 (E := WE Wi) (k := 2 * kk) M F C.room (gl_ok C h2) hmg bb (fun σ => tk_at tk σ) (dbg_ok h3)).imp fun σ H Q wq => ?_
    obtain ⟨W, S, env, E, r, z⟩ := go wq
    exact z [] W H Ext.refl r ⟨[], rfl, .nil⟩
  | cons p es => exact (pe_makeAt (E := WE Wi) (k := 2 * kk) M F C.room (gl_ok C h2) hmg bb (fun σ => tk_at tk σ) pa (dbg_ok h3) (star_ok (star1 h4)) (stars_ok1 h4)).imp fun σ H Q wq => go wq

/-! ### within an except suite -/
structure COkH (P : Program) (w : World) (K : PySem.W.Frag) (mg : Str → Option Value) (N : List Str) (sc : Scope) (X : Cx) : Prop where
  hK : X.K = K
  hm : X.mg = mg
  hN : X.N = N
  nd : N.Nodup
  sc : X.env.scope = sc
  fn : ∀ x, X.fn x = true
/-- what may stand there -/
def plainE : E → Bool
  | .var _ => true
  | .con _ => true
  | .bin .add a b => plainE a && plainE b
  | .tup as => plainE as
  | .nil => true
  | .cons a as => plainE a && plainE as
  | _ => false
variable (P w K mg G Y nm N) in
structure SndH (call : Calls) (e : E) : Prop where
  v : ∀ (sc : Scope) (a : Expr) (X : Cx), plainE e = true → chk Y N e sc a = true → COkH P w K mg N sc X → PE X a (tE K nm noX (ev G call e))
  l : ∀ (sc : Scope) (a : List Expr) (X : Cx), plainE e = true → chkA Y N e sc a = true → COkH P w K mg N sc X → PA X a (tA K nm noX (ev G call e))
theorem sndH {call : Calls} (e : E) : SndH P w K mg G Y nm N call e := by
  induction e with
  | var i =>
    refine ⟨fun sc a X _ h C => ?_, fun sc a X _ h C => by simp [chkA] at h⟩
    cases a <;> simp only [chk] at h <;> first | (cases h; done) | skip
    rename_i vx vp
    simp only [Bool.and_eq_true, Bool.not_eq_true', decide_eq_true_eq] at h
    obtain ⟨⟨⟨h1, h2⟩, h3⟩, h4⟩ := h
    have hv : Vis X.env.scope vx := by
      rw [C.sc]
      unfold vis at h2
      split at h2
      · exact .inl (by assumption)
      · exact .inr (.inl (by assumption))
      · exact .inr (.inr (by assumption))
      · cases h2
    refine (pe_var (i := i) (by rw [C.hN]; exact h1) hv h3 h4).imp fun σ H Q ⟨W, S, env, E, r, q⟩ => ?_
    simp only [ev] at q
    split at q
    · rename_i d e
      obtain ⟨v, e1, e2⟩ := E.get i d e
      exact ⟨v, e1, q v W H Ext.refl r e2⟩
    · exact q.elim
  | con d =>
    refine ⟨fun sc a X _ h C => ?_, fun sc a X _ h C => by simp [chkA] at h⟩
    simp only [chk] at h
    have fin : ∀ {v : V} {σ : L2.St} {H : Hp} {Q : VK}, (∀ W, Rep K W H d v) → tE K nm noX (ev G call (.con d)) σ H Q → Q v H := fun {v σ H Q} p ⟨W, S, env, E, r, q⟩ => q v W H Ext.refl r (p W)
    split at h <;> first | (cases h; done) | (have h' := of_decide_eq_true h; subst h') | skip
    · exact pe_int.imp fun σ H Q q => fin (fun _ => .int _) q
    · exact pe_bl.imp fun σ H Q q => fin (fun _ => .bl _) q
    · exact pe_non.imp fun σ H Q q => fin (fun _ => .non) q
    · exact pe_str.imp fun σ H Q q => fin (fun _ => .str _) q
  | bin o a b ia ib =>
    refine ⟨fun sc x X hp h C => ?_, fun sc a X _ h C => by simp [chkA] at h⟩
    cases o <;> simp only [plainE] at hp <;> first | (cases hp; done) | skip
    simp only [Bool.and_eq_true] at hp
    cases x <;> simp only [chk] at h <;> first | (cases h; done) | skip
    simp only [Bool.and_eq_true, decide_eq_true_eq] at h
    obtain ⟨⟨h1, h2⟩, h3⟩ := h
    subst h1
    exact (pe_op op_add4 (ia.v _ _ X hp.1 h2 C) (ib.v _ _ X hp.2 h3 C)).imp fun σ H Q wq => tX.op wq fun r p q z => by obtain ⟨d, e, f⟩ := z.fin; have := C.hK; subst this; exact add_ok r p q e f
  | tup as ia =>
    refine ⟨fun sc x X hp h C => ?_, fun sc a X _ h C => by simp [chkA] at h⟩
    simp only [chk] at h
    split at h <;> try (cases h; done)
    refine (pe_tup (ia.l _ _ X hp h C)).imp fun σ H Q wq => ?_
    simp only [ev] at wq
    obtain ⟨W, S, env, E, r, z⟩ := tX.args (g := fun _ xs S => R.of (mkTup (toTup xs)) S) wq
    refine ⟨W, S, env, E, r, z.mono fun vs H1 z => ?_⟩
    obtain ⟨W1, S1, xs, env1, E1, r1, p1, z⟩ := z
    obtain ⟨d, e, f⟩ := z.fin
    obtain ⟨hz, e2⟩ := mkTup_some (xs := xs) e
    subst e2
    exact ⟨p1.sz hz, fun p hp => f.tup r1 p1 hp⟩
  | nil =>
    refine ⟨fun sc a X _ h C => by simp [chk] at h, fun sc a X _ h C => ?_⟩
    cases a with
    | nil => exact pa_nil.imp fun σ H Q ⟨W, S, env, E, r, q⟩ => q [] W H Ext.refl r ⟨[], rfl, .nil⟩
    | cons x y => simp [chkA] at h
  | cons a as ia ib =>
    refine ⟨fun sc a X _ h C => by simp [chk] at h, fun sc es X hp h C => ?_⟩
    simp only [plainE, Bool.and_eq_true] at hp
    simp only [chkA] at h
    split at h <;> try (cases h; done)
    simp only [Bool.and_eq_true] at h
    obtain ⟨⟨h1, h2⟩, h3⟩ := h
    refine (pa_cons (ia.v _ _ X hp.1 h2 C) (ib.l _ _ X hp.2 h3 C) (star_ok h1)).imp fun σ H Q wq => ?_
    obtain ⟨W, S, env, E, r, z⟩ := wq
    simp only [ev] at z
    refine ⟨W, S, env, E, r, (Wq.bind (rp := rpD K) z).mono fun x H1 z => ?_⟩
    obtain ⟨W1, S1, dx, e1, r1, p1, z⟩ := z
    refine ⟨W1, S1, env, E.mono r.trk e1, r1, (Wq.bind (rp := rpA K) z).mono fun vs H2 z => ?_⟩
    obtain ⟨W2, S2, dy, e2, r2, ⟨xs, e3, p2⟩, z⟩ := z
    subst e3
    exact z _ W2 H2 Ext.refl r2 ⟨_, rfl, .cons (p1.mono r1.trk e2) p2⟩
  | _ => exact ⟨fun sc a X hp => by simp [plainE] at hp, fun sc a X hp => by simp [plainE] at hp⟩
end
end PL

set_option Elab.async false
set_option linter.all false
set_option maxRecDepth 100000
set_option maxHeartbeats 2000000
/-! PLU: dicts with tuple keys; min, max, count. -/
namespace PL
open PySem PySem.Spec PyProof.Rows L2
section
variable {P : Program} {w : World} {K : PySem.W.Frag} {mg : Str → Option Value} {base : Heap} {G : Tab} {Y : Sx} {nm : Nm} {fa : Nat → Addr} {fd : Nat → FuncData} {ps : Nat → List Str} {kk : Nat} {N : List Str}
variable {sc : Scope} {X : Cx} {Wi : WX} {W W' : Wd} {H H' : Hp} {S S' : Store}
theorem RepT.length {ds : List (List Ky × D)} {vs : List (List Key × V)} (r : RepT K W H ds vs) : ds.length = vs.length := by
  induction r with
  | nil => rfl
  | cons _ _ ih => simp [ih]
theorem rep_kyD {k : Ky} : Rep K W H (kyD k) (kV k) := by
  cases k with
  | inl i => exact .int i
  | inr x => exact .str x
theorem reps_kyD {k : List Ky} : Reps K W H (k.map kyD) (k.map kV) := by
  induction k with
  | nil => exact .nil
  | cons a k ih => exact .cons rep_kyD ih
theorem repT_at {ds : List (List Ky × D)} {kvs : List (List Key × V)} (p : RepT K W H ds kvs) {i : Nat} {q : List Ky × D} (h : ds[i]? = some q) : ∃ v, kvs[i]? = some (q.1, v) ∧ Rep K W H q.2 v := by
  induction p generalizing i with
  | nil => simp at h
  | cons a _ ih => cases i with
    | zero => simp at h; subst h; exact ⟨_, rfl, a⟩
    | succ i => simp at h; obtain ⟨v, e, q⟩ := ih h; exact ⟨v, by simpa using e, q⟩
theorem RepT.monoB {p : Addr} {ds : List (List Ky × D)} {vs : List (List Key × V)} (t : Trk W H) (e : Ext W H W' H') (n : H p = none) (r : RepT K W H ds vs) : RepT K (W'.add p) H' ds vs := by
  induction r with
  | nil => exact .nil
  | cons r _ ih => exact .cons (r.monoB t e n) ih
theorem repT_gr {xs : List (List Ky × D)} {vs : List (List Key × V)} (t : Trk W H) (p : RepT K W H xs vs) {W' W2 : Wd} {H' : Hp} (e : Ext W H W2 H') (h : W' = W2 ∨ ∃ p, H p = none ∧ W' = W2.add p) : RepT K W' H' xs vs := by
  rcases h with rfl | ⟨q, hq, rfl⟩
  · exact p.mono t e
  · exact p.monoB t e hq
theorem walk_itemsT {d : Addr} {o : Obj} {kvs : List (List Key × V)} : Walk (Itit d o kvs) kvs.length (fun H => H d = some (.frz o (.dT kvs))) (Itit d o kvs).yld :=
  ⟨fun i H h q => ⟨q, h⟩, fun H q => ⟨q, Nat.le_refl _⟩, fun i H x H' _ _ y => y⟩
theorem wlk_itemsT {Gr : Wd → Hp → Prop} {d : Addr} {o : Obj} {ds : List (List Ky × D)} {kvs : List (List Key × V)} (h : ∀ W H, Gr W H → H d = some (.frz o (.dT kvs))) (p : ∀ W H, Gr W H → RepT K W H ds kvs) (hl : kvs.length = ds.length) : Wlk K nm Gr (Itit d o kvs) (ds.map itmT) := by
  refine ⟨_, _, (by rw [List.length_map, ← hl]; exact walk_itemsT), fun W' H' e => h _ _ e, fun i W' S H' x H2 hi e r y => ?_⟩
  rw [List.length_map] at hi
  obtain ⟨T, k, v, q, hk, rfl, hT, hq, rfl⟩ := y
  have hx : ds[i]? = some ds[i] := List.getElem?_eq_getElem hi
  obtain ⟨v', q1, q2⟩ := repT_at (p _ _ e) hx
  rw [q1] at hk
  cases hk
  have q0 : Rep K W' H' (.tup (ds[i].1.map kyD)) (.ref q) := .tup (SqT.of hq) reps_kyD
  obtain ⟨z1, z2, z3⟩ := pair_new r hT q0 q2
  exact ⟨itmT ds[i], by rw [List.getElem?_map, hx]; rfl, z1, z2, z3⟩
theorem ItOk.itemsT {d : Addr} {o : Obj} {ds : List (List Ky × D)} {kvs : List (List Key × V)} (t : Trk W H) (h : H d = some (.frz o (.dT kvs))) (p : RepT K W H ds kvs) : ItOk K nm W H (Itit d o kvs) (ds.map itmT) :=
  .of fun Gr g => wlk_itemsT (fun W' H' e => let ⟨_, e1, _⟩ := g _ _ e; e1.fz _ _ _ h) (fun W' H' e => let ⟨_, e1, e2⟩ := g _ _ e; repT_gr t p e1 e2) p.length.symm
/-! ### the dict is locked -/
structure SwpT (a : Addr) (vs : List (List Key × V)) (H H' : Hp) : Prop where
  ne : ∀ b, b ≠ a → H' b = H b
  at1 : H a = some (.dT vs) ∨ ∃ od, H a = some (.frz od (.dT vs))
theorem SwpT.go {a b : Addr} {vs : List (List Key × V)} {u : HO} (q : SwpT a vs H H') (h : H b = some u) (hu : u ≠ .dT vs ∧ ∀ od, u ≠ .frz od (.dT vs)) : H' b = some u := by
  rw [q.ne b fun e => ?_]
  · exact h
  · subst e
    rcases q.at1 with z | ⟨od, z⟩
    · rw [h] at z; exact hu.1 (Option.some.inj z)
    · rw [h] at z; exact hu.2 od (Option.some.inj z)
theorem SwpT.tup {a b : Addr} {vs : List (List Key × V)} {us : List V} (q : SwpT a vs H H') (h : SqT K H b us) : SqT K H' b us := by
  rcases h with (h | ⟨o, h⟩) | h
  · exact .inl (.inl (q.go h (by simp)))
  · exact .inl (.inr ⟨o, q.go h (by simp)⟩)
  · exact .inr h
theorem SwpT.lst {a b : Addr} {vs : List (List Key × V)} {us : List V} (q : SwpT a vs H H') (h : Rd H b (.lst us)) : Rd H' b (.lst us) := by
  rcases h with h | ⟨o, h⟩
  · exact .inl (q.go h (by simp))
  · exact .inr ⟨o, q.go h (by simp)⟩
theorem SwpT.dct {a b : Addr} {vs : List (List Key × V)} {us : List (Key × V)} (q : SwpT a vs H H') (h : Rd H b (.dK us)) : Rd H' b (.dK us) := by
  rcases h with h | ⟨o, h⟩
  · exact .inl (q.go h (by simp))
  · exact .inr ⟨o, q.go h (by simp)⟩
theorem SwpT.scr {a b : Addr} {vs : List (List Key × V)} {ns : List Int} (q : SwpT a vs H H') (h : ScrAt K H b ns) : ScrAt K H' b ns := by
  rcases h with ⟨o, h⟩ | h
  · exact .inl ⟨o, q.go h (by simp)⟩
  · exact .inr h
mutual
theorem Rep.swpT {W : Wd} {a : Addr} {us : List (List Key × V)} {H H' : Hp} (q : SwpT a us H H') : ∀ {d : D} {v : V}, Rep K W H d v → Rep K W H' d v
  | _, _, .non => .non
  | _, _, .bl b => .bl b
  | _, _, .int i => .int i
  | _, _, .str x => .str x
  | _, _, .tup h r => .tup (q.tup h) (Reps.swpT q r)
  | _, _, .lst h n b r => .lst (q.lst h) n b (Reps.swpT q r)
  | _, _, .dct h n b r => .dct (q.dct h) n b (RepK.swpT q r)
  | _, _, .ref h => .ref h
  | _, _, .scr h => .scr (q.scr h)
theorem Reps.swpT {W : Wd} {a : Addr} {us : List (List Key × V)} {H H' : Hp} (q : SwpT a us H H') : ∀ {d : List D} {v : List V}, Reps K W H d v → Reps K W H' d v
  | _, _, .nil => .nil
  | _, _, .cons r rs => .cons (Rep.swpT q r) (Reps.swpT q rs)
theorem RepK.swpT {W : Wd} {a : Addr} {us : List (List Key × V)} {H H' : Hp} (q : SwpT a us H H') : ∀ {d : List (Ky × D)} {v : List (Key × V)}, RepK K W H d v → RepK K W H' d v
  | _, _, .nil => .nil
  | _, _, .cons r rs => .cons (Rep.swpT q r) (RepK.swpT q rs)
end
theorem RepT.swpT {a : Addr} {us : List (List Key × V)} (q : SwpT a us H H') {d : List (List Ky × D)} {v : List (List Key × V)} (r : RepT K W H d v) : RepT K W H' d v := by
  induction r with
  | nil => exact .nil
  | cons r _ ih => exact .cons (r.swpT q) ih
theorem ERep.swpT {env : Env} {σ : L2.St} {a : Addr} {us : List (List Key × V)} (q : SwpT a us H H') (E : ERep K W H env σ) : ERep K W H' env σ :=
  ⟨E.len, fun i d h => let ⟨v, a, b⟩ := E.get i d h; ⟨v, a, b.swpT q⟩⟩
theorem swpT_lock {a : Addr} {vs : List (List Key × V)} {od : Obj} (h : H a = some (.dT vs)) : SwpT a vs H (upd H a (.frz od (.dT vs))) := ⟨fun b e => upd_ne e, .inl h⟩
theorem swpT_unlock {a : Addr} {vs : List (List Key × V)} {od : Obj} (h : H a = some (.frz od (.dT vs))) : SwpT a vs H (upd H a (.dT vs)) := ⟨fun b e => upd_ne e, .inr ⟨od, h⟩⟩
theorem Rel.swpTS {a : Addr} {us : List (List Key × V)} {n : Nat} {o' : Ob} (q : SwpT a us H H') (r : Rel K nm W S H) (hn : W.m[n]? = some a) (ho : ObRep K nm W H' a o') : Rel K nm W (S.set n o') H' := by
  have ha : a ∈ W.m := List.mem_of_getElem? hn
  refine ⟨by simp [r.len], r.nd, fun k b ob h1 h2 => ?_, fun b hb => ?_⟩
  · by_cases hk : k = n
    · subst hk
      rw [hn] at h1; cases h1
      rw [List.getElem?_set_self (by rw [← r.len]; exact (List.getElem?_eq_some_iff.mp hn).1)] at h2
      cases h2
      exact ho
    · rw [List.getElem?_set_ne (fun z => hk z.symm)] at h2
      have hne : b ≠ a := by
        intro z
        subst z
        obtain ⟨l1, e1⟩ := List.getElem?_eq_some_iff.mp h1
        obtain ⟨l2, e2⟩ := List.getElem?_eq_some_iff.mp hn
        exact hk ((List.getElem_inj r.nd).mp (e1.trans e2.symm))
      exact ob_map (fun d v p => p.swpT q) (fun d v p => p.swpT q) (fun d v p => p.swpT q) (fun u e => by rw [q.ne b hne]; exact e) (r.ob k b ob h1 h2)
  · obtain ⟨h1, u, h2⟩ := r.bs b hb
    exact ⟨h1, u, by rw [q.ne b (fun z => h1 (z ▸ ha))]; exact h2⟩
theorem unlST_some {n : Nat} {S S' : Store} (h : unlST n S = some S') : ∃ k, S[n]? = some (.lct k) ∧ S' = S.set n (.dtt k) := by
  unfold unlST at h
  split at h
  · rename_i k e; cases h; exact ⟨k, e, rfl⟩
  · cases h
theorem unlockT_ok {W W1 : Wd} {S Sf S' : Store} {H H2 : Hp} {n : Nat} {a : Addr} {od : Obj} {vs : List (List Key × V)} (r : Rel K nm W S H) (ha : W.m[n]? = some a) (h1 : H a = some (.dT vs)) (e : Ext W (upd H a (.frz od (.dT vs))) W1 H2) {B : List Addr} (r2 : Rel K nm ⟨W1.m, B⟩ Sf H2) (hu : unlST n Sf = some S') :
    H2 a = some (.frz od (.dT vs)) ∧ Ext W H W1 (upd H2 a (.dT vs)) ∧ Rel K nm ⟨W1.m, B⟩ S' (upd H2 a (.dT vs)) ∧ SwpT a vs H2 (upd H2 a (.dT vs)) := by
  have ha2 : H2 a = some (.frz od (.dT vs)) := e.fz _ _ _ upd_same
  obtain ⟨k, hk, rfl⟩ := unlST_some hu
  have q2 := swpT_unlock ha2
  obtain ⟨tt, et, ft⟩ := e.m
  have hm : W1.m[n]? = some a := by rw [et]; exact (List.getElem?_append_left (List.getElem?_eq_some_iff.mp ha).1).trans ha
  obtain ⟨od', vs', e5, pk⟩ := r2.ob n a _ hm hk
  rw [ha2] at e5
  cases e5
  have na : ∀ b, b ∉ W.m → b ≠ a := fun b hb z => hb (z ▸ List.mem_of_getElem? ha)
  refine ⟨ha2, ⟨e.B, ⟨tt, et, fun b hb => ?_⟩, fun b o hb nb => ?_, fun b od' u hb => ?_⟩, r2.swpTS q2 hm ⟨vs, upd_same, pk.swpT q2⟩, q2⟩
  · have := ft b hb
    by_cases z : b = a
    · subst z; rw [upd_same] at this; cases this
    · rw [upd_ne z] at this; exact this
  · rw [upd_ne (na b nb)]
    exact e.keep b o (by rw [upd_ne (na b nb)]; exact hb) nb
  · have z : b ≠ a := fun z => by subst z; rw [h1] at hb; cases hb
    rw [upd_ne z]
    exact e.fz b od' u (by rw [upd_ne z]; exact hb)
theorem s_compT (v : E) (is : List Nat) (e : E) (iv : Snd P w K mg base G Y nm kk N v) (ie : Snd P w K mg base G Y nm kk N e) : Snd P w K mg base G Y nm kk N (.compT v is e) := by
  refine ⟨fun sc x X Wi h C tk => ?_, fun sc x X Wi h C tk => by simp [chkT] at h, fun sc a X Wi h C tk => by simp [chkA] at h⟩
  simp only [chk] at h
  split at h <;> try (cases h; done)
  rename_i elt t o n ap cp asy scope pos
  simp only [Bool.and_eq_true, decide_eq_true_eq] at h
  obtain ⟨⟨⟨⟨⟨⟨⟨⟨⟨h1, h3⟩, h4⟩, h5⟩, h6⟩, h7⟩, h8⟩, h9⟩, h10⟩, h11⟩ := h
  subst h1 h6
  have ok : BlkOk X.N X.env.scope scope (ownOf (.many is) t) := by
    rw [C.hN, C.sc]
    exact blkOk_by h3
  have pcs : ∀ (σ0 : L2.St) (s : Shared) (H : Hp) (Ca : Addr) (cl : List (Str × Addr)) (fp : List Addr), PTs (blkX X Wi σ0 s H scope (compEnvC scope cl Ca X.env) fp) [] (tT K nm (WB Wi σ0) (fun env S => mapT (ev G (run G kk) .emp env S))) := fun σ0 s H Ca cl fp => by
    refine ⟨fun pins s σ H Q I q => pts_nil.run pins s σ H Q I ?_⟩
    obtain ⟨W, S, env, E, r, z⟩ := q
    exact z true W H Ext.refl r rfl
  have pgs : ∀ (s : Shared) (H : Hp) (Ca : Addr) (cl : List (Str × Addr)) (fp : List Addr), PG (X.blk s H scope (compEnvC scope cl Ca X.env) fp) t (gTg K (.many is)) := fun s H Ca cl fp =>
    pg_ok (X := X.blk s H scope (compEnvC scope cl Ca X.env) fp) (sc := relS scope sc) C.hK C.hN C.nd (by rw [← C.sc]; rfl) C.calm (fl := false) (by simp) h5
  have pes : ∀ (σ0 : L2.St) (s : Shared) (H : Hp) (Ca : Addr) (cl : List (Str × Addr)) (fp : List Addr), PE (blkX X Wi σ0 s H scope (compEnvC scope cl Ca X.env) fp) elt (tE K nm (WB Wi σ0) (ev G (run G kk) e)) := fun σ0 s H Ca cl fp =>
    ie.v _ _ _ _ h11 (blk_ok (s := s) (H := H) (scope := scope) (cl := cl) (Ca := Ca) (fp := fp) (σ0 := σ0) (Wi := Wi) C) blkX_tk
  have ndN : X.N.Nodup := by rw [C.hN]; exact C.nd
  have pv := iv.v _ _ X Wi h10 C tk
  have ht : ∃ elts kk tpos, t = .Tuple elts kk tpos := by
    cases t <;> simp only [tgC] at h5 <;> first | (cases h5; done) | exact ⟨_, _, _, rfl⟩
  obtain ⟨elts, kq, tpos, rfl⟩ := ht
  have pe1 := pe_lcX (pos := pos) (own := ownOf (.many is) (.Tuple elts kq tpos)) (g := gTg K (.many is)) (te := fun σ0 => tE K nm (WB Wi σ0) (ev G (run G kk) e)) C.calm ndN tk C.fr (pi_itemsT pv (hbase := base_ok h7) (hline := h8)) ok pgs pcs pes (fun x => rfl)
  refine (pe_lock pe1).imp fun σ H Q wq => ?_
  obtain ⟨W, S, env, E, r, z⟩ := wq
  simp only [ev] at z
  cases v <;> simp only [isVarE] at h9 <;> first | (cases h9; done) | skip
  rename_i vi
  simp only [ev] at z
  split at z
  rotate_left
  · exact z.elim
  rename_i d hd
  simp only [R.bind_ok] at z
  cases d <;> simp only [walkT] at z <;> first | exact z.elim | skip
  rename_i n
  split at z
  rotate_left
  · exact z.elim
  rename_i kvs hS
  have z : Wq K nm (rpD K) W H ((unlLT n (goComp (qk .keysR (cBody G (run G kk) (.many is) .emp e env)) (kvs.map itmT) [] (S.set n (.lct kvs)))).bind fun ys S => R.ok (.lst ys) S) Q (Xw nm Wi σ) := z
  have hl : n < W.m.length := by rw [r.len]; exact (List.getElem?_eq_some_iff.mp hS).1
  obtain ⟨a, ha⟩ : ∃ a, W.m[n]? = some a := ⟨_, List.getElem?_eq_getElem hl⟩
  obtain ⟨vs, h1, h4'⟩ := r.ob n a _ ha hS
  have hq : Quk (cBody G (run G kk) (.many is) .emp e env) (qk .keysR (cBody G (run G kk) (.many is) .emp e env)) := quk _ _
  have noex : ∀ c' Sf xs acc S, goComp (qk .keysR (cBody G (run G kk) (.many is) .emp e env)) xs acc S ≠ .ex c' Sf := by
    intro c' Sf xs
    induction xs with
    | nil => intro acc S h; cases h
    | cons x xs ih =>
      intro acc S
      simp only [goComp, qk]
      cases cBody G (run G kk) (.many is) .emp e env x S with
      | bad => intro h; cases h
      | ex _ _ => intro h; cases h
      | ok o S' =>
        cases o with
        | none => exact ih acc S'
        | some y =>
          simp only [R.quiet_ok, R.bind_ok]
          split
          · exact ih _ S'
          · intro h; cases h
  generalize hbd : qk .keysR (cBody G (run G kk) (.many is) .emp e env) = bd at z hq noex
  refine ⟨a, .dT vs, h1, trivial, fun od => ?_⟩
  have q := swpT_lock (od := od) h1
  have rL : Rel K nm W (S.set n (.lct kvs)) (upd H a (.frz od (.dT vs))) := r.swpTS q ha ⟨od, vs, upd_same, h4'.swpT q⟩
  refine ⟨W, S.set n (.lct kvs), env, E.swpT q, rL, ?_⟩
  have evL : ev G (run G kk) (.var vi) env (S.set n (.lct kvs)) = .ok (.ref n) (S.set n (.lct kvs)) := by simp only [ev, hd]
  rw [evL]
  intro v W1 H1 e1 r1 p1
  have nb : goComp bd (kvs.map itmT) [] (S.set n (.lct kvs)) ≠ .bad := fun h => by rw [h] at z; exact z.elim
  cases p1 with
  | @ref _ a1 hv =>
  obtain ⟨tt, et, ft⟩ := e1.m
  have ea : a1 = a := by
    rw [et, List.getElem?_append_left hl, ha] at hv
    exact (Option.some.inj hv).symm
  subst ea
  have fz1 : H1 a1 = some (.frz od (.dT vs)) := e1.fz _ _ _ upd_same
  refine ⟨a1, od, vs, rfl, fz1, ?_⟩
  rw [h4]
  refine comp_items (Q := fun v H' => H' a1 = some (.frz od (.dT vs)) ∧ Q v (upd H' a1 (.dT vs))) ((E.swpT q).mono rL.trk e1) r1 (.itemsT r1.trk fz1 ((h4'.swpT q).mono rL.trk e1)) hq nb (fun c' Sf m3 H3 h => absurd h (noex _ _ _ _ _)) fun ys Sf hg Dl m2 av H2 hD ex r2 hd2 p2 => ?_
  rw [hg] at z
  simp only [unlLT] at z
  cases hu : unlST n Sf with
  | none => rw [hu] at z; exact z.elim
  | some S' =>
  rw [hu] at z
  simp only [R.bind_ok] at z
  have eB := e1.B
  have rB := r2.bs Dl (List.mem_cons_self)
  have eT := e1.trans r1.trk ex
  have hDa : Dl ≠ a1 := fun z => by subst z; rw [fz1] at hD; cases hD
  have hD0 : H Dl = none := by
    cases hx : H Dl with
    | none => rfl
    | some o =>
      exfalso
      by_cases hm : Dl ∈ W.m
      · obtain ⟨o', ho, _⟩ := r1.trk Dl (by rw [et]; exact List.mem_append_left _ hm)
        rw [hD] at ho; cases ho
      · have := e1.keep Dl o (by rw [upd_ne hDa]; exact hx) hm
        rw [hD] at this; cases this
  obtain ⟨u1, u2, u3, u4⟩ := unlockT_ok (W1 := ⟨m2, W1.B⟩) r ha h1 eT (B := ((⟨m2, W1.B⟩ : Wd).add Dl).B) r2 hu
  rw [eB] at u2 u3 p2
  exact ⟨u1, fr_lst W H S S' ys Dl m2 av _ Q (Xw nm Wi σ) r hD0 u2 u3 (by rw [upd_ne hDa]; exact hd2) (p2.swpT u4) z⟩
/-! ### {}, truth -/
theorem s_dT0 : Snd P w K mg base G Y nm kk N .dT0 := by
  refine ⟨fun sc x X Wi h C tk => ?_, fun sc x X Wi h C tk => by simp [chkT] at h, fun sc a X Wi h C tk => by simp [chkA] at h⟩
  simp only [chk] at h
  split at h <;> try (cases h; done)
  refine pe_dnewT.imp fun σ H Q wq p hp => ?_
  obtain ⟨W, S, env, E, r, z⟩ := wq
  simp only [ev] at z
  have e : Ext W H ⟨W.m ++ [p], W.B⟩ (upd H p (.dT [])) := Ext.join hp
  refine z (.ref p) ⟨W.m ++ [p], W.B⟩ _ e (r.join hp ⟨[], upd_same, .nil⟩) (.ref ?_)
  show (W.m ++ [p])[S.length]? = some p
  rw [← r.len, List.getElem?_append_right (Nat.le_refl _), Nat.sub_self]
  rfl
theorem rep_dttR {d : D} {v : V} {xs : List (List Ky × D)} (r : Rel K nm W S H) (p : Rep K W H d v) (h : dttR d S = some xs) : ∃ n a vs, d = .ref n ∧ W.m[n]? = some a ∧ S[n]? = some (.dtt xs) ∧ v = .ref a ∧ H a = some (.dT vs) ∧ RepT K W H xs vs := by
  cases p with
  | @ref n a h1 =>
    simp only [dttR] at h
    split at h
    · rename_i q
      cases h
      obtain ⟨vs, e, z⟩ := r.ob n a _ h1 q
      exact ⟨n, a, vs, rfl, h1, q, rfl, e, z⟩
    · cases h
  | _ => cases h
theorem s_tdT (a : E) (ia : Snd P w K mg base G Y nm kk N a) : Snd P w K mg base G Y nm kk N (.tdT a) := by
  refine ⟨fun sc x X Wi h C tk => by simp [chk] at h, fun sc x X Wi h C tk => ?_, fun sc a X Wi h C tk => by simp [chkA] at h⟩
  simp only [chkT, Bool.and_eq_true] at h
  have pa := ia.v _ _ X Wi h.2 C tk
  have he : ∀ whole, isTrue x X.env whole = (do let v ← whole; standAt x.pos; holding [v] (PySem.truthy v)) := by
    have h1 := h.1.1
    cases x <;> first | (intro _; rfl) | cases h1
  refine (pt_truthR pa tru_okT he).imp fun σ H Q wq => ?_
  simp only [ev, mapT, R.bind_assoc] at wq
  obtain ⟨W, S, env, E, r, z⟩ := tX.one (g := fun _ d S => (R.of ((dttR d S).map fun k => D.bl (!k.isEmpty)) S).bind fun d S => R.of (truthy d S) S) wq
  refine ⟨W, S, env, E, r, z.mono fun x H1 z => ?_⟩
  obtain ⟨W1, S1, dx, env1, E1, r1, p1, z⟩ := z
  cases hd : dttR dx S1 with
  | none => rw [hd] at z; exact z.elim
  | some kvs =>
    rw [hd] at z
    obtain ⟨n, a, vs, rfl, _, _, rfl, e3, e4⟩ := rep_dttR r1 p1 hd
    refine ⟨a, vs, rfl, e3, ?_⟩
    have e : (!vs.isEmpty) = (!kvs.isEmpty) := by
      have := e4.length
      cases vs <;> cases kvs <;> first | rfl | cases this
    rw [e]
    exact z _ W1 H1 Ext.refl r1 rfl
/-! ### d.get(k, x) -/
theorem valT_ok {ds : List (List Ky × D)} {vs : List (List Key × V)} (p : RepT K W H ds vs) (k : List Ky) : (∀ d, getT ds k = some d → ∃ v, valV vs k = some v ∧ Rep K W H d v) ∧ (getT ds k = none → valV vs k = none) := by
  induction p with
  | nil => exact ⟨fun d h => (by cases h), fun _ => rfl⟩
  | @cons k' d v ds vs a b ih =>
    obtain ⟨i1, i2⟩ := ih
    by_cases e : k' = k
    · subst e
      rw [valV_pos (p := (k', v)) rfl]
      simp only [getT, if_true]
      exact ⟨fun d' h => (by cases h; exact ⟨v, rfl, a⟩), fun h => (by cases h)⟩
    · rw [valV_neg (p := (k', v)) e]
      simp only [getT, if_neg e]
      exact ⟨i1, i2⟩
theorem keysL_ok {xs : List D} {vs : List V} {ks : List Ky} (p : Reps K W H xs vs) (h : keysL xs = some ks) : vs = ks.map kV := by
  induction xs generalizing vs ks with
  | nil => cases p; cases h; rfl
  | cons x xs ih =>
    cases p with
    | cons a b =>
      simp only [keysL] at h
      split at h
      · rename_i k ks' e1 e2
        cases h
        rw [key_ok a e1, ih b e2]
        rfl
      · cases h
theorem putT_ok {ds : List (List Ky × D)} {vs : List (List Key × V)} {k : List Ky} {d : D} {v : V} (p : RepT K W H ds vs) (q : Rep K W H d v) : RepT K W H (setTK ds k d) (putK vs k v) := by
  have e : (vs.any fun kv => decide (kv.1 = k)) = ds.any fun e => decide (e.1 = k) := by
    induction p with
    | nil => rfl
    | cons a b ih => simp [ih]
  unfold setTK putK
  rw [e]
  split
  · rename_i hh
    clear e hh
    induction p with
    | nil => exact .nil
    | @cons k' d' v' ds vs a b ih =>
      simp only [List.map_cons]
      by_cases e : k' = k
      · subst e
        simp only [if_true]
        exact .cons q ih
      · simp only [if_neg e]
        exact .cons a ih
  · rename_i hh
    clear e hh
    induction p with
    | nil => exact .cons q .nil
    | cons a b ih => exact .cons a ih
theorem dttR_ty {d : D} {x : V} (r : Rel K nm W S H) (p : Rep K W H d x) (h : isDttR d S = true) : tyV K "dict" x H := by
  obtain ⟨xs, e⟩ := Option.isSome_iff_exists.mp h
  obtain ⟨n, a, vs, rfl, _, _, rfl, e3, e4⟩ := rep_dttR r p e
  exact .inr (.inr (.inl ⟨rfl, .inr ⟨vs, e3⟩⟩))
/-! ### typed data -/
theorem holds_ints {xs : List D} {is : List Int} {vs : List V} (p : Reps K W H xs vs) (h : intsD xs = some is) : HoldVs X H vs is := by
  induction xs generalizing is vs with
  | nil => cases p; cases h; exact .nil
  | cons x xs ih =>
    cases p with
    | cons a b =>
      cases a with
      | int i =>
        simp only [intsD, Option.map_eq_some_iff] at h
        obtain ⟨js, h1, rfl⟩ := h
        exact .cons (hold_int i) (ih b h1)
      | _ => cases h
theorem hold_pairD {a b : Int} {v : V} (hK : X.K = K) (p : Rep K W H (.tup [.int a, .int b]) v) : HoldV X H v (a, b) := by
  subst hK
  cases p with
  | tup h1 h2 =>
    obtain ⟨u, w, rfl, q1, q2⟩ := reps2 h2
    cases q1; cases q2
    exact hold_pair h1 (hold_int a) (hold_int b)
theorem hold_triD {a b c : Int} {v : V} (hK : X.K = K) (p : Rep K W H (.tup [.int a, .tup [.int b, .int c]]) v) : HoldV X H v (a, b, c) := by
  have hK' := hK
  subst hK
  cases p with
  | tup h1 h2 =>
    obtain ⟨u, w, rfl, q1, q2⟩ := reps2 h2
    cases q1
    have q3 := hold_pairD (X := X) hK' q2
    exact hold_pair h1 (hold_int a) q3
theorem holds_pairs {xs : List D} {ps : List (Int × Int)} {vs : List V} (hK : X.K = K) (p : Reps K W H xs vs) (h : pairsD xs = some ps) : HoldVs X H vs ps := by
  induction xs generalizing ps vs with
  | nil => cases p; cases h; exact .nil
  | cons x xs ih =>
    cases p with
    | cons a b =>
      unfold pairsD at h
      split at h <;> try (cases h; done)
      all_goals first | (rename_i hc; cases hc; done) | skip
      rename_i i j r hc
      cases hc
      rw [Option.map_eq_some_iff] at h
      obtain ⟨js, h1, rfl⟩ := h
      exact .cons (hold_pairD hK a) (ih b h1)
theorem holds_tris {xs : List D} {ps : List (Int × Int × Int)} {vs : List V} (hK : X.K = K) (p : Reps K W H xs vs) (h : trisD xs = some ps) : HoldVs X H vs ps := by
  induction xs generalizing ps vs with
  | nil => cases p; cases h; exact .nil
  | cons x xs ih =>
    cases p with
    | cons a b =>
      unfold trisD at h
      split at h <;> try (cases h; done)
      all_goals first | (rename_i hc; cases hc; done) | skip
      rename_i i j k r hc
      cases hc
      rw [Option.map_eq_some_iff] at h
      obtain ⟨js, h1, rfl⟩ := h
      exact .cons (hold_triD hK a) (ih b h1)
theorem intsD_at {xs : List D} {is : List Int} (h : intsD xs = some is) {n : Nat} {i : Int} (e : is[n]? = some i) : xs[n]? = some (.int i) := by
  induction xs generalizing is n with
  | nil => cases h; simp at e
  | cons x xs ih =>
    cases x <;> simp only [intsD] at h <;> first | (cases h; done) | skip
    rw [Option.map_eq_some_iff] at h
    obtain ⟨js, h1, rfl⟩ := h
    cases n with
    | zero => simp at e; simp [e]
    | succ n => simp at e; simp [ih h1 e]
theorem pairsD_at {xs : List D} {is : List (Int × Int)} (h : pairsD xs = some is) {n : Nat} {i : Int × Int} (e : is[n]? = some i) : xs[n]? = some (pairD i) := by
  induction xs generalizing is n with
  | nil => cases h; simp at e
  | cons x xs ih =>
    unfold pairsD at h
    split at h <;> try (cases h; done)
    all_goals first | (rename_i hc; cases hc; done) | skip
    rename_i i j r hc
    cases hc
    rw [Option.map_eq_some_iff] at h
    obtain ⟨js, h1, rfl⟩ := h
    cases n with
    | zero => simp at e; simp [← e, pairD]
    | succ n => simp at e; simp [ih h1 e]
theorem trisD_at {xs : List D} {is : List (Int × Int × Int)} (h : trisD xs = some is) {n : Nat} {i : Int × Int × Int} (e : is[n]? = some i) : xs[n]? = some (triD i) := by
  induction xs generalizing is n with
  | nil => cases h; simp at e
  | cons x xs ih =>
    unfold trisD at h
    split at h <;> try (cases h; done)
    all_goals first | (rename_i hc; cases hc; done) | skip
    rename_i i j k r hc
    cases hc
    rw [Option.map_eq_some_iff] at h
    obtain ⟨js, h1, rfl⟩ := h
    cases n with
    | zero => simp at e; simp [← e, triD]
    | succ n => simp at e; simp [ih h1 e]
/-! ### min(l), max(l) -/
def rLst (X : Cx) {α : Type} [DecidableEq α] [PySem.W.Datum α] (best : α → List α → α) : List V → Hp → VK → Prop := fun as H Q => ∃ (a : Addr) (vs : List V) (x : α) (xs : List α), as = [.ref a] ∧ SqL X.K H a vs ∧ HoldVs X H vs (x :: xs) ∧ ∀ (i : Nat) (v : V), vs[i]? = some v → (x :: xs)[i]? = some (best x xs) → Q v H
theorem s_bfX_of (g : GOk K mg G Y nm fa fd ps) (f : BX) (as : E) (ia : Snd P w K mg base G Y nm kk N as)
    (hb : ∀ (X : Cx), X.K = K → X.calm = true → X.A.units + 64 < cLine → ∃ (id : String) (r : List V → Hp → VK → Prop), (CallR X (.builtin id) r ∧ bootBuiltins (bxN f) = some (.builtin id)) ∧ CallK X K nm (bxD f) r)
    (hn : bxN f ≠ "__name__" := by decide +kernel) (hd : (bxN f == ("__debug__" : Str)) = false := by decide +kernel) : Snd P w K mg base G Y nm kk N (.bfX f as) := by
  refine ⟨fun sc x X Wi h C tk => ?_, fun sc x X Wi h C tk => by simp [chkT] at h, fun sc a X Wi h C tk => by simp [chkA] at h⟩
  simp only [chk] at h
  split at h <;> try (cases h; done)
  simp only [Bool.and_eq_true, decide_eq_true_eq] at h
  obtain ⟨⟨⟨h1, h2⟩, h3⟩, h4⟩ := h
  subst h1
  have pa := ia.l _ _ X Wi h4 C tk
  have m1 : X.mg (bxN f) = none := by rw [C.hm]; exact g.bl _ h3
  obtain ⟨id, r, ⟨hc, hv⟩, ad⟩ := hb X C.hK C.calm C.room.units
  refine (pe_callB hc (gl_ok C h2) m1 hv pa hn hd (star_ok (star1 h4)) (stars_ok1 h4)).imp fun σ H Q wq => ?_
  simp only [ev] at wq
  obtain ⟨W, S, env, E, r', z⟩ := tX.args (g := fun _ xs S => R.of (bxD f (toTup xs) S) S) wq
  refine ⟨W, S, env, E, r', z.mono fun vs H1 z => ?_⟩
  obtain ⟨W1, S1, xs, env1, E1, r1, p1, z⟩ := z
  obtain ⟨d, e, fi⟩ := z.fin
  exact ad W1 S1 H1 xs vs d Q r1 p1 e fi
theorem minL_ok (hK : X.K = K) : CallK X K nm (bxD .min) (fun as H Q => (rLst X (PySem.W.minOf (α := Int)) as H Q ∨ rLst X (PySem.W.minOf (α := Int × Int)) as H Q) ∨ rLst X (PySem.W.minOf (α := Int × Int × Int)) as H Q) := by
  intro W S H as vs d Q r p h f
  have e2 := hK
  subst hK
  unfold bxD at h
  split at h <;> try (cases h; done)
  · obtain ⟨v, rfl, p1⟩ := reps1 p
    obtain ⟨xs, h1, h2⟩ := Option.bind_eq_some_iff.mp h
    obtain ⟨a, ws, rfl, h3, h4⟩ := rep_lst r p1 h1
    unfold minD1 at h2
    split at h2
    · rename_i i is e
      cases h2
      refine .inl (.inl ⟨a, ws, i, is, rfl, .inl h3, holds_ints h4 e, fun n v hv hx => ?_⟩)
      obtain ⟨v', g1, g2⟩ := h4.get (intsD_at e hx)
      rw [hv] at g1; cases g1
      exact f.here r g2
    · split at h2
      · rename_i i is e
        cases h2
        refine .inl (.inr ⟨a, ws, i, is, rfl, .inl h3, holds_pairs e2 h4 e, fun n v hv hx => ?_⟩)
        obtain ⟨v', g1, g2⟩ := h4.get (pairsD_at e hx)
        rw [hv] at g1; cases g1
        exact f.here r g2
      · split at h2
        · rename_i i is e
          cases h2
          refine .inr ⟨a, ws, i, is, rfl, .inl h3, holds_tris e2 h4 e, fun n v hv hx => ?_⟩
          obtain ⟨v', g1, g2⟩ := h4.get (trisD_at e hx)
          rw [hv] at g1; cases g1
          exact f.here r g2
        · cases h2
  · rename_i hc; cases hc
theorem maxL_ok (hK : X.K = K) : CallK X K nm (bxD .max) (rLst X (PySem.W.maxOf (α := Int))) := by
  intro W S H as vs d Q r p h f
  have e2 := hK
  subst hK
  unfold bxD at h
  split at h <;> try (cases h; done)
  · rename_i hc; cases hc
  · obtain ⟨v, rfl, p1⟩ := reps1 p
    obtain ⟨xs, h1, h2⟩ := Option.bind_eq_some_iff.mp h
    obtain ⟨a, ws, rfl, h3, h4⟩ := rep_lst r p1 h1
    unfold maxD1 at h2
    split at h2
    · rename_i i is e
      cases h2
      refine ⟨a, ws, i, is, rfl, .inl h3, holds_ints h4 e, fun n v hv hx => ?_⟩
      obtain ⟨v', g1, g2⟩ := h4.get (intsD_at e hx)
      rw [hv] at g1; cases g1
      exact f.here r g2
    · cases h2
theorem dep0 : PySem.W.Datum.depth Int = 0 := rfl
theorem dep1 : PySem.W.Datum.depth (Int × Int) = 1 := rfl
theorem dep2 : PySem.W.Datum.depth (Int × Int × Int) = 2 := rfl
theorem s_bfX (g : GOk K mg G Y nm fa fd ps) (f : BX) (as : E) (ia : Snd P w K mg base G Y nm kk N as) : Snd P w K mg base G Y nm kk N (.bfX f as) := by
  cases f with
  | min => exact s_bfX_of g .min as ia fun X e c u => ⟨"min", _, ⟨CallR.or (CallR.or (call_minL (α := Int) c (by rw [dep0]; omega)) (call_minL (α := Int × Int) c (by rw [dep1]; omega))) (call_minL (α := Int × Int × Int) c (by rw [dep2]; omega)), by decide +kernel⟩, minL_ok e⟩
  | max => exact s_bfX_of g .max as ia fun X e c u => ⟨"max", _, ⟨call_maxL (α := Int) c (by rw [dep0]; omega), by decide +kernel⟩, maxL_ok e⟩
/-! ### d.get(k, x), l.count(x) -/
theorem s_bmX_of (m : BY) (o as : E) (io : Snd P w K mg base G Y nm kk N o) (ia : Snd P w K mg base G Y nm kk N as)
    (hb : ∀ (X : Cx) (Wi : WX), X.K = K → X.calm = true → X.A.units + 64 < cLine → Tk X Wi → ∃ (T id : String) (r : L2.St → V → List V → Hp → VK → Prop), PlainAttrs T ∧ Slot T (byN m) id ∧ typeOf (.builtin id) = pure (.type "method_descriptor") ∧ MtS X id r ∧
      (∀ (W : Wd) (S : Store) (H : Hp) (d : D) (x : V), Rel K nm W S H → Rep K W H d x → byOk m d S = true → tyV K T x H) ∧
      ∀ (W : Wd) (S : Store) (H : Hp) (d : D) (x : V) (as : List D) (vs : List V) (Q : VK) (σ : L2.St) (y : D), Rel K nm W S H → Rep K W H d x → Reps K W H as vs → byD m d as S = some y → Fin K nm W S H y Q → r σ x vs H Q) : Snd P w K mg base G Y nm kk N (.bmX m o as) := by
  refine ⟨fun sc x X Wi h C tk => ?_, fun sc x X Wi h C tk => by simp [chkT] at h, fun sc a X Wi h C tk => by simp [chkA] at h⟩
  simp only [chk] at h
  split at h <;> try (cases h; done)
  rename_i e t ap ps cp
  simp only [Bool.and_eq_true, decide_eq_true_eq] at h
  obtain ⟨⟨⟨⟨⟨h0, h1⟩, h2⟩, h3⟩, h4⟩, h5⟩ := h
  subst h0
  obtain ⟨T, id, r, pA, sl, ty, mt, ok1, ok2⟩ := hb X Wi C.hK C.calm C.room.units tk
  have base : ∀ n : Str, attributeBase e n X.env (eval e X.env) = eval e X.env := fun n => base_ok h3
  have go : ∀ {σ : L2.St} {H : Hp} {Q : VK}, tE K nm Wi (ev G (run G kk) (.bmX m o as)) σ H Q → tBMS K T r (tE K nm Wi (ev G (run G kk) o)) (tA K nm Wi (ev G (run G kk) as)) σ H Q := fun {σ H Q} wq => by
    obtain ⟨W, S, env, E, r0, z⟩ := wq
    simp only [ev] at z
    refine ⟨W, S, env, E, r0, (Wq.bind (rp := rpD K) z).mono fun x H1 z => ?_⟩
    obtain ⟨W1, S1, dx, e1, r1, p1, z⟩ := z
    split at z <;> try exact z.elim
    rename_i hk
    refine ⟨ok1 W1 S1 H1 dx x r1 p1 hk, W1, S1, env, E.mono r0.trk e1, r1, (Wq.bind (rp := rpA K) z).mono fun us H2 z => ?_⟩
    obtain ⟨W2, S2, dy, e2, r2, ⟨ys, e3, p2⟩, z⟩ := z
    subst e3
    obtain ⟨y, e4, fi⟩ := z.fin
    exact ok2 W2 S2 H2 dx x ys us Q σ y r2 (p1.mono r1.trk e2) p2 e4 fi
  have e1 := C.hK
  subst e1
  cases ps with
  | nil => cases m <;> cases h1
  | cons p ps =>
    have s1 := star1 h5
    have few : ((backTo cp (starEach (p :: ps) X.env)).all (fun x => !x.1) && (backToKw cp (keywordEach [] X.env)).all (fun x => x.1.isSome) && decide ((p :: ps).length + ([] : List Keyword).length + (if ([] : List Keyword).isEmpty then 0 else 1) < 30)) = true := by
      cases ps with
      | nil => rw [star_ok s1]; rfl
      | cons q ps =>
        have s2 := star2 h5
        cases ps with
        | nil => rw [star_ok s1, star_ok s2]; rfl
        | cons _ _ =>
          simp only [List.length_cons] at h1
          cases m <;> simp [byA] at h1
    exact (pe_bmS pA sl ty mt (io.v _ _ X Wi h4 C tk) (ia.l _ _ X Wi h5 C tk) (base _) few h2 (star_ok s1) (stars_ok1 h5)).imp fun σ H Q wq => go wq
theorem s_bmX (m : BY) (o as : E) (io : Snd P w K mg base G Y nm kk N o) (ia : Snd P w K mg base G Y nm kk N as) : Snd P w K mg base G Y nm kk N (.bmX m o as) := by
  cases m with
  | get =>
    refine s_bmX_of .get o as io ia fun X Wi eK c u tk => ⟨"dict", "dict.get", _, PySem.F.plainAttrs_dict, PySem.F.slot_dict_get, PySem.F.type_dict_get, MtR.toS (mt_dgetT (by omega)), fun W S H d x r p h => dttR_ty r p h, fun W S H d x as vs Q σ y r p q h f => ?_⟩
    subst eK
    unfold byD at h
    split at h <;> try (cases h; done)
    · rename_i y1 z1 hm
      obtain ⟨v1, v2, rfl, q1, q2⟩ := reps2 q
      unfold dTgetD at h
      split at h <;> try (cases h; done)
      rename_i kvs k e1 e2
      cases h
      obtain ⟨n, a, ws, rfl, _, _, rfl, h3, h4⟩ := rep_dttR r p e1
      cases y1 <;> simp only [tupK] at e2 <;> first | (cases e2; done) | skip
      rename_i ks
      cases q1 with
      | @tup _ b us g1 g2 =>
      rw [keysL_ok g2 e2] at g1
      refine ⟨a, ws, k, b, v2, rfl, h3, rfl, g1, ?_⟩
      obtain ⟨g3, g4⟩ := valT_ok h4 k
      cases hg : getT kvs k with
      | none => rw [hg] at f; rw [g4 hg]; exact f.here r q2
      | some d => rw [hg] at f; obtain ⟨v, e3, e4⟩ := g3 d hg; rw [e3]; exact f.here r e4
    · rename_i hc; cases hc
  | count =>
    refine s_bmX_of .count o as io ia fun X Wi eK c u tk => ⟨"list", "list.count", _, PySem.F.plainAttrs_list, PySem.F.slot_list_count, PySem.F.type_list_count, MtR.toS (mt_cntL (α := Int × Int) (by rw [dep1]; omega)), fun W S H d x r p h => lstR_ok r p h, fun W S H d x as vs Q σ y r p q h f => ?_⟩
    have eK' := eK
    subst eK
    unfold byD at h
    split at h <;> try (cases h; done)
    · rename_i hc; cases hc
    · rename_i y1 hm
      obtain ⟨v1, rfl, q1⟩ := reps1 q
      obtain ⟨xs, h1, h2⟩ := Option.bind_eq_some_iff.mp h
      obtain ⟨a, ws, rfl, h3, h4⟩ := rep_lst r p h1
      unfold cntD at h2
      split at h2 <;> try (cases h2; done)
      rename_i ps i j e1
      cases h2
      exact ⟨a, ws, v1, ps, (i, j), rfl, rfl, .inl h3, holds_pairs eK' h4 e1, hold_pairD eK' q1, f.here r (.int _)⟩
/-! ### d[t[lo:]] = v -/
theorem setT_ok {W : Wd} {S S' : Store} {H : Hp} {x t l v : D} {o u b : V} {li : Option Int} {Q : Hp → Prop} (r : Rel K nm W S H) (p : Rep K W H x o) (pt : Rep K W H t b) (pl : l = .int (li.getD 0) ∧ li.isSome) (pv : Rep K W H v u) (h : setTD x t l v S = some S') (f : ∀ H', Ext W H W H' → Rel K nm W S' H' → Q H') : rSlA K b li none H fun i H1 => rSetD o i u H1 Q := by
  obtain ⟨rfl, hl⟩ := pl
  obtain ⟨i, rfl⟩ := Option.isSome_iff_exists.mp hl
  unfold setTD at h
  split at h <;> try (cases h; done)
  rename_i n
  split at h <;> try (cases h; done)
  rename_i kvs xs i' hS hi
  cases hi
  split at h <;> try (cases h; done)
  rename_i hz
  rw [Option.map_eq_some_iff] at h
  obtain ⟨k, h1, rfl⟩ := h
  cases p with
  | @ref _ a hm =>
  cases pt with
  | @tup _ b vs g1 g2 =>
  obtain ⟨ws, hw, pw⟩ := r.ob n a _ hm hS
  refine ⟨b, vs, rfl, g1, fun e => ?_, fun _ q hq => ?_⟩
  · rw [← g2.length] at e
    exact absurd e.1 hz.2
  · have ex : Ext W H W (upd H q (.tup (cutV vs (some i) none))) := Ext.alloc hq
    have r1 := r.alloc (o := .tup (cutV vs (some i) none)) hq
    have ek : cutV vs (some i) none = k.map kV := keysL_ok (reps_cut g2) h1
    have ha : upd H q (.tup (cutV vs (some i) none)) a = some (.dT ws) := same_upd hq _ _ hw
    refine ⟨a, _, rfl, .inr ⟨ws, k, q, ha, rfl, by rw [upd_same, ek], ?_, rfl⟩, ?_⟩
    · have := pw.length
      rw [← this, ← SZ_eq]; exact hz.1
    · have hu : Unf (upd H q (.tup (cutV vs (some i) none))) a := unf_of ha fun _ _ z => by cases z
      have e2 : Ext W (upd H q (.tup (cutV vs (some i) none))) W (upd (upd H q (.tup (cutV vs (some i) none))) a (.dT (putK ws k u))) := Ext.put (List.mem_of_getElem? hm) hu
      exact f _ (ex.trans r1.trk e2) (r1.put hm hu ⟨_, upd_same, (putT_ok (pw.mono r.trk ex) (pv.mono r.trk ex)).mono r1.trk e2⟩)
end
end PL

set_option Elab.async false
set_option linter.all false
set_option maxRecDepth 100000
set_option maxHeartbeats 2000000
/-! PLM: every expression; statements. -/
namespace PL
open PySem PySem.Spec PyProof.Rows L2
section
variable {P : Program} {w : World} {K : PySem.W.Frag} {mg : Str → Option Value} {base : Heap} {G : Tab} {Y : Sx} {nm : Nm} {fa : Nat → Addr} {fd : Nat → FuncData} {ps : Nat → List Str} {kk : Nat} {N : List Str}
variable {sc : Scope} {X : Cx} {Wi : WX}
abbrev Snd4 (P : Program) (w : World) (K : PySem.W.Frag) (mg : Str → Option Value) (base : Heap) (G : Tab) (Y : Sx) (nm : Nm) (kk : Nat) (N : List Str) (e : E) : Prop := Snd P w K mg base G Y nm kk N e ∧ SndN P w K mg base G Y nm kk N e ∧ SndM P w K mg base G Y nm kk N e ∧ SndF P w K mg base G Y nm kk N e ∧ SndD P w K mg base G Y nm kk N e
theorem snd4 (g : GOk K mg G Y nm fa fd ps) (hF : ∀ f : Nat, (G.fns f).isSome = true → FnOk P w K mg base (L2.CX P w) (2 * kk) (fa f) (fd f) (ps f) (spF K nm G kk f)) (e : E) : Snd4 P w K mg base G Y nm kk N e := by
  have no : ∀ {e : E}, Snd P w K mg base G Y nm kk N e → isFresh e = false → (∀ sc x, chkM Y N e sc x = false) → (∀ sc es, chkF Y N e sc es = false) → (∀ sc es, chkA Y N e sc es = false) → Snd4 P w K mg base G Y nm kk N e := fun a b c d q => ⟨a, .no b, m_no c, f_no d, d_no q⟩
  have no2 : ∀ {e : E}, Snd P w K mg base G Y nm kk N e → SndN P w K mg base G Y nm kk N e → (∀ sc x, chkM Y N e sc x = false) → (∀ sc es, chkF Y N e sc es = false) → (∀ sc es, chkA Y N e sc es = false) → Snd4 P w K mg base G Y nm kk N e := fun a b c d q => ⟨a, b, m_no c, f_no d, d_no q⟩
  induction e with
  | var i => exact no (s_var i) rfl (fun _ _ => by simp [chkM]) (fun _ _ => by simp [chkF]) (fun _ _ => by simp [chkA])
  | glb j => exact no (s_glb g j) rfl (fun _ _ => by simp [chkM]) (fun _ _ => by simp [chkF]) (fun _ _ => by simp [chkA])
  | cmp o a b ia ib => exact no (s_cmp o a b ia.1 ib.1) rfl (fun _ _ => by simp [chkM]) (fun _ _ => by simp [chkF]) (fun _ _ => by simp [chkA])
  | chain o o' a b c ia ib ic => exact no (s_chain o o' a b c ia.1 ib.1 ic.1) rfl (fun _ _ => by simp [chkM]) (fun _ _ => by simp [chkF]) (fun _ _ => by simp [chkA])
  | isn a ia => exact no (s_isn a ia.1) rfl (fun _ _ => by simp [chkM]) (fun _ _ => by simp [chkF]) (fun _ _ => by simp [chkA])
  | ntn a ia => exact no (s_ntn a ia.1) rfl (fun _ _ => by simp [chkM]) (fun _ _ => by simp [chkF]) (fun _ _ => by simp [chkA])
  | neg a ia => exact no (s_neg a ia.1) rfl (fun _ _ => by simp [chkM]) (fun _ _ => by simp [chkF]) (fun _ _ => by simp [chkA])
  | nt a ia => exact no (s_nt a ia.1) rfl (fun _ _ => by simp [chkM]) (fun _ _ => by simp [chkF]) (fun _ _ => by simp [chkA])
  | and a b ia ib => exact no (s_and a b ia.1 ib.1) rfl (fun _ _ => by simp [chkM]) (fun _ _ => by simp [chkF]) (fun _ _ => by simp [chkA])
  | or a b ia ib => exact no (s_or a b ia.1 ib.1) rfl (fun _ _ => by simp [chkM]) (fun _ _ => by simp [chkF]) (fun _ _ => by simp [chkA])
  | ite c a b ic ia ib => exact no (s_ite c a b ic.1 ia.1 ib.1) rfl (fun _ _ => by simp [chkM]) (fun _ _ => by simp [chkF]) (fun _ _ => by simp [chkA])
  | isa a t ia => exact no (s_isa g a t ia.1) rfl (fun _ _ => by simp [chkM]) (fun _ _ => by simp [chkF]) (fun _ _ => by simp [chkA])
  | call f as ia => exact no (s_call g hF f as ia.1) rfl (fun _ _ => by simp [chkM]) (fun _ _ => by simp [chkF]) (fun _ _ => by simp [chkA])
  | ix a i ia ib => exact no (s_ix a i ia.1 ib.1) rfl (fun _ _ => by simp [chkM]) (fun _ _ => by simp [chkF]) (fun _ _ => by simp [chkA])
  | sl3 a lo hi st ia il ih => exact no (s_sl3 a lo hi st ia.1 il.1 ih.1) rfl (fun _ _ => by simp [chkM]) (fun _ _ => by simp [chkF]) (fun _ _ => by simp [chkA])
  | tup as ia => exact no (s_tup as ia.1) rfl (fun _ _ => by simp [chkM]) (fun _ _ => by simp [chkF]) (fun _ _ => by simp [chkA])
  | emp => exact no (s_emp) rfl (fun _ _ => by simp [chkM]) (fun _ _ => by simp [chkF]) (fun _ _ => by simp [chkA])
  | one a ia => exact no (s_one a ia.1) rfl (fun _ _ => by simp [chkM]) (fun _ _ => by simp [chkF]) (fun _ _ => by simp [chkA])
  | val a ia => exact no (s_val a ia.1) rfl (fun _ _ => by simp [chkM]) (fun _ _ => by simp [chkF]) (fun _ _ => by simp [chkA])
  | new e ie => exact no (s_new e ie.2.1) rfl (fun _ _ => by simp [chkM]) (fun _ _ => by simp [chkF]) (fun _ _ => by simp [chkA])
  | dT0 => exact no (s_dT0) rfl (fun _ _ => by simp [chkM]) (fun _ _ => by simp [chkF]) (fun _ _ => by simp [chkA])
  | compT v is e iv ie => exact no (s_compT v is e iv.1 ie.1) rfl (fun _ _ => by simp [chkM]) (fun _ _ => by simp [chkF]) (fun _ _ => by simp [chkA])
  | tdT a ia => exact no (s_tdT a ia.1) rfl (fun _ _ => by simp [chkM]) (fun _ _ => by simp [chkF]) (fun _ _ => by simp [chkA])
  | bfX f as ia => exact no (s_bfX g f as ia.1) rfl (fun _ _ => by simp [chkM]) (fun _ _ => by simp [chkF]) (fun _ _ => by simp [chkA])
  | bmX m o as io ia => exact no (s_bmX m o as io.1 ia.1) rfl (fun _ _ => by simp [chkM]) (fun _ _ => by simp [chkF]) (fun _ _ => by simp [chkA])
  | dict0 => exact no (s_dict0) rfl (fun _ _ => by simp [chkM]) (fun _ _ => by simp [chkF]) (fun _ _ => by simp [chkA])
  | din ng a b ia ib => exact no (s_din ng a b ia.1 ib.1) rfl (fun _ _ => by simp [chkM]) (fun _ _ => by simp [chkF]) (fun _ _ => by simp [chkA])
  | dix a i ia ib => exact no (s_dix a i ia.1 ib.1) rfl (fun _ _ => by simp [chkM]) (fun _ _ => by simp [chkF]) (fun _ _ => by simp [chkA])
  | bm m o as io ia => exact no (s_bm m o as io.1 ia.1) rfl (fun _ _ => by simp [chkM]) (fun _ _ => by simp [chkF]) (fun _ _ => by simp [chkA])
  | fstr as ia => exact no (s_fstr as ia.2.2.2.1) rfl (fun _ _ => by simp [chkM]) (fun _ _ => by simp [chkF]) (fun _ _ => by simp [chkA])
  | fld c o f io => exact no (s_fld g c o f io.1) rfl (fun _ _ => by simp [chkM]) (fun _ _ => by simp [chkF]) (fun _ _ => by simp [chkA])
  | meth c o m as io ia => exact no (s_meth g hF c o m as io.1 ia.1) rfl (fun _ _ => by simp [chkM]) (fun _ _ => by simp [chkF]) (fun _ _ => by simp [chkA])
  | mk c as ia => exact no (s_mk g hF c as ia.1) rfl (fun _ _ => by simp [chkM]) (fun _ _ => by simp [chkF]) (fun _ _ => by simp [chkA])
  | con d => exact ⟨s_con d, .no rfl, m_con d, f_no (fun _ _ => by simp [chkF]), d_no (fun _ _ => by simp [chkA])⟩
  | fmt a ia => exact ⟨⟨fun sc x X Wi h C tk => by simp [chk] at h, fun sc x X Wi h C tk => by simp [chkT] at h, fun sc a X Wi h C tk => by simp [chkA] at h⟩, .no rfl, m_fmt a ia.1, f_no (fun _ _ => by simp [chkF]), d_no (fun _ _ => by simp [chkA])⟩
  | nil => exact ⟨s_nil, .no rfl, m_no (fun _ _ => by simp [chkM]), f_nil, d_nil⟩
  | cons a as ia ib => exact ⟨s_cons a as ia.1 ib.1, .no rfl, m_no (fun _ _ => by simp [chkM]), f_cons a as ia.2.2.1 ib.2.2.2.1, d_cons a as ia.1 ib.2.2.2.2⟩
  | lrng k as ia => exact no2 (s_lrng g k as ia.1) (n_lrng g k as ia.1) (fun _ _ => by simp [chkM]) (fun _ _ => by simp [chkF]) (fun _ _ => by simp [chkA])
  | dict ks vs _ iv => exact no (s_dict ks vs iv.2.2.2.2) rfl (fun _ _ => by simp [chkM]) (fun _ _ => by simp [chkF]) (fun _ _ => by simp [chkA])
  | bin o a b ia ib => exact no2 (s_bin o a b ia.1 ib.1) (n_bin o a b ia.1 ib.1) (fun _ _ => by simp [chkM]) (fun _ _ => by simp [chkF]) (fun _ _ => by simp [chkA])
  | bf f as ia => exact no2 (s_bf g f as ia.1) (n_bf g f as ia.1) (fun _ _ => by simp [chkM]) (fun _ _ => by simp [chkF]) (fun _ _ => by simp [chkA])
  | sl a lo hi ia il ih => exact no2 (s_sl a lo hi ia.1 il.1 ih.1) (n_sl a lo hi ia.1 il.1 ih.1) (fun _ _ => by simp [chkM]) (fun _ _ => by simp [chkF]) (fun _ _ => by simp [chkA])
  | lst as ia => exact no2 (s_lst as ia.1) (n_lst as ia.1) (fun _ _ => by simp [chkM]) (fun _ _ => by simp [chkF]) (fun _ _ => by simp [chkA])
  | comp k src tg c e is ic ie => exact no2 (s_comp g k src tg c e is.1 ic.1 ie.1) (n_comp g k src tg c e is.1 ic.1 ie.1) (fun _ _ => by simp [chkM]) (fun _ _ => by simp [chkF]) (fun _ _ => by simp [chkA])
  | _ => exact no ⟨fun sc x X Wi h C tk => by simp [chk] at h, fun sc x X Wi h C tk => by simp [chkT] at h, fun sc a X Wi h C tk => by simp [chkA] at h⟩ rfl (fun _ _ => by simp [chkM]) (fun _ _ => by simp [chkF]) (fun _ _ => by simp [chkA])
theorem snd (g : GOk K mg G Y nm fa fd ps) (hF : ∀ f : Nat, (G.fns f).isSome = true → FnOk P w K mg base (L2.CX P w) (2 * kk) (fa f) (fd f) (ps f) (spF K nm G kk f)) (e : E) : Snd P w K mg base G Y nm kk N e := (snd4 g hF e).1

/-! ### statements -/
def WqS (K : PySem.W.Frag) (nm : Nm) (W : Wd) (H : Hp) (r : RS) (D : Ends) (Wi : WX) : Prop := match r with
  | .nx env' S' => ∀ W' H' σ', Ext W H W' H' → Rel K nm W' S' H' → ERep K W' H' env' σ' → D.nx σ' H'
  | .rt d S' => ∀ v W' H', Ext W H W' H' → Rel K nm W' S' H' → Rep K W' H' d v → D.rt v H'
  | .ex c env' S' => ∀ W' H' σ', Ext W H W' H' → Rel K nm W' S' H' → ERep K W' H' env' σ' → Wi (.ref (nm.X c)) none σ' H'
  | .bad => False
def tS (K : PySem.W.Frag) (nm : Nm) (Wi : WX) (f : Env → Store → RS) : TS := fun D σ H => ∃ W S env, ERep K W H env σ ∧ Rel K nm W S H ∧ WqS K nm W H (f env S) D Wi
theorem WqS.ext {W W' : Wd} {H H' : Hp} {r : RS} {D : Ends} (e : Ext W H W' H') (t : Trk W' H') (w : WqS K nm W H r D Wi) : WqS K nm W' H' r D Wi := by
  cases r with
  | nx env S => exact fun W2 H2 σ e2 r p => w W2 H2 σ (e.trans t e2) r p
  | rt d S => exact fun v W2 H2 e2 r p => w v W2 H2 (e.trans t e2) r p
  | ex c env S => exact fun W2 H2 σ e2 r p => w W2 H2 σ (e.trans t e2) r p
  | bad => exact w
theorem WqS.andThen {W : Wd} {H : Hp} {r : RS} {f : Env → Store → RS} {D : Ends} (w : WqS K nm W H (r.andThen f) D Wi) : WqS K nm W H r { D with nx := fun σ H => tS K nm Wi f D σ H } Wi := by
  cases r with
  | nx env S => exact fun W2 H2 σ e2 r p => ⟨W2, S, env, p, r, WqS.ext e2 r.trk w⟩
  | rt d S => exact w
  | ex c env S => exact w
  | bad => exact w
theorem stm_andThen {α : Type} (r : R α) (env : Env) (f : α → Store → RS) (g : Env → Store → RS) : (r.stm env f).andThen g = r.stm env fun a S => (f a S).andThen g := by cases r <;> rfl
/-- a value within a statement -/
theorem WqS.stm {α β : Type} {rp : Wd → Hp → α → β → Prop} {W : Wd} {H : Hp} {r : R α} {env : Env} {S : Store} {σ : L2.St} {f : α → Store → RS} {D : Ends} (E : ERep K W H env σ) (r0 : Rel K nm W S H) (w : WqS K nm W H (r.stm env f) D Wi) :
    Wq K nm rp W H r (fun v H1 => ∃ W1 S1 d, Ext W H W1 H1 ∧ ERep K W1 H1 env σ ∧ Rel K nm W1 S1 H1 ∧ rp W1 H1 d v ∧ WqS K nm W1 H1 (f d S1) D Wi) (Xw nm Wi σ) := by
  cases r with
  | ok d S1 => exact fun v W1 H1 e r p => ⟨W1, S1, d, e, E.mono r0.trk e, r, p, WqS.ext e r.trk w⟩
  | ex c S1 => exact fun W1 H1 e r => w W1 H1 σ e r (E.mono r0.trk e)
  | bad => exact w
theorem pss_then {st : Stmt} {rest : List Stmt} {f g : Env → Store → RS} (h1 : PS X st (tS K nm Wi f)) (h2 : PSs X rest (tS K nm Wi g)) : PSs X (st :: rest) (tS K nm Wi fun env S => (f env S).andThen g) := by
  refine (pss_cons h1 h2).imp fun D σ H q => ?_
  obtain ⟨W, S, env, E, r, z⟩ := q
  exact ⟨W, S, env, E, r, z.andThen⟩
theorem tS_eq {f g : Env → Store → RS} (h : ∀ env S, f env S = g env S) : tS K nm Wi f = tS K nm Wi g := by
  have : f = g := by funext env S; exact h env S
  rw [this]

/-! ### the check -/
def isComp : Expr → Bool
  | .ListComp _ _ _ _ => true
  | .SetComp _ _ _ _ => true
  | .DictComp _ _ _ _ _ => true
  | _ => false
/-- a comprehension that is stored before its block goes: name = [..] on one line, the name a local of its own -/
def swOk (e : E) (v : Expr) (y : Str) (p : Pos) (sc : Scope) : Bool := match v with
  | .ListComp _ _ scope pos => (match e with
      | .comp k _ _ _ _ => decide (k ≠ .keys ∧ k ≠ .keysR)
      | .new (.comp k _ _ _ _) => decide (k ≠ .keys ∧ k ≠ .keysR)
      | _ => false) && decide (sc.kind = .function) && decide (sc.names.lookup y = some .local) && (p.line == pos.line) && !(scope.names.any fun (n, k) => n == y && (k == .local || k == .cell))
  | _ => false
def isTupE : Expr → Bool
  | .Tuple _ _ _ => true
  | _ => false
section
variable (Y : Sx) (N : List Str) (sc : Scope)
def chkH : T → List Stmt → Bool
  | .nil, sts => match sts with
    | [] => true
    | _ => false
  | .asg i e k, sts => match sts with
    | .Assign [.Name x p] v _ :: rest => tgN N true sc i (.Name x p) && !isComp v && plainE e && chk Y N e sc v && chkH k rest
    | _ => false
  | .fldS c o f e k, sts => match sts with
    | .Assign [.Attribute p n _] v _ :: rest => (Y.clN c).isSome && decide (Y.fdN f = some n) && !isComp v && plainE o && plainE e && chk Y N e sc v && chk Y N o sc p && chkH k rest
    | _ => false
  | .ret e, sts => match sts with
    | [.Return (some v) _] => plainE e && chk Y N e sc v
    | _ => false
  | _, _ => false
def chkS : T → List Stmt → Bool
  | .nil, sts => match sts with
    | [] => true
    | _ => false
  | .asg i e k, sts => match sts with
    | .Assign [.Name x p] v _ :: rest => tgN N true sc i (.Name x p) && (!isComp v || swOk e v x p sc) && chk Y N e sc v && chkS k rest
    | _ => false
  | .asgT is e k, sts => match sts with
    | .Assign [.Tuple es q p] v _ :: rest => tgC N true sc (.many is) (.Tuple es q p) && !isComp v && !isTupE v && chk Y N e sc v && chkS k rest
    | _ => false
  | .exp e k, sts => match sts with
    | .Expr v _ :: rest => !isComp v && chk Y N e sc v && chkS k rest
    | _ => false
  | .ret e, sts => match sts with
    | [.Return (some v) _] => chk Y N e sc v
    | _ => false
  | .ifs c a b k, sts => match sts with
    | .If t x y _ :: rest => chkT Y N c sc t && chkS a x && chkS b y && chkS k rest
    | _ => false
  | .whl c b k, sts => match sts with
    | .While t x [] _ :: rest => chkT Y N c sc t && chkS b x && chkS k rest
    | _ => false
  | .for_ ik src tg b k, sts => match sts with
    | .For t iter x [] _ :: rest => !isSet iter && tgC N true sc tg t && (match ik with
        | .plain => chk Y N src sc iter
        | .keys => isVarE src && chk Y N src sc iter
        | .keysR => srcV src && chk Y N src sc iter
        | .items => srcV src && isTupE t && (match iter with
          | .Call (.Attribute e n ap) [] [] cp => decide (n = "items") && noBase e && (ap.endLine == cp.line) && chk Y N src sc e
          | _ => false)
        | ik => match itArgs Y.blN ik sc t iter with
          | some es => chkA Y N src sc es
          | none => false) && decide (ik ≠ .keys) && chkS b x && chkS k rest
    | _ => false
  | .setI o i e k, sts => match sts with
    | .Assign [.Subscript p q _] v _ :: rest => !isComp v && notSlice q && chk Y N e sc v && chk Y N o sc p && chk Y N i sc q && chkS k rest
    | _ => false
  | .setT o a lo e k, sts => match sts with
    | .Assign [.Subscript p (.Subscript q (.Slice (some l) none none _) _) _] v _ :: rest => !isComp v && !isEmp lo && chk Y N e sc v && chk Y N o sc p && chk Y N a sc q && chk Y N lo sc l && chkS k rest
    | _ => false
  | .fldS c o f e k, sts => match sts with
    | .Assign [.Attribute p n _] v _ :: rest => (Y.clN c).isSome && decide (Y.fdN f = some n) && !isComp v && chk Y N e sc v && chk Y N o sc p && chkS k rest
    | _ => false
  | .rais c, sts => match sts with
    | [.Raise (some (.Call (.Name x _) [] [] _)) none _] => decide (Y.exN c = some x) && gl sc x && !dbg x
    | _ => false
  | .tr b cs h k, sts => match sts with
    | .Try body [.ExceptHandler (some (.Name x _)) none (b0 :: suite) _] [] [] _ :: rest => decide (Y.hdl x = some cs) && gl sc x && !dbg x && chkS b body && chkH Y N sc h (b0 :: suite) && chkS k rest
    | .Try body [.ExceptHandler (some (.Tuple [.Name x _, .Name x' _] _ _)) none (b0 :: suite) _] [] [] _ :: rest => (match Y.hdl x, Y.hdl x' with | some c1, some c2 => decide (cs = c1 ++ c2) | _, _ => false) && (gl sc x && !dbg x) && (gl sc x' && !dbg x') && chkS b body && chkH Y N sc h (b0 :: suite) && chkS k rest
    | _ => false
  | .tr2 b c h c' h' k, sts => match sts with
    | .Try body [.ExceptHandler (some (.Name x _)) none (b0 :: suite) _, .ExceptHandler (some (.Name x' _)) none (b0' :: suite') _] [] [] _ :: rest => decide (Y.hdl x = some [c]) && gl sc x && !dbg x && decide (Y.hdl x' = some [c']) && gl sc x' && !dbg x' && chkS b body && chkH Y N sc h (b0 :: suite) && chkH Y N sc h' (b0' :: suite') && chkS k rest
    | _ => false
end
variable (P w K mg base G Y nm kk N) in
def SndS (t : T) : Prop := ∀ (sc : Scope) (sts : List Stmt) (X : Cx) (Wi : WX), chkS Y N sc t sts = true → COk P w K mg base kk N sc X → ((∀ x, X.fn x = true) ∧ X.stack = X.env :: X.outer ∧ X.env.frame = some X.env.locals) → Takes X Wi → PassesOwn (model X.prog X.w) X.A X.env X.xe → PSs X sts (tS K nm Wi (exT G (run G kk) t))
theorem swaps_ok {v : Expr} {o : Option Expr} {n : Nat} {env : PySem.Env} (h : isComp v = false) : swapsWith v o n env = pure false := by
  cases v <;> first | rfl | cases h
theorem swapsS_ok {t v : Expr} {n : Nat} {env : PySem.Env} (h : isComp v = false) : swapsWithSole [t] v n env = pure false := by
  show swapsWith v (some t) n env = pure false
  exact swaps_ok h
theorem z_nil : SndS P w K mg base G Y nm kk N .nil := by
  intro sc sts X Wi h C hf tk hp
  cases sts with
  | nil => exact pss_nil.imp fun D σ H ⟨W, S, env, E, r, z⟩ => z W H σ Ext.refl r E
  | cons _ _ => cases h
theorem asg_base (g : GOk K mg G Y nm fa fd ps) (sn : ∀ e, Snd P w K mg base G Y nm kk N e) {i : Nat} {e : E} {x : Str} {p pos : Pos} {v : Expr} {sc : Scope} {X : Cx} {Wi : WX} (hf : (∀ x, X.fn x = true) ∧ X.stack = X.env :: X.outer ∧ X.env.frame = some X.env.locals)
    (h1 : tgN N true sc i (.Name x p) = true) (h2 : (!isComp v || swOk e v x p sc) = true) (h3 : chk Y N e sc v = true) (C : COk P w K mg base kk N sc X) (tk : Takes X Wi) : PS X (.Assign [.Name x p] v pos) (tAsg (tE K nm Wi (ev G (run G kk) e)) (gName i)) := by
  by_cases hc : isComp v = false
  · obtain ⟨pg, _⟩ := pg_one C.hN C.nd C.sc (fl := true) (fun _ => hf.1) h1
    exact ps_asg ((sn e).v _ _ X Wi h3 C (tk_of hf.2.2 tk)) pg (hs := swapsS_ok hc) (hw := rfl) (h1 := rfl)
  · rw [Bool.not_eq_false] at hc
    rw [hc] at h2
    simp only [Bool.not_true, Bool.false_or] at h2
    cases v <;> simp only [swOk] at h2 <;> first | (cases h2; done) | skip
    rename_i elt gens scope cpos
    simp only [Bool.and_eq_true, decide_eq_true_eq, Bool.not_eq_true'] at h2
    obtain ⟨⟨⟨⟨h2, hk⟩, hyl⟩, hl⟩, ha⟩ := h2
    have hyl' : X.env.scope.names.lookup x = some .local := by rw [C.sc]; exact hyl
    have hsw : swapsWith (.ListComp elt gens scope cpos) (some (.Name x p)) pos.line X.env = pure true := sw_true (by rw [C.sc]; exact hk) hyl' hl ha
    simp only [tgN, Bool.and_eq_true, decide_eq_true_eq] at h1
    have hy : X.N[i]? = some x := by rw [C.hN]; exact h1.1
    cases e <;> first | exact (Bool.false_ne_true h2).elim | skip
    · rename_i k src tg c e
      exact comp_asg g k src tg c e (sn src) (sn c) (sn e) fr_lst h3 C (tk_of hf.2.2 tk) (by simpa using h2) hy hyl' hsw
    · rename_i e
      cases e <;> first | exact (Bool.false_ne_true h2).elim | skip
      rename_i k src tg c e
      simp only [chk, Bool.and_eq_true] at h3
      have eq : ev G (run G kk) (.new (.comp k src tg c e)) = evC G (run G kk) k src tg c e fun ys S => .ok (.ref S.length) (S ++ [.lst ys]) := new_comp_eq
      rw [eq]
      exact comp_asg g k src tg c e (sn src) (sn c) (sn e) fr_new h3.2 C (tk_of hf.2.2 tk) (by simpa using h2) hy hyl' hsw
theorem z_asg (g : GOk K mg G Y nm fa fd ps) (sn : ∀ e, Snd P w K mg base G Y nm kk N e) (i : Nat) (e : E) (k : T) (ik : SndS P w K mg base G Y nm kk N k) : SndS P w K mg base G Y nm kk N (.asg i e k) := by
  intro sc sts X Wi h C hf tk hp
  simp only [chkS] at h
  split at h <;> try (cases h; done)
  simp only [Bool.and_eq_true] at h
  obtain ⟨⟨⟨h1, h2⟩, h3⟩, h4⟩ := h
  rw [tS_eq (g := fun env S => ((ev G (run G kk) e env S).stm env fun d S => .nx (env.set i (some d)) S).andThen (exT G (run G kk) k)) (fun env S => by rw [stm_andThen]; rfl)]
  refine pss_then ?_ (ik sc _ X Wi h4 C hf tk hp)
  refine (asg_base g sn hf h1 h2 h3 C tk).imp fun D σ H q => ?_
  obtain ⟨W, S, env, E, r, z⟩ := q
  refine ⟨W, S, env, E, r, (WqS.stm (rp := rpD K) E r z).mono fun v H1 z => ?_⟩
  obtain ⟨W1, S1, d, e1, E1, r1, p1, z⟩ := z
  exact z W1 H1 _ Ext.refl r1 (E1.set i p1)
theorem z_asgT (sn : ∀ e, Snd P w K mg base G Y nm kk N e) (is : List Nat) (e : E) (k : T) (ik : SndS P w K mg base G Y nm kk N k) : SndS P w K mg base G Y nm kk N (.asgT is e k) := by
  intro sc sts X Wi h C hf tk hp
  simp only [chkS] at h
  split at h <;> try (cases h; done)
  simp only [Bool.and_eq_true, Bool.not_eq_true'] at h
  obtain ⟨⟨⟨⟨h1, h2⟩, h5⟩, h3⟩, h4⟩ := h
  rw [tS_eq (g := fun env S => ((ev G (run G kk) e env S).stm env fun d S => match bindT (.many is) d env with
    | some env' => .nx env' S
    | none => .bad).andThen (exT G (run G kk) k)) (fun env S => by
      rw [stm_andThen]
      simp only [exT]
      congr 1
      funext d S
      cases bindT (.many is) d env <;> rfl)]
  refine pss_then ?_ (ik sc _ X Wi h4 C hf tk hp)
  have pg := pg_ok C.hK C.hN C.nd C.sc C.calm (fl := true) (fun _ => hf.1) h1
  refine (ps_asg ((sn e).v _ _ X Wi h3 C (tk_of hf.2.2 tk)) pg (hs := swapsS_ok h2) (hw := by rename_i v _ _; cases v <;> first | rfl | cases h5) (h1 := rfl)).imp fun D σ H q => ?_
  obtain ⟨W, S, env, E, r, z⟩ := q
  refine ⟨W, S, env, E, r, (WqS.stm (rp := rpD K) E r z).mono fun v H1 z => ?_⟩
  obtain ⟨W1, S1, d, e1, E1, r1, p1, z⟩ := z
  cases hb : bindT (.many is) d env with
  | none => rw [hb] at z; exact z.elim
  | some env' =>
    rw [hb] at z
    exact ⟨W1, d, env, env', E1.o _, p1, hb, fun σ' E' _ => z W1 H1 σ' Ext.refl r1 E'⟩
theorem z_exp (sn : ∀ e, Snd P w K mg base G Y nm kk N e) (e : E) (k : T) (ik : SndS P w K mg base G Y nm kk N k) : SndS P w K mg base G Y nm kk N (.exp e k) := by
  intro sc sts X Wi h C hf tk hp
  simp only [chkS] at h
  split at h <;> try (cases h; done)
  simp only [Bool.and_eq_true, Bool.not_eq_true'] at h
  obtain ⟨⟨h2, h3⟩, h4⟩ := h
  rw [tS_eq (g := fun env S => ((ev G (run G kk) e env S).stm env fun d S => .nx env S).andThen (exT G (run G kk) k)) (fun env S => by rw [stm_andThen]; rfl)]
  refine pss_then ?_ (ik sc _ X Wi h4 C hf tk hp)
  refine (ps_expr ((sn e).v _ _ X Wi h3 C (tk_of hf.2.2 tk)) (swaps_ok h2)).imp fun D σ H q => ?_
  obtain ⟨W, S, env, E, r, z⟩ := q
  refine ⟨W, S, env, E, r, (WqS.stm (rp := rpD K) E r z).mono fun v H1 z => ?_⟩
  obtain ⟨W1, S1, d, e1, E1, r1, p1, z⟩ := z
  exact z W1 H1 _ Ext.refl r1 E1
theorem z_ret (sn : ∀ e, Snd P w K mg base G Y nm kk N e) (e : E) : SndS P w K mg base G Y nm kk N (.ret e) := by
  intro sc sts X Wi h C hf tk hp
  simp only [chkS] at h
  split at h <;> try (cases h; done)
  refine pss_one ((ps_ret ((sn e).v _ _ X Wi h C (tk_of hf.2.2 tk))).imp fun D σ H q => ?_)
  obtain ⟨W, S, env, E, r, z⟩ := q
  refine ⟨W, S, env, E, r, (WqS.stm (rp := rpD K) E r z).mono fun v H1 z => ?_⟩
  obtain ⟨W1, S1, d, e1, E1, r1, p1, z⟩ := z
  exact z v W1 H1 Ext.refl r1 p1
theorem z_ifs (sn : ∀ e, Snd P w K mg base G Y nm kk N e) (c : E) (a b k : T) (ia : SndS P w K mg base G Y nm kk N a) (ib : SndS P w K mg base G Y nm kk N b) (ik : SndS P w K mg base G Y nm kk N k) : SndS P w K mg base G Y nm kk N (.ifs c a b k) := by
  intro sc sts X Wi h C hf tk hp
  simp only [chkS] at h
  split at h <;> try (cases h; done)
  simp only [Bool.and_eq_true] at h
  obtain ⟨⟨⟨h1, h2⟩, h3⟩, h4⟩ := h
  rw [tS_eq (g := fun env S => ((mapT (ev G (run G kk) c env S)).stm env fun t S => if t then exT G (run G kk) a env S else exT G (run G kk) b env S).andThen (exT G (run G kk) k)) (fun env S => by rw [stm_andThen]; rfl)]
  refine pss_then ?_ (ik sc _ X Wi h4 C hf tk hp)
  refine (ps_if ((sn c).t _ _ X Wi h1 C (tk_of hf.2.2 tk)) (ia sc _ X Wi h2 C hf tk hp) (ib sc _ X Wi h3 C hf tk hp)).imp fun D σ H q => ?_
  obtain ⟨W, S, env, E, r, z⟩ := q
  refine ⟨W, S, env, E, r, (WqS.stm (rp := rpB) E r z).mono fun t H1 z => ?_⟩
  obtain ⟨W1, S1, d, e1, E1, r1, p1, z⟩ := z
  cases (show d = t from p1)
  cases t with
  | true => exact ⟨W1, S1, env, E1, r1, z⟩
  | false => exact ⟨W1, S1, env, E1, r1, z⟩
theorem z_whl (sn : ∀ e, Snd P w K mg base G Y nm kk N e) (c : E) (b k : T) (ib : SndS P w K mg base G Y nm kk N b) (ik : SndS P w K mg base G Y nm kk N k) : SndS P w K mg base G Y nm kk N (.whl c b k) := by
  intro sc sts X Wi h C hf tk hp
  simp only [chkS] at h
  split at h <;> try (cases h; done)
  simp only [Bool.and_eq_true] at h
  obtain ⟨⟨h1, h2⟩, h4⟩ := h
  refine pss_then (f := fun env S => goWhl (fun env S => mapT (ev G (run G kk) c env S)) (fun env S => exT G (run G kk) b env S) LOOP env S) ?_ (ik sc _ X Wi h4 C hf tk hp)
  refine (ps_while hp ((sn c).t _ _ X Wi h1 C (tk_of hf.2.2 tk)) (ib sc _ X Wi h2 C hf tk hp)).imp fun D σ H q => ?_
  obtain ⟨W, S, env, E, r, z⟩ := q
  refine ⟨fun m σ H => ∃ W S env, ERep K W H env σ ∧ Rel K nm W S H ∧ WqS K nm W H (goWhl (fun env S => mapT (ev G (run G kk) c env S)) (fun env S => exT G (run G kk) b env S) m env S) D Wi, ⟨LOOP, W, S, env, E, r, z⟩, ?_⟩
  rintro m σ H ⟨W, S, env, E, r, z⟩
  cases m with
  | zero => exact z.elim
  | succ m =>
    simp only [goWhl] at z
    refine ⟨W, S, env, E, r, (WqS.stm (rp := rpB) E r z).mono fun t H1 z => ?_⟩
    obtain ⟨W1, S1, d, e1, E1, r1, p1, z⟩ := z
    cases (show d = t from p1)
    cases t with
    | false => exact z W1 H1 σ Ext.refl r1 E1
    | true =>
      refine ⟨fun σ H => ∃ W S env, ERep K W H env σ ∧ Rel K nm W S H ∧ WqS K nm W H (goWhl (fun env S => mapT (ev G (run G kk) c env S)) (fun env S => exT G (run G kk) b env S) m env S) D Wi, fun σ' H' q => ⟨m, Nat.lt_succ_self _, q⟩, ?_⟩
      refine ⟨W1, S1, env, E1, r1, ?_⟩
      have z := WqS.andThen z
      revert z
      cases exT G (run G kk) b env S1 with
      | nx env' S' => exact fun z W' H' σ' e r p => z W' H' σ' e r p
      | rt d S' => exact fun z => z
      | ex c env' S' => exact fun z => z
      | bad => exact fun z => z
theorem for_items {body : PL.D → Env → Store → RS} {tg : Tg} {b : Env → Store → RS} {tb : TS} {D : Ends} {σ : L2.St} {W1 : Wd} {H1 : Hp} {S1 : Store} {env : Env} {J : It} {xs : List PL.D}
    (hbody : ∀ x env S, body x env S = match bindT tg x env with | some env' => b env' S | none => .bad)
    (hb : ∀ D σ H, tS K nm Wi b D σ H → tb D σ H)
    (E : ERep K W1 H1 env σ) (r1 : Rel K nm W1 S1 H1) (hJ : ItOk K nm W1 H1 J xs) (z : WqS K nm W1 H1 (goFor body xs env S1) D Wi) :
    ∃ Wm : Nat → Nat → L2.St → Hp → Prop, (∃ m, Wm 0 m σ H1) ∧ ∀ i m σ H, Wm i m σ H →
      (J.stop i H ∧ D.nx σ H) ∨ (J.go i H ∧ ∃ Nx : L2.St → Hp → Prop, (∀ σ' H', Nx σ' H' → ∃ m', m' < m ∧ Wm (i + 1) m' σ' H') ∧ ∀ x H', J.yld i H x H' → gTg K tg x σ H' fun σ2 H2 => tb { D with nx := Nx, ct := Nx, bk := D.nx } σ2 H2) := by
  obtain ⟨Gd, Yd, wk, st, yl⟩ := hJ.1
  refine for_it wk (fun i σ H => ∃ W2 S2 env2, Ext W1 H1 W2 H ∧ ERep K W2 H env2 σ ∧ Rel K nm W2 S2 H ∧ WqS K nm W2 H (goFor body (xs.drop i) env2 S2) D Wi) ?_ ?_ ?_ ?_
  · exact ⟨W1, S1, env, Ext.refl, E, r1, z⟩
  · rintro i σ H hi ⟨W2, S2, env2, e1, E2, r2, z⟩
    exact st _ _ e1
  · rintro i x σ H H' hi ⟨W2, S2, env2, e1, E2, r2, z⟩ y
    obtain ⟨d, hx, ex, keep, rep⟩ := yl i _ S2 H x H' hi e1 r2 y
    have r2' := r2.grow ex keep
    have hdrop : xs.drop i = d :: xs.drop (i + 1) := by
      obtain ⟨hl, hv⟩ := List.getElem?_eq_some_iff.mp hx
      rw [List.drop_eq_getElem_cons hl, hv]
    rw [hdrop] at z
    simp only [goFor, hbody] at z
    cases hbt : bindT tg d env2 with
    | none => rw [hbt] at z; exact z.elim
    | some env' =>
      rw [hbt] at z
      have z := WqS.ext ex r2'.trk z
      refine ⟨W2, d, env2, env', (E2.mono r2.trk ex).o _, rep, hbt, fun σ' E' _ => hb _ _ _ ⟨W2, S2, env', E', r2', ?_⟩⟩
      dsimp only at z
      revert z
      cases b env' S2 with
      | nx env3 S3 => exact fun z W' H' σ' e r p => ⟨W', S3, env3, (e1.trans r2.trk ex |>.trans r2'.trk e), p, r, WqS.ext e r.trk z⟩
      | rt d S3 => exact fun z => z
      | ex c env3 S3 => exact fun z => z
      | bad => exact fun z => z
  · rintro σ H ⟨W2, S2, env2, e1, E2, r2, z⟩
    rw [List.drop_eq_nil_of_le (Nat.le_refl _)] at z
    exact z W2 H σ Ext.refl r2 E2
theorem for_live {body : PL.D → Env → Store → RS} {tg : Tg} {b : Env → Store → RS} {tb : TS} {D : Ends} {σ : L2.St} {W1 : Wd} {H1 : Hp} {S1 : Store} {env : Env} {n : Nat} {a : Addr}
    (hbody : ∀ x env S, body x env S = match bindT tg x env with | some env' => b env' S | none => .bad)
    (hb : ∀ D σ H, tS K nm Wi b D σ H → tb D σ H)
    (E : ERep K W1 H1 env σ) (r1 : Rel K nm W1 S1 H1) (ha : W1.m[n]? = some a) (z : WqS K nm W1 H1 (goForL n false body LOOP 0 env S1) D Wi) :
    ∃ Wm : Nat → Nat → L2.St → Hp → Prop, (∃ m, Wm 0 m σ H1) ∧ ∀ i m σ H, Wm i m σ H →
      ((Itl K a).stop i H ∧ D.nx σ H) ∨ ((Itl K a).go i H ∧ ∃ Nx : L2.St → Hp → Prop, (∀ σ' H', Nx σ' H' → ∃ m', m' < m ∧ Wm (i + 1) m' σ' H') ∧ ∀ x H', (Itl K a).yld i H x H' → gTg K tg x σ H' fun σ2 H2 => tb { D with nx := Nx, ct := Nx, bk := D.nx } σ2 H2) := by
  refine ⟨fun i m σ H => ∃ W2 S2 env2, Ext W1 H1 W2 H ∧ ERep K W2 H env2 σ ∧ Rel K nm W2 S2 H ∧ WqS K nm W2 H (goForL n false body m i env2 S2) D Wi, ⟨LOOP, W1, S1, env, Ext.refl, E, r1, z⟩, ?_⟩
  rintro i m σ H ⟨W2, S2, env2, e1, E2, r2, z⟩
  cases m with
  | zero => exact z.elim
  | succ m =>
    have ha2 : W2.m[n]? = some a := by
      obtain ⟨t, h, _⟩ := e1.m
      rw [h]
      exact (List.getElem?_append_left (List.getElem?_eq_some_iff.mp ha).1).trans ha
    simp only [goForL, itemAt] at z
    cases hs : S2[n]? with
    | none => rw [hs] at z; exact z.elim
    | some o =>
      rw [hs] at z
      cases o with
      | lst ys =>
        obtain ⟨vs, h1, h2⟩ := r2.ob n a _ ha2 hs
        dsimp only at z
        cases hy : ys[i]? with
        | none =>
          rw [hy] at z
          refine .inl ⟨⟨vs, SqL.of h1, ?_⟩, z W2 H σ Ext.refl r2 E2⟩
          rw [h2.lens]
          exact List.getElem?_eq_none_iff.mp hy
        | some d =>
          rw [hy] at z
          obtain ⟨v, h3, h4⟩ := h2.get hy
          refine .inr ⟨⟨vs, v, SqL.of h1, h3⟩, fun σ H => ∃ W2 S2 env2, Ext W1 H1 W2 H ∧ ERep K W2 H env2 σ ∧ Rel K nm W2 S2 H ∧ WqS K nm W2 H (goForL n false body m (i + 1) env2 S2) D Wi, fun σ' H' q => ⟨m, Nat.lt_succ_self _, q⟩, ?_⟩
          rintro x H' ⟨rfl, hx⟩
          have := hx vs (SqL.of h1)
          rw [h3] at this
          cases this
          simp only [Option.map_some, Bool.false_eq_true, if_false, hbody] at z
          cases hbt : bindT tg d env2 with
          | none => rw [hbt] at z; exact z.elim
          | some env' =>
            rw [hbt] at z
            refine ⟨W2, d, env2, env', E2.o _, h4, hbt, fun σ' E' _ => hb _ _ _ ⟨W2, S2, env', E', r2, ?_⟩⟩
            dsimp only at z
            revert z
            cases b env' S2 with
            | nx env3 S3 => exact fun z W' H' σ' e r p => ⟨W', S3, env3, e1.trans r2.trk e, p, r, WqS.ext e r.trk z⟩
            | rt d S3 => exact fun z => z
            | ex c env3 S3 => exact fun z => z
            | bad => exact fun z => z
      | _ => exact z.elim
/-- a for over a dict that is locked -/
theorem lock_z {body : PL.D → Env → Store → RS} {W W1 : Wd} {H H1 : Hp} {S : Store} {n : Nat} {a : Addr} {od : Obj} {vs : List (Key × V)} {kvs : List (Ky × PL.D)} {env : Env} {xs : List PL.D} {D : Ends}
    (r : Rel K nm W S H) (ha : W.m[n]? = some a) (h1 : H a = some (.dK vs)) (z : WqS K nm W H (unlT n (goFor body xs env (S.set n (.lck kvs)))) D Wi)
    (e1 : Ext W (upd H a (.frz od (.dK vs))) W1 H1) (r1 : Rel K nm W1 (S.set n (.lck kvs)) H1) :
    WqS K nm W1 H1 (goFor body xs env (S.set n (.lck kvs))) ⟨fun σ' H' => H' a = some (.frz od (.dK vs)) ∧ D.nx σ' (upd H' a (.dK vs)), fun v H' => H' a = some (.frz od (.dK vs)) ∧ D.rt v (upd H' a (.dK vs)), fun σ' H' => H' a = some (.frz od (.dK vs)) ∧ D.bk σ' (upd H' a (.dK vs)), fun σ' H' => H' a = some (.frz od (.dK vs)) ∧ D.ct σ' (upd H' a (.dK vs))⟩ Wi := by
  revert z
  cases goFor body xs env (S.set n (.lck kvs)) with
  | bad => exact fun z => z
  | ex c env' S' => exact fun z => z.elim
  | nx env' Sf =>
    intro z W' H' σ' e r' p
    simp only [unlT] at z
    cases hu : unlS n Sf with
    | none => rw [hu] at z; exact z.elim
    | some S' =>
      rw [hu] at z
      obtain ⟨u1, u2, u3, u4⟩ := unlock_ok r ha h1 (e1.trans r1.trk e) (B := W'.B) r' hu
      exact ⟨u1, z W' _ σ' u2 u3 (p.swp u4)⟩
  | rt d Sf =>
    intro z v W' H' e r' p
    simp only [unlT] at z
    cases hu : unlS n Sf with
    | none => rw [hu] at z; exact z.elim
    | some S' =>
      rw [hu] at z
      obtain ⟨u1, u2, u3, u4⟩ := unlock_ok r ha h1 (e1.trans r1.trk e) (B := W'.B) r' hu
      exact ⟨u1, z v W' _ u2 u3 (p.swp u4)⟩
theorem src_chk {Y : Sx} {N : List Str} {sc : Scope} {ik : IK} {src : E} {t iter : Expr} (h : (match ik with
        | .plain => chk Y N src sc iter
        | .keys => isVarE src && chk Y N src sc iter
        | .keysR => srcV src && chk Y N src sc iter
        | .items => srcV src && isTupE t && (match iter with
          | .Call (.Attribute e n ap) [] [] cp => decide (n = "items") && noBase e && (ap.endLine == cp.line) && chk Y N src sc e
          | _ => false)
        | ik => match itArgs Y.blN ik sc t iter with
          | some es => chkA Y N src sc es
          | none => false) = true) (hI : ik ≠ .items) : (match (generalizing := false) ik with
        | .plain => chk Y N src sc iter
        | .keys => isVarE src && chk Y N src sc iter
        | .keysR => srcV src && chk Y N src sc iter
        | k => match itArgs Y.blN k sc t iter with
          | some es => chkA Y N src sc es
          | none => false) = true := by
  cases ik <;> first | exact h | exact absurd rfl hI
theorem z_for (g : GOk K mg G Y nm fa fd ps) (sn : ∀ e, Snd P w K mg base G Y nm kk N e) (ik : IK) (src : E) (tg : Tg) (b k : T) (ib : SndS P w K mg base G Y nm kk N b) (iK : SndS P w K mg base G Y nm kk N k) : SndS P w K mg base G Y nm kk N (.for_ ik src tg b k) := by
  intro sc sts X Wi h C hf tk hp
  simp only [chkS] at h
  split at h <;> try (cases h; done)
  rename_i tt iter xx pos rest
  simp only [Bool.and_eq_true, Bool.not_eq_true'] at h
  obtain ⟨⟨⟨⟨⟨h1, h2⟩, h3⟩, hnk⟩, h4⟩, h5⟩ := h
  have hnk : ik ≠ .keys := by simpa using hnk
  rw [tS_eq (g := fun env S => ((ev G (run G kk) src env S).stm env fun xs S => match mkIt ik (srcL ik xs) S with
    | some it => goForI it (fun x env S => match bindT tg x env with
      | some env' => exT G (run G kk) b env' S
      | none => .bad) env S
    | none => .bad).andThen (exT G (run G kk) k)) (fun env S => by
      rw [stm_andThen]
      simp only [exT]
      congr 1
      funext d S
      cases mkIt ik (srcL ik d) S <;> rfl)]
  refine pss_then ?_ (iK sc _ X Wi h5 C hf tk hp)
  have pg := pg_ok C.hK C.hN C.nd C.sc C.calm (fl := true) (fun _ => hf.1) h2
  have pb := ib sc _ X Wi h4 C hf tk hp
  by_cases hRI : ik = .keysR ∨ ik = .items
  · have main : ∀ (J : Addr → Obj → List (Key × V) → It) (xsf : List (Ky × PL.D) → List PL.D), srcV src = true → (∀ W H d o ds kvs, Trk W H → H d = some (.frz o (.dK kvs)) → RepK K W H ds kvs → ItOk K nm W H (J d o kvs) (xsf ds)) →
        (∀ d S, mkIt ik (srcL ik d) S = match d with
          | .ref n => (match S[n]? with
            | some (.dct kvs) => some (.lkd n (xsf kvs) kvs)
            | _ => none)
          | _ => none) →
        PI X tt iter (fun σ H R => tE K nm Wi (ev G (run G kk) src) σ H fun x H1 => ∃ d o kvs, x = .ref d ∧ H1 d = some (.frz o (.dK kvs)) ∧ R (J d o kvs) H1) →
        PS X (.For tt iter xx [] pos) (tS K nm Wi fun env S => (ev G (run G kk) src env S).stm env fun xs S => match mkIt ik (srcL ik xs) S with
          | some it => goForI it (fun x env S => match bindT tg x env with
            | some env' => exT G (run G kk) b env' S
            | none => .bad) env S
          | none => .bad) := by
      intro J xsf hsv hJ hm pi
      refine (ps_lock (ps_for hp C.calm pi pg pb (fold_ok h1 X.env))).imp fun D σ H q => ?_
      obtain ⟨W, S, env, E, r, z⟩ := q
      dsimp only at z
      rcases src_ok (G := G) (call := run G kk) (env := env) (S := S) hsv with ⟨d, hd⟩ | hd
      rotate_left
      · rw [hd] at z; exact z.elim
      rw [hd] at z
      simp only [R.stm_ok, hm] at z
      cases d with
      | ref n =>
        dsimp only at z
        cases hS : S[n]? with
        | none => rw [hS] at z; exact z.elim
        | some o =>
          rw [hS] at z
          cases o with
          | dct kvs =>
            dsimp only [goForI] at z
            have hl : n < W.m.length := by rw [r.len]; exact (List.getElem?_eq_some_iff.mp hS).1
            obtain ⟨a, ha⟩ : ∃ a, W.m[n]? = some a := ⟨_, List.getElem?_eq_getElem hl⟩
            obtain ⟨vs, h1', h4'⟩ := r.ob n a _ ha hS
            refine ⟨a, .dK vs, h1', trivial, fun od => ?_⟩
            have q := swp_lock (od := od) h1'
            have rL : Rel K nm W (S.set n (.lck kvs)) (upd H a (.frz od (.dK vs))) := r.swpS q ha ⟨od, vs, upd_same, h4'.swp q⟩
            have evL := src_lck hsv hS hd
            refine ⟨W, S.set n (.lck kvs), env, E.swp q, rL, ?_⟩
            rw [evL]
            intro v W1 H1 e1 r1 p1
            cases p1 with
            | @ref _ a1 hv =>
            obtain ⟨ta, et, ft⟩ := e1.m
            have ea : a1 = a := by
              rw [et, List.getElem?_append_left hl, ha] at hv
              exact (Option.some.inj hv).symm
            subst ea
            have fz1 : H1 a1 = some (.frz od (.dK vs)) := e1.fz _ _ _ upd_same
            refine ⟨a1, od, vs, rfl, fz1, ?_⟩
            exact for_items (b := exT G (run G kk) b) (fun _ _ _ => rfl) (fun _ _ _ q => q) ((E.swp q).mono rL.trk e1) r1 (hJ _ _ _ _ _ _ r1.trk fz1 ((h4'.swp q).mono rL.trk e1)) (lock_z r ha h1' z e1 r1)
          | _ => exact z.elim
      | _ => exact z.elim
    rcases hRI with rfl | rfl
    · simp only [Bool.and_eq_true] at h3
      have pv := (sn src).v _ _ X Wi h3.2 C (tk_of hf.2.2 tk)
      refine main Itk (fun ds => ds.map fun p => kyD p.1) h3.1 (fun W H d o ds kvs _ h p => .keysF h p) (fun d S => by cases d <;> rfl) ((pi_keys pv).imp fun σ H R q => ?_)
      obtain ⟨W, S, env, E, r, z⟩ := q
      exact ⟨W, S, env, E, r, z.mono fun v H ⟨d, o, kvs, g1, g2, g3⟩ => ⟨d, o, g1, .inl ⟨kvs, g2, g3⟩⟩⟩
    · simp only [Bool.and_eq_true] at h3
      obtain ⟨⟨h3a, h3b⟩, h3c⟩ := h3
      split at h3c <;> try (cases h3c; done)
      simp only [Bool.and_eq_true, decide_eq_true_eq] at h3c
      obtain ⟨⟨⟨rfl, hnb⟩, hli⟩, h3c⟩ := h3c
      have pv := (sn src).v _ _ X Wi h3c C (tk_of hf.2.2 tk)
      cases tt <;> simp only [isTupE] at h3b <;> first | (cases h3b; done) | skip
      exact main Iti (fun ds => ds.map fun p => .tup [kyD p.1, p.2]) h3a (fun W H d o ds kvs t h p => .itemsF t h p) (fun d S => by cases d <;> rfl) (pi_items pv (hbase := base_ok hnb) (hline := hli))
  have h3 := src_chk h3 (fun e => hRI (Or.inr e))
  have hnk : ik ≠ .keys ∧ ik ≠ .keysR := ⟨hnk, fun e => hRI (Or.inl e)⟩
  refine (ps_for hp C.calm (pi_src g (sn src) C (tk_of hf.2.2 tk) h3 hnk) pg pb (fold_ok h1 X.env)).imp fun D σ H q => ?_
  obtain ⟨W, S, env, E, r, z⟩ := q
  refine ⟨W, S, env, E, r, ?_⟩
  dsimp only at z ⊢
  cases hsrc : ev G (run G kk) src env S with
  | bad => rw [hsrc] at z; exact z.elim
  | ex c S1 =>
    rw [hsrc] at z
    exact fun W' H' e r' => z W' H' σ e r' (E.mono r.trk e)
  | ok d S1 =>
    rw [hsrc] at z
    simp only [R.stm_ok, R.bind_ok] at z ⊢
    cases hit : mkIt ik (srcL ik d) S1 with
    | none => rw [hit] at z; exact z.elim
    | some it =>
      rw [hit] at z
      dsimp only at z
      intro J W1 H1 e1 r1 hJ
      have z := WqS.ext e1 r1.trk z
      cases it with
      | items xs => exact for_items (b := exT G (run G kk) b) (fun _ _ _ => rfl) (fun _ _ _ q => q) (E.mono r.trk e1) r1 hJ z
      | lkd _ _ _ => exact hJ.elim
      | live n en =>
        obtain ⟨a, ha, hJ⟩ := hJ
        cases en with
        | false =>
          subst hJ
          rw [show goForI (.live n false) _ env S1 = goForL n false _ LOOP 0 env S1 from rfl] at z
          exact for_live (b := exT G (run G kk) b) (fun _ _ _ => rfl) (fun _ _ _ q => q) (E.mono r.trk e1) r1 ha z
        | true =>
          rw [show goForI (.live n true) _ env S1 = .bad from rfl] at z
          exact z.elim

/-! ### stores, exceptions -/
theorem seti_ok {x y v : D} {o i u : V} {W : Wd} {S S' : Store} {H : Hp} {Q : Hp → Prop} (r : Rel K nm W S H) (p : Rep K W H x o) (q : Rep K W H y i) (pv : Rep K W H v u) (h : setIx x y v S = some S') (f : ∀ H', Ext W H W H' → Rel K nm W S' H' → Q H') : rSetL o i u H Q ∨ rSetD o i u H Q := by
  cases p with
  | @ref n a hm =>
    simp only [setIx] at h
    split at h
    · rename_i xs k hS
      rw [Option.map_eq_some_iff] at h
      obtain ⟨j, h1, h2⟩ := h
      subst h2
      obtain ⟨ws, hw, pw⟩ := r.ob n a _ hm hS
      obtain ⟨e, r'⟩ := r.putL hm (unf_of hw fun _ _ z => by cases z) (pw.set j pv)
      cases q
      exact .inl ⟨a, ws, k, j, rfl, rfl, hw, by rw [pw.lens]; exact h1, f _ e r'⟩
    · rename_i kvs hS
      split at h
      · rename_i hz
        rw [Option.map_eq_some_iff] at h
        obtain ⟨k, h1, h2⟩ := h
        subst h2
        obtain ⟨ws, hw, pw⟩ := r.ob n a _ hm hS
        obtain ⟨e, r'⟩ := r.putD hm (unf_of hw fun _ _ z => by cases z) (put_ok (k := k) pw pv)
        exact .inr ⟨a, _, rfl, .inl ⟨ws, k, hw, key_ok q h1, by rw [← pw.length, ← SZ_eq]; exact hz, rfl⟩, f _ e r'⟩
      · cases h
    · cases h
  | _ => cases h
theorem _root_.L2.PSet.or {X : Cx} {t u : TSet} (h : PSet X t) (h' : PSet X u) : PSet X fun o i v H Q => t o i v H Q ∨ u o i v H Q := fun pins s σ H o i v ov iv u' Q I ro ri rv q => q.elim (h pins s σ H o i v ov iv u' Q I ro ri rv) (h' pins s σ H o i v ov iv u' Q I ro ri rv)
theorem z_setI (sn : ∀ e, Snd P w K mg base G Y nm kk N e) (o i e : E) (k : T) (ik : SndS P w K mg base G Y nm kk N k) : SndS P w K mg base G Y nm kk N (.setI o i e k) := by
  intro sc sts X Wi h C hf tk hp
  simp only [chkS] at h
  split at h <;> try (cases h; done)
  rename_i p q _ v _ rest
  simp only [Bool.and_eq_true, Bool.not_eq_true'] at h
  obtain ⟨⟨⟨⟨⟨h1, h2⟩, h3⟩, h4⟩, h5⟩, h6⟩ := h
  rw [tS_eq (g := fun env S => ((ev G (run G kk) e env S).stm env fun v S => (ev G (run G kk) o env S).stm env fun x S => (ev G (run G kk) i env S).stm env fun y S => match setIx x y v S with
    | some S' => .nx env S'
    | none => .bad).andThen (exT G (run G kk) k)) (fun env S => by
      simp only [exT, stm_andThen]
      congr 1
      funext v S
      congr 1
      funext x S
      congr 1
      funext y S
      cases setIx x y v S <;> rfl)]
  refine pss_then ?_ (ik sc _ X Wi h6 C hf tk hp)
  have hu : X.A.units + 1 < cLine := by have := C.room.units; omega
  refine (ps_asg ((sn e).v _ _ X Wi h3 C (tk_of hf.2.2 tk)) (pg_sub ((sn o).v _ _ X Wi h4 C (tk_of hf.2.2 tk)) ((sn i).v _ _ X Wi h5 C (tk_of hf.2.2 tk)) (set_list.or (set_dict hu)) (by cases q <;> first | (intro _; rfl) | cases h2)) (hs := swapsS_ok h1) (hw := rfl) (h1 := rfl)).imp fun D σ H z => ?_
  obtain ⟨W, S, env, E, r, z⟩ := z
  refine ⟨W, S, env, E, r, (WqS.stm (rp := rpD K) E r z).mono fun v H1 z => ?_⟩
  obtain ⟨W1, S1, d, e1, E1, r1, p1, z⟩ := z
  refine ⟨W1, S1, env, E1, r1, (WqS.stm (rp := rpD K) E1 r1 z).mono fun x H2 z => ?_⟩
  obtain ⟨W2, S2, dx, e2, E2, r2, p2, z⟩ := z
  refine ⟨W2, S2, env, E2, r2, (WqS.stm (rp := rpD K) E2 r2 z).mono fun y H3 z => ?_⟩
  obtain ⟨W3, S3, dy, e3, E3, r3, p3, z⟩ := z
  cases hs : setIx dx dy d S3 with
  | none => rw [hs] at z; exact z.elim
  | some S' =>
    rw [hs] at z
    exact seti_ok r3 (p2.mono r2.trk e3) p3 ((p1.mono r1.trk e2).mono r2.trk e3) hs fun H' e' r' => z W3 H' _ e' r' (E3.mono r3.trk e')
theorem z_setT (sn : ∀ e, Snd P w K mg base G Y nm kk N e) (o a lo e : E) (k : T) (ik : SndS P w K mg base G Y nm kk N k) : SndS P w K mg base G Y nm kk N (.setT o a lo e k) := by
  intro sc sts X Wi h C hf tk hp
  simp only [chkS] at h
  split at h <;> try (cases h; done)
  rename_i p q l p1 p2 p3 v p4 rest
  simp only [Bool.and_eq_true, Bool.not_eq_true'] at h
  obtain ⟨⟨⟨⟨⟨⟨h1, h0⟩, h3⟩, h4⟩, h5⟩, h7⟩, h6⟩ := h
  rw [tS_eq (g := fun env S => ((ev G (run G kk) e env S).stm env fun v S => (ev G (run G kk) o env S).stm env fun x S => (ev G (run G kk) a env S).stm env fun t S => (ev G (run G kk) lo env S).stm env fun l S => match setTD x t l v S with
    | some S' => .nx env S'
    | none => .bad).andThen (exT G (run G kk) k)) (fun env S => by
      simp only [exT, stm_andThen]
      congr 1
      funext v S
      congr 1
      funext x S
      congr 1
      funext t S
      congr 1
      funext l S
      cases setTD x t l v S <;> rfl)]
  refine pss_then ?_ (ik sc _ X Wi h6 C hf tk hp)
  have hu : X.A.units + 1 < cLine := by have := C.room.units; omega
  have tk' := tk_of hf.2.2 tk
  have pk := pe_slice (p2 := p1) (pos := p2) sl_tupA ((sn a).v _ _ X Wi h5 C tk') (po_some ((sn lo).v _ _ X Wi h7 C tk')) po_none
  have eK := C.hK
  subst eK
  refine (ps_asg ((sn e).v _ _ X Wi h3 C tk') (pg_sub ((sn o).v _ _ X Wi h4 C tk') pk (set_dict hu) (by intro _; rfl)) (hs := swapsS_ok h1) (hw := rfl) (h1 := rfl)).imp fun D σ H z => ?_
  obtain ⟨W, S, env, E, r, z⟩ := z
  refine ⟨W, S, env, E, r, (WqS.stm (rp := rpD X.K) E r z).mono fun v H1 z => ?_⟩
  obtain ⟨W1, S1, d, e1, E1, r1, p1, z⟩ := z
  refine ⟨W1, S1, env, E1, r1, (WqS.stm (rp := rpD X.K) E1 r1 z).mono fun x H2 z => ?_⟩
  obtain ⟨W2, S2, dx, e2, E2, r2, p2, z⟩ := z
  refine ⟨W2, S2, env, E2, r2, (WqS.stm (rp := rpD X.K) E2 r2 z).mono fun y H3 z => ?_⟩
  obtain ⟨W3, S3, dt, e3, E3, r3, p3, z⟩ := z
  refine ⟨W3, S3, env, E3, r3, (WqS.stm (rp := rpD X.K) E3 r3 z).mono fun y4 H4 z => ?_⟩
  obtain ⟨W4, S4, dl, e4, E4, r4, p4, z⟩ := z
  cases hs : setTD dx dt dl d S4 with
  | none => rw [hs] at z; exact z.elim
  | some S' =>
    rw [hs] at z
    have hl : ∃ i, dl = .int i := by
      unfold setTD at hs
      split at hs <;> try (cases hs; done)
      split at hs <;> try (cases hs; done)
      exact ⟨_, rfl⟩
    obtain ⟨i, rfl⟩ := hl
    cases p4
    refine ⟨i, rfl, ?_⟩
    exact setT_ok (li := some i) r4 ((p2.mono r2.trk e3).mono r3.trk e4) (p3.mono r3.trk e4) ⟨rfl, rfl⟩ (((p1.mono r1.trk e2).mono r2.trk e3).mono r3.trk e4) hs fun H' e' r' => z W4 H' _ e' r' (E4.mono r4.trk e')
theorem fldS_ok {W : Wd} {S S' : Store} {H : Hp} {x v : D} {o u : V} {c f : Nat} (g : GOk K mg G Y nm fa fd ps) (r : Rel K nm W S H) (p : Rep K W H x o) (pv : Rep K W H v u) (hc : clsD x S = some c) (h : setFld x f v S = some S') :
    ∃ a dx fs, o = .ref a ∧ H a = some (.ins (nm.C c) dx fs) ∧ fs.length < 1000 ∧ Ext W H W (upd H a (.ins (nm.C c) dx (putF (nm.fn f) u fs))) ∧ Rel K nm W S' (upd H a (.ins (nm.C c) dx (putF (nm.fn f) u fs))) := by
  obtain ⟨n, a, dx, fs, vs, rfl, rfl, h5, h6, h7, h8⟩ := ins_at r p hc
  simp only [setFld, h6] at h
  split at h
  · rename_i hz
    cases h
    have e : Ext W H W (upd H a (.ins (nm.C c) dx (putF (nm.fn f) u vs))) := Ext.put (List.mem_of_getElem? h5) (unf_of h7 fun _ _ z => by cases z)
    exact ⟨a, dx, vs, rfl, h7, by rw [← fld_len h8]; exact hz, e, r.put h5 (unf_of h7 fun _ _ z => by cases z) ⟨dx, _, upd_same, (fld_put g.inj h8 pv).mono r.trk e⟩⟩
  · cases h
theorem z_fldS (g : GOk K mg G Y nm fa fd ps) (sn : ∀ e, Snd P w K mg base G Y nm kk N e) (c : Nat) (o : E) (f : Nat) (e : E) (k : T) (ik : SndS P w K mg base G Y nm kk N k) : SndS P w K mg base G Y nm kk N (.fldS c o f e k) := by
  intro sc sts X Wi h C hf tk hp
  simp only [chkS] at h
  split at h <;> try (cases h; done)
  rename_i p n _ v _ rest
  simp only [Bool.and_eq_true, Bool.not_eq_true', decide_eq_true_eq] at h
  obtain ⟨⟨⟨⟨⟨h1, h2⟩, h3⟩, h4⟩, h5⟩, h6⟩ := h
  obtain ⟨cx, hc⟩ := Option.isSome_iff_exists.mp h1
  obtain ⟨cls, _, na⟩ := g.cl c cx hc
  obtain ⟨na, rfl⟩ := na f _ h2
  rw [tS_eq (g := fun env S => ((ev G (run G kk) e env S).stm env fun v S => (ev G (run G kk) o env S).stm env fun x S => if clsD x S = some c then match setFld x f v S with
    | some S' => .nx env S'
    | none => .bad else .bad).andThen (exT G (run G kk) k)) (fun env S => by
      simp only [exT, stm_andThen]
      congr 1
      funext v S
      congr 1
      funext x S
      by_cases hcl : clsD x S = some c
      · simp only [if_pos hcl]
        cases setFld x f v S <;> rfl
      · simp only [if_neg hcl]
        rfl)]
  refine pss_then ?_ (ik sc _ X Wi h6 C hf tk hp)
  have eK := C.hK
  subst eK
  refine (ps_fld ((sn o).v _ _ X Wi h5 C (tk_of hf.2.2 tk)) ((sn e).v _ _ X Wi h4 C (tk_of hf.2.2 tk)) (swaps_ok h3)).imp fun D σ H z => ?_
  obtain ⟨W, S, env, E, r, z⟩ := z
  refine ⟨W, S, env, E, r, (WqS.stm (rp := rpD X.K) E r z).mono fun v H1 z => ?_⟩
  obtain ⟨W1, S1, d, e1, E1, r1, p1, z⟩ := z
  refine ⟨W1, S1, env, E1, r1, (WqS.stm (rp := rpD X.K) E1 r1 z).mono fun x H2 z => ?_⟩
  obtain ⟨W2, S2, dx, e2, E2, r2, p2, z⟩ := z
  split at z <;> try exact z.elim
  rename_i hcl
  cases hs : setFld dx f d S2 with
  | none => rw [hs] at z; exact z.elim
  | some S' =>
    rw [hs] at z
    obtain ⟨a, dx', fs, rfl, h7, h8, ex, r'⟩ := fldS_ok g r2 p2 (p1.mono r1.trk e2) hcl hs
    exact ⟨a, nm.C c, dx', fs, rfl, h7, cls, na, h8, z W2 _ _ ex r' (E2.mono r2.trk ex)⟩
theorem z_rais (g : GOk K mg G Y nm fa fd ps) (c : Nat) : SndS P w K mg base G Y nm kk N (.rais c) := by
  intro sc sts X Wi h C hf tk hp
  simp only [chkS] at h
  split at h <;> try (cases h; done)
  simp only [Bool.and_eq_true, Bool.not_eq_true', decide_eq_true_eq] at h
  obtain ⟨⟨h1, h2⟩, h3⟩ := h
  obtain ⟨gm, gk, gx, gs, gt⟩ := g.ex c _ h1
  have e1 := C.hK
  have e2 := C.hm
  subst e1 e2
  refine pss_one ((ps_raise C.calm tk (pmk_own0 PySem.F.excBase_ValueError gx gm gk (raises_own gs gt) (gl_ok C h2) (dbg_ok h3))).imp fun D σ H z => ?_)
  obtain ⟨W, S, env, E, r, z⟩ := z
  exact z W H σ Ext.refl r E
/-- a suite of an except clause -/
theorem suite_ok (g : GOk K mg G Y nm fa fd ps) {call : Calls} (t : T) : ∀ (sts : List Stmt) (X : Cx), chkH Y N sc t sts = true → COkH P w K mg N sc X → PSs X sts (tS K nm noX (exT G call t)) := by
  have sh := fun e => sndH (P := P) (w := w) (K := K) (mg := mg) (G := G) (Y := Y) (nm := nm) (N := N) (call := call) e
  induction t with
  | nil =>
    intro sts X h C
    cases sts with
    | nil => exact pss_nil.imp fun D σ H ⟨W, S, env, E, r, z⟩ => z W H σ Ext.refl r E
    | cons _ _ => cases h
  | asg i e k ik =>
    intro sts X h C
    simp only [chkH] at h
    split at h <;> try (cases h; done)
    simp only [Bool.and_eq_true, Bool.not_eq_true'] at h
    obtain ⟨⟨⟨⟨h1, h2⟩, h0⟩, h3⟩, h4⟩ := h
    rw [tS_eq (g := fun env S => ((ev G call e env S).stm env fun d S => .nx (env.set i (some d)) S).andThen (exT G call k)) (fun env S => by rw [stm_andThen]; rfl)]
    refine pss_then ?_ (ik _ X h4 C)
    obtain ⟨pg, _⟩ := pg_one C.hN C.nd C.sc (fl := true) (fun _ => C.fn) h1
    refine (ps_asg ((sh e).v _ _ X h0 h3 C) pg (hs := swapsS_ok h2) (hw := rfl) (h1 := rfl)).imp fun D σ H q => ?_
    obtain ⟨W, S, env, E, r, z⟩ := q
    refine ⟨W, S, env, E, r, (WqS.stm (rp := rpD K) E r z).mono fun v H1 z => ?_⟩
    obtain ⟨W1, S1, d, e1, E1, r1, p1, z⟩ := z
    exact z W1 H1 _ Ext.refl r1 (E1.set i p1)
  | ret e =>
    intro sts X h C
    simp only [chkH] at h
    split at h <;> try (cases h; done)
    simp only [Bool.and_eq_true] at h
    refine pss_one ((ps_ret ((sh e).v _ _ X h.1 h.2 C)).imp fun D σ H q => ?_)
    obtain ⟨W, S, env, E, r, z⟩ := q
    refine ⟨W, S, env, E, r, (WqS.stm (rp := rpD K) E r z).mono fun v H1 z => ?_⟩
    obtain ⟨W1, S1, d, e1, E1, r1, p1, z⟩ := z
    exact z v W1 H1 Ext.refl r1 p1
  | fldS c o f e k ik =>
    intro sts X h C
    simp only [chkH] at h
    split at h <;> try (cases h; done)
    rename_i p n _ v _ rest
    simp only [Bool.and_eq_true, Bool.not_eq_true', decide_eq_true_eq] at h
    obtain ⟨⟨⟨⟨⟨⟨⟨h1, h2⟩, h3⟩, q1⟩, q2⟩, h4⟩, h5⟩, h6⟩ := h
    obtain ⟨cx, hc⟩ := Option.isSome_iff_exists.mp h1
    obtain ⟨cls, _, na⟩ := g.cl c cx hc
    obtain ⟨na, rfl⟩ := na f _ h2
    rw [tS_eq (g := fun env S => ((ev G call e env S).stm env fun v S => (ev G call o env S).stm env fun x S => if clsD x S = some c then match setFld x f v S with
      | some S' => .nx env S'
      | none => .bad else .bad).andThen (exT G call k)) (fun env S => by
        simp only [exT, stm_andThen]
        congr 1
        funext v S
        congr 1
        funext x S
        by_cases hcl : clsD x S = some c
        · simp only [if_pos hcl]
          cases setFld x f v S <;> rfl
        · simp only [if_neg hcl]
          rfl)]
    refine pss_then ?_ (ik _ X h6 C)
    have eK := C.hK
    subst eK
    refine (ps_fld ((sh o).v _ _ X q1 h5 C) ((sh e).v _ _ X q2 h4 C) (swaps_ok h3)).imp fun D σ H z => ?_
    obtain ⟨W, S, env, E, r, z⟩ := z
    refine ⟨W, S, env, E, r, (WqS.stm (rp := rpD X.K) E r z).mono fun v H1 z => ?_⟩
    obtain ⟨W1, S1, d, e1, E1, r1, p1, z⟩ := z
    refine ⟨W1, S1, env, E1, r1, (WqS.stm (rp := rpD X.K) E1 r1 z).mono fun x H2 z => ?_⟩
    obtain ⟨W2, S2, dx, e2, E2, r2, p2, z⟩ := z
    split at z <;> try exact z.elim
    rename_i hcl
    cases hs : setFld dx f d S2 with
    | none => rw [hs] at z; exact z.elim
    | some S' =>
      rw [hs] at z
      obtain ⟨a, dx', fs, rfl, h7, h8, ex, r'⟩ := fldS_ok g r2 p2 (p1.mono r1.trk e2) hcl hs
      exact ⟨a, nm.C c, dx', fs, rfl, h7, cls, na, h8, z W2 _ _ ex r' (E2.mono r2.trk ex)⟩
  | _ => exact fun sts X h C => by simp [chkH] at h
theorem exm_two {K : PySem.W.Frag} {cls a a' : Value} {c : Nat} {cs cs1 cs2 : List Nat} (h : PySem.W.exmOne K cls a = some (decide (c ∈ cs1))) (h' : PySem.W.exmOne K cls a' = some (decide (c ∈ cs2))) (e : cs = cs1 ++ cs2) : PySem.W.exmAny K cls [a, a'] = some (decide (c ∈ cs)) := by
  subst e
  simp only [PySem.W.exmAny, h, h', List.mem_append]
  by_cases q : c ∈ cs1 <;> by_cases q' : c ∈ cs2 <;> simp [q, q']
theorem z_tr (g : GOk K mg G Y nm fa fd ps) (b : T) (cs : List Nat) (hd k : T) (ib : SndS P w K mg base G Y nm kk N b) (ik : SndS P w K mg base G Y nm kk N k) : SndS P w K mg base G Y nm kk N (.tr b cs hd k) := by
  intro sc sts X Wi h C hf tk hp
  rw [tS_eq (g := fun env S => (match exT G (run G kk) b env S with
    | .ex c env' S' => if c ∈ G.exs then (if c ∈ cs then (exT G (run G kk) hd env' S').calm else .ex c env' S') else .bad
    | r => r : RS).andThen (exT G (run G kk) k)) (fun env S => by
      simp only [exT]
      cases exT G (run G kk) b env S with
      | ex c env' S' =>
        dsimp only
        by_cases z : c ∈ G.exs
        · simp only [if_pos z]
          by_cases z' : c ∈ cs
          · simp only [if_pos z']
          · simp only [if_neg z']; rfl
        · simp only [if_neg z]; rfl
      | _ => rfl)]
  have e1 := C.hK
  have e2 := C.hm
  subst e1 e2
  simp only [chkS] at h
  split at h <;> try (cases h; done)
  · rename_i body x np b0 suite p1 p2 rest
    simp only [Bool.and_eq_true, Bool.not_eq_true', decide_eq_true_eq] at h
    obtain ⟨⟨⟨⟨⟨h1, h2⟩, h3⟩, h4⟩, h5⟩, h6⟩ := h
    obtain ⟨a, hm, hx⟩ := g.hd x cs h1
    refine pss_then ?_ (ik sc _ X Wi h6 C hf tk hp)
    refine (ps_try_only (tb := fun W => tS X.K nm W (exT G (run G kk) b)) (ts := fun _ _ _ => tS X.K nm noX (exT G (run G kk) hd)) (c := .ref a) hf.2.1 hf.2.2 ⟨gl_ok C h2, h3, .inl hm⟩ tk (fun W pn xe tk' hp' => ?_) (fun a oe cls d pn _ _ => ?_)).imp fun D σ H z => ?_
    · exact ib sc _ (X.tr pn xe) W h4 ⟨C.hP, C.hw, C.hK, C.hm, C.hb, C.hN, C.nd, C.sc, C.room, C.calm, C.fr⟩ hf tk' hp'
    · exact suite_ok (P := P) (w := w) g hd _ (X.suite a ((a, oe) :: pn)) h5 ⟨rfl, rfl, C.hN, C.nd, C.sc, hf.1⟩
    · obtain ⟨W, S, env, E, r, z⟩ := z
      refine ⟨W, S, env, E, r, ?_⟩
      dsimp only at z
      revert z
      cases exT G (run G kk) b env S with
      | nx env' S' => exact fun z => z
      | rt d S' => exact fun z => z
      | bad => exact fun z => z
      | ex c env' S' =>
        dsimp only
        by_cases z1 : c ∈ G.exs
        · rw [if_pos z1]
          intro z W' H' σ' e' r' E'
          refine ⟨decide (c ∈ cs), hx c z1, fun q a _ => ?_, fun q => ?_⟩
          · rw [if_pos (of_decide_eq_true q)] at z
            refine ⟨W', S', env', E', r', ?_⟩
            have z := WqS.ext e' r'.trk z
            revert z
            cases exT G (run G kk) hd env' S' with
            | ex _ _ _ => exact fun z => z.elim
            | nx _ _ => exact fun z => z
            | rt _ _ => exact fun z => z
            | bad => exact fun z => z
          · rw [if_neg (of_decide_eq_false q)] at z
            exact z W' H' σ' e' r' E'
        · rw [if_neg z1]
          exact fun z => z.elim
  · rename_i body x np x' np' tn tp b0 suite p1 p2 rest
    simp only [Bool.and_eq_true, Bool.not_eq_true'] at h
    obtain ⟨⟨⟨⟨⟨h1, h2, h3⟩, h2', h3'⟩, h4⟩, h5⟩, h6⟩ := h
    split at h1 <;> try (cases h1; done)
    rename_i cs1 cs2 k1 k2
    have h1 : cs = cs1 ++ cs2 := of_decide_eq_true h1
    obtain ⟨a, hm, hx⟩ := g.hd x cs1 k1
    obtain ⟨a', hm', hx'⟩ := g.hd x' cs2 k2
    refine pss_then ?_ (ik sc _ X Wi h6 C hf tk hp)
    refine (ps_try_two (tb := fun W => tS X.K nm W (exT G (run G kk) b)) (ts := tS X.K nm noX (exT G (run G kk) hd)) (c1 := .ref a) (c2 := .ref a') hf.2.1 hf.2.2 ⟨gl_ok C h2, h3, .inl hm⟩ ⟨gl_ok C h2', h3', .inl hm'⟩ tk (fun W pn xe tk' hp' => ?_) (fun a oe pn => ?_)).imp fun D σ H z => ?_
    · exact ib sc _ (X.tr pn xe) W h4 ⟨C.hP, C.hw, C.hK, C.hm, C.hb, C.hN, C.nd, C.sc, C.room, C.calm, C.fr⟩ hf tk' hp'
    · exact suite_ok (P := P) (w := w) g hd _ (X.suite a ((a, oe) :: pn)) h5 ⟨rfl, rfl, C.hN, C.nd, C.sc, hf.1⟩
    · obtain ⟨W, S, env, E, r, z⟩ := z
      refine ⟨W, S, env, E, r, ?_⟩
      dsimp only at z
      revert z
      cases exT G (run G kk) b env S with
      | nx env' S' => exact fun z => z
      | rt d S' => exact fun z => z
      | bad => exact fun z => z
      | ex c env' S' =>
        dsimp only
        by_cases z1 : c ∈ G.exs
        · rw [if_pos z1]
          intro z W' H' σ' e' r' E'
          refine ⟨decide (c ∈ cs), exm_two (hx c z1) (hx' c z1) h1, fun q => ?_, fun q => ?_⟩
          · rw [if_pos (of_decide_eq_true q)] at z
            refine ⟨W', S', env', E', r', ?_⟩
            have z := WqS.ext e' r'.trk z
            revert z
            cases exT G (run G kk) hd env' S' with
            | ex _ _ _ => exact fun z => z.elim
            | nx _ _ => exact fun z => z
            | rt _ _ => exact fun z => z
            | bad => exact fun z => z
          · rw [if_neg (of_decide_eq_false q)] at z
            exact z W' H' σ' e' r' E'
        · rw [if_neg z1]
          exact fun z => z.elim
theorem z_tr2 (g : GOk K mg G Y nm fa fd ps) (b : T) (c1 : Nat) (h1 : T) (c2 : Nat) (h2 k : T) (ib : SndS P w K mg base G Y nm kk N b) (ik : SndS P w K mg base G Y nm kk N k) : SndS P w K mg base G Y nm kk N (.tr2 b c1 h1 c2 h2 k) := by
  intro sc sts X Wi h C hf tk hp
  simp only [chkS] at h
  split at h <;> try (cases h; done)
  rename_i body x np b0 suite p1 x' np' b0' suite' p1' p2 rest
  simp only [Bool.and_eq_true, Bool.not_eq_true', decide_eq_true_eq] at h
  obtain ⟨⟨⟨⟨⟨⟨⟨⟨⟨q1, q2⟩, q3⟩, r1⟩, r2⟩, r3⟩, h4⟩, h5⟩, h5'⟩, h6⟩ := h
  obtain ⟨a, hm, hx⟩ := g.hd x [c1] q1
  obtain ⟨a', hm', hx'⟩ := g.hd x' [c2] r1
  rw [tS_eq (g := fun env S => (match exT G (run G kk) b env S with
    | .ex c env' S' => if c ∈ G.exs then (if c = c1 then (exT G (run G kk) h1 env' S').calm else if c = c2 then (exT G (run G kk) h2 env' S').calm else .ex c env' S') else .bad
    | r => r : RS).andThen (exT G (run G kk) k)) (fun env S => by
      simp only [exT]
      cases exT G (run G kk) b env S with
      | ex c env' S' =>
        dsimp only
        by_cases z : c ∈ G.exs
        · simp only [if_pos z]
          by_cases z' : c = c1
          · simp only [if_pos z']
          · simp only [if_neg z']
            by_cases z'' : c = c2
            · simp only [if_pos z'']
            · simp only [if_neg z'']; rfl
        · simp only [if_neg z]; rfl
      | _ => rfl)]
  refine pss_then ?_ (ik sc _ X Wi h6 C hf tk hp)
  have e1 := C.hK
  have e2 := C.hm
  subst e1 e2
  have calmed : ∀ {t : T} {env' : Env} {S' : Store} {W : Wd} {H : Hp} {D : Ends}, WqS X.K nm W H (exT G (run G kk) t env' S').calm D Wi → WqS X.K nm W H (exT G (run G kk) t env' S') D noX := fun {t env' S' W H D} z => by
    revert z
    cases exT G (run G kk) t env' S' with
    | ex _ _ _ => exact fun z => z.elim
    | nx _ _ => exact fun z => z
    | rt _ _ => exact fun z => z
    | bad => exact fun z => z
  refine (ps_try_many (tb := fun W => tS X.K nm W (exT G (run G kk) b)) (l := [(.ref a, fun _ _ _ => tS X.K nm noX (exT G (run G kk) h1)), (.ref a', fun _ _ _ => tS X.K nm noX (exT G (run G kk) h2))]) hf.2.1 hf.2.2 tk (fun W pn xe tk' hp' => ?_)
    (.cons ⟨gl_ok C q2, q3, .inl hm⟩ (fun a oe cls d pn _ _ => ?_) (.cons ⟨gl_ok C r2, r3, .inl hm'⟩ (fun a oe cls d pn _ _ => ?_) .nil))).imp fun D σ H z => ?_
  · exact ib sc _ (X.tr pn xe) W h4 ⟨C.hP, C.hw, C.hK, C.hm, C.hb, C.hN, C.nd, C.sc, C.room, C.calm, C.fr⟩ hf tk' hp'
  · exact suite_ok (P := P) (w := w) g h1 _ (X.suite a ((a, oe) :: pn)) h5 ⟨rfl, rfl, C.hN, C.nd, C.sc, hf.1⟩
  · exact suite_ok (P := P) (w := w) g h2 _ (X.suite a ((a, oe) :: pn)) h5' ⟨rfl, rfl, C.hN, C.nd, C.sc, hf.1⟩
  · obtain ⟨W, S, env, E, r, z⟩ := z
    refine ⟨W, S, env, E, r, ?_⟩
    dsimp only at z
    revert z
    cases exT G (run G kk) b env S with
    | nx env' S' => exact fun z => z
    | rt d S' => exact fun z => z
    | bad => exact fun z => z
    | ex c env' S' =>
      dsimp only
      by_cases z1 : c ∈ G.exs
      · rw [if_pos z1]
        intro z W' H' σ' e' r' E'
        refine ⟨decide (c ∈ [c1]), hx c z1, fun q a _ => ?_, fun q => ⟨decide (c ∈ [c2]), hx' c z1, fun q' a _ => ?_, fun q' => ?_⟩⟩
        · have q := List.mem_singleton.mp (of_decide_eq_true q)
          rw [if_pos q] at z
          exact ⟨W', S', env', E', r', calmed (WqS.ext e' r'.trk z)⟩
        · have q : ¬ c = c1 := fun y => (of_decide_eq_false q) (List.mem_singleton.mpr y)
          have q' := List.mem_singleton.mp (of_decide_eq_true q')
          rw [if_neg q, if_pos q'] at z
          exact ⟨W', S', env', E', r', calmed (WqS.ext e' r'.trk z)⟩
        · have q : ¬ c = c1 := fun y => (of_decide_eq_false q) (List.mem_singleton.mpr y)
          have q' : ¬ c = c2 := fun y => (of_decide_eq_false q') (List.mem_singleton.mpr y)
          rw [if_neg q, if_neg q'] at z
          exact z W' H' σ' e' r' E'
      · rw [if_neg z1]
        exact fun z => z.elim
end
end PL

set_option Elab.async false
set_option linter.all false
set_option maxRecDepth 100000
set_option maxHeartbeats 2000000
/-! PLN: defs keep the evaluator's promise. -/
namespace PL
open PySem PySem.Spec PyProof.Rows L2
section
variable {P : Program} {w : World} {K : PySem.W.Frag} {mg : Str → Option Value} {base : Heap} {G : Tab} {Y : Sx} {nm : Nm} {fa : Nat → Addr} {fd : Nat → FuncData} {ps : Nat → List Str} {kk : Nat} {N : List Str}
variable {sc : Scope} {X : Cx} {Wi : WX}
theorem sndS (g : GOk K mg G Y nm fa fd ps) (hF : ∀ f : Nat, (G.fns f).isSome = true → FnOk P w K mg base (L2.CX P w) (2 * kk) (fa f) (fd f) (ps f) (spF K nm G kk f)) (t : T) : SndS P w K mg base G Y nm kk N t := by
  have sn := fun e => snd (P := P) (w := w) (base := base) (N := N) g hF e
  induction t with
  | nil => exact z_nil
  | asg i e k ik => exact z_asg g sn i e k ik
  | asgT is e k ik => exact z_asgT sn is e k ik
  | exp e k ik => exact z_exp sn e k ik
  | ret e => exact z_ret sn e
  | ifs c a b k ia ib ik => exact z_ifs sn c a b k ia ib ik
  | whl c b k ib ik => exact z_whl sn c b k ib ik
  | for_ ik src tg b k ib iK => exact z_for g sn ik src tg b k ib iK
  | setI o i e k ik => exact z_setI sn o i e k ik
  | setT o a lo e k ik => exact z_setT sn o a lo e k ik
  | fldS c o f e k ik => exact z_fldS g sn c o f e k ik
  | rais c => exact z_rais g c
  | tr b cs h k ib ih ik => exact z_tr g b cs h k ib ik
  | tr2 b c h c' h' k ib ih ih' ik => exact z_tr2 g b c h c' h' k ib ik

/-! ### pure defs -/
def W00 : Wd := ⟨[], []⟩
mutual
theorem rep_pure {W : Wd} {H : Hp} : ∀ {d : D} {v : V}, noRef d = true → Rep K W H d v → Rep K W00 H d v
  | _, _, _, .non => .non
  | _, _, _, .bl b => .bl b
  | _, _, _, .int i => .int i
  | _, _, _, .str x => .str x
  | _, _, n, .tup h r => .tup h (reps_pure (by simpa [noRef] using n) r)
  | _, _, n, .lst h a b r => .lst h (by simp [W00]) (by simp [W00]) (reps_pure (by simpa [noRef] using n) r)
  | _, _, n, .dct h a b r => .dct h (by simp [W00]) (by simp [W00]) (repK_pure (by simpa [noRef] using n) r)
  | _, _, n, .ref h => by simp [noRef] at n
  | _, _, n, .scr h => .scr h
theorem reps_pure {W : Wd} {H : Hp} : ∀ {d : List D} {v : List V}, noRefs d = true → Reps K W H d v → Reps K W00 H d v
  | _, _, _, .nil => .nil
  | _, _, n, .cons r rs => by
    simp only [noRefs, Bool.and_eq_true] at n
    exact .cons (rep_pure n.1 r) (reps_pure n.2 rs)
theorem repK_pure {W : Wd} {H : Hp} : ∀ {d : List (Ky × D)} {v : List (Key × V)}, noRefK d = true → RepK K W H d v → RepK K W00 H d v
  | _, _, _, .nil => .nil
  | _, _, n, .cons r rs => by
    simp only [noRefK, Bool.and_eq_true] at n
    exact .cons (rep_pure n.1 r) (repK_pure n.2 rs)
end
mutual
theorem rep_scl {W W' : Wd} {H : Hp} : ∀ {d : D} {v : V}, scl d = true → Rep K W H d v → Rep K W' H d v
  | _, _, _, .non => .non
  | _, _, _, .bl b => .bl b
  | _, _, _, .int i => .int i
  | _, _, _, .str x => .str x
  | _, _, n, .tup h r => .tup h (reps_scl (by simpa [scl] using n) r)
  | _, _, n, .lst h a b r => by simp [scl] at n
  | _, _, n, .dct h a b r => by simp [scl] at n
  | _, _, n, .ref h => by simp [scl] at n
  | _, _, n, .scr h => by simp [scl] at n
theorem reps_scl {W W' : Wd} {H : Hp} : ∀ {d : List D} {v : List V}, scls d = true → Reps K W H d v → Reps K W' H d v
  | _, _, _, .nil => .nil
  | _, _, n, .cons r rs => by
    simp only [scls, Bool.and_eq_true] at n
    exact .cons (rep_scl n.1 r) (reps_scl n.2 rs)
end
theorem repK_scl {W W' : Wd} {H : Hp} {d : List (Ky × D)} {v : List (Key × V)} (n : sclK d = true) (r : RepK K W H d v) : RepK K W' H d v := by
  induction d generalizing v with
  | nil => cases r; exact .nil
  | cons x xs ih =>
    cases r with
    | cons a b =>
      simp only [sclK, Bool.and_eq_true] at n
      exact .cons (rep_scl n.1 a) (ih n.2 b)
theorem frz_args {W : Wd} {S : Store} {H : Hp} (r : Rel K nm W S H) : ∀ {as : List D} {vs : List V} {as' : List D}, Reps K W H as vs → frzAs S as = some as' → Reps K W00 H as' vs
  | [], _, _, .nil, h => by cases h; exact .nil
  | d :: ds, _, as', .cons a b, h => by
    simp only [frzAs] at h
    split at h
    · rename_i x xs e1 e2
      cases h
      refine .cons ?_ (frz_args r b e2)
      cases a with
      | @ref n ad h1 =>
        simp only [frzA] at e1
        split at e1
        · rename_i ys q
          split at e1
          · rename_i hn
            cases e1
            obtain ⟨vs, h2, h3⟩ := r.ob n ad _ h1 q
            exact .lst (.inl h2) (by simp [W00]) (by simp [W00]) (reps_pure hn h3)
          · cases e1
        · rename_i ys q
          split at e1
          · rename_i hn
            cases e1
            obtain ⟨vs, h2, h3⟩ := r.ob n ad _ h1 q
            exact .dct (.inl h2) (by simp [W00]) (by simp [W00]) (repK_pure hn h3)
          · cases e1
        · cases e1
      | non => cases e1; exact .non
      | bl b => cases e1; exact .bl b
      | int i => cases e1; exact .int i
      | str x => cases e1; exact .str x
      | tup h1 h2 =>
        simp only [frzA] at e1
        split at e1
        · rename_i hn; cases e1; exact rep_pure hn (.tup h1 h2)
        · cases e1
      | lst h1 h2 h3 h4 =>
        simp only [frzA] at e1
        split at e1
        · rename_i hn; cases e1; exact rep_pure hn (.lst h1 h2 h3 h4)
        · cases e1
      | dct h1 h2 h3 h4 =>
        simp only [frzA] at e1
        split at e1
        · rename_i hn; cases e1; exact rep_pure hn (.dct h1 h2 h3 h4)
        · cases e1
      | scr h1 => cases e1; exact .scr h1
    · cases h
theorem rel00 {H : Hp} : Rel K nm W00 [] H := ⟨rfl, List.nodup_nil, fun n a o h => by simp [W00] at h, fun b hb => by simp [W00] at hb⟩
theorem erep_start {W : Wd} {H : Hp} {as : List D} {vs : List V} (p : Reps K W H as vs) (N : List Str) : ERep K W H (startE N.length as) (start N vs) := by
  refine ⟨by simp [startE, L2.start, p.length], fun i d h => ?_⟩
  by_cases hi : i < as.length
  · have hi' : i < (as.map some).length := by simpa using hi
    rw [startE, List.getElem?_append_left hi'] at h
    simp only [List.getElem?_map, Option.map_eq_some_iff, Option.some.injEq] at h
    obtain ⟨d', h1, h2⟩ := h
    subst h2
    obtain ⟨v, h3, h4⟩ := p.get h1
    refine ⟨v, ?_, h4⟩
    have hv : i < (vs.map some).length := by rw [List.length_map, p.lens]; exact hi
    show (vs.map some ++ _)[i]? = _
    rw [List.getElem?_append_left hv]
    simp [h3]
  · rw [startE, List.getElem?_append_right (by simpa using hi)] at h
    rw [List.getElem?_replicate] at h
    split at h <;> cases h
/-- where a def stands, and that its body is what the table says -/
structure FOk (K : PySem.W.Frag) (G : Tab) (Y : Sx) (f : Nat) (ad : Addr) (fdt : FuncData) (psf : List Str) : Prop where
  ex : ∃ (x qual : Str) (st : Stmt) (N : List Str) (F : Fn), G.fns f = some F ∧ Fun K x qual st ad fdt ∧ FnScope N psf (defScope st) ∧ F.np = psf.length ∧ F.nl = N.length ∧ chkS Y N (defScope st) F.body (defBody st) = true
theorem fn_all (g : GOk K mg G Y nm fa fd ps) (hO : ∀ f : Nat, (G.fns f).isSome = true → FOk K G Y f (fa f) (fd f) (ps f)) : ∀ (kk f : Nat), (G.fns f).isSome = true → FnOk P w K mg base (L2.CX P w) (2 * kk) (fa f) (fd f) (ps f) (spF K nm G kk f) := by
  intro kk
  induction kk with
  | zero => exact fun f hf => ⟨fun vs H Q E ⟨W, S, as, _, _, z⟩ => z.elim, fun A outer s H args us vs Q E _ _ _ _ ⟨W, S, as, _, _, z⟩ => z.elim⟩
  | succ kk ih =>
    intro f hf
    obtain ⟨x, qual, st, N, F, hFn, fu, S, hnp, hnl, hch⟩ := (hO f hf).ex
    refine fu.okX (k := 2 * kk + 1) (N := N) S (fun vs H Q E q => ?_) fun cdv A outer s H vs Q E hr q => ?_
    · obtain ⟨W, St, as, r, p, z⟩ := q
      simp only [run, hFn] at z
      split at z
      · exact z.elim
      · rename_i hl
        rw [p.lens, ← hnp]
        exact Decidable.not_not.mp hl
    · have hS := sndS (P := P) (w := w) (base := base) (N := N) (kk := kk) g ih F.body (defScope st) (defBody st) (cxOf (L2.CX P w) P w K mg base N qual (defScope st) (fa f) cdv A outer s H E) (fun cls d _ H => E cls d H) hch
        ⟨rfl, rfl, rfl, rfl, rfl, rfl, S.nd, rfl, hr, rfl, ⟨_, _, _, rfl, rfl, rfl⟩⟩ ⟨fun _ => rfl, rfl, rfl⟩ (takes_of rfl rfl rfl rfl) (passes_of rfl)
      refine ⟨_, hS, ?_⟩
      obtain ⟨W, St, as, r, p, z⟩ := q
      simp only [run, hFn] at z
      split at z
      · exact z.elim
      · by_cases hp : F.pure = true
        · rw [if_pos hp] at z
          cases hfr : frzAs St as with
          | none => rw [hfr] at z; exact z.elim
          | some as' =>
            rw [hfr] at z
            dsimp only at z
            have p0 := frz_args r p hfr
            refine ⟨W00, [], startE F.nl as', by rw [hnl]; exact erep_start p0 N, rel00, ?_⟩
            have all : ∀ {W' : Wd} {H' : Hp}, Ext W00 H W' H' → (∀ a o, H a = some o → H' a = some o) ∧ Ext W H W H' := fun e => ⟨fun a o h => e.keep a o h (by simp [W00]), ⟨rfl, ⟨[], by simp⟩, fun a o h _ => e.keep a o h (by simp [W00]), e.fz⟩⟩
            revert z
            cases exT G (run G kk) F.body (startE F.nl as') [] with
            | bad => exact fun z => z.elim
            | nx env' S' =>
              intro z W' H' σ' e r' _
              obtain ⟨k1, k2⟩ := all e
              exact z .non W H' k2 (r.grow k2 k1) .non
            | ex c env' S' =>
              intro z W' H' σ' e r' _
              obtain ⟨k1, k2⟩ := all e
              exact z W H' k2 (r.grow k2 k1)
            | rt d S' =>
              intro z v W' H' e r' pv
              obtain ⟨k1, k2⟩ := all e
              have rW := r.grow k2 k1
              obtain ⟨d', hd, fi⟩ := z.of
              refine fi v W H' k2 rW ?_
              cases pv with
              | @ref n ad h1 =>
                have fresh : H ad = none := by
                  obtain ⟨t, e1, e2⟩ := e.m
                  have : ad ∈ W'.m := List.mem_of_getElem? h1
                  rw [e1] at this
                  exact e2 ad (by simpa [W00] using this)
                simp only [frzR] at hd
                split at hd
                · rename_i ys q
                  split at hd
                  · rename_i hn
                    cases hd
                    obtain ⟨vs', h2, h3⟩ := r'.ob n ad _ h1 q
                    exact .lst (.inl h2) (r.fresh fresh).1 (r.fresh fresh).2 (reps_scl hn h3)
                  · cases hd
                · rename_i ys q
                  split at hd
                  · rename_i hn
                    cases hd
                    obtain ⟨vs', h2, h3⟩ := r'.ob n ad _ h1 q
                    exact .dct (.inl h2) (r.fresh fresh).1 (r.fresh fresh).2 (repK_scl hn h3)
                  · cases hd
                · cases hd
              | non => cases hd; exact .non
              | bl b => cases hd; exact .bl b
              | int i => cases hd; exact .int i
              | str x => cases hd; exact .str x
              | tup h1 h2 =>
                simp only [frzR] at hd
                split at hd
                · rename_i hn; cases hd; exact rep_scl hn (.tup h1 h2)
                · cases hd
              | lst h1 h2 h3 h4 => simp [frzR, scl] at hd
              | dct h1 h2 h3 h4 => simp [frzR, scl] at hd
              | scr h1 => simp [frzR, scl] at hd
        · rw [if_neg hp] at z
          refine ⟨W, St, startE F.nl as, by rw [hnl]; exact erep_start p N, r, ?_⟩
          revert z
          cases exT G (run G kk) F.body (startE F.nl as) St with
          | bad => exact fun z => z.elim
          | nx env' S' => exact fun z W' H' σ' e r' _ => z .non W' H' e r' .non
          | ex c env' S' => exact fun z W' H' σ' e r' _ => z W' H' e r'
          | rt d S' => exact fun z v W' H' e r' pv => z v W' H' e r' pv
end
end PL

set_option Elab.async false
set_option linter.all false
set_option maxRecDepth 100000
set_option maxHeartbeats 2000000
/-! PLO: the law's end. -/
namespace PL
open PySem PySem.Spec PyProof.Rows L2
/-- the law's promise -/
def spL (K : PySem.W.Frag) : Sp := fun vs H Q _ => ∃ (a : Addr) (ns : List Int), vs = [.ref a] ∧ SqL K H a (ns.map V.int) ∧ ns.length ≤ 63 ∧ Only H ∧ ∀ H', Q (.bl true) H'
theorem scr_at {K : PySem.W.Frag} {H : Hp} {a : Addr} {ns : List Int} (h : SqL K H a (ns.map V.int)) (o : Only H) : ScrAt K H a ns := by
  rcases h with (h | ⟨u, h⟩) | h
  · rcases o a with z | ⟨_, _, z⟩ <;> (rw [h] at z; cases z)
  · exact .inl ⟨u, h⟩
  · exact .inr h
theorem law_fn {P : Program} {w : World} {K : PySem.W.Frag} {mg : Str → Option Value} {base : Heap} {G : Tab} {nm : Nm} {kk f : Nat} {fa : Addr} {fd : FuncData} {ps : List Str} {k : Nat}
    (F : FnOk P w K mg base (L2.CX P w) k fa fd ps (spF K nm G kk f)) (h : ∀ ns : List Int, ns.length ≤ 63 → run G kk f [.scr ns] [] = .ok (.bl true) []) : FnOk P w K mg base (L2.CX P w) k fa fd ps (spL K) := by
  refine F.imp fun vs H Q E q => ?_
  obtain ⟨a, ns, e, hs, hl, ho, q⟩ := q
  subst e
  refine ⟨W00, [], [.scr ns], rel00, .cons (.scr (scr_at hs ho)) .nil, ?_⟩
  rw [h ns hl]
  intro v W' H' e r p
  cases p
  exact q H'
theorem law_walk {l : PySem.W.OpenLaw} {q : Program} {loose : List Str} {XP : (Str → Option Value) → Heap → Prop} {YP : World → Heap → Prop} {d : DefRec} {K : Params → PySem.W.Frag} {x : Str} {k : Nat} (hn : l.most = some 63) (hdf : d.params.defaults = []) (hr : Room k callerA)
    (hY : ∀ (w : World) (h : Heap), YP w h → (K w.params).In h)
    (F : ∀ (w : World) (mg : Str → Option Value) (fa : Addr) (h : Heap), (K w.params).In h → h.Ns mainGlobals mg → mg d.name = some (.ref fa) →
      ∃ fd : FuncData, (∀ (s : Shared) (u : Value), BindsTo s fd ⟨[u], []⟩ [(x, u)]) ∧ ∀ base : Heap, (K w.params).In base → base.Ns mainGlobals mg → FnOk l.prog w (K w.params) mg base (L2.CX l.prog w) k fa fd [x] (spL (K w.params))) :
    PySem.W.WalkO q loose XP YP l.row.toRowW d [] (fun f vs => PySem.call f vs) :=
  L2.walk_of (n := 63) (k := k) (x := x) (CX := fun w => L2.CX l.prog w) (sp := fun w => spL (K w.params)) hn (by decide) hdf hr hY F (fun _ _ a ns hl ho hS => ⟨a, ns, rfl, hS, hl, ho, fun _ => rfl⟩) fun _ _ _ _ _ z => by
    obtain ⟨_, _, _, _, _, _, _, _, _, _, _, _, z⟩ := z
    exact z
theorem rep_int (K : PySem.W.Frag) (i : Int) : ∀ W H, Rep K W H (.int i) (.int i) := fun _ _ => .int i
theorem rep_str (K : PySem.W.Frag) (i : Str) : ∀ W H, Rep K W H (.str i) (.str i) := fun _ _ => .str i
theorem rep_tupK {K : PySem.W.Frag} {xs : List Int} {T : Addr} {n : Nat} {its : Array Value} {ts : Array (Option Value)} (h : K.lookup T = some ⟨.type "tuple", none, .seq its n, ts⟩) (v : Vals (xs.map V.int) its.toList) (hz : its.size ≤ sizeLine) : ∀ W H, Rep K W H (.tup (xs.map D.int)) (.ref T) := fun W H =>
  .tup (.inr ⟨_, its, n, h, rfl, rfl, hz, v⟩) (reps_int xs)
theorem exm_by {K : PySem.W.Frag} {x c : Addr} {b b' : Bool} (hb : PySem.W.subIn K (.ref c) (.type "BaseException") = some true) (hi : PySem.W.isClsIn K c = true) (ht : PySem.W.typeIn K (.ref c) = some (.type "type")) (hs : PySem.W.subIn K (.ref x) (.ref c) = some b) (e : b = b') :
    PySem.W.exmOne K (.ref x) (.ref c) = some b' := by
  subst e
  have q1 : (PySem.W.subIn K (.ref c) (.type "BaseException") == some true) = true := by rw [hb]; rfl
  have q2 : ((PySem.W.clsIn K c).isSome && PySem.W.typeIn K (.ref c) == some (.type "type")) = true := by
    rw [show (PySem.W.clsIn K c).isSome = true from hi, ht]; rfl
  unfold PySem.W.exmOne PySem.W.kitCls
  rw [if_pos q1]
  dsimp only
  rw [if_pos q2, hs]
/-! ### names of fields, told apart -/
def bigF (f : Nat) : Str := ⟨#[2000000 + f]⟩
theorem bigF_ne (f : Nat) {x : Str} (h : ∀ c ∈ x.cps.toList, c < 2000000) : bigF f ≠ x := fun e => by
  subst e
  have := h (2000000 + f) (show 2000000 + f ∈ [2000000 + f] from List.mem_singleton.mpr rfl)
  omega
theorem bigF_inj {f g : Nat} (h : bigF f = bigF g) : f = g := by
  have e : [2000000 + f] = [2000000 + g] := congrArg (fun x : Str => x.cps.toList) h
  injection e with e
  omega
def fntOf (l : List (Nat × Str)) (f : Nat) : Str := (lookN l f).getD (bigF f)
theorem fnt_cases (l : List (Nat × Str)) (f : Nat) : fntOf l f = bigF f ∨ ∃ p ∈ l, f = p.1 ∧ fntOf l f = p.2 := by
  unfold fntOf
  cases h : lookN l f with
  | none => exact .inl rfl
  | some x => exact .inr ⟨_, lookN_mem h, rfl, rfl⟩
theorem fnt_inj_of {l : List (Nat × Str)} (h1 : ∀ p ∈ l, ∀ q ∈ l, p.2 = q.2 → p.1 = q.1) (h2 : ∀ p ∈ l, ∀ c ∈ p.2.cps.toList, c < 2000000) (f g : Nat) (h : fntOf l f = fntOf l g) : f = g := by
  rcases fnt_cases l f with a | ⟨p, hp, ep, a⟩ <;> rcases fnt_cases l g with b | ⟨q, hq, eq, b⟩
  · exact bigF_inj (a.symm.trans (h.trans b))
  · exact absurd (a.symm.trans (h.trans b)) (bigF_ne f (h2 q hq))
  · exact absurd (b.symm.trans (h.symm.trans a)) (bigF_ne g (h2 p hp))
  · rw [ep, eq]
    exact h1 p hp q hq (a.symm.trans (h.trans b))
theorem fnt_ne_of {l : List (Nat × Str)} {x : Str} (h1 : ∀ p ∈ l, p.2 ≠ x) (h2 : ∀ c ∈ x.cps.toList, c < 2000000) (f : Nat) : fntOf l f ≠ x := by
  rcases fnt_cases l f with a | ⟨p, hp, _, a⟩
  · rw [a]; exact bigF_ne f h2
  · rw [a]; exact h1 p hp
end PL

set_option Elab.async false
set_option linter.all false
set_option maxRecDepth 100000
set_option maxHeartbeats 1000000
/-! PM1: loops and calls of the evaluator, in general. -/
namespace PL
open PySem
/-- what a pure def's end gives -/
def fin (S : Store) : RS → R D
  | .nx _ _ => .ok .non S
  | .rt d S' => R.of (frzR S' d) S
  | .ex c _ _ => .ex c S
  | .bad => .bad
theorem run_pure {G : Tab} {k f np nl : Nat} {b : T} {as as' : List D} {S : Store} (h : G.fns f = some ⟨true, np, nl, b⟩) (hl : as.length = np) (hf : frzAs S as = some as') :
    run G (k + 1) f as S = fin S (exT G (run G k) b (startE nl as') []) := by
  simp only [run, h]
  rw [if_neg (by simpa using hl)]
  simp only [if_true, hf]
  cases exT G (run G k) b (startE nl as') [] <;> rfl
theorem fin_rt {S S' : Store} {d : D} (h : scl d = true) : fin S (.rt d S') = .ok d S := by
  unfold fin
  cases d <;> simp_all [frzR, scl]
theorem fin_ret {S S' : Store} {d : D} {r : RS} (e : r = .rt d S') (h : scl d = true) : fin S r = .ok d S := by rw [e, fin_rt h]
/-- a for over items, as a fold -/
theorem goFor_fold {α β τ : Type} {body : D → Env → Store → RS} {enc : β → D} {st : α → τ → Env} {step : α → β → α} {S : Store} {xs : List β} {a0 : α} {t0 : τ}
    (h : ∀ pre x post t, xs = pre ++ x :: post → ∃ t', body (enc x) (st (pre.foldl step a0) t) S = .nx (st (step (pre.foldl step a0) x) t') S) :
    ∃ t', goFor body (xs.map enc) (st a0 t0) S = .nx (st (xs.foldl step a0) t') S := by
  have key : ∀ (post pre : List β) (t : τ), xs = pre ++ post → ∃ t', goFor body (post.map enc) (st (pre.foldl step a0) t) S = .nx (st (xs.foldl step a0) t') S := by
    intro post
    induction post with
    | nil => intro pre t e; rw [List.append_nil] at e; subst e; exact ⟨t, rfl⟩
    | cons x post ih =>
      intro pre t e
      obtain ⟨t1, h1⟩ := h pre x post t e
      obtain ⟨t2, h2⟩ := ih (pre ++ [x]) t1 (by rw [e]; simp)
      refine ⟨t2, ?_⟩
      rw [List.foldl_append] at h2
      simp only [List.map_cons, goFor, h1, RS.andThen_nx]
      exact h2
  exact key xs [] t0 rfl
@[simp] theorem qk_plain {b : D → Store → R (Option D)} : qk .plain b = b := rfl
@[simp] theorem qk_zip {b : D → Store → R (Option D)} : qk .zip b = b := rfl
@[simp] theorem qk_enum {b : D → Store → R (Option D)} : qk .enum b = b := rfl
@[simp] theorem qk_rng1 {b : D → Store → R (Option D)} : qk .rng1 b = b := rfl
@[simp] theorem qk_rng2 {b : D → Store → R (Option D)} : qk .rng2 b = b := rfl
@[simp] theorem qk_rng3 {b : D → Store → R (Option D)} : qk .rng3 b = b := rfl
@[simp] theorem qk_items {b : D → Store → R (Option D)} : qk .items b = b := rfl
/-- a comprehension over items without a test -/
theorem goComp_map {β : Type} {body : D → Store → R (Option D)} {enc : β → D} {f : β → D} {S : Store} {xs : List β} (hl : xs.length ≤ SZ) (h : ∀ x ∈ xs, body (enc x) S = .ok (some (f x)) S) : goComp body (xs.map enc) [] S = .ok (xs.map f) S := by
  have key : ∀ (post pre : List β), xs = pre ++ post → goComp body (post.map enc) (pre.map f) S = .ok (xs.map f) S := by
    intro post
    induction post with
    | nil => intro pre e; rw [List.append_nil] at e; subst e; rfl
    | cons x post ih =>
      intro pre e
      have hx := h x (by rw [e]; simp)
      have := ih (pre ++ [x]) (by rw [e]; simp)
      simp only [List.map_cons, goComp, hx, R.bind_ok]
      rw [if_pos (by rw [List.length_map]; rw [e, List.length_append, List.length_cons] at hl; omega)]
      simpa using this
  exact key xs [] rfl
abbrev tupI (xs : List Int) : D := .tup (xs.map .int)
@[simp] theorem noRefs_int (xs : List Int) : noRefs (xs.map .int) = true := by induction xs <;> simp_all [noRefs, noRef]
@[simp] theorem scls_int (xs : List Int) : scls (xs.map .int) = true := by induction xs <;> simp_all [scls, scl]
theorem frz_tupI (S : Store) (xs : List Int) : frzA S (tupI xs) = some (tupI xs) := by simp [frzA, noRef]
end PL
namespace PL
open PySem
/-! ### statements, one equation each (a loop has its own laws) -/
section
variable {G : Tab} {call : Calls} {env : Env} {S : Store}
@[simp] theorem x_nil : exT G call .nil env S = .nx env S := rfl
@[simp] theorem x_asg {i : Nat} {e : E} {k : T} : exT G call (.asg i e k) env S = (ev G call e env S).stm env fun d S => exT G call k (env.set i (some d)) S := rfl
@[simp] theorem x_exp {e : E} {k : T} : exT G call (.exp e k) env S = (ev G call e env S).stm env fun _ S => exT G call k env S := rfl
@[simp] theorem x_ret {e : E} : exT G call (.ret e) env S = (ev G call e env S).stm env fun d S => .rt d S := rfl
@[simp] theorem x_ifs {c : E} {a b k : T} : exT G call (.ifs c a b k) env S = (mapT (ev G call c env S)).stm env fun t S => (if t then exT G call a env S else exT G call b env S).andThen fun env S => exT G call k env S := rfl
@[simp] theorem x_rais {c : Nat} : exT G call (.rais c) env S = .ex c env S := rfl
noncomputable def turnB (G : Tab) (call : Calls) (b : T) (tg : Tg) (x : D) (env : Env) (S : Store) : RS := match bindT tg x env with
  | some env' => exT G call b env' S
  | none => .bad
/-- the body of the first loop -/
def forB : T → T
  | .asg _ _ k => forB k
  | .exp _ k => forB k
  | .for_ _ _ _ b _ => b
  | _ => .nil
theorem x_for_eq {ik : IK} {src : E} {b k : T} {tg : Tg} : exT G call (.for_ ik src tg b k) env S = (ev G call src env S).stm env fun xs S => match mkIt ik (srcL ik xs) S with
    | some it => (goForI it (turnB G call b tg) env S).andThen fun env S => exT G call k env S
    | none => .bad := rfl
/-- a for over items -/
theorem x_for {α β τ : Type} {ik : IK} {src : E} {b k : T} {tg : Tg} {enc : β → D} {st : α → τ → Env} {step : α → β → α} {xs : List β} {a0 : α} {t0 : τ} {d : D} {r : RS}
    (hs : ev G call src (st a0 t0) S = .ok d S) (hi : mkIt ik (srcL ik d) S = some (.items (xs.map enc)))
    (h : ∀ pre x post t, xs = pre ++ x :: post → ∃ t', (match bindT tg (enc x) (st (pre.foldl step a0) t) with
      | some env' => exT G call b env' S
      | none => .bad) = .nx (st (step (pre.foldl step a0) x) t') S)
    (hk : ∀ t', exT G call k (st (xs.foldl step a0) t') S = r) : exT G call (.for_ ik src tg b k) (st a0 t0) S = r := by
  obtain ⟨t', e⟩ := goFor_fold (S := S) (xs := xs) (enc := enc) (st := st) (step := step) (a0 := a0) (t0 := t0) (body := turnB G call b tg) h
  rw [x_for_eq, hs]
  simp only [R.stm_ok, hi, goForI, e, RS.andThen_nx]
  exact hk t'
end
end PL
namespace PL
open PySem
/-! ### the evaluator's operations on known values -/
section
variable {S : Store} {i j : Int}
@[simp] theorem bop_add_int : bop .add (.int i) (.int j) S = some (.int (i + j)) := rfl
@[simp] theorem bop_sub_int : bop .sub (.int i) (.int j) S = some (.int (i - j)) := rfl
@[simp] theorem bop_mul_l (h : small i = true) : bop .mul (.int i) (.int j) S = some (.int (i * j)) := by simp [bop, mulD, h]
@[simp] theorem bop_mul_r (h : small j = true) : bop .mul (.int i) (.int j) S = some (.int (i * j)) := by simp [bop, mulD, h]
@[simp] theorem bop_mod_int (h : 0 < j) : bop .mod (.int i) (.int j) S = some (.int (i % j)) := by simp [bop, modD, h]
@[simp] theorem bop_fdiv_int (h : 0 < j) (h' : j < 18446744073709551616) : bop .fdiv (.int i) (.int j) S = some (.int (i / j)) := by
  show (if 0 < j ∧ j < 2 ^ 64 then some (D.int (i / j)) else none) = _
  rw [if_pos ⟨h, h'⟩]
@[simp] theorem bop_add_tup {a b : List D} (h : a.length + b.length ≤ SZ) : bop .add (.tup a) (.tup b) S = some (.tup (a ++ b)) := by simp [bop, addD, h]
theorem bop_add_tupI {xs : List Int} {y : Int} (h : xs.length + 1 ≤ SZ) : bop .add (.tup (xs.map .int)) (.tup [.int y]) S = some (.tup ((xs ++ [y]).map .int)) := by
  have e : (xs.map D.int).length + [D.int y].length ≤ SZ := by rw [List.length_map]; exact h
  rw [bop_add_tup e, List.map_append]
  rfl
@[simp] theorem cop_lt : cop .lt (.int i) (.int j) S = some (decide (i < j)) := rfl
@[simp] theorem cop_le : cop .le (.int i) (.int j) S = some (decide (i ≤ j)) := rfl
@[simp] theorem cop_gt : cop .gt (.int i) (.int j) S = some (decide (j < i)) := rfl
@[simp] theorem cop_ge : cop .ge (.int i) (.int j) S = some (decide (j ≤ i)) := rfl
@[simp] theorem cop_eq_int : cop .eq (.int i) (.int j) S = some (decide (i = j)) := rfl
@[simp] theorem cop_ne_int : cop .ne (.int i) (.int j) S = some (!decide (i = j)) := rfl
@[simp] theorem truthy_bl {b : Bool} : truthy (.bl b) S = some b := rfl
@[simp] theorem truthy_int : truthy (.int i) S = some (i != 0) := rfl
@[simp] theorem truthy_tup {xs : List D} : truthy (.tup xs) S = some (!xs.isEmpty) := rfl
@[simp] theorem mapT_ok {d : D} : mapT (.ok d S) = R.of (truthy d S) S := rfl
@[simp] theorem mapT_bad : mapT .bad = .bad := rfl
@[simp] theorem toTup_tup {xs : List D} : toTup (.tup xs) = xs := rfl
theorem small_of (h : -18446744073709551616 < i) (h' : i < 18446744073709551616) : small i = true := by
  exact tst_of ⟨h, h'⟩
@[simp] theorem small_104729 : small 104729 = true := small_of (by decide) (by decide)
@[simp] theorem small_48271 : small 48271 = true := small_of (by decide) (by decide)
@[simp] theorem small_257 : small 257 = true := small_of (by decide) (by decide)
@[simp] theorem mkTup_1 {a : D} : mkTup [a] = some (.tup [a]) := by simp [mkTup, SZ]
@[simp] theorem mkTup_0 : mkTup [] = some (.tup []) := by simp [mkTup, SZ]
@[simp] theorem mkTup_2 {a b : D} : mkTup [a, b] = some (.tup [a, b]) := by simp [mkTup, SZ]
@[simp] theorem mkTup_3 {a b c : D} : mkTup [a, b, c] = some (.tup [a, b, c]) := by simp [mkTup, SZ]
@[simp] theorem mkTup_4 {a b c d : D} : mkTup [a, b, c, d] = some (.tup [a, b, c, d]) := by simp [mkTup, SZ]
@[simp] theorem srcL_plain {d : D} : srcL .plain d = [d] := rfl
@[simp] theorem srcL_zip {d : D} : srcL .zip d = toTup d := rfl
@[simp] theorem srcL_rng1 {d : D} : srcL .rng1 d = toTup d := rfl
@[simp] theorem srcL_rng2 {d : D} : srcL .rng2 d = toTup d := rfl
@[simp] theorem mkIt_tup {xs : List D} : mkIt .plain [.tup xs] S = some (.items xs) := rfl
@[simp] theorem mkIt_lst {xs : List D} : mkIt .plain [.lst xs] S = some (.items xs) := rfl
theorem b62_of (h : -4611686018427387904 ≤ i) (h' : i < 4611686018427387904) : b62 i = true := by
  exact tst_of ⟨h, h'⟩
theorem mkIt_rng1 (h : b62 j = true) : mkIt .rng1 [.int j] S = some (.items (rngD 0 1 j.toNat)) := by simp [mkIt, h]
@[simp] theorem mkIt_zipT {xs ys : List D} : mkIt .zip [.tup xs, .tup ys] S = some (.items (xs.zipWith (fun x y => .tup [x, y]) ys)) := rfl
@[simp] theorem mkIt_zipL {xs ys : List D} : mkIt .zip [.lst xs, .lst ys] S = some (.items (xs.zipWith (fun x y => .tup [x, y]) ys)) := rfl
theorem rngD_map (n : Nat) : rngD 0 1 n = (List.range n).map fun (k : Nat) => .int k := by simp [rngD]
@[simp] theorem bindT_one {d : D} {k : Nat} {env : Env} : bindT (.one k) d env = some (env.set k (some d)) := rfl
@[simp] theorem isaD_int0 {t : Nat} : isaD t (.int i) = decide (t = 0) := by
  rcases t with _ | _ | _ | _ | t <;> simp [isaD]
@[simp] theorem isaD_tup {t : Nat} {xs : List D} : isaD t (.tup xs) = decide (t = 3) := by
  rcases t with _ | _ | _ | _ | t <;> simp [isaD]
@[simp] theorem isaD_str {t : Nat} {x : Str} : isaD t (.str x) = decide (t = 2) := by
  rcases t with _ | _ | _ | _ | t <;> simp [isaD]
@[simp] theorem isaD_non {t : Nat} : isaD t .non = false := by
  rcases t with _ | _ | _ | _ | t <;> simp [isaD]
@[simp] theorem isaD_bl {t : Nat} {b : Bool} : isaD t (.bl b) = decide (t < 2) := by
  rcases t with _ | _ | _ | _ | t <;> simp [isaD]
@[simp] theorem notIns_int : notIns (.int i) S = true := rfl
@[simp] theorem notIns_tup {xs : List D} : notIns (.tup xs) S = true := rfl
@[simp] theorem notIns_str {x : Str} : notIns (.str x) S = true := rfl
@[simp] theorem notIns_bl {b : Bool} : notIns (.bl b) S = true := rfl
@[simp] theorem notIns_non : notIns .non S = true := rfl
@[simp] theorem bf_len_tup {xs : List D} : bfD .len [.tup xs] S = some (.int xs.length) := rfl
@[simp] theorem bf_len_scr {ns : List Int} : bfD .len [.scr ns] S = some (.int ns.length) := by simp [bfD, lenF, lenD, seqOf]
@[simp] theorem bf_max : bfD .max [.int i, .int j] S = some (.int (if j > i then j else i)) := rfl
@[simp] theorem bf_min : bfD .min [.int i, .int j] S = some (.int (if j < i then j else i)) := rfl
theorem allB_map {α : Type} (f : α → Bool) (xs : List α) : allB (xs.map fun x => .bl (f x)) = some (xs.all f) := by induction xs <;> simp_all [allB]
theorem bf_all_map {α : Type} {f : α → Bool} {xs : List α} : bfD .all [.lst (xs.map fun x => .bl (f x))] S = some (.bl (xs.all f)) := by simp [bfD, allF, lstOf, allB_map]
end
end PL

set_option Elab.async false
set_option linter.all false
set_option maxRecDepth 100000
set_option maxHeartbeats 1000000
/-! PM2: the defs that most laws use, and what they compute. -/
namespace PL
open PySem
abbrev i_mark_of : Nat := 1
/-- mark_of: some 0 mark 1 one 2 -/
def b_mark_of : T := (.asg 1 (.con (.int 0))
  (.for_ .plain (.var 0) (.one 2)
  (.asg 1 (.bin .mod (.bin .add (.bin .add (.bin .mul (.var 1) (.glb 1)) (.var 2)) (.con (.int 1))) (.glb 0))
  .nil)
  (.ret (.var 1))))
def f_mark_of : Fn := ⟨true, 1, 3, b_mark_of⟩
abbrev i_l_d : Nat := 2
/-- l_d: _cell 0 _place 1 _many 2 _number 3 -/
def b_l_d : T := (.asg 3 (.bin .mod (.bin .add (.var 0) (.bin .mul (.con (.int 104729)) (.var 1))) (.con (.int 4294967291)))
  (.asg 3 (.bin .mod (.bin .mul (.bin .mod (.bin .mul (.var 3) (.var 3)) (.con (.int 4294967279))) (.con (.int 48271))) (.con (.int 4294967291)))
  (.ret (.bin .mod (.bin .fdiv (.var 3) (.con (.int 64))) (.var 2)))))
def f_l_d : Fn := ⟨true, 3, 4, b_l_d⟩
abbrev i_l_same : Nat := 3
/-- l_same: _told 0 _due 1 _one 2 _other 3 -/
def b_l_same : T := (.ifs (.isn (.var 1))
  (.ret (.isn (.var 0)))
  .nil
  (.ifs (.val (.isa (.var 1) 1))
  (.ret (.and (.isa (.var 0) 1) (.one (.cmp .eq (.var 0) (.var 1)))))
  .nil
  (.ifs (.val (.isa (.var 1) 3))
  (.ifs (.or (.nt (.val (.isa (.var 0) 3))) (.one (.cmp .ne (.bf .len (.cons (.var 0) .nil)) (.bf .len (.cons (.var 1) .nil)))))
  (.ret (.con (.bl false)))
  .nil
  (.ret (.bf .all (.cons (.comp .zip (.cons (.var 0) (.cons (.var 1) .nil)) (.many [2, 3]) .emp (.call i_l_same (.cons (.var 2) (.cons (.var 3) .nil)))) .nil))))
  .nil
  (.ifs (.val (.isa (.var 1) 2))
  (.ret (.and (.isa (.var 0) 2) (.one (.cmp .eq (.var 0) (.var 1)))))
  .nil
  (.ret (.and (.isa (.var 0) 0) (.and (.nt (.isa (.var 0) 1)) (.one (.cmp .eq (.var 0) (.var 1))))))))))
def f_l_same : Fn := ⟨true, 2, 4, b_l_same⟩
abbrev i_l_bytes : Nat := 4
/-- l_bytes: _cell 0 _many 1 _found 2 _k 3 _one 4 -/
def b_l_bytes : T := (.asg 2 (.tup .nil)
  (.for_ .rng1 (.cons (.var 1) .nil) (.one 3)
  (.asg 4 (.bin .add (.bin .fdiv (.var 0) (.con (.int 4))) (.bin .mul (.var 3) (.bin .add (.call i_l_d (.cons (.var 0) (.cons (.con (.int 11)) (.cons (.con (.int 250)) .nil)))) (.con (.int 1)))))
  (.asg 4 (.bin .add (.var 4) (.bin .mul (.bin .mul (.var 3) (.var 3)) (.call i_l_d (.cons (.var 0) (.cons (.con (.int 2750)) (.cons (.con (.int 7)) .nil))))))
  (.ifs (.cmp .eq (.call i_l_d (.cons (.var 0) (.cons (.con (.int 1)) (.cons (.con (.int 4)) .nil)))) (.con (.int 0)))
  (.asg 4 (.bin .mod (.var 4) (.con (.int 3)))
  .nil)
  .nil
  (.asg 2 (.bin .add (.var 2) (.tup (.cons (.bin .mod (.var 4) (.con (.int 256))) .nil)))
  .nil))))
  (.ret (.var 2))))
def f_l_bytes : Fn := ⟨true, 2, 5, b_l_bytes⟩
abbrev i_l_mark : Nat := 5
/-- l_mark: _some 0 _mark_here 1 _one 2 -/
def b_l_mark : T := (.asg 1 (.con (.int 0))
  (.for_ .plain (.var 0) (.one 2)
  (.asg 1 (.bin .add (.bin .add (.bin .mul (.var 1) (.con (.int 257))) (.var 2)) (.con (.int 1)))
  .nil)
  (.ret (.bin .sub (.var 1) (.bin .mul (.bin .fdiv (.var 1) (.con (.int 2147483647))) (.con (.int 2147483647)))))))
def f_l_mark : Fn := ⟨true, 1, 3, b_l_mark⟩
abbrev i_l_cell : Nat := 8
/-- l_cell: _script 0 _k 1 -/
def b_l_cell : T := (.ifs (.cmp .lt (.var 1) (.bf .len (.cons (.var 0) .nil)))
  (.ret (.ix (.var 0) (.var 1)))
  .nil
  (.ret (.con (.int 0))))
def f_l_cell : Fn := ⟨true, 2, 2, b_l_cell⟩
/-! ### the laws' draws -/
def dF (c p m : Int) : Int :=
  let n := (c + 104729 * p) % 4294967291
  (n * n % 4294967279 * 48271 % 4294967291) / 64 % m
section
variable {G : Tab} {k : Nat} {S : Store}
theorem run_l_d {c p m : Int} (h : G.fns i_l_d = some f_l_d) (hm : 0 < m) : run G (k + 1) i_l_d [.int c, .int p, .int m] S = .ok (.int (dF c p m)) S := by
  rw [run_pure h rfl (as' := [.int c, .int p, .int m]) rfl]
  have h1 : 0 ≤ (c + 104729 * p) % 4294967291 := Int.emod_nonneg _ (by decide)
  have h2 : (c + 104729 * p) % 4294967291 < 4294967291 := Int.emod_lt_of_pos _ (by decide)
  have h3 : small ((c + 104729 * p) % 4294967291) = true := small_of (by omega) (by omega)
  simp [b_l_d, exT, ev, startE, h3, hm]
  exact fin_rt rfl
/-! ### marks -/
def markS (m x : Int) : Int := (m * 257 + x + 1) % 2147483647
def markF (xs : List Int) : Int := xs.foldl markS 0
theorem run_mark_of {xs : List Int} (h : G.fns i_mark_of = some f_mark_of) (h0 : G.consts 0 = some (.int 2147483647)) (h1 : G.consts 1 = some (.int 257)) :
    run G (k + 1) i_mark_of [tupI xs] S = .ok (.int (markF xs)) S := by
  rw [run_pure h rfl (as' := [tupI xs]) (by simp [frzAs, frz_tupI])]
  refine fin_ret (S' := []) ?_ rfl
  simp [b_mark_of, startE, ev]
  refine x_for (xs := xs) (enc := D.int) (a0 := (0 : Int)) (t0 := (none : Option D)) (st := fun a t => [some (tupI xs), some (.int a), t]) (step := markS) (d := tupI xs) ?_ rfl (fun pre x post t e => ⟨some (.int x), ?_⟩) (fun t' => ?_)
  · simp [ev]
  · simp [ev, h0, h1, markS]
  · simp [ev, markF]
def markT (xs : List Int) : Int := xs.foldl (fun m x => m * 257 + x + 1) 0
theorem markT_F (xs : List Int) : markT xs % 2147483647 = markF xs := by
  unfold markT markF
  have key : ∀ (xs : List Int) (a b : Int), a % 2147483647 = b % 2147483647 → (xs.foldl (fun m x => m * 257 + x + 1) a) % 2147483647 = (xs.foldl markS b) % 2147483647 := by
    intro xs
    induction xs with
    | nil => intro a b e; exact e
    | cons x xs ih =>
      intro a b e
      refine ih _ _ ?_
      unfold markS
      show (a * 257 + x + 1) % 2147483647 = (b * 257 + x + 1) % 2147483647 % 2147483647
      omega
  have k2 : ∀ (xs : List Int) (b : Int), 0 ≤ b → b < 2147483647 → (xs.foldl markS b) % 2147483647 = xs.foldl markS b := by
    intro xs
    induction xs with
    | nil => intro b h1 h2; exact Int.emod_eq_of_lt h1 h2
    | cons x xs ih => intro b h1 h2; exact ih _ (Int.emod_nonneg _ (by decide)) (Int.emod_lt_of_pos _ (by decide))
  rw [key xs 0 0 rfl, k2 xs 0 (by decide) (by decide)]
theorem run_l_mark {xs : List Int} (h : G.fns i_l_mark = some f_l_mark) : run G (k + 1) i_l_mark [tupI xs] S = .ok (.int (markF xs)) S := by
  rw [run_pure h rfl (as' := [tupI xs]) (by simp [frzAs, frz_tupI])]
  refine fin_ret (S' := []) ?_ rfl
  simp [b_l_mark, startE, ev]
  refine x_for (xs := xs) (enc := D.int) (a0 := (0 : Int)) (t0 := (none : Option D)) (st := fun a t => [some (tupI xs), some (.int a), t]) (step := fun m x => m * 257 + x + 1) (d := tupI xs) ?_ rfl (fun pre x post t e => ⟨some (.int x), ?_⟩) (fun t' => ?_)
  · simp [ev]
  · simp [ev]
  · have h2 : small 2147483647 = true := small_of (by decide) (by decide)
    have h3 : markT xs - markT xs / 2147483647 * 2147483647 = markF xs := by rw [← markT_F]; omega
    have h4 : xs.foldl (fun m x => m * 257 + x + 1) 0 = markT xs := rfl
    simp [ev, h2, h4, h3]
/-! ### bytes -/
def byteF (c : Int) (k : Nat) : Int :=
  let one := c / 4 + k * (dF c 11 250 + 1) + k * k * dF c 2750 7
  (if dF c 1 4 = 0 then one % 3 else one) % 256
def bytesF (c : Int) (n : Nat) : List Int := (List.range n).map (byteF c)
theorem foldl_snoc {α β : Type} (f : β → α) : ∀ (xs : List β) (a : List α), xs.foldl (fun a x => a ++ [f x]) a = a ++ xs.map f
  | [], a => by simp
  | x :: xs, a => by simp [foldl_snoc f xs]
theorem byte_turn {c n X : Int} {P : List Int} {t : Option D × Option D} (hd : G.fns i_l_d = some f_l_d) (s1 : small X = true) (s2 : small (X * X) = true) (hz : P.length + 1 ≤ SZ) :
    ∃ t' : Option D × Option D, turnB G (run G (k + 1)) (forB b_l_bytes) (.one 3) (.int X) [some (.int c), some (.int n), some (tupI P), t.1, t.2] [] =
      .nx [some (.int c), some (.int n), some (tupI (P ++ [(if dF c 1 4 = 0 then (c / 4 + X * (dF c 11 250 + 1) + X * X * dF c 2750 7) % 3 else c / 4 + X * (dF c 11 250 + 1) + X * X * dF c 2750 7) % 256])), t'.1, t'.2] [] := by
  have hb := fun y => bop_add_tupI (y := y) (S := []) hz
  by_cases hc : dF c 1 4 = 0
  · refine ⟨(some (.int X), some (.int ((c / 4 + X * (dF c 11 250 + 1) + X * X * dF c 2750 7) % 3))), ?_⟩
    simp [turnB, b_l_bytes, forB, ev, run_l_d hd, s1, s2, hc, hb]
  · refine ⟨(some (.int X), some (.int (c / 4 + X * (dF c 11 250 + 1) + X * X * dF c 2750 7))), ?_⟩
    simp [turnB, b_l_bytes, forB, ev, run_l_d hd, s1, s2, hc, hb]
theorem run_l_bytes {c n : Int} (h : G.fns i_l_bytes = some f_l_bytes) (hd : G.fns i_l_d = some f_l_d) (h0 : 0 ≤ n) (h1 : n ≤ 1000) : run G (k + 2) i_l_bytes [.int c, .int n] S = .ok (tupI (bytesF c n.toNat)) S := by
  rw [run_pure h rfl (as' := [.int c, .int n]) rfl]
  refine fin_ret (S' := []) ?_ (by simp [scl])
  simp [b_l_bytes, startE, ev]
  refine x_for (xs := List.range n.toNat) (enc := fun (k : Nat) => D.int k) (a0 := ([] : List Int)) (t0 := ((none, none) : Option D × Option D)) (st := fun a t => [some (.int c), some (.int n), some (tupI a), t.1, t.2]) (step := fun a k => a ++ [byteF c k])
    (d := .tup [.int n]) ?_ ?_ (fun pre x post t e => ?_) (fun t' => ?_)
  · simp [ev]
  · rw [srcL_rng1, toTup_tup, mkIt_rng1 (b62_of (by omega) (by omega)), rngD_map]
  · have hx : x < n.toNat := by
      have : x ∈ List.range n.toNat := by rw [e]; simp
      simpa using this
    have hl : pre.length ≤ 1000 := by
      have := congrArg List.length e
      simp at this
      omega
    have s1 : small (x : Int) = true := small_of (by omega) (by omega)
    have s2 : small ((x : Int) * x) = true := by
      have : x * x ≤ 1000 * 1000 := Nat.mul_le_mul (by omega) (by omega)
      have h3 : ((x * x : Nat) : Int) = (x : Int) * x := by push_cast; rfl
      exact small_of (by omega) (by omega)
    have hz : (pre.map (byteF c)).length + 1 ≤ SZ := by rw [List.length_map]; unfold SZ; omega
    rw [foldl_snoc]
    exact byte_turn hd s1 s2 hz
  · rw [foldl_snoc]
    simp [ev, bytesF]
end
end PL

set_option Elab.async false
set_option linter.all false
set_option maxRecDepth 100000
set_option maxHeartbeats 1000000
/-! PM3: powers, and the laws' own compare. -/
namespace PL
open PySem
section
variable {G : Tab} {k : Nat} {S : Store}
/-! ### the compare -/
def okD : Nat → D → Bool
  | 0, _ => false
  | k + 1, .tup xs => decide (xs.length ≤ SZ) && xs.all (okD k)
  | _ + 1, .int _ => true
  | _ + 1, .str _ => true
  | _ + 1, .bl _ => true
  | _ + 1, .non => true
  | _ + 1, _ => false
theorem noRefs_all : ∀ xs : List D, noRefs xs = xs.all noRef
  | [] => rfl
  | x :: xs => by simp [noRefs, noRefs_all xs]
theorem okD_noRef : ∀ (k : Nat) (d : D), okD k d = true → noRef d = true
  | 0, _, h => by simp [okD] at h
  | k + 1, .tup xs, h => by
    simp only [okD, Bool.and_eq_true, List.all_eq_true] at h
    simp only [noRef, noRefs_all, List.all_eq_true]
    exact fun x hx => okD_noRef k x (h.2 x hx)
  | k + 1, .int _, h => rfl
  | k + 1, .str _, h => rfl
  | k + 1, .bl _, h => rfl
  | k + 1, .non, h => rfl
  | k + 1, .lst _, h => by simp [okD] at h
  | k + 1, .dct _, h => by simp [okD] at h
  | k + 1, .ref _, h => by simp [okD] at h
  | k + 1, .scr _, h => by simp [okD] at h
theorem frzA_noRef {d : D} (h : noRef d = true) : frzA S d = some d := by
  cases d <;> simp_all [frzA, noRef]
theorem zipWith_self {α β : Type} (f : α → α → β) : ∀ xs : List α, xs.zipWith f xs = xs.map fun x => f x x
  | [] => rfl
  | x :: xs => by simp [zipWith_self f xs]
@[simp] theorem isNonD_int {i : Int} : isNonD (.int i) = false := rfl
@[simp] theorem isNonD_bl {i : Bool} : isNonD (.bl i) = false := rfl
@[simp] theorem isNonD_str {i : Str} : isNonD (.str i) = false := rfl
@[simp] theorem isNonD_tup {i : List D} : isNonD (.tup i) = false := rfl
@[simp] theorem isNonD_non : isNonD .non = true := rfl
@[simp] theorem cop_eq_str {i j : Str} : cop .eq (.str i) (.str j) S = some (decide (i = j)) := rfl
@[simp] theorem cop_eq_bl {i j : Bool} : cop .eq (.bl i) (.bl j) S = some (decide (i = j)) := rfl
@[simp] theorem bindT_many2 {x y : D} {i j : Nat} {env : Env} : bindT (.many [i, j]) (.tup [x, y]) env = some ((env.set i (some x)).set j (some y)) := rfl
theorem run_same (h : G.fns i_l_same = some f_l_same) : ∀ (k : Nat) (d : D) (S : Store), okD k d = true → run G k i_l_same [d, d] S = .ok (.bl true) S := by
  intro k
  induction k with
  | zero => intro d S e; simp [okD] at e
  | succ k ih =>
    intro d S e
    have hn := okD_noRef _ _ e
    rw [run_pure h rfl (as' := [d, d]) (by simp only [frzAs, frzA_noRef hn])]
    refine fin_ret (S' := []) ?_ rfl
    cases d with
    | non => simp [b_l_same, startE, ev]
    | bl b => simp [b_l_same, startE, ev]
    | int i => simp [b_l_same, startE, ev]
    | str x => simp [b_l_same, startE, ev]
    | tup xs =>
      simp only [okD, Bool.and_eq_true, List.all_eq_true, decide_eq_true_eq] at e
      simp [b_l_same, startE, ev, goIt, zipWith_self]
      rw [goComp_map (f := fun _ => D.bl true) (enc := fun x => D.tup [x, x]) e.1 (fun x hx => by simp [isEmp, ih x [] (e.2 x hx)])]
      have := bf_all_map (S := []) (f := fun _ => true) (xs := xs)
      simp [this]
    | lst xs => simp [okD] at e
    | dct xs => simp [okD] at e
    | ref xs => simp [okD] at e
    | scr xs => simp [okD] at e
end
end PL

set_option Elab.async false
set_option linter.all false
set_option maxRecDepth 100000
set_option maxHeartbeats 1000000
/-! PM4: cells, slices and joins of tuples of numbers, marks of joined bytes. -/
namespace PL
open PySem
section
variable {G : Tab} {k : Nat} {S : Store}
theorem ix_scr {ns : List Int} {j : Nat} (h1 : j < ns.length) : getD_ (.scr ns) (.int (j : Int)) S = some (.int (ns.getD j 0)) := by
  show L2.atI (ns.map D.int) (j : Int) = _
  refine L2.atI_nat ?_
  rw [List.getElem?_map, List.getD_eq_getElem?_getD, List.getElem?_eq_getElem h1]
  rfl
theorem run_l_cell {ns : List Int} {j : Nat} (h : G.fns i_l_cell = some f_l_cell) : run G (k + 1) i_l_cell [.scr ns, .int (j : Int)] S = .ok (.int (ns.getD j 0)) S := by
  rw [run_pure h rfl (as' := [.scr ns, .int (j : Int)]) rfl]
  refine fin_ret (S' := []) ?_ rfl
  by_cases hj : j < ns.length
  · simp [b_l_cell, startE, ev, hj, ix_scr hj]
  · have : ns.getD j 0 = 0 := by rw [List.getD_eq_getElem?_getD, List.getElem?_eq_none (by omega)]; rfl
    simp [b_l_cell, startE, ev, hj]
/-! ### marks of joined bytes -/
theorem markF_lt (xs : List Int) : 0 ≤ markF xs ∧ markF xs < 2147483647 := by
  rw [← markT_F]
  exact ⟨Int.emod_nonneg _ (by decide), Int.emod_lt_of_pos _ (by decide)⟩
end
end PL

set_option Elab.async false
set_option linter.all false
set_option maxRecDepth 100000
set_option maxHeartbeats 1000000
/-! PM5: loops that write the store; windows. -/
namespace PL
open PySem
section
variable {G : Tab} {call : Calls} {k : Nat} {env : Env} {S : Store}
end
end PL

set_option Elab.async false
set_option linter.all false
set_option maxRecDepth 100000
set_option maxHeartbeats 1000000
/-! PM6: typed data, the evaluator's operations on them, loops in general. -/
namespace PL
open PySem
class Has (G : Tab) (i : Nat) (F : Fn) : Prop where
  h : G.fns i = some F
class HasC (G : Tab) (j : Nat) (d : outParam D) : Prop where
  h : G.consts j = some d
@[simp] theorem const_of {G : Tab} {j : Nat} {d : D} [h : HasC G j d] : G.consts j = some d := h.h
/-- a tuple, a list, of encoded items -/
def tl {α : Type} (f : α → D) (xs : List α) : D := .tup (xs.map f)
def ll {α : Type} (f : α → D) (xs : List α) : D := .lst (xs.map f)
class Okf {α : Type} (f : α → D) : Prop where
  nr : ∀ a, noRef (f a) = true
  sc : ∀ a, scl (f a) = true
theorem noRefs_map {α : Type} {f : α → D} (h : ∀ a, noRef (f a) = true) : ∀ xs : List α, noRefs (xs.map f) = true
  | [] => rfl
  | x :: xs => by simp [noRefs, h x, noRefs_map h xs]
theorem scls_map {α : Type} {f : α → D} (h : ∀ a, scl (f a) = true) : ∀ xs : List α, scls (xs.map f) = true
  | [] => rfl
  | x :: xs => by simp [scls, h x, scls_map h xs]
instance : Okf D.int := ⟨fun _ => rfl, fun _ => rfl⟩
instance : Okf D.str := ⟨fun _ => rfl, fun _ => rfl⟩
instance : Okf D.bl := ⟨fun _ => rfl, fun _ => rfl⟩
instance : Okf pairD := ⟨fun _ => rfl, fun _ => rfl⟩
instance {α : Type} {f : α → D} [o : Okf f] : Okf (tl f) := ⟨fun xs => noRefs_map o.nr xs, fun xs => scls_map o.sc xs⟩
/-- None or something -/
def opD {α : Type} (f : α → D) : Option α → D
  | none => .non
  | some a => f a
instance {α : Type} {f : α → D} [o : Okf f] : Okf (opD f) := ⟨fun x => by cases x <;> simp [opD, noRef, o.nr], fun x => by cases x <;> simp [opD, scl, o.sc]⟩
section
variable {G : Tab} {call : Calls} {env : Env} {S : Store}
@[simp] theorem x_asgT {is : List Nat} {e : E} {k : T} : exT G call (.asgT is e k) env S = (ev G call e env S).stm env fun d S => match bindT (.many is) d env with
    | some env' => exT G call k env' S
    | none => .bad := rfl
@[simp] theorem x_setI {o i e : E} {k : T} : exT G call (.setI o i e k) env S = (ev G call e env S).stm env fun v S => (ev G call o env S).stm env fun x S => (ev G call i env S).stm env fun y S => match setIx x y v S with
    | some S' => exT G call k env S'
    | none => .bad := rfl
@[simp] theorem x_setT {o a lo e : E} {k : T} : exT G call (.setT o a lo e k) env S = (ev G call e env S).stm env fun v S => (ev G call o env S).stm env fun x S => (ev G call a env S).stm env fun t S => (ev G call lo env S).stm env fun l S => match setTD x t l v S with
    | some S' => exT G call k env S'
    | none => .bad := rfl
@[simp] theorem x_fldS {c f : Nat} {o e : E} {k : T} : exT G call (.fldS c o f e k) env S = (ev G call e env S).stm env fun v S => (ev G call o env S).stm env fun x S => if clsD x S = some c then match setFld x f v S with
    | some S' => exT G call k env S'
    | none => .bad else .bad := rfl
@[simp] theorem x_tr {cs : List Nat} {b h k : T} : exT G call (.tr b cs h k) env S = match exT G call b env S with
    | .ex c env' S' => if c ∈ G.exs then (if c ∈ cs then (exT G call h env' S').calm.andThen fun env S => exT G call k env S else .ex c env' S') else .bad
    | .nx env' S' => exT G call k env' S'
    | r => r := rfl
@[simp] theorem x_tr2 {c c' : Nat} {b h h' k : T} : exT G call (.tr2 b c h c' h' k) env S = match exT G call b env S with
    | .ex d env' S' => if d ∈ G.exs then (if d = c then (exT G call h env' S').calm.andThen fun env S => exT G call k env S else if d = c' then (exT G call h' env' S').calm.andThen fun env S => exT G call k env S else .ex d env' S') else .bad
    | .nx env' S' => exT G call k env' S'
    | r => r := rfl
end
section
variable {α β : Type} {f : α → D} {g : β → D} {xs ys : List α} {S : Store} {i j : Int}
@[simp] theorem noRef_tl [o : Okf f] : noRef (tl f xs) = true := noRefs_map o.nr xs
@[simp] theorem scl_tl [o : Okf f] : scl (tl f xs) = true := scls_map o.sc xs
@[simp] theorem noRef_ll [o : Okf f] : noRef (ll f xs) = true := noRefs_map o.nr xs
@[simp] theorem noRef_int' : noRef (.int i) = true := rfl
@[simp] theorem noRef_str' {x : Str} : noRef (.str x) = true := rfl
@[simp] theorem noRef_bl' {x : Bool} : noRef (.bl x) = true := rfl
@[simp] theorem noRef_non' : noRef .non = true := rfl
@[simp] theorem scl_int' : scl (.int i) = true := rfl
@[simp] theorem scl_str' {x : Str} : scl (.str x) = true := rfl
@[simp] theorem scl_bl' {x : Bool} : scl (.bl x) = true := rfl
@[simp] theorem scl_non' : scl .non = true := rfl
@[simp] theorem frzA_tl [o : Okf f] : frzA S (tl f xs) = some (tl f xs) := frzA_noRef noRef_tl
@[simp] theorem frzA_ll [o : Okf f] : frzA S (ll f xs) = some (ll f xs) := frzA_noRef noRef_ll
@[simp] theorem frzA_int' : frzA S (.int i) = some (.int i) := rfl
@[simp] theorem frzA_str' {x : Str} : frzA S (.str x) = some (.str x) := rfl
@[simp] theorem frzA_bl' {x : Bool} : frzA S (.bl x) = some (.bl x) := rfl
@[simp] theorem frzA_non' : frzA S .non = some .non := rfl
@[simp] theorem frzA_scr {ns : List Int} : frzA S (.scr ns) = some (.scr ns) := rfl
@[simp] theorem len_tl : bfD .len [tl f xs] S = some (.int xs.length) := by simp [tl]
@[simp] theorem len_ll : bfD .len [ll f xs] S = some (.int xs.length) := by simp [ll, bfD, lenF, lenD, seqOf, lstOf]
@[simp] theorem truthy_tl : truthy (tl f xs) S = some (!xs.isEmpty) := by simp [tl, truthy]
@[simp] theorem truthy_ll : truthy (ll f xs) S = some (!xs.isEmpty) := by simp [ll, truthy]
@[simp] theorem mkIt_tl : mkIt .plain [tl f xs] S = some (.items (xs.map f)) := rfl
@[simp] theorem mkIt_ll : mkIt .plain [ll f xs] S = some (.items (xs.map f)) := rfl
@[simp] theorem notIns_tl : notIns (tl f xs) S = true := rfl
@[simp] theorem notIns_ll : notIns (ll f xs) S = true := rfl
@[simp] theorem isNonD_tl : isNonD (tl f xs) = false := rfl
@[simp] theorem isNonD_ll : isNonD (ll f xs) = false := rfl
@[simp] theorem isaD_tl {t : Nat} : isaD t (tl f xs) = decide (t = 3) := isaD_tup
@[simp] theorem isaD_ll {t : Nat} : isaD t (ll f xs) = false := by rcases t with _ | _ | _ | _ | t <;> simp [isaD, ll]
theorem cutD_map {lo hi : Option Int} : cutD (xs.map f) lo hi = (cutD xs lo hi).map f := by simp [cutD]
@[simp] theorem sl_tl {lo hi : Option Int} : slD (tl f xs) lo hi S = some (tl f (cutD xs lo hi)) := by
  show some (D.tup (cutD (xs.map f) lo hi)) = _
  rw [cutD_map]; rfl
@[simp] theorem sl_ll {lo hi : Option Int} : slD (ll f xs) lo hi S = some (ll f (cutD xs lo hi)) := by
  show some (D.lst (cutD (xs.map f) lo hi)) = _
  rw [cutD_map]; rfl
@[simp] theorem sl_scr {ns : List Int} {lo hi : Option Int} : slD (.scr ns) lo hi S = some (ll .int (cutD ns lo hi)) := by
  show some (D.lst (cutD (ns.map .int) lo hi)) = _
  rw [cutD_map]; rfl
theorem atI_map {i : Int} : L2.atI (xs.map f) i = (L2.atI xs i).map f := by
  unfold L2.atI
  rw [List.length_map]
  cases L2.ixN xs.length i with
  | none => rfl
  | some j => simp
@[simp] theorem ix_tl : getD_ (tl f xs) (.int i) S = (L2.atI xs i).map f := by
  show L2.atI (xs.map f) i = _
  exact atI_map
@[simp] theorem ix_ll : getD_ (ll f xs) (.int i) S = (L2.atI xs i).map f := by
  show L2.atI (xs.map f) i = _
  exact atI_map
theorem add_tl (h : xs.length + ys.length ≤ SZ) : bop .add (tl f xs) (tl f ys) S = some (tl f (xs ++ ys)) := by
  have e : (xs.map f).length + (ys.map f).length ≤ SZ := by rw [List.length_map, List.length_map]; exact h
  unfold tl
  rw [bop_add_tup e, List.map_append]
theorem add_tl1 {y : α} {d : D} (e : f y = d) (h : xs.length + 1 ≤ SZ) : bop .add (tl f xs) (.tup [d]) S = some (tl f (xs ++ [y])) := by
  subst e
  exact add_tl (ys := [y]) h
@[simp] theorem tuple_ll : bfD .tuple [ll f xs] S = some (tl f xs) := rfl
@[simp] theorem tuple_tl : bfD .tuple [tl f xs] S = some (tl f xs) := rfl
@[simp] theorem list_ll : bfD .list [ll f xs] S = some (ll f xs) := rfl
@[simp] theorem list_tl : bfD .list [tl f xs] S = some (ll f xs) := rfl
theorem zip_tl {us : List β} : (xs.map f).zipWith (fun x y => D.tup [x, y]) (us.map g) = (xs.zip us).map fun p => D.tup [f p.1, g p.2] := by
  rw [List.zipWith_map, List.zip, List.map_zipWith]
@[simp] theorem mkIt_ziptl {us : List β} : mkIt .zip [tl f xs, tl g us] S = some (.items ((xs.zip us).map fun p => D.tup [f p.1, g p.2])) := by
  show some (PL.Itr.items _) = _
  rw [zip_tl]
@[simp] theorem mkIt_zipll {us : List β} : mkIt .zip [ll f xs, ll g us] S = some (.items ((xs.zip us).map fun p => D.tup [f p.1, g p.2])) := by
  show some (PL.Itr.items _) = _
  rw [zip_tl]
theorem enum_tl : enumD (xs.map f) = ((List.range xs.length).zip xs).map fun p => D.tup [.int (p.1 : Nat), f p.2] := by
  unfold enumD
  rw [List.length_map, List.zipWith_map_right, List.zip, List.map_zipWith]
@[simp] theorem mkIt_enumtl : mkIt .enum [tl f xs] S = some (.items (((List.range xs.length).zip xs).map fun p => D.tup [.int (p.1 : Nat), f p.2])) := by
  show some (PL.Itr.items (enumD (xs.map f))) = _
  rw [enum_tl]
@[simp] theorem mkIt_enumll : mkIt .enum [ll f xs] S = some (.items (((List.range xs.length).zip xs).map fun p => D.tup [.int (p.1 : Nat), f p.2])) := by
  show some (PL.Itr.items (enumD (xs.map f))) = _
  rw [enum_tl]
@[simp] theorem srcL_enum {d : D} : srcL .enum d = toTup d := rfl
@[simp] theorem srcL_rng3 {d : D} : srcL .rng3 d = toTup d := rfl
@[simp] theorem srcL_keys {d : D} : srcL .keys d = [d] := rfl
@[simp] theorem bindT_pair {p : Int × Int} {a b : Nat} {env : Env} : bindT (.many [a, b]) (pairD p) env = some ((env.set a (some (.int p.1))).set b (some (.int p.2))) := rfl
@[simp] theorem mkLst_0 : mkLst [] = some (ll D.int []) := rfl
theorem mkLst_of {ds : List D} (h : ds.length ≤ 1000) : mkLst ds = some (.lst ds) := by
  unfold mkLst
  rw [if_pos (by unfold SZ; omega)]
theorem mkTup_of {ds : List D} (h : ds.length ≤ 1000) : mkTup ds = some (.tup ds) := by
  unfold mkTup
  rw [if_pos (by unfold SZ; omega)]
@[simp] theorem mkTup_5 {a b c d e : D} : mkTup [a, b, c, d, e] = some (.tup [a, b, c, d, e]) := mkTup_of (by simp)
@[simp] theorem mkLst_1 {a : D} : mkLst [a] = some (.lst [a]) := mkLst_of (by simp)
@[simp] theorem mkLst_2 {a b : D} : mkLst [a, b] = some (.lst [a, b]) := mkLst_of (by simp)
@[simp] theorem mkLst_3 {a b c : D} : mkLst [a, b, c] = some (.lst [a, b, c]) := mkLst_of (by simp)
@[simp] theorem mkLst_4 {a b c d : D} : mkLst [a, b, c, d] = some (.lst [a, b, c, d]) := mkLst_of (by simp)
@[simp] theorem mkLst_5 {a b c d e : D} : mkLst [a, b, c, d, e] = some (.lst [a, b, c, d, e]) := mkLst_of (by simp)
theorem sumB_int : ∀ xs : List Int, intsD (xs.map D.int) = some xs
  | [] => rfl
  | x :: xs => by simp [intsD, sumB_int xs]
theorem pairsD_map : ∀ ps : List (Int × Int), pairsD (ps.map pairD) = some ps
  | [] => rfl
  | p :: ps => by simp [pairsD, pairD, pairsD_map ps]
@[simp] theorem sum_ll {xs : List Int} : bfD .sum [ll .int xs] S = some (.int xs.sum) := by
  show (((some (xs.map D.int)).bind intsD).map fun is : List Int => D.int is.sum) = _
  simp [sumB_int]
@[simp] theorem sum_tl {xs : List Int} : bfD .sum [tl .int xs] S = none ∨ True := .inr trivial
theorem anyB_map {p : α → Bool} : ∀ xs : List α, anyB (xs.map fun x => .bl (p x)) = some (xs.any p)
  | [] => rfl
  | x :: xs => by simp [anyB, anyB_map xs]
theorem any_ll {p : α → Bool} : bfD .any [.lst (xs.map fun x => .bl (p x))] S = some (.bl (xs.any p)) := by
  show (((some (xs.map fun x => D.bl (p x))).bind anyB).map D.bl) = _
  simp [anyB_map]
@[simp] theorem sort_llP {ps : List (Int × Int)} : bfD .sorted [ll pairD ps] S = some (ll pairD (sortBy leP ps)) := by
  show ((sortD (ps.map pairD)).map D.lst) = _
  unfold sortD
  cases ps with
  | nil => rfl
  | cons p ps =>
    have : intsD ((p :: ps).map pairD) = none := rfl
    rw [this, pairsD_map]
    rfl
@[simp] theorem sort_tlP {ps : List (Int × Int)} : bfD .sorted [tl pairD ps] S = some (ll pairD (sortBy leP ps)) := sort_llP (S := S)
@[simp] theorem sort_llI {is : List Int} : bfD .sorted [ll .int is] S = some (ll .int (sortBy leI is)) := by
  show ((sortD (is.map D.int)).map D.lst) = _
  unfold sortD
  rw [sumB_int]
  rfl
/-! ### places, cuts -/
theorem atI_nat {n : Nat} : L2.atI xs (n : Int) = xs[n]? := by
  unfold L2.atI L2.ixN
  by_cases h : n < xs.length
  · rw [if_pos (by omega), if_pos (by exact_mod_cast h)]
    simp
  · rw [if_pos (by omega), if_neg (by omega)]
    simp [List.getElem?_eq_none (Nat.le_of_not_lt h)]
theorem atI_nn (h : 0 ≤ i) : L2.atI xs i = xs[i.toNat]? := by
  obtain ⟨n, rfl⟩ := Int.eq_ofNat_of_zero_le h
  exact atI_nat
theorem sIx_nn {n d : Nat} {i : Int} (h : 0 ≤ i) : HT.sIx n d (some i) = min i.toNat n := by
  unfold HT.sIx
  simp only
  split
  · omega
  · omega
theorem cut_both (h : 0 ≤ i) (h' : 0 ≤ j) : cutD xs (some i) (some j) = (xs.drop i.toNat).take (j.toNat - i.toNat) := by
  show (xs.drop (HT.sIx xs.length 0 (some i))).take (HT.sIx xs.length xs.length (some j) - HT.sIx xs.length 0 (some i)) = _
  rw [sIx_nn h, sIx_nn h']
  by_cases z : i.toNat ≤ xs.length
  · rw [Nat.min_eq_left z]
    by_cases z' : j.toNat ≤ xs.length
    · rw [Nat.min_eq_left z']
    · rw [Nat.min_eq_right (by omega), List.take_of_length_le (by rw [List.length_drop]; omega), List.take_of_length_le (by rw [List.length_drop]; omega)]
  · rw [show min i.toNat xs.length = xs.length from Nat.min_eq_right (by omega), List.drop_length, List.drop_eq_nil_of_le (show xs.length ≤ i.toNat by omega)]
    simp
end
end PL

set_option Elab.async false
set_option linter.all false
set_option maxRecDepth 100000
set_option maxHeartbeats 1000000
/-! PM7: loops with a saying; the known defs, by instances. -/
namespace PL
open PySem
section
variable {G : Tab} {call : Calls} {env : Env} {S : Store}
theorem goFor_inv {α β τ : Type} {body : D → Env → Store → RS} {enc : β → D} {st : α → τ → Env} {ss : α → Store} {step : α → β → α} {I : Nat → α → Prop} :
    ∀ (xs : List β) (i : Nat) (a : α) (t : τ), I i a → (∀ j x a t, xs[j]? = some x → I (i + j) a → ∃ t', body (enc x) (st a t) (ss a) = .nx (st (step a x) t') (ss (step a x)) ∧ I (i + j + 1) (step a x)) →
    ∃ t', goFor body (xs.map enc) (st a t) (ss a) = .nx (st (xs.foldl step a) t') (ss (xs.foldl step a)) ∧ I (i + xs.length) (xs.foldl step a)
  | [], i, a, t, h0, _ => ⟨t, rfl, h0⟩
  | x :: xs, i, a, t, h0, h => by
    obtain ⟨t1, e1, i1⟩ := h 0 x a t rfl h0
    obtain ⟨t2, e2, i2⟩ := goFor_inv xs (i + 1) (step a x) t1 i1 fun j y b u hj hi => by
      obtain ⟨t', e, q⟩ := h (j + 1) y b u (by simpa using hj) (by rw [show i + (j + 1) = i + 1 + j by omega]; exact hi)
      exact ⟨t', e, by rw [show i + 1 + j + 1 = i + (j + 1) + 1 by omega]; exact q⟩
    refine ⟨t2, ?_, by rw [List.length_cons, show i + (xs.length + 1) = i + 1 + xs.length by omega]; exact i2⟩
    simp only [List.map_cons, goFor, e1, RS.andThen_nx, List.foldl_cons]
    exact e2
/-- a for whose turns are steps of a fold -/
theorem x_forF {α β τ : Type} {P : RS → Prop} {ik : IK} {src : E} {b k : T} {tg : Tg} {enc : β → D} (st : α → τ → Env) (ss : α → Store) (step : α → β → α) (I : Nat → α → Prop) {xs : List β} {a0 : α} {t0 : τ} {d : D}
    (hs : ev G call src (st a0 t0) (ss a0) = .ok d (ss a0)) (hi : mkIt ik (srcL ik d) (ss a0) = some (.items (xs.map enc))) (h0 : I 0 a0)
    (h : ∀ j x a t, xs[j]? = some x → I j a → ∃ t', turnB G call b tg (enc x) (st a t) (ss a) = .nx (st (step a x) t') (ss (step a x)) ∧ I (j + 1) (step a x))
    (hk : ∀ t', I xs.length (xs.foldl step a0) → P (exT G call k (st (xs.foldl step a0) t') (ss (xs.foldl step a0)))) : P (exT G call (.for_ ik src tg b k) (st a0 t0) (ss a0)) := by
  obtain ⟨t', e, i'⟩ := goFor_inv (body := turnB G call b tg) (enc := enc) (st := st) (ss := ss) (step := step) (I := I) xs 0 a0 t0 h0 fun j x a t hj hi => by
    obtain ⟨t', e, q⟩ := h j x a t hj (by simpa using hi)
    exact ⟨t', e, by simpa using q⟩
  rw [x_for_eq, hs]
  simp only [R.stm_ok, hi, goForI, e, RS.andThen_nx]
  exact hk t' (by simpa using i')
/-- a comprehension with a test -/
theorem goComp_filter {β : Type} {body : D → Store → R (Option D)} {enc : β → D} {p : β → Bool} {f : β → D} {S : Store} {xs : List β} (hl : xs.length ≤ SZ) (h : ∀ x ∈ xs, body (enc x) S = .ok (if p x then some (f x) else none) S) :
    goComp body (xs.map enc) [] S = .ok ((xs.filter p).map f) S := by
  have key : ∀ (post pre : List β), xs = pre ++ post → goComp body (post.map enc) ((pre.filter p).map f) S = .ok ((xs.filter p).map f) S := by
    intro post
    induction post with
    | nil => intro pre e; rw [List.append_nil] at e; subst e; rfl
    | cons x post ih =>
      intro pre e
      have hx := h x (by rw [e]; simp)
      have := ih (pre ++ [x]) (by rw [e]; simp)
      simp only [List.map_cons, goComp, hx, R.bind_ok]
      by_cases hp : p x = true
      · simp only [hp, if_true]
        have hle := List.length_filter_le p pre
        rw [if_pos (by rw [List.length_map]; rw [e, List.length_append, List.length_cons] at hl; omega)]
        simpa [List.filter_append, hp] using this
      · simp only [hp, if_false]
        simpa [List.filter_append, hp] using this
  exact key xs [] rfl
/-- a pure def's answer -/
theorem pure_rt {i k np nl : Nat} {b : T} {as : List D} {S' : Store} {d d' : D} {F : Fn} [h : Has G i F] (hF : F = ⟨true, np, nl, b⟩) (hl : as.length = np) (hf : frzAs S as = some as) (he : exT G (run G k) b (startE nl as) [] = .rt d S') (hd : frzR S' d = some d') :
    run G (k + 1) i as S = .ok d' S := by
  rw [run_pure (hF ▸ h.h) hl hf, he]
  unfold fin
  simp only [hd, R.of_some]
theorem frzR_scl {d : D} (h : scl d = true) : frzR S d = some d := by
  unfold frzR
  cases d <;> simp_all [scl]
end

/-! ### the known defs -/
section
variable {G : Tab} {k : Nat} {S : Store}
@[simp] theorem r_d [h : Has G i_l_d f_l_d] {c p m : Int} (hm : 0 < m) : run G (k + 1) i_l_d [.int c, .int p, .int m] S = .ok (.int (dF c p m)) S := run_l_d h.h hm
theorem r_mark_of [h : Has G i_mark_of f_mark_of] [h0 : HasC G 0 (.int 2147483647)] [h1 : HasC G 1 (.int 257)] {xs : List Int} : run G (k + 1) i_mark_of [tl .int xs] S = .ok (.int (markF xs)) S := run_mark_of h.h h0.h h1.h
theorem r_l_mark [h : Has G i_l_mark f_l_mark] {xs : List Int} : run G (k + 1) i_l_mark [tl .int xs] S = .ok (.int (markF xs)) S := run_l_mark h.h
theorem r_bytes [h : Has G i_l_bytes f_l_bytes] [hd : Has G i_l_d f_l_d] {c n : Int} (h0 : 0 ≤ n) (h1 : n ≤ 1000) : run G (k + 2) i_l_bytes [.int c, .int n] S = .ok (tl .int (bytesF c n.toNat)) S := run_l_bytes h.h hd.h h0 h1
theorem r_cell [h : Has G i_l_cell f_l_cell] {ns : List Int} {n : Int} (h0 : 0 ≤ n) : run G (k + 1) i_l_cell [.scr ns, .int n] S = .ok (.int (ns.getD n.toNat 0)) S := by
  have := run_l_cell (k := k) (S := S) (ns := ns) (j := n.toNat) h.h
  rwa [Int.toNat_of_nonneg h0] at this
/-- data without lists, dicts, references, not too deep -/
theorem r_same [h : Has G i_l_same f_l_same] {d : D} (hd : okD k d = true) : run G k i_l_same [d, d] S = .ok (.bl true) S := run_same h.h k d S hd
end
end PL

set_option Elab.async false
set_option linter.all false
set_option maxRecDepth 100000
set_option maxHeartbeats 1000000
/-! PM8: ranges. -/
namespace PL
open PySem
abbrev i_tidied : Nat := 28
/-- tidied: pairs 0 found 1 begin 2 end 3 -/
def b_tidied : T := (.asg 1 (.new (.lst .nil))
  (.for_ .plain (.bf .sorted (.cons (.var 0) .nil)) (.many [2, 3])
  (.ifs (.cmp .lt (.var 2) (.var 3))
  (.ifs (.and (.val (.var 1)) (.one (.cmp .le (.var 2) (.ix (.ix (.var 1) (.neg (.con (.int 1)))) (.con (.int 1))))))
  (.setI (.var 1) (.neg (.con (.int 1))) (.tup (.cons (.ix (.ix (.var 1) (.neg (.con (.int 1)))) (.con (.int 0))) (.cons (.bf .max (.cons (.ix (.ix (.var 1) (.neg (.con (.int 1)))) (.con (.int 1))) (.cons (.var 3) .nil))) .nil)))
  .nil)
  (.exp (.bm .append (.var 1) (.cons (.tup (.cons (.var 2) (.cons (.var 3) .nil))) .nil))
  .nil)
  .nil)
  .nil
  .nil)
  (.ret (.bf .tuple (.cons (.var 1) .nil)))))
def f_tidied : Fn := ⟨true, 1, 4, b_tidied⟩
abbrev i_together : Nat := 29
/-- together: one 0 other 1 -/
def b_together : T := (.ret (.call i_tidied (.cons (.bin .add (.var 0) (.var 1)) .nil)))
def f_together : Fn := ⟨true, 2, 2, b_together⟩
abbrev i_both : Nat := 30
/-- both: one 0 other 1 found 2 begin 3 end 4 low 5 high 6 -/
def b_both : T := (.asg 2 (.new (.lst .nil))
  (.for_ .plain (.var 0) (.many [3, 4])
  (.for_ .plain (.var 1) (.many [5, 6])
  (.exp (.bm .append (.var 2) (.cons (.tup (.cons (.bf .max (.cons (.var 3) (.cons (.var 5) .nil))) (.cons (.bf .min (.cons (.var 4) (.cons (.var 6) .nil))) .nil))) .nil))
  .nil)
  .nil)
  (.ret (.call i_tidied (.cons (.var 2) .nil)))))
def f_both : Fn := ⟨true, 2, 7, b_both⟩
abbrev i_without : Nat := 31
/-- without: one 0 other 1 found 2 begin 3 end 4 at 5 low 6 high 7 -/
def b_without : T := (.asg 2 (.new (.lst .nil))
  (.for_ .plain (.var 0) (.many [3, 4])
  (.asg 5 (.var 3)
  (.for_ .plain (.var 1) (.many [6, 7])
  (.ifs (.and (.cmp .lt (.var 6) (.var 4)) (.one (.cmp .gt (.var 7) (.var 5))))
  (.exp (.bm .append (.var 2) (.cons (.tup (.cons (.var 5) (.cons (.var 6) .nil))) .nil))
  (.asg 5 (.bf .max (.cons (.var 5) (.cons (.var 7) .nil)))
  .nil))
  .nil
  .nil)
  (.exp (.bm .append (.var 2) (.cons (.tup (.cons (.var 5) (.cons (.var 4) .nil))) .nil))
  .nil)))
  (.ret (.call i_tidied (.cons (.var 2) .nil)))))
def f_without : Fn := ⟨true, 2, 8, b_without⟩
abbrev i_count : Nat := 32
/-- count: ranges 0 begin 1 end 2 -/
def b_count : T := (.ret (.bf .sum (.cons (.comp .plain (.var 0) (.many [1, 2]) .emp (.bin .sub (.var 2) (.var 1))) .nil)))
def f_count : Fn := ⟨true, 1, 3, b_count⟩
/-! ### what they compute -/
abbrev PI : Type := Int × Int
section
variable {G : Tab} {k : Nat} {S : Store}
end
end PL

set_option Elab.async false
set_option linter.all false
set_option maxRecDepth 100000
set_option maxHeartbeats 1000000
/-! PM9: the mathematics of ranges. -/
namespace PL
open PySem
/-- x lies in one of them -/
def inR (ps : List PI) (x : Int) : Prop := ∃ p ∈ ps, p.1 ≤ x ∧ x < p.2
instance {ps : List PI} {x : Int} : Decidable (inR ps x) := by unfold inR; infer_instance
/-- in order, apart, none empty -/
def Can (ps : List PI) : Prop := ps.Pairwise (fun p q => p.2 < q.1) ∧ ∀ p ∈ ps, p.1 < p.2
@[simp] theorem inR_nil {x : Int} : ¬ inR [] x := by simp [inR]
@[simp] theorem inR_cons {p : PI} {ps : List PI} {x : Int} : inR (p :: ps) x ↔ (p.1 ≤ x ∧ x < p.2) ∨ inR ps x := by simp [inR]
@[simp] theorem inR_append {ps qs : List PI} {x : Int} : inR (ps ++ qs) x ↔ inR ps x ∨ inR qs x := by
  simp only [inR, List.mem_append]
  constructor
  · rintro ⟨p, h | h, r⟩
    · exact .inl ⟨p, h, r⟩
    · exact .inr ⟨p, h, r⟩
  · rintro (⟨p, h, r⟩ | ⟨p, h, r⟩)
    · exact ⟨p, .inl h, r⟩
    · exact ⟨p, .inr h, r⟩
theorem can_cons {p : PI} {ps : List PI} : Can (p :: ps) ↔ p.1 < p.2 ∧ (∀ q ∈ ps, p.2 < q.1) ∧ Can ps := by
  simp only [Can, List.pairwise_cons, List.mem_cons, forall_eq_or_imp]
  constructor
  · rintro ⟨⟨a, b⟩, c, d⟩; exact ⟨c, a, b, d⟩
  · rintro ⟨c, a, b, d⟩; exact ⟨⟨a, b⟩, c, d⟩
/-! ### tidied -/
/-! ### ranges of places -/
def width (ps : List PI) : Int := (ps.map fun p => p.2 - p.1).sum
section
variable {xs : List Int} (h : xs.Nodup)
end
/-! ### both, without -/
/-! ### places -/
end PL

set_option Elab.async false
set_option linter.all false
set_option maxRecDepth 100000
set_option maxHeartbeats 1000000
/-! PMA: the runs of the defs on ranges. -/
namespace PL
open PySem
/-- what tuple(..), sorted(..) read here: a list of pairs, a list of numbers, a dict's keys -/
def plD (ks : List Int) : D := .dct (ks.map fun i => (.inl i, .bl true))
theorem noRefK_pl : ∀ ks : List Int, noRefK (ks.map fun i => ((.inl i : Ky), D.bl true)) = true
  | [] => rfl
  | k :: ks => by simp [noRefK, noRef, noRefK_pl ks]
theorem getK_pl (x : Int) : ∀ ks : List Int, getK (ks.map fun i => ((.inl i : Ky), D.bl true)) (.inl x) = if x ∈ ks then some (.bl true) else none
  | [] => rfl
  | k :: ks => by
    simp only [List.map_cons, getK, getK_pl x ks, Sum.inl.injEq, List.mem_cons]
    by_cases e : k = x
    · simp [e]
    · have : ¬ x = k := fun h => e h.symm
      simp [e, this]
section
variable {G : Tab} {k : Nat} {S : Store} {ks : List Int}
@[simp] theorem noRef_pl : noRef (plD ks) = true := noRefK_pl ks
@[simp] theorem frzA_pl : frzA S (plD ks) = some (plD ks) := frzA_noRef noRef_pl
@[simp] theorem len_pl : bfD .len [plD ks] S = some (.int ks.length) := by
  show (some (((ks.map fun i => ((.inl i : Ky), D.bl true)).length : Nat))).map (fun (n : Nat) => D.int n) = _
  rw [List.length_map]; rfl
@[simp] theorem din_pl {x : Int} : dinD (.int x) (plD ks) S = some (decide (x ∈ ks)) := by
  show some (getK (ks.map fun i => ((.inl i : Ky), D.bl true)) (.inl x)).isSome = _
  rw [getK_pl]
  by_cases h : x ∈ ks <;> simp [h]
@[simp] theorem list_pl : bfD .list [plD ks] S = some (ll .int ks) := by
  show some (D.lst ((ks.map fun i => ((.inl i : Ky), D.bl true)).map fun p => kyD p.1)) = _
  rw [List.map_map]; rfl
@[simp] theorem mkIt_pl : mkIt .keys [plD ks] S = some (.items (ks.map .int)) := by
  show some (PL.Itr.items ((ks.map fun i => ((.inl i : Ky), D.bl true)).map fun p => kyD p.1)) = _
  rw [List.map_map]; rfl
@[simp high] theorem ev_new0 {G : Tab} {call : Calls} {env : Env} {S : Store} : ev G call (.new (.lst .nil)) env S = .ok (.ref S.length) (S ++ [.lst []]) := rfl
@[simp] theorem ok0 {xs : List D} : bmOk .append (.ref 0) [.lst xs] = true := rfl
noncomputable def compB (G : Tab) (call : Calls) (tg : Tg) (c e : E) (env : Env) (x : D) (S : Store) : R (Option D) := match bindT tg x env with
  | some env' => (mapT (ev G call c env' S)).bind fun k S => if k then (ev G call e env' S).bind fun y S => .ok (some y) S else .ok none S
  | none => .bad
theorem ev_comp {G : Tab} {call : Calls} {env : Env} {S : Store} {β : Type} {ik : IK} {src c e : E} {tg : Tg} {d : D} {enc : β → D} {p : β → Bool} (f : β → D) {xs : List β} (hs : ev G call src env S = .ok d S) (hi : mkIt ik (srcL ik d) S = some (.items (xs.map enc))) (hl : xs.length ≤ SZ) (h : ∀ x ∈ xs, compB G call tg c e env (enc x) S = .ok (if p x then some (f x) else none) S) :
    ev G call (.comp ik src tg c e) env S = .ok (.lst ((xs.filter p).map f)) S := by
  have := goComp_filter (body := qk ik (compB G call tg c e env)) (enc := enc) (p := p) (f := f) hl fun x hx => qk_ok (h x hx)
  show (ev G call src env S).bind _ = _
  rw [hs]
  simp only [R.bind_ok, hi]
  show (goComp (qk ik (compB G call tg c e env)) (xs.map enc) [] S).bind _ = _
  rw [this]
  rfl
theorem ev_compM {G : Tab} {call : Calls} {env : Env} {S : Store} {β : Type} {ik : IK} {src c e : E} {tg : Tg} {d : D} {enc : β → D} (f : β → D) {xs : List β} (hs : ev G call src env S = .ok d S) (hi : mkIt ik (srcL ik d) S = some (.items (xs.map enc))) (hl : xs.length ≤ SZ) (h : ∀ x ∈ xs, compB G call tg c e env (enc x) S = .ok (some (f x)) S) :
    ev G call (.comp ik src tg c e) env S = .ok (.lst (xs.map f)) S := by
  have := goComp_map (body := qk ik (compB G call tg c e env)) (enc := enc) (f := f) hl fun x hx => qk_ok (h x hx)
  show (ev G call src env S).bind _ = _
  rw [hs]
  simp only [R.bind_ok, hi]
  show (goComp (qk ik (compB G call tg c e env)) (xs.map enc) [] S).bind _ = _
  rw [this]
  rfl
theorem ev_bf1 {G : Tab} {call : Calls} {env : Env} {S : Store} {f : Bf} {a : E} : ev G call (.bf f (.cons a .nil)) env S = (ev G call a env S).bind fun d S => R.of (bfD f [d] S) S := by
  show ((ev G call a env S).bind fun x S => _).bind _ = _
  cases ev G call a env S <;> rfl
end
end PL

set_option Elab.async false
set_option linter.all false
set_option maxRecDepth 100000
set_option maxHeartbeats 1000000
/-! PMB: the laws' own defs on ranges. -/
namespace PL
open PySem
section
variable {G : Tab} {k : Nat} {S : Store}
theorem dF_lo {c p m : Int} (h : 0 < m) : 0 ≤ dF c p m := Int.emod_nonneg _ (by omega)
theorem dF_hi {c p m : Int} (h : 0 < m) : dF c p m < m := Int.emod_lt_of_pos _ h
end
end PL

set_option Elab.async false
set_option linter.all false
set_option maxRecDepth 100000
set_option maxHeartbeats 1000000
/-! PMC: the evaluator's equations one by one; a comprehension stays closed. -/
namespace PL
open PySem
section
variable {G : Tab} {call : Calls} {env : Env} {S : Store} {a b c e : E}
@[simp] theorem e_var {i : Nat} : ev G call (.var i) env S = match env[i]? with
    | some (some d) => .ok d S
    | _ => .bad := rfl
@[simp] theorem e_con {d : D} : ev G call (.con d) env S = .ok d S := rfl
@[simp] theorem e_glb {j : Nat} : ev G call (.glb j) env S = R.of (G.consts j) S := rfl
@[simp] theorem e_bin {o : BOp} : ev G call (.bin o a b) env S = (ev G call a env S).bind fun x S => (ev G call b env S).bind fun y S => R.of (bop o x y S) S := rfl
@[simp] theorem e_cmp {o : COp} : ev G call (.cmp o a b) env S = (ev G call a env S).bind fun x S => (ev G call b env S).bind fun y S => R.of ((cop o x y S).map .bl) S := rfl
@[simp] theorem e_chain {o o' : COp} : ev G call (.chain o o' a b c) env S = (ev G call a env S).bind fun x S => (ev G call b env S).bind fun y S => (R.of (cop o x y S) S).bind fun k S =>
      if k then (ev G call c env S).bind fun z S => R.of ((cop o' y z S).map .bl) S else .ok (.bl false) S := rfl
@[simp] theorem e_isn : ev G call (.isn a) env S = (ev G call a env S).bind fun x S => .ok (.bl (isNonD x)) S := rfl
@[simp] theorem e_ntn : ev G call (.ntn a) env S = (ev G call a env S).bind fun x S => .ok (.bl (!isNonD x)) S := rfl
@[simp] theorem e_neg : ev G call (.neg a) env S = (ev G call a env S).bind fun x S => R.of (negD x) S := rfl
@[simp] theorem e_nt : ev G call (.nt a) env S = (mapT (ev G call a env S)).bind fun k S => .ok (.bl (!k)) S := rfl
@[simp] theorem e_and : ev G call (.and a b) env S = (ev G call a env S).bind fun x S => (R.of (truthy x S) S).bind fun k S => if k then ev G call b env S else .ok x S := rfl
@[simp] theorem e_or : ev G call (.or a b) env S = (ev G call a env S).bind fun x S => (R.of (truthy x S) S).bind fun k S => if k then .ok x S else ev G call b env S := rfl
@[simp] theorem e_ite : ev G call (.ite c a b) env S = (mapT (ev G call c env S)).bind fun k S => if k then ev G call a env S else ev G call b env S := rfl
@[simp] theorem e_isa {t : Nat} : ev G call (.isa a t) env S = (ev G call a env S).bind fun x S => if notIns x S then .ok (.bl (isaD t x)) S else .bad := rfl
@[simp] theorem e_call {f : Nat} : ev G call (.call f a) env S = (ev G call a env S).bind fun xs S => call f (toTup xs) S := rfl
@[simp] theorem e_meth {c m : Nat} : ev G call (.meth c a m b) env S = (ev G call a env S).bind fun x S => match clsD x S, G.meth c m with
    | some c', some f => if c' = c then (ev G call b env S).bind fun xs S => call f (x :: toTup xs) S else .bad
    | _, _ => .bad := rfl
@[simp] theorem e_mk {c : Nat} : ev G call (.mk c a) env S = (ev G call a env S).bind fun xs S => match G.init c with
    | some f => (call f (.ref S.length :: toTup xs) (S ++ [.ins c []])).bind fun d S' => match d with
      | .non => .ok (.ref S.length) S'
      | _ => .bad
    | none => .bad := rfl
@[simp] theorem e_bf {f : Bf} : ev G call (.bf f a) env S = (ev G call a env S).bind fun xs S => R.of (bfD f (toTup xs) S) S := rfl
@[simp] theorem e_bm {m : Bm} : ev G call (.bm m a b) env S = (ev G call a env S).bind fun x S => if bmOk m x S then (ev G call b env S).bind fun xs S => bmD m x (toTup xs) S else .bad := rfl
@[simp] theorem e_ix : ev G call (.ix a b) env S = (ev G call a env S).bind fun x S => (ev G call b env S).bind fun y S => R.of (getD_ x y S) S := rfl
@[simp] theorem e_sl : ev G call (.sl a b c) env S = (ev G call a env S).bind fun x S => (if isEmp b then .ok none S else (ev G call b env S).bind fun d S => R.of (part d) S).bind fun l S => (if isEmp c then .ok none S else (ev G call c env S).bind fun d S => R.of (part d) S).bind fun h S => R.of (slD x l h S) S := rfl
@[simp] theorem e_fld {c f : Nat} : ev G call (.fld c a f) env S = (ev G call a env S).bind fun x S => if clsD x S = some c then R.of (fldD x f S) S else .bad := rfl
@[simp] theorem e_tup : ev G call (.tup a) env S = (ev G call a env S).bind fun xs S => R.of (mkTup (toTup xs)) S := rfl
@[simp] theorem e_lst : ev G call (.lst a) env S = (ev G call a env S).bind fun xs S => R.of (mkLst (toTup xs)) S := rfl
@[simp] theorem e_dict0 : ev G call .dict0 env S = .ok (.ref S.length) (S ++ [.dct []]) := rfl
@[simp] theorem e_fstr : ev G call (.fstr a) env S = (ev G call a env S).bind fun xs S => R.of ((catD (toTup xs)).map .str) S := rfl
@[simp] theorem e_fmt : ev G call (.fmt a) env S = (ev G call a env S).bind fun x S => R.of ((fmtD x).map .str) S := rfl
/-- a list for the store -/
def newL (d : D) (S : Store) : R D := match d with
  | .lst xs => .ok (.ref S.length) (S ++ [.lst xs])
  | _ => .bad
@[simp] theorem newL_lst {xs : List D} : newL (.lst xs) S = .ok (.ref S.length) (S ++ [.lst xs]) := rfl
@[simp] theorem newL_ll {α : Type} {f : α → D} {xs : List α} : newL (ll f xs) S = .ok (.ref S.length) (S ++ [.lst (xs.map f)]) := rfl
@[simp] theorem e_new : ev G call (.new a) env S = (ev G call a env S).bind newL := rfl
@[simp] theorem e_nil : ev G call .nil env S = .ok (.tup []) S := rfl
@[simp] theorem e_cons : ev G call (.cons a b) env S = (ev G call a env S).bind fun x S => (ev G call b env S).bind fun xs S => .ok (.tup (x :: toTup xs)) S := rfl
@[simp] theorem e_one : ev G call (.one e) env S = ev G call e env S := rfl
@[simp] theorem e_val : ev G call (.val e) env S = ev G call e env S := rfl
@[simp] theorem e_din {ng : Bool} : ev G call (.din ng a b) env S = (ev G call a env S).bind fun x S => (ev G call b env S).bind fun y S => R.of ((dinD x y S).map fun k => .bl (k != ng)) S := rfl
@[simp] theorem e_dix : ev G call (.dix a b) env S = (ev G call a env S).bind fun x S => (ev G call b env S).bind fun y S => R.of (dixD x y S) S := rfl
@[simp] theorem e_dT0 : ev G call .dT0 env S = .ok (.ref S.length) (S ++ [.dtt []]) := rfl
@[simp] theorem e_tdT : ev G call (.tdT a) env S = (ev G call a env S).bind fun x S => R.of ((dttR x S).map fun k => .bl (!k.isEmpty)) S := rfl
@[simp] theorem e_bfX {f : BX} : ev G call (.bfX f a) env S = (ev G call a env S).bind fun xs S => R.of (bxD f (toTup xs) S) S := rfl
@[simp] theorem e_bmX {m : BY} : ev G call (.bmX m a b) env S = (ev G call a env S).bind fun x S => if byOk m x S then (ev G call b env S).bind fun xs S => R.of (byD m x (toTup xs) S) S else .bad := rfl
@[simp] theorem e_emp : ev G call .emp env S = .ok (.bl true) S := rfl
end
end PL

set_option Elab.async false
set_option linter.all false
set_option maxRecDepth 100000
set_option maxHeartbeats 1000000
/-! PMD: loops that go while; the first places, pieces, texts of ranges. -/
namespace PL
open PySem
section
variable {G : Tab} {call : Calls}
end
abbrev i_range_text : Nat := 37
/-- range_text: ranges 0 begin 1 end 2 -/
def b_range_text : T := (.ret (.bm .join (.con (.str ",")) (.cons (.comp .plain (.var 0) (.many [1, 2]) .emp (.fstr (.cons (.fmt (.var 1)) (.cons (.con (.str "-")) (.cons (.fmt (.bin .sub (.var 2) (.con (.int 1)))) .nil))))) .nil)))
def f_range_text : Fn := ⟨true, 1, 3, b_range_text⟩
/-! ### mathematics -/
/-! ### texts -/
def txtI (i : Int) : Str := (toString i : String)
def rtxt (p : PI) : Str := txtI p.1 ++ "-" ++ txtI (p.2 - 1)
section
variable {S : Store} {i : Int}
theorem txtI_tl (h0 : 0 ≤ i) : TL.tl (txtI i) = TL.numL i.toNat := by
  obtain ⟨n, rfl⟩ := Int.eq_ofNat_of_zero_le h0
  exact TL.tl_num n
theorem txtI_len (h0 : 0 ≤ i) (h : i < 1000000000) : (txtI i).length ≤ 9 := by
  rw [TL.len_tl, txtI_tl h0]
  exact TL.numL_len (by decide) (by omega)
theorem fmt_int (h0 : 0 ≤ i) (h : i < 1000000000) : fmtD (.int i) = some (txtI i) := by
  show (if tst (0 ≤ i ∧ i < 10 ^ 100) then some (txtI i) else none) = _
  rw [if_pos (tst_iff.mpr ⟨h0, Int.lt_trans h (by decide)⟩)]
theorem add_str {a b : Str} (h : a.length + b.length ≤ 1000000) : bop .add (.str a) (.str b) S = some (.str (a ++ b)) := by
  show (if a.length + b.length ≤ SZ then some (D.str (a ++ b)) else none) = _
  rw [if_pos (by unfold SZ; omega)]
theorem strsD_map : ∀ ys : List Str, strsD (ys.map D.str) = some ys
  | [] => rfl
  | y :: ys => by simp [strsD, strsD_map ys]
theorem str_sum {n : Nat} : ∀ {ys : List Str}, (∀ y ∈ ys, y.length ≤ n) → (ys.map (·.length)).sum ≤ ys.length * n
  | [], _ => by simp
  | y :: ys, h => by
    have := str_sum (ys := ys) fun z hz => h z (by simp [hz])
    have := h y (by simp)
    simp only [List.map_cons, List.sum_cons, List.length_cons, Nat.succ_mul]
    omega
theorem join_lst {a : Str} {ys : List Str} (ha : a.length ≤ 10) (hn : ys.length ≤ 9000) (h : ∀ y ∈ ys, y.length ≤ 100) : bmD .join (.str a) [.lst (ys.map D.str)] S = .ok (.str (Txt.join a ys)) S := by
  have := str_sum h
  have m : ys.length * a.length ≤ 9000 * 10 := Nat.mul_le_mul hn ha
  show R.of (match strsD (ys.map D.str) with
    | some ys => if (ys.map (·.length)).sum + ys.length * a.length ≤ SZ then some (D.str (Txt.join a ys)) else none
    | none => none) S = _
  rw [strsD_map]
  simp only
  rw [if_pos (by unfold SZ; omega)]
  rfl
@[simp] theorem ok_join {a : Str} : bmOk .join (.str a) S = true := rfl
theorem rtxt_cat {p : PI} : catD [.str (txtI p.1), .str "-", .str (txtI (p.2 - 1))] = some (rtxt p) := by
  show some (txtI p.1 ++ (("-" : Str) ++ (txtI (p.2 - 1) ++ Str.empty))) = _
  congr 1
  refine TL.ext_tl ?_
  simp only [rtxt, TL.tl_append]
  simp [TL.tl, Str.empty]
end
section
variable {G : Tab} {k : Nat} {S : Store}
end
end PL

set_option Elab.async false
set_option linter.all false
set_option maxRecDepth 100000
set_option maxHeartbeats 1000000
/-! PME: marks as texts. -/
namespace PL
open PySem
abbrev i_mark_text : Nat := 14
/-- mark_text: mark 0 text 1 left 2 k 3 -/
def b_mark_text : T := (.asg 1 (.con (.str ""))
  (.asg 2 (.var 0)
  (.for_ .rng1 (.cons (.glb 3) .nil) (.one 3)
  (.asg 1 (.bin .add (.ix (.glb 2) (.bin .mod (.var 2) (.con (.int 16)))) (.var 1))
  (.asg 2 (.bin .fdiv (.var 2) (.con (.int 16)))
  .nil))
  (.ret (.var 1)))))
def f_mark_text : Fn := ⟨true, 1, 4, b_mark_text⟩
abbrev i_read_mark : Nat := 15
/-- read_mark: text 0 mark 1 sign 2 -/
def b_read_mark : T := (.ifs (.or (.cmp .ne (.bf .len (.cons (.var 0) .nil)) (.glb 3)) (.one (.nt (.val (.bf .all (.cons (.comp .plain (.var 0) (.one 2) .emp (.cmp .inn (.var 2) (.glb 2))) .nil))))))
  (.rais 0)
  .nil
  (.asg 1 (.con (.int 0))
  (.for_ .plain (.var 0) (.one 2)
  (.asg 1 (.bin .add (.bin .mul (.var 1) (.con (.int 16))) (.bm .find (.glb 2) (.cons (.var 2) .nil)))
  .nil)
  (.ifs (.cmp .ge (.var 1) (.glb 0))
  (.rais 0)
  .nil
  (.ret (.var 1))))))
def f_read_mark : Fn := ⟨true, 1, 3, b_read_mark⟩
/-! ### signs -/
/-- one sign -/
def sg (c : Nat) : Str := ⟨#[c]⟩
def sgD (c : Nat) : D := .str (sg c)
theorem tl_sg (c : Nat) : TL.tl (sg c) = [c] := rfl
theorem len_sg (c : Nat) : (sg c).length = 1 := rfl
def hexd : List Nat := [48, 49, 50, 51, 52, 53, 54, 55, 56, 57, 97, 98, 99, 100, 101, 102]
def hv (c : Nat) : Int := if c < 58 then (c : Int) - 48 else (c : Int) - 87
def dg (i : Nat) : Nat := if i < 10 then 48 + i else 87 + i
theorem fig_tl : (("0123456789abcdef" : Str)).cps.toList = hexd := by decide +kernel
theorem find_hex : ∀ c ∈ hexd, Txt.find "0123456789abcdef" (sg c) = hv c := by decide +kernel
theorem hv_dg : ∀ i < 16, hv (dg i) = i ∧ dg i ∈ hexd := by decide +kernel
section
variable {S : Store} {x : Str}
theorem len_str (h : x.length ≤ 1000000) : bfD .len [.str x] S = some (.int x.length) := by
  show (if x.length ≤ SZ then some x.length else none).map (fun (n : Nat) => D.int n) = _
  rw [if_pos (by unfold SZ; omega)]
  rfl
@[simp] theorem mkIt_str : mkIt .plain [.str x] S = some (.items (x.cps.toList.map sgD)) := rfl
theorem in_hex {c : Nat} : cop .inn (.str (sg c)) (.str "0123456789abcdef") S = some (decide (c ∈ hexd)) := by
  show some (!(Builtin.Str.occurrences ("0123456789abcdef" : Str) ⟨#[c]⟩ 0 ("0123456789abcdef" : Str).length 1).isEmpty) = _
  rw [PySem.StrLaws.found_one, fig_tl]
@[simp] theorem ok_find {a : Str} : bmOk .find (.str a) S = true := rfl
@[simp] theorem ok_index {a : Str} : bmOk .index (.str a) S = true := rfl
theorem find_str {a b : Str} : bmD .find (.str a) [.str b] S = .ok (.int (Txt.find a b)) S := rfl
@[simp] theorem small_16 : small 16 = true := small_of (by decide) (by decide)
theorem ix_str {z : Str} {i : Int} (h : z.length ≤ 1000) (h0 : 0 ≤ i) (h1 : i.toNat < z.length) : getD_ (.str z) (.int i) S = some (.str (sg (z.cps.toList.getD i.toNat 0))) := by
  show (if z.length ≤ SZ then (L2.atI z.cps.toList i).map fun c => D.str ⟨#[c]⟩ else none) = _
  rw [if_pos (by unfold SZ; omega), atI_nn h0, List.getElem?_eq_getElem (by rw [TL.len_tl] at h1; exact h1)]
  rw [List.getD_eq_getElem?_getD, List.getElem?_eq_getElem (by rw [TL.len_tl] at h1; exact h1)]
  rfl
theorem ix_fig {i : Int} (h0 : 0 ≤ i) (h1 : i < 16) : getD_ (.str "0123456789abcdef") (.int i) S = some (.str (sg (dg i.toNat))) := by
  have l : ("0123456789abcdef" : Str).length = 16 := by decide +kernel
  rw [ix_str (by rw [l]; decide) h0 (by rw [l]; omega), fig_tl]
  have : ∀ i < 16, hexd.getD i 0 = dg i := by decide +kernel
  rw [this i.toNat (by omega)]
end
/-! ### marks -/
/-- the signs of a mark -/
def mkT (m : Int) : List Nat := [dg (m / 268435456 % 16).toNat, dg (m / 16777216 % 16).toNat, dg (m / 1048576 % 16).toNat, dg (m / 65536 % 16).toNat, dg (m / 4096 % 16).toNat, dg (m / 256 % 16).toNat, dg (m / 16 % 16).toNat, dg (m % 16).toNat]
def mkS (m : Int) : Str := ⟨(mkT m).toArray⟩
theorem mkS_tl (m : Int) : TL.tl (mkS m) = mkT m := rfl
theorem mkS_len (m : Int) : (mkS m).length = 8 := rfl
def hexV (l : List Nat) : Int := l.foldl (fun a c => a * 16 + hv c) 0
def readF (x : Str) : Option Int := if x.length = 8 ∧ (x.cps.toList.all fun c => decide (c ∈ hexd)) = true then (if hexV x.cps.toList ≥ 2147483647 then none else some (hexV x.cps.toList)) else none
theorem dgs {m : Int} (h : 0 ≤ m) : ∀ k : Int, 0 < k → hv (dg (m / k % 16).toNat) = m / k % 16 ∧ dg (m / k % 16).toNat ∈ hexd := fun k hk => by
  have a : 0 ≤ m / k % 16 := Int.emod_nonneg _ (by decide)
  have b : m / k % 16 < 16 := Int.emod_lt_of_pos _ (by decide)
  obtain ⟨e, i⟩ := hv_dg (m / k % 16).toNat (by omega)
  exact ⟨by rw [e]; omega, i⟩
theorem read_mk {m : Int} (h0 : 0 ≤ m) (h1 : m < 2147483647) : readF (mkS m) = some m := by
  have d := dgs h0
  have d0 := d 1 (by decide)
  rw [Int.ediv_one] at d0
  have e : hexV (mkT m) = m := by
    simp only [hexV, mkT, List.foldl_cons, List.foldl_nil, (d 268435456 (by decide)).1, (d 16777216 (by decide)).1, (d 1048576 (by decide)).1, (d 65536 (by decide)).1, (d 4096 (by decide)).1, (d 256 (by decide)).1, (d 16 (by decide)).1, d0.1]
    omega
  have a : ((mkT m).all fun c => decide (c ∈ hexd)) = true := by
    simp only [mkT, List.all_cons, List.all_nil, (d 268435456 (by decide)).2, (d 16777216 (by decide)).2, (d 1048576 (by decide)).2, (d 65536 (by decide)).2, (d 4096 (by decide)).2, (d 256 (by decide)).2, (d 16 (by decide)).2, d0.2, decide_true, Bool.and_true, Bool.and_self]
  unfold readF
  rw [if_pos ⟨mkS_len m, a⟩]
  show (if hexV (mkT m) ≥ 2147483647 then none else some (hexV (mkT m))) = _
  rw [e, if_neg (by omega)]
section
variable {G : Tab} {k : Nat} {S : Store}
theorem r_mark_text [h : Has G i_mark_text f_mark_text] [h2 : HasC G 2 (.str "0123456789abcdef")] [h3 : HasC G 3 (.int 8)] {m : Int} (h0 : 0 ≤ m) : run G (k + 1) i_mark_text [.int m] S = .ok (.str (mkS m)) S := by
  refine pure_rt (h := h) (S' := []) rfl rfl (by simp [frzAs]) ?_ (frzR_scl rfl)
  simp [b_mark_text, startE]
  refine x_forF (P := fun r => r = _) (ik := .rng1) (xs := List.range 8) (enc := fun (k : Nat) => D.int k) (a0 := (("", m) : Str × Int)) (t0 := (none : Option D)) (d := .tup [.int 8])
    (fun a t => [some (.int m), some (.str a.1), some (.int a.2), t]) (fun _ => []) (fun a _ => (sg (dg (a.2 % 16).toNat) ++ a.1, a.2 / 16)) (fun i a => a.1.length = i) ?_ ?_ (show ("" : Str).length = 0 by decide +kernel) (fun j i a t hj hi => ?_) (fun t' hi => ?_)
  · simp
  · rw [srcL_rng1, toTup_tup, mkIt_rng1 (b62_of (by omega) (by omega)), rngD_map]; rfl
  · have hj' : j < 8 := by have := (List.getElem?_eq_some_iff.mp hj).1; simpa using this
    have a0 : 0 ≤ a.2 % 16 := Int.emod_nonneg _ (by decide)
    have a1 : a.2 % 16 < 16 := Int.emod_lt_of_pos _ (by decide)
    have ad := fun S => add_str (S := S) (a := sg (dg (a.2 % 16).toNat)) (b := a.1) (by rw [len_sg]; omega)
    have ix := fun S => ix_fig (S := S) a0 a1
    refine ⟨some (.int i), ?_, by rw [str_len_append, len_sg]; omega⟩
    simp [turnB, ix, ad]
  · have e : ((List.range 8).foldl (fun (a : Str × Int) (_ : Nat) => (sg (dg (a.2 % 16).toNat) ++ a.1, a.2 / 16)) (("", m) : Str × Int)).1 = mkS m := by
      refine TL.ext_tl ?_
      rw [mkS_tl]
      simp only [show List.range 8 = [0, 1, 2, 3, 4, 5, 6, 7] from rfl, List.foldl_cons, List.foldl_nil, TL.tl_append, tl_sg, mkT]
      rw [show TL.tl ("" : Str) = [] by decide +kernel]
      simp only [List.cons_append, List.nil_append]
      rw [show m / 16 / 16 = m / 256 by omega, show m / 256 / 16 = m / 4096 by omega, show m / 4096 / 16 = m / 65536 by omega, show m / 65536 / 16 = m / 1048576 by omega, show m / 1048576 / 16 = m / 16777216 by omega, show m / 16777216 / 16 = m / 268435456 by omega]
    simp only [x_ret]
    rw [e_var]
    simp [e]
/-- read_mark's answer -/
theorem r_read_mark [h : Has G i_read_mark f_read_mark] [h0 : HasC G 0 (.int 2147483647)] [h2 : HasC G 2 (.str "0123456789abcdef")] [h3 : HasC G 3 (.int 8)] {x : Str} (hx : x.length ≤ 1000000) :
    run G (k + 1) i_read_mark [.str x] S = (match readF x with | some m => .ok (.int m) S | none => .ex 0 S) := by
  have cm : ∀ t1 t2, ev G (run G k) (.comp .plain (.var 0) (.one 2) .emp (.cmp .inn (.var 2) (.glb 2))) [some (.str x), t1, t2] [] = .ok (.lst (x.cps.toList.map fun c => .bl (decide (c ∈ hexd)))) [] := fun t1 t2 =>
    ev_compM (enc := sgD) (xs := x.cps.toList) (d := .str x) (fun c => .bl (decide (c ∈ hexd))) (by simp) (by simp) (by rw [← TL.len_tl]; unfold SZ; omega) (fun c hc => by simp [compB, sgD, in_hex])
  have al : bfD .all [.lst (x.cps.toList.map fun c => .bl (decide (c ∈ hexd)))] [] = some (.bl (x.cps.toList.all fun c => decide (c ∈ hexd))) := bf_all_map
  have ls := fun S => len_str (S := S) hx
  have start : ∀ r, exT G (run G k) b_read_mark [some (.str x), none, none] [] = r → run G (k + 1) i_read_mark [.str x] S = fin S r := fun r e => by
    rw [run_pure h.h rfl (as' := [.str x]) (by simp [frzAs]), ← e]
    rfl
  by_cases hl : x.length = 8
  · by_cases ha : (x.cps.toList.all fun c => decide (c ∈ hexd)) = true
    · have hin : ∀ c ∈ x.cps.toList, c ∈ hexd := fun c hc => of_decide_eq_true (List.all_eq_true.mp ha c hc)
      have e : readF x = if hexV x.cps.toList ≥ 2147483647 then none else some (hexV x.cps.toList) := by unfold readF; rw [if_pos ⟨hl, ha⟩]
      have main : exT G (run G k) b_read_mark [some (.str x), none, none] [] = (if hexV x.cps.toList ≥ 2147483647 then .ex 0 [some (.str x), some (.int (hexV x.cps.toList)), (x.cps.toList.getLast?.map sgD)] [] else .rt (.int (hexV x.cps.toList)) []) ∨ True := .inr trivial
      by_cases hg : hexV x.cps.toList ≥ 2147483647
      · rw [e, if_pos hg]
        suffices ∃ env', exT G (run G k) b_read_mark [some (.str x), none, none] [] = .ex 0 env' [] by
          obtain ⟨env', e'⟩ := this
          exact (start _ e').trans rfl
        simp [b_read_mark, ls, hl, cm, al, ha]
        refine x_forF (P := fun r => ∃ env', r = RS.ex 0 env' []) (ik := .plain) (xs := x.cps.toList) (enc := sgD) (a0 := (0 : Int)) (t0 := (none : Option D)) (d := .str x)
          (fun a t => [some (.str x), some (.int a), t]) (fun _ => []) (fun a c => a * 16 + hv c) (fun _ _ => True) (by simp) (by simp) trivial (fun j c a t hj _ => ?_) (fun t' _ => ?_)
        · have := find_hex c (hin c (List.mem_of_getElem? hj))
          exact ⟨some (sgD c), by simp [turnB, sgD, find_str, this], trivial⟩
        · show ∃ env', exT G _ _ [some (.str x), some (.int (hexV x.cps.toList)), t'] [] = _
          simp [hg]
      · rw [e, if_neg hg]
        refine (start (.rt (.int (hexV x.cps.toList)) []) ?_).trans rfl
        simp [b_read_mark, ls, hl, cm, al, ha]
        refine x_forF (P := fun r => r = _) (ik := .plain) (xs := x.cps.toList) (enc := sgD) (a0 := (0 : Int)) (t0 := (none : Option D)) (d := .str x)
          (fun a t => [some (.str x), some (.int a), t]) (fun _ => []) (fun a c => a * 16 + hv c) (fun _ _ => True) (by simp) (by simp) trivial (fun j c a t hj _ => ?_) (fun t' _ => ?_)
        · have := find_hex c (hin c (List.mem_of_getElem? hj))
          exact ⟨some (sgD c), by simp [turnB, sgD, find_str, this], trivial⟩
        · show exT G _ _ [some (.str x), some (.int (hexV x.cps.toList)), t'] [] = _
          have hg' : ¬ 2147483647 ≤ hexV x.cps.toList := hg
          simp [hg']
    · have e : readF x = none := by unfold readF; rw [if_neg fun h => ha h.2]
      rw [e]
      have ha' : (x.cps.toList.all fun c => decide (c ∈ hexd)) = false := by simpa using ha
      refine (start (.ex 0 [some (.str x), none, none] []) ?_).trans rfl
      simp [b_read_mark, ls, hl, cm, al, ha']
  · have e : readF x = none := by unfold readF; rw [if_neg fun h => hl h.1]
    rw [e]
    refine (start (.ex 0 [some (.str x), none, none] []) ?_).trans rfl
    have hl' : ¬ (x.length : Int) = 8 := by omega
    simp [b_read_mark, ls, hl']
end
end PL

set_option Elab.async false
set_option linter.all false
set_option maxRecDepth 100000
set_option maxHeartbeats 1000000
/-! PMF: a for over a list in the store; slices with a step. -/
namespace PL
open PySem
section
variable {G : Tab} {call : Calls} {env : Env} {S : Store}
@[simp] theorem e_sl3 {a b c : E} {st : Int} : ev G call (.sl3 a b c st) env S = (ev G call a env S).bind fun x S => (if isEmp b then .ok none S else (ev G call b env S).bind fun d S => R.of (part d) S).bind fun l S => (if isEmp c then .ok none S else (ev G call c env S).bind fun d S => R.of (part d) S).bind fun h S => R.of (sl3D x l h st S) S := rfl
end
end PL

set_option Elab.async false
set_option linter.all false
set_option maxRecDepth 100000
set_option maxHeartbeats 1000000
/-! PML: sayings of runs: loops by an invariant of env and store. -/
namespace PL
open PySem
def Sat (P : RS → Prop) (r : RS) : Prop := P r
/-- goes on with Q, or else P -/
def NX (P : RS → Prop) (Q : Env → Store → Prop) : RS → Prop
  | .nx e S => Q e S
  | r => P r
/-- a pure def's end -/
def FinP (S : Store) (o : R D) : RS → Prop := fun r => fin S r = o
def finI : RS → R D
  | .nx _ S => .ok .non S
  | .rt d S => .ok d S
  | .ex c _ S => .ex c S
  | .bad => .bad
def FinI (o : R D) : RS → Prop := fun r => finI r = o
section
variable {P : RS → Prop} {Q : Env → Store → Prop} {S S' : Store} {e : Env} {d : D} {c : Nat} {o : R D}
@[simp] theorem sat_nx : Sat (NX P Q) (.nx e S) ↔ Q e S := Iff.rfl
@[simp] theorem sat_rt : Sat (NX P Q) (.rt d S) ↔ Sat P (.rt d S) := Iff.rfl
@[simp] theorem sat_ex : Sat (NX P Q) (.ex c e S) ↔ Sat P (.ex c e S) := Iff.rfl
@[simp] theorem sat_finP_rt : Sat (FinP S o) (.rt d S') ↔ R.of (frzR S' d) S = o := Iff.rfl
@[simp] theorem sat_finP_nx : Sat (FinP S o) (.nx e S') ↔ R.ok .non S = o := Iff.rfl
@[simp] theorem sat_finP_ex : Sat (FinP S o) (.ex c e S') ↔ R.ex c S = o := Iff.rfl
@[simp] theorem sat_finI_rt : Sat (FinI o) (.rt d S') ↔ R.ok d S' = o := Iff.rfl
@[simp] theorem sat_finI_nx : Sat (FinI o) (.nx e S') ↔ R.ok .non S' = o := Iff.rfl
@[simp] theorem sat_finI_ex : Sat (FinI o) (.ex c e S') ↔ R.ex c S' = o := Iff.rfl
end
@[simp] theorem frzR_scl' {S : Store} {d : D} (h : scl d = true) : frzR S d = some d := frzR_scl h
@[simp] theorem frzR_tl {α : Type} {f : α → D} {xs : List α} {S : Store} [o : Okf f] : frzR S (tl f xs) = some (tl f xs) := frzR_scl scl_tl
@[simp] theorem frzR_int {S : Store} {i : Int} : frzR S (.int i) = some (.int i) := rfl
@[simp] theorem frzR_bl {S : Store} {i : Bool} : frzR S (.bl i) = some (.bl i) := rfl
@[simp] theorem frzR_str {S : Store} {i : Str} : frzR S (.str i) = some (.str i) := rfl
@[simp] theorem frzR_non {S : Store} : frzR S .non = some .non := rfl
@[simp] theorem frzR_ref {S : Store} {α : Type} {f : α → D} {xs : List α} [o : Okf f] : frzR (.lst (xs.map f) :: S) (.ref 0) = some (ll f xs) := by
  show (if scls (xs.map f) then some (D.lst (xs.map f)) else none) = _
  rw [if_pos (scls_map o.sc xs)]
  rfl
@[simp] theorem bindT2 {a b : Nat} {x y : D} {env : Env} : bindT (.many [a, b]) (.tup [x, y]) env = some ((env.set a (some x)).set b (some y)) := rfl
@[simp] theorem bindT3 {a b c : Nat} {x y z : D} {env : Env} : bindT (.many [a, b, c]) (.tup [x, y, z]) env = some (((env.set a (some x)).set b (some y)).set c (some z)) := rfl
@[simp] theorem bindT4 {a b c d : Nat} {x y z w : D} {env : Env} : bindT (.many [a, b, c, d]) (.tup [x, y, z, w]) env = some ((((env.set a (some x)).set b (some y)).set c (some z)).set d (some w)) := rfl
section
variable {G : Tab} {call : Calls} {env : Env} {S : Store}
theorem pure_W {i k np nl : Nat} {b : T} {as as' : List D} {o : R D} {F : Fn} [h : Has G i F] (hF : F = ⟨true, np, nl, b⟩) (hl : as.length = np) (hf : frzAs S as = some as') (he : Sat (FinP S o) (exT G (run G k) b (startE nl as') [])) :
    run G (k + 1) i as S = o := by
  rw [run_pure (hF ▸ h.h) hl hf]
  exact he
theorem imp_W {i k np nl : Nat} {b : T} {as : List D} {o : R D} {F : Fn} [h : Has G i F] (hF : F = ⟨false, np, nl, b⟩) (hl : as.length = np) (he : Sat (FinI o) (exT G (run G k) b (startE nl as) S)) :
    run G (k + 1) i as S = o := by
  have hg : G.fns i = some ⟨false, np, nl, b⟩ := hF ▸ h.h
  have : run G (k + 1) i as S = finI (exT G (run G k) b (startE nl as) S) := by
    simp only [run, hg]
    rw [if_neg (by simpa using hl)]
    simp only [Bool.false_eq_true, if_false]
    cases exT G (run G k) b (startE nl as) S <;> rfl
  rw [this]
  exact he
theorem goFor_W {β : Type} {P : RS → Prop} {body : D → Env → Store → RS} {enc : β → D} {f : Env → Store → RS} {I : Nat → Env → Store → Prop} {n : Nat} :
    ∀ (xs : List β) (i : Nat) (env : Env) (S : Store), I i env S → (∀ j x env S, xs[j]? = some x → I (i + j) env S → Sat (NX P (I (i + j + 1))) (body (enc x) env S)) →
    i + xs.length = n → (∀ env S, I n env S → Sat P (f env S)) → Sat P ((goFor body (xs.map enc) env S).andThen f)
  | [], i, env, S, h0, _, hn, hk => by
    subst hn
    exact hk env S h0
  | x :: xs, i, env, S, h0, h, hn, hk => by
    have h1 := h 0 x env S rfl h0
    simp only [List.map_cons, goFor]
    cases e : body (enc x) env S with
    | nx env' S' =>
      rw [e] at h1
      simp only [RS.andThen_nx]
      refine goFor_W xs (i + 1) env' S' h1 (fun j y b u hj hi => ?_) (by rw [← hn, List.length_cons]; omega) hk
      have q := h (j + 1) y b u (by simpa using hj) (by rw [show i + (j + 1) = i + 1 + j by omega]; exact hi)
      rw [show i + (j + 1) + 1 = i + 1 + j + 1 by omega] at q
      exact q
    | rt d S' => rw [e] at h1; exact h1
    | ex c e' S' => rw [e] at h1; exact h1
    | bad => rw [e] at h1; exact h1
/-- a for, by an invariant of env and store -/
theorem x_forWS {β : Type} {P : RS → Prop} {ik : IK} {src : E} {b k : T} {tg : Tg} (I : Nat → Env → Store → Prop) {enc : β → D} {xs : List β} {d : D} {S' : Store}
    (hs : ev G call src env S = .ok d S') (hi : mkIt ik (srcL ik d) S' = some (.items (xs.map enc))) (h0 : I 0 env S')
    (h : ∀ j x env S, xs[j]? = some x → I j env S → Sat (NX P (I (j + 1))) (turnB G call b tg (enc x) env S))
    (hk : ∀ env S, I xs.length env S → Sat P (exT G call k env S)) : Sat P (exT G call (.for_ ik src tg b k) env S) := by
  rw [x_for_eq, hs]
  simp only [R.stm_ok, hi, goForI]
  refine goFor_W xs 0 env S' h0 (fun j x env S hj hI => ?_) (Nat.zero_add _) hk
  rw [Nat.zero_add] at hI ⊢
  exact h j x env S hj hI
theorem x_forW {β : Type} {P : RS → Prop} {ik : IK} {src : E} {b k : T} {tg : Tg} (I : Nat → Env → Store → Prop) {enc : β → D} {xs : List β} {d : D}
    (hs : ev G call src env S = .ok d S) (hi : mkIt ik (srcL ik d) S = some (.items (xs.map enc))) (h0 : I 0 env S)
    (h : ∀ j x env S, xs[j]? = some x → I j env S → Sat (NX P (I (j + 1))) (turnB G call b tg (enc x) env S))
    (hk : ∀ env S, I xs.length env S → Sat P (exT G call k env S)) : Sat P (exT G call (.for_ ik src tg b k) env S) := x_forWS I hs hi h0 h hk
/-- a while: the measure falls -/
theorem x_whlW {P : RS → Prop} {c : E} {b k : T} (I : Nat → Env → Store → Prop) {m0 : Nat} (h0 : I m0 env S) (hm : m0 < 1000000000)
    (h : ∀ m env S, I m env S → ∃ t S', mapT (ev G call c env S) = .ok t S' ∧ (if t then Sat (NX P (fun e s => ∃ m', m' < m ∧ I m' e s)) (exT G call b env S') else Sat P (exT G call k env S'))) :
    Sat P (exT G call (.whl c b k) env S) := by
  have key : ∀ (n m : Nat) (env : Env) (S : Store), I m env S → m < n → Sat P ((goWhl (fun env S => mapT (ev G call c env S)) (fun env S => exT G call b env S) n env S).andThen fun env S => exT G call k env S) := by
    intro n
    induction n with
    | zero => intro m env S _ h; omega
    | succ n ih =>
      intro m env S hI hl
      obtain ⟨t, S', e, q⟩ := h m env S hI
      simp only [goWhl, e, R.stm_ok]
      cases t with
      | false => simpa using q
      | true =>
        simp only [if_true] at q ⊢
        cases eb : exT G call b env S' with
        | nx env' S'' =>
          rw [eb] at q
          obtain ⟨m', hm', hI'⟩ := q
          simp only [RS.andThen_nx]
          exact ih m' env' S'' hI' (by omega)
        | rt d S' => rw [eb] at q; exact q
        | ex c e' S' => rw [eb] at q; exact q
        | bad => rw [eb] at q; exact q
  show Sat P ((goWhl _ _ LOOP env S).andThen _)
  exact key LOOP m0 env S h0 (by rw [LOOP_eq]; exact hm)
end
end PL
namespace PL
open PySem
section
variable {G : Tab} {call : Calls} {env : Env} {S : Store}
/-- both ways of an if lead to one saying -/
theorem x_ifsW {P : RS → Prop} {c : E} {a b k : T} {t : Bool} {S' : Store} (Q : Env → Store → Prop) (hc : mapT (ev G call c env S) = .ok t S') (ha : t = true → Sat (NX P Q) (exT G call a env S')) (hb : t = false → Sat (NX P Q) (exT G call b env S')) (hk : ∀ e s, Q e s → Sat P (exT G call k e s)) :
    Sat P (exT G call (.ifs c a b k) env S) := by
  rw [x_ifs, hc]
  simp only [R.stm_ok]
  have key : ∀ r, Sat (NX P Q) r → Sat P (r.andThen fun env S => exT G call k env S) := fun r h => by
    cases r with
    | nx e s => exact hk e s h
    | _ => exact h
  cases t with
  | true => exact key _ (ha rfl)
  | false => exact key _ (hb rfl)
@[simp] theorem sl_tup {xs : List D} {lo hi : Option Int} : slD (.tup xs) lo hi S = some (.tup (cutD xs lo hi)) := rfl
@[simp] theorem list_tup {xs : List D} : bfD .list [.tup xs] S = some (.lst xs) := rfl
end
theorem cutD_mem {α : Type} {xs : List α} {lo hi : Option Int} {x : α} (h : x ∈ cutD xs lo hi) : x ∈ xs := List.mem_of_mem_drop (List.mem_of_mem_take h)
theorem cutD_len {α : Type} {xs : List α} {lo hi : Option Int} : (cutD xs lo hi).length ≤ xs.length := by
  simp only [cutD, List.length_take, List.length_drop]; omega
end PL

set_option Elab.async false
set_option linter.all false
set_option maxRecDepth 100000
set_option maxHeartbeats 1000000
/-! PMN: blocks: many_blocks, block_range, table_of, right_ranges. -/
namespace PL
open PySem
abbrev i_block_range : Nat := 95
/-- block_range: total 0 size 1 k 2 -/
def b_block_range : T := (.ret (.tup (.cons (.bin .mul (.var 2) (.var 1)) (.cons (.bf .min (.cons (.var 0) (.cons (.bin .mul (.bin .add (.var 2) (.con (.int 1))) (.var 1)) .nil))) .nil))))
def f_block_range : Fn := ⟨true, 3, 3, b_block_range⟩
section
variable {G : Tab} {call : Calls} {env : Env} {S : Store} {k : Nat}
/-! store reads, unfolded -/
@[simp] theorem lst_ref {n : Nat} : lstOf (.ref n) S = (match S[n]? with | some (.lst xs) => some xs | _ => none) := rfl
@[simp] theorem seq_ref {n : Nat} : seqOf (.ref n) S = lstOf (.ref n) S := rfl
@[simp] theorem truthy_ref {n : Nat} : truthy (.ref n) S = (match S[n]? with | some (.lst xs) => some (!xs.isEmpty) | some (.dct xs) => some (!xs.isEmpty) | _ => none) := rfl
@[simp] theorem sl_ref {n : Nat} {lo hi : Option Int} : slD (.ref n) lo hi S = (match lstOf (.ref n) S with | some xs => some (.lst (cutD xs lo hi)) | none => none) := rfl
@[simp] theorem ix_refI {n : Nat} {i : Int} : getD_ (.ref n) (.int i) S = (match lstOf (.ref n) S with | some xs => L2.atI xs i | none => none) := rfl
@[simp] theorem tuple_ref {n : Nat} : bfD .tuple [.ref n] S = (lstOf (.ref n) S).map .tup := rfl
theorem len_refL {n : Nat} {xs : List D} (h : S[n]? = some (.lst xs)) : bfD .len [.ref n] S = some (.int xs.length) := by
  simp only [bfD, lenF, lenD, seqOf, lstOf, h, Option.map_some]
@[simp] theorem truthy_lst {xs : List D} : truthy (.lst xs) S = some (!xs.isEmpty) := rfl
@[simp] theorem len_lst {xs : List D} : bfD .len [.lst xs] S = some (.int xs.length) := rfl
theorem ix_lst {xs : List D} {i : Int} : getD_ (.lst xs) (.int i) S = L2.atI xs i := rfl
theorem ix_tup {xs : List D} {i : Int} : getD_ (.tup xs) (.int i) S = L2.atI xs i := rfl
theorem ix0_tup {x : D} {xs : List D} : getD_ (.tup (x :: xs)) (.int 0) S = some x := by rw [ix_tup, atI_nn (by decide)]; rfl
@[simp] theorem len_ref0 {xs : List D} {S : Store} : bfD .len [.ref 0] (.lst xs :: S) = some (.int xs.length) := len_refL rfl
@[simp] theorem len_ref1 {xs : List D} {a : Ob} {S : Store} : bfD .len [.ref 1] (a :: .lst xs :: S) = some (.int xs.length) := len_refL rfl
@[simp] theorem list_refL {n : Nat} {xs : List D} (h : S[n]? = some (.lst xs)) : bfD .list [.ref n] S = some (.lst xs) := by
  simp only [bfD, listF, itemsOf, seqOf, lstOf, h, Option.map_some]
theorem setI_refL {n : Nat} {xs : List D} {i : Int} {v : D} (h : S[n]? = some (.lst xs)) (h0 : 0 ≤ i) (h1 : i < xs.length) : setIx (.ref n) (.int i) v S = some (S.set n (.lst (xs.set i.toNat v))) := by
  show (match S[n]?, D.int i with
    | some (.lst xs), .int k => (L2.ixN xs.length k).map fun j => S.set n (.lst (xs.set j v))
    | some (.dct kvs), i => if kvs.length < SZ then (keyOf i).map fun k => S.set n (.dct (setK kvs k v)) else none
    | _, _ => none) = _
  rw [h]
  have : L2.ixN xs.length i = some i.toNat := by
    unfold L2.ixN
    rw [if_pos h0, if_pos h1]
  simp only [this, Option.map_some]
theorem range_get {m j x : Nat} (h : (List.range m)[j]? = some x) : x = j ∧ j < m := by
  have lt := (List.getElem?_eq_some_iff.mp h).1
  rw [List.length_range] at lt
  rw [List.getElem?_range lt] at h
  cases h
  exact ⟨rfl, lt⟩
theorem bf_min2 {i j : Int} : bfD .min [.int i, .int j] S = some (.int (min i j)) := by
  rw [bf_min]; congr 2; omega
theorem bf_max2 {i j : Int} : bfD .max [.int i, .int j] S = some (.int (max i j)) := by
  rw [bf_max]; congr 2; omega
def nB (n z : Nat) : Nat := (n + z - 1) / z
def bg (z k : Nat) : Int := ((k * z : Nat) : Int)
def en (n z k : Nat) : Int := ((min n ((k + 1) * z) : Nat) : Int)
def blk (xs : List Int) (z k : Nat) : List Int := (xs.drop (k * z)).take z
def brF (n z k : Nat) : PI := (bg z k, en n z k)
theorem r_block_range [h : Has G i_block_range f_block_range] {n z j : Nat} (hz : z < 1000000) : run G (k + 1) i_block_range [.int n, .int z, .int j] S = .ok (pairD (brF n z j)) S := by
  refine pure_W (h := h) rfl rfl (by simp [frzAs]; rfl) ?_
  have e2 : ∀ a S, bop .mul (.int a) (.int (z : Int)) S = some (.int (a * z)) := fun a S => bop_mul_r (small_of (by omega) (by omega))
  have e : min (n : Int) (((j : Int) + 1) * z) = ((min n ((j + 1) * z) : Nat) : Int) := by
    have : ((j : Int) + 1) * z = (((j + 1) * z : Nat) : Int) := by simp
    rw [this]; omega
  simp [b_block_range, startE, e2, bf_min2, e, -bf_min, scl, scls]
  simp [pairD, brF, bg, en]
theorem ev_compG {α β : Type} {ik : IK} {src c e : E} {tg : Tg} {d : D} {enc : β → D} (fo : α → D) (g : β → α) {xs : List β} (hs : ev G call src env S = .ok d S) (hi : mkIt ik (srcL ik d) S = some (.items (xs.map enc))) (hl : xs.length ≤ SZ) (h : ∀ x ∈ xs, compB G call tg c e env (enc x) S = .ok (some (fo (g x))) S) :
    ev G call (.comp ik src tg c e) env S = .ok (ll fo (xs.map g)) S := by
  rw [ll, List.map_map]
  exact ev_compM (fun x => fo (g x)) hs hi hl h
theorem enumG {α : Type} {f : α → D} (d : α) (xs : List α) : (((List.range xs.length).zip xs).map fun p => D.tup [.int (p.1 : Nat), f p.2]) = (List.range xs.length).map fun k => D.tup [.int (k : Nat), f (xs.getD k d)] := by
  refine List.ext_getElem (by simp) fun i h1 h2 => ?_
  simp at h1
  simp [h1]
theorem mkIt_enumG {α : Type} {f : α → D} {xs : List α} (d : α) : mkIt .enum [tl f xs] S = some (.items ((List.range xs.length).map fun k => D.tup [.int (k : Nat), f (xs.getD k d)])) := by
  rw [mkIt_enumtl, enumG d]
end
end PL

set_option Elab.async false
set_option linter.all false
set_option maxRecDepth 100000
set_option maxHeartbeats 1000000
/-! PMO: found_blocks, found by hand, files of pieces. -/
namespace PL
open PySem
section
variable {G : Tab} {call : Calls} {env : Env} {S : Store} {k : Nat}
theorem app_ok {n : Nat} {xs : List D} (h : S[n]? = some (.lst xs)) : bmOk .append (.ref n) S = true := by
  simp only [bmOk, isLstR, isDctR, h]
/-- how long a block is -/
def widF (n z k : Nat) : Nat := min n ((k + 1) * z) - k * z
/-! files of pieces -/
def Byt (xs : List Int) : Prop := ∀ x ∈ xs, 0 ≤ x ∧ x < 256
theorem byt_bytes (c : Int) (n : Nat) : Byt (bytesF c n) := by
  intro x h
  simp only [bytesF, List.mem_map] at h
  obtain ⟨k, _, rfl⟩ := h
  unfold byteF
  exact ⟨Int.emod_nonneg _ (by decide), Int.emod_lt_of_pos _ (by decide)⟩
theorem len_bytes (c : Int) (n : Nat) : (bytesF c n).length = n := by simp [bytesF]
end
end PL

set_option Elab.async false
set_option linter.all false
set_option maxRecDepth 100000
set_option maxHeartbeats 1000000
/-! PMP: plan, to_fetch, built, mended. -/
namespace PL
open PySem
abbrev ST : Type := Bool × Int × Int
def stD (s : ST) : D := .tup [.str (if s.1 then "fetch" else "copy"), .int s.2.1, .int s.2.2]
instance : Okf stD := ⟨fun _ => rfl, fun _ => rfl⟩
section
variable {G : Tab} {call : Calls} {env : Env} {S : Store} {k : Nat}
end
end PL

set_option Elab.async false
set_option linter.all false
set_option maxRecDepth 100000
set_option maxHeartbeats 1000000
/-! PMQ: what steps make: plain laws of plan. -/
namespace PL
open PySem
def isF (s : ST) : Bool := s.1
def prF (s : ST) : PI := (s.2.1, s.2.2)
def fetF (ss : List ST) : List PI := (ss.filter isF).map prF
def outS (old new : List Int) (s : ST) : List Int := if s.1 then cutD new (some s.2.1) (some s.2.2) else cutD old (some s.2.1) (some (s.2.1 + s.2.2))
def contF (old new : List Int) (fo : List (Option Int)) (z n k : Nat) : List Int := match fo.getD k none with
  | none => blk new z k
  | some p => cutD old (some p) (some (p + (widF n z k : Nat)))
@[simp] theorem fet_t (a e : Int) : fetF [(true, a, e)] = [(a, e)] := rfl
@[simp] theorem fet_f (a e : Int) : fetF [(false, a, e)] = [] := rfl
/-- what the steps ahead of j make, and their last one -/
structure PlanI (old new : List Int) (fo : List (Option Int)) (z n j : Nat) (acc : List ST) : Prop where
  out : acc.flatMap (outS old new) = (List.range j).flatMap (contF old new fo z n)
  lastT : ∀ a e, acc.getLast? = some (true, a, e) → 0 ≤ a ∧ a < e ∧ e = min (n : Int) ((j * z : Nat) : Int)
  lastC : ∀ a w, acc.getLast? = some (false, a, w) → 0 ≤ a ∧ 0 ≤ w
  can : Can (fetF acc)
  mem : ∀ x, inR (fetF acc) x ↔ ∃ k, k < j ∧ fo.getD k none = none ∧ bg z k ≤ x ∧ x < en n z k
  lt : ∀ p ∈ fetF acc, p.2 ≤ ((j * z : Nat) : Int)
  lt' : (∀ a e, acc.getLast? ≠ some (true, a, e)) → ∀ p ∈ fetF acc, p.2 < ((j * z : Nat) : Int) ∨ j = 0
  wd : width (fetF acc) = ((List.range j).filter fun k => (fo.getD k none).isNone).foldr (fun k a => ((widF n z k : Nat) : Int) + a) 0
/-! blocks of what is made -/
section
variable {old new : List Int} {fo : List (Option Int)} {z n : Nat}
theorem byt_cut {xs : List Int} {lo hi : Option Int} (h : Byt xs) : Byt (cutD xs lo hi) := fun x m => h x (cutD_mem m)
end
end PL

set_option Elab.async false
set_option linter.all false
set_option maxRecDepth 100000
set_option maxHeartbeats 1000000
/-! PMR: runs of to_fetch, built, the law's own plan, mended. -/
namespace PL
open PySem
section
variable {G : Tab} {call : Calls} {env : Env} {S : Store} {k : Nat}
theorem ix1_tup {a b : D} {xs : List D} : getD_ (.tup (a :: b :: xs)) (.int 1) S = some b := by rw [ix_tup, atI_nn (by decide)]; rfl
theorem ix2_tup {a b c : D} {xs : List D} : getD_ (.tup (a :: b :: c :: xs)) (.int 2) S = some c := by rw [ix_tup, atI_nn (by decide)]; rfl
theorem eqvAll_int : ∀ xs ys : List Int, PyData.eqvAll (pyTs (xs.map D.int)) (pyTs (ys.map D.int)) = decide (xs = ys)
  | [], [] => rfl
  | [], _ :: _ => by simp [pyTs, PyData.eqvAll]
  | _ :: _, [] => by simp [pyTs, PyData.eqvAll]
  | x :: xs, y :: ys => by
    simp only [List.map_cons, pyTs, PyData.eqvAll, pyT, PyData.eqv, eqvAll_int xs ys]
    by_cases h : x = y <;> by_cases h' : xs = ys <;> simp [h, h']
theorem shs_int (n : Nat) : ∀ xs : List Int, shs n (xs.map D.int) = true
  | [] => by simp [shs]
  | x :: xs => by simp [shs, sh, shs_int n xs]
theorem eqD_tlI {xs ys : List Int} : eqD (tl .int xs) (tl .int ys) = some (decide (xs = ys)) := by
  have hx : ∀ xs : List Int, sh 8 (tl .int xs) = true := fun xs => by simp [tl, sh, shs_int]
  show (if sh 8 (tl .int xs) && sh 8 (tl .int ys) then some (eqv2 (tl .int xs) (tl .int ys)) else none) = _
  rw [hx, hx]
  simp only [Bool.and_self, if_true]
  congr 1
  exact eqvAll_int xs ys
@[simp] theorem eq_tlI {xs ys : List Int} : cop .eq (tl .int xs) (tl .int ys) S = some (decide (xs = ys)) := eqD_tlI
@[simp] theorem ne_tlI {xs ys : List Int} : cop .ne (tl .int xs) (tl .int ys) S = some (!decide (xs = ys)) := by
  show (eqD (tl .int xs) (tl .int ys)).map not = _
  rw [eqD_tlI]; rfl
@[simp] theorem ne_str {a b : Str} : cop .ne (.str a) (.str b) S = some (!decide (a = b)) := rfl
/-! mended -/
end
end PL

set_option Elab.async false
set_option linter.all false
set_option maxRecDepth 100000
set_option maxHeartbeats 1000000
/-! PMS: texts: numbers, items, asks. -/
namespace PL
open PySem
abbrev i_number_of : Nat := 39
/-- number_of: text 0 sign 1 -/
def b_number_of : T := (.ifs (.or (.nt (.chain .le .le (.con (.int 1)) (.bf .len (.cons (.var 0) .nil)) (.glb 5))) (.one (.nt (.val (.bf .all (.cons (.comp .plain (.var 0) (.one 1) .emp (.cmp .inn (.var 1) (.glb 4))) .nil))))))
  (.ret (.con .non))
  .nil
  (.ifs (.and (.cmp .eq (.ix (.var 0) (.con (.int 0))) (.con (.str "0"))) (.one (.cmp .gt (.bf .len (.cons (.var 0) .nil)) (.con (.int 1)))))
  (.ret (.con .non))
  .nil
  (.ret (.bf .int (.cons (.var 0) .nil)))))
def f_number_of : Fn := ⟨true, 1, 2, b_number_of⟩
abbrev i_read_item : Nat := 42
/-- read_item: text 0 front 1 gap 2 behind 3 begin 4 end 5 -/
def b_read_item : T := (.asgT [1, 2, 3] (.bm .partition (.var 0) (.cons (.con (.str "-")) .nil))
  (.asg 4 (.call i_number_of (.cons (.var 1) .nil))
  (.asg 5 (.call i_number_of (.cons (.var 3) .nil))
  (.ifs (.and (.cmp .ne (.var 2) (.con (.str ""))) (.and (.ntn (.var 4)) (.and (.ntn (.var 5)) (.one (.cmp .le (.var 4) (.var 5))))))
  (.ret (.tup (.cons (.con (.str "span")) (.cons (.var 4) (.cons (.var 5) .nil)))))
  .nil
  (.ifs (.and (.cmp .ne (.var 2) (.con (.str ""))) (.and (.ntn (.var 4)) (.one (.cmp .eq (.var 3) (.con (.str ""))))))
  (.ret (.tup (.cons (.con (.str "from")) (.cons (.var 4) .nil))))
  .nil
  (.ifs (.and (.cmp .ne (.var 2) (.con (.str ""))) (.and (.cmp .eq (.var 1) (.con (.str ""))) (.and (.ntn (.var 5)) (.one (.cmp .gt (.var 5) (.con (.int 0)))))))
  (.ret (.tup (.cons (.con (.str "last")) (.cons (.var 5) .nil))))
  .nil
  (.rais 0)))))))
def f_read_item : Fn := ⟨true, 1, 6, b_read_item⟩
abbrev i_read_ask : Nat := 43
/-- read_ask: text 0 parts 1 part 2 -/
def b_read_ask : T := (.asg 1 (.bm .split (.var 0) (.cons (.con (.str ",")) .nil))
  (.ifs (.cmp .gt (.bf .len (.cons (.var 1) .nil)) (.glb 6))
  (.rais 0)
  .nil
  (.ret (.bf .tuple (.cons (.comp .plain (.var 1) (.one 2) .emp (.call i_read_item (.cons (.var 2) .nil))) .nil)))))
def f_read_ask : Fn := ⟨true, 1, 3, b_read_ask⟩
/-! ### texts as lists of signs -/
def tx (l : List Nat) : Str := ⟨l.toArray⟩
@[simp] theorem tl_tx (l : List Nat) : TL.tl (tx l) = l := rfl
@[simp] theorem tx_tl (x : Str) : tx (TL.tl x) = x := TL.mk_tl x
theorem tx_inj {a b : List Nat} : tx a = tx b ↔ a = b := ⟨fun h => by have := congrArg TL.tl h; simpa using this, fun h => h ▸ rfl⟩
theorem len_tx (l : List Nat) : (tx l).length = l.length := by rw [TL.len_tl, tl_tx]
theorem tx_app (a b : List Nat) : tx a ++ tx b = tx (a ++ b) := TL.ext_tl (by rw [TL.tl_append, tl_tx, tl_tx, tl_tx])
theorem eq_tx {x : Str} {l : List Nat} (h : TL.tl x = l) : x = tx l := by rw [← h, tx_tl]
theorem tx_0 : ("" : Str) = tx [] := eq_tx (by decide +kernel)
theorem tx_n0 : ("0" : Str) = tx [48] := eq_tx (by decide +kernel)
theorem tx_dash : ("-" : Str) = tx [45] := eq_tx (by decide +kernel)
theorem tx_blank : (" " : Str) = tx [32] := eq_tx (by decide +kernel)
theorem sg_tx (c : Nat) : sg c = tx [c] := rfl
def figd : List Nat := [48, 49, 50, 51, 52, 53, 54, 55, 56, 57]
theorem figd_tl : (("0123456789" : Str)).cps.toList = figd := by decide +kernel
theorem mem_fig {c : Nat} : c ∈ figd ↔ 48 ≤ c ∧ c ≤ 57 := by
  simp only [figd, List.mem_cons, List.not_mem_nil, or_false]; omega
/-- the number that figures tell -/
def numO (l : List Nat) : Option Int := if (1 ≤ l.length ∧ l.length ≤ 9) ∧ (l.all fun c => decide (c ∈ figd)) = true ∧ ¬ (l.head? = some 48 ∧ 1 < l.length) then some ((NumText.digitsVal l : Nat) : Int) else none
theorem numO_nil : numO [] = none := by simp [numO]
theorem numL_head {n : Nat} : 1 ≤ n → (TL.numL n).head? ≠ some 48 := by
  induction n using Nat.strongRecOn with
  | _ n ih =>
    intro h
    by_cases q : n < 10
    · rw [TL.numL_lt q]; simp; omega
    · rw [TL.numL_step (by omega)]
      have := ih (n / 10) (by omega) (by omega)
      have ne := TL.numL_ne (n / 10)
      cases hl : TL.numL (n / 10) with
      | nil => exact absurd hl ne
      | cons a r => rw [hl] at this; simpa using this
theorem numO_num {n : Nat} (h : n < 1000000000) : numO (TL.numL n) = some (n : Int) := by
  unfold numO
  rw [if_pos, TL.numL_val]
  refine ⟨⟨List.length_pos_iff.mpr (TL.numL_ne n), TL.numL_len (by decide) (by omega)⟩, ?_, ?_⟩
  · rw [List.all_eq_true]
    intro c hc
    have := TL.numL_digits n c hc
    exact decide_eq_true (mem_fig.mpr this)
  · rintro ⟨h1, h2⟩
    rcases Nat.eq_zero_or_pos n with rfl | hn
    · rw [TL.numL_lt (by omega)] at h2; simp at h2
    · exact numL_head hn h1
/-- the signs of a number -/
def nL (i : Int) : List Nat := TL.tl (txtI i)
theorem txtI_nL (i : Int) : txtI i = tx (nL i) := (tx_tl _).symm
theorem nL_eq {i : Int} (h0 : 0 ≤ i) : nL i = TL.numL i.toNat := txtI_tl h0
theorem nL_len {i : Int} (h0 : 0 ≤ i) (h : i < 1000000000) : (nL i).length ≤ 9 := by
  have := txtI_len h0 h
  rwa [TL.len_tl] at this
theorem numO_txt {i : Int} (h0 : 0 ≤ i) (h : i < 1000000000) : numO (nL i) = some i := by
  rw [nL_eq h0, numO_num (by omega)]; congr 1; omega
theorem dv_snoc (l : List Nat) (c : Nat) : NumText.digitsVal (l ++ [c]) = NumText.digitsVal l * 10 + (c - 48) := by
  simp [NumText.digitsVal, List.foldl_append]
theorem dv_pos {a : Nat} {l : List Nat} (h : 48 < a) : 1 ≤ NumText.digitsVal (a :: l) := by
  have : ∀ (l : List Nat) (v : Nat), 1 ≤ v → 1 ≤ l.foldl (fun acc c => acc * 10 + (c - 48)) v := by
    intro l
    induction l with
    | nil => intro v h; exact h
    | cons c l ih => intro v h; exact ih (v * 10 + (c - 48)) (by omega)
  exact this l (0 * 10 + (a - 48)) (by omega)
/-- figures without a 0 ahead are a number's -/
theorem num_back : ∀ (n : Nat) (l : List Nat), l.length = n → l ≠ [] → (∀ c ∈ l, 48 ≤ c ∧ c ≤ 57) → ¬ (l.head? = some 48 ∧ 1 < l.length) → TL.numL (NumText.digitsVal l) = l := by
  intro n
  induction n with
  | zero => intro l h hn; cases l <;> simp_all
  | succ n ih =>
    intro l hl hn hd hz
    rcases l.eq_nil_or_concat with rfl | ⟨r, c, rfl⟩
    · exact absurd rfl hn
    · rw [List.concat_eq_append] at *
      have hc := hd c (by simp)
      rw [dv_snoc]
      rcases r with _ | ⟨a, r⟩
      · have e : NumText.digitsVal [] = 0 := rfl
        rw [e, TL.numL_lt (by omega)]
        simp; omega
      · have ha := hd a (by simp)
        have hz' : a ≠ 48 := by
          rintro rfl
          exact hz ⟨by simp, by simp⟩
        have := dv_pos (a := a) (l := r) (by omega)
        rw [TL.numL_step (by omega)]
        have e1 : (NumText.digitsVal (a :: r) * 10 + (c - 48)) / 10 = NumText.digitsVal (a :: r) := by omega
        have e2 : 48 + (NumText.digitsVal (a :: r) * 10 + (c - 48)) % 10 = c := by omega
        rw [e1, e2, ih (a :: r) (by simpa using hl) (by simp) (fun c h => hd c (by simp at h ⊢; rcases h with h | h <;> simp [h])) (by rintro ⟨h1, _⟩; simp at h1; exact hz' h1)]
theorem numO_back {l : List Nat} {i : Int} (h : numO l = some i) : 0 ≤ i ∧ i < 1000000000 ∧ l = nL i := by
  unfold numO at h
  split at h
  · rename_i q
    obtain ⟨⟨h1, h2⟩, h3, h4⟩ := q
    simp only [Option.some.injEq] at h
    subst h
    have hd : ∀ c ∈ l, 48 ≤ c ∧ c ≤ 57 := fun c hc => mem_fig.mp (of_decide_eq_true (List.all_eq_true.mp h3 c hc))
    have e := num_back _ l rfl (by intro h; subst h; simp at h1) hd h4
    have bd : ∀ (l : List Nat), (∀ c ∈ l, 48 ≤ c ∧ c ≤ 57) → ∀ v, l.foldl (fun acc c => acc * 10 + (c - 48)) v < (v + 1) * 10 ^ l.length := by
      intro l
      induction l with
      | nil => intro _ v; simp
      | cons c l ih =>
        intro hd v
        have hc := hd c (by simp)
        have := ih (fun d h => hd d (by simp [h])) (v * 10 + (c - 48))
        have e : (v * 10 + (c - 48) + 1) * 10 ^ l.length ≤ ((v + 1) * 10) * 10 ^ l.length := Nat.mul_le_mul_right _ (by omega)
        rw [List.foldl_cons, List.length_cons, Nat.pow_succ, Nat.mul_comm (10 ^ l.length) 10, ← Nat.mul_assoc]
        omega
    have b := bd l hd 0
    have p : (10 : Nat) ^ l.length ≤ 10 ^ 9 := Nat.pow_le_pow_right (by decide) h2
    refine ⟨by omega, ?_, ?_⟩
    · have : NumText.digitsVal l < 1000000000 := by
        unfold NumText.digitsVal
        omega
      omega
    · rw [nL_eq (by omega), Int.toNat_natCast, e]
  · cases h
section
variable {G : Tab} {call : Calls} {env : Env} {S : Store} {k : Nat}
theorem in_fig {c : Nat} : cop .inn (.str (sg c)) (.str "0123456789") S = some (decide (c ∈ figd)) := by
  show some (!(Builtin.Str.occurrences ("0123456789" : Str) ⟨#[c]⟩ 0 ("0123456789" : Str).length 1).isEmpty) = _
  rw [PySem.StrLaws.found_one, figd_tl]
theorem int_dig {l : List Nat} (h : ∀ c ∈ l, 48 ≤ c ∧ c ≤ 57) (h1 : l ≠ []) (h2 : l.length ≤ 640) : bfD .int [.str (tx l)] S = some (.int (NumText.digitsVal l : Nat)) := by
  show (if (tx l).length ≤ 640 then (PySem.intText? (tx l)).map D.int else none) = _
  rw [if_pos (by rw [len_tx]; exact h2), PySem.intText_digits (x := tx l) h h1 (by rw [len_tx]; omega)]; rfl
theorem len_txt {l : List Nat} (h : l.length ≤ 1000000) : bfD .len [.str (tx l)] S = some (.int l.length) := by
  rw [len_str (by rw [len_tx]; exact h), len_tx]
@[simp] theorem mkIt_tx {l : List Nat} : mkIt .plain [.str (tx l)] S = some (.items (l.map sgD)) := rfl
theorem sg_eq0 {c : Nat} : (sg c = ("0" : Str)) = (c = 48) := by
  rw [tx_n0, sg_tx, tx_inj]; simp
theorem r_number_of [h : Has G i_number_of f_number_of] [h4 : HasC G 4 (.str "0123456789")] [h5 : HasC G 5 (.int 9)] {l : List Nat} (hx : l.length ≤ 1000000) :
    run G (k + 1) i_number_of [.str (tx l)] S = .ok (opD .int (numO l)) S := by
  have ls := fun S => len_txt (S := S) hx
  have cm : ∀ env : Env, env[0]? = some (some (.str (tx l))) → env.length = 2 → ev G (run G k) (.comp .plain (.var 0) (.one 1) .emp (.cmp .inn (.var 1) (.glb 4))) env [] = .ok (.lst (l.map fun c => .bl (decide (c ∈ figd)))) [] := fun env e0 el => by
    obtain ⟨a, b, rfl⟩ : ∃ a b, env = [a, b] := by match env, el with | [a, b], _ => exact ⟨a, b, rfl⟩
    simp at e0; subst e0
    exact ev_compM (enc := sgD) (xs := l) (d := .str (tx l)) (fun c => .bl (decide (c ∈ figd))) (by simp) (by simp) (by unfold SZ; omega) (fun c hc => by simp [compB, sgD, in_fig])
  have al : bfD .all [.lst (l.map fun c => .bl (decide (c ∈ figd)))] [] = some (.bl (l.all fun c => decide (c ∈ figd))) := bf_all_map
  refine pure_W (h := h) rfl rfl (by simp [frzAs]; rfl) ?_
  have cm := cm [some (.str (tx l)), none] rfl rfl
  simp only [b_number_of, startE]
  by_cases q1 : 1 ≤ l.length
  · by_cases q2 : l.length ≤ 9
    · have q1' : (1 : Int) ≤ l.length := by omega
      have q2' : (l.length : Int) ≤ 9 := by omega
      by_cases q3 : (l.all fun c => decide (c ∈ figd)) = true
      · have hd : ∀ c ∈ l, 48 ≤ c ∧ c ≤ 57 := fun c hc => mem_fig.mp (of_decide_eq_true (List.all_eq_true.mp q3 c hc))
        have nn : l ≠ [] := by intro e; rw [e] at q1; simp at q1
        have ix : ∀ S, getD_ (.str (tx l)) (.int 0) S = some (.str (sg (l.getD 0 0))) := fun S => ix_str (by rw [len_tx]; omega) (by decide) (by rw [len_tx]; exact q1)
        have hh : l.head? = some (l.getD 0 0) := by cases e : l with
          | nil => exact absurd e nn
          | cons a r => rfl
        have id : ∀ S, bfD .int [.str (tx l)] S = some (.int (NumText.digitsVal l : Nat)) := fun S => int_dig hd nn (by omega)
        have q4 : (numO l) = if l.getD 0 0 = 48 ∧ 1 < l.length then none else some ((NumText.digitsVal l : Nat) : Int) := by
          unfold numO
          rw [hh]
          by_cases q : l.getD 0 0 = 48 ∧ 1 < l.length
          · rw [if_neg (by simp only [Option.some.injEq]; exact fun h => h.2.2 q), if_pos q]
          · rw [if_pos ⟨⟨q1, q2⟩, q3, by simpa using q⟩, if_neg q]
        rw [q4]
        by_cases q5 : l.getD 0 0 = 48
        · by_cases q6 : 1 < l.length
          · have q6' : (1 : Int) < l.length := by omega
            simp [ls, q1', q2', cm, al, q3, ix, sg_eq0, q5, q6, q6', opD, -List.getD_eq_getElem?_getD]
          · have q6' : ¬ (1 : Int) < l.length := by omega
            simp [ls, q1', q2', cm, al, q3, ix, sg_eq0, q5, q6, q6', id, opD, -List.getD_eq_getElem?_getD]
        · simp [ls, q1', q2', cm, al, q3, ix, sg_eq0, q5, id, opD, -List.getD_eq_getElem?_getD]
      · have e : numO l = none := by unfold numO; rw [if_neg fun h => q3 h.2.1]
        have q3' : (l.all fun c => decide (c ∈ figd)) = false := by simpa using q3
        rw [e]
        simp [ls, q1', q2', cm, al, q3', opD]
    · have q1' : (1 : Int) ≤ l.length := by omega
      have q2' : ¬ (l.length : Int) ≤ 9 := by omega
      have e : numO l = none := by unfold numO; rw [if_neg fun h => q2 h.1.2]
      rw [e]
      simp [ls, q1', q2', opD]
  · have q1' : ¬ (1 : Int) ≤ l.length := by omega
    have e : numO l = none := by unfold numO; rw [if_neg fun h => q1 h.1.1]
    rw [e]
    simp [ls, q1', opD]
@[simp] theorem ok_starts {a : Str} : bmOk .startswith (.str a) S = true := rfl
@[simp] theorem ok_split {a : Str} : bmOk .split (.str a) S = true := rfl
@[simp] theorem ok_part {a : Str} : bmOk .partition (.str a) S = true := rfl
/-! ### splitting at one sign -/
abbrev spC (s : Nat) (l : List Nat) : List (List Nat) := TL.spl [s] 0 [] l
theorem pre1 {s c : Nat} {r : List Nat} : TL.pre [s] (c :: r) = decide (c = s) := by
  show ((c :: r).take 1 == [s]) = _
  by_cases h : c = s <;> simp [h]
theorem spl_cons {s c : Nat} {acc r : List Nat} : TL.spl [s] 0 acc (c :: r) = if c = s then acc :: TL.spl [s] 0 [] r else TL.spl [s] 0 (acc ++ [c]) r := by
  by_cases h : c = s
  · rw [if_pos h, TL.spl_hit (by rw [pre1]; simpa using h)]; rfl
  · rw [if_neg h, TL.spl_miss (by rw [pre1]; simpa using h)]
theorem par_cons {s c : Nat} {acc r : List Nat} : TL.par [s] acc (c :: r) = if c = s then some (acc, r) else TL.par [s] (acc ++ [c]) r := by
  by_cases h : c = s
  · rw [if_pos h, TL.par_hit (by rw [pre1]; simpa using h)]; rfl
  · rw [if_neg h, TL.par_miss (by rw [pre1]; simpa using h)]
theorem spl_len (s : Nat) : ∀ (l acc : List Nat), (TL.spl [s] 0 acc l).length ≤ l.length + 1 ∧ ∀ p ∈ TL.spl [s] 0 acc l, p.length ≤ acc.length + l.length
  | [], acc => by simp [TL.spl_nil]
  | c :: r, acc => by
    rw [spl_cons]
    by_cases h : c = s
    · rw [if_pos h]
      obtain ⟨h1, h2⟩ := spl_len s r []
      refine ⟨by simp only [List.length_cons]; omega, fun p hp => ?_⟩
      rcases List.mem_cons.mp hp with rfl | hp
      · omega
      · have := h2 p hp; simp only [List.length_cons, List.length_nil] at *; omega
    · rw [if_neg h]
      obtain ⟨h1, h2⟩ := spl_len s r (acc ++ [c])
      refine ⟨by simp only [List.length_cons]; omega, fun p hp => ?_⟩
      have := h2 p hp; simp only [List.length_cons, List.length_append, List.length_nil] at *; omega
theorem spC_len (s : Nat) (l : List Nat) : (spC s l).length ≤ l.length + 1 ∧ ∀ p ∈ spC s l, p.length ≤ l.length := by
  obtain ⟨a, b⟩ := spl_len s l []
  exact ⟨a, fun p hp => by have := b p hp; simpa using this⟩
theorem par_some (s : Nat) : ∀ (l acc a b : List Nat), TL.par [s] acc l = some (a, b) → acc ++ l = a ++ s :: b
  | [], acc, a, b, h => by simp [TL.par] at h
  | c :: r, acc, a, b, h => by
    rw [par_cons] at h
    by_cases e : c = s
    · rw [if_pos e] at h
      simp only [Option.some.injEq, Prod.mk.injEq] at h
      rw [← h.1, ← h.2, e]
    · rw [if_neg e] at h
      have := par_some s r _ a b h
      simpa using this
theorem split_tx {l : List Nat} {y : Str} {s : Nat} (ey : TL.tl y = [s]) (hs : s < 256) : Txt.split (tx l) y = (spC s l).map tx := by
  refine TL.map_tl_inj ?_
  rw [TL.split_spl (tx l) y (by rw [ey]; simp) (TL.kind_ok (by
    have : y.cps = #[s] := by apply Array.toList_inj.mp; exact ey
    rw [this]; simp [hs])), ey, List.map_map]
  exact ((List.map_congr_left fun p _ => rfl).trans (List.map_id _)).symm
theorem part_tx {l : List Nat} {y : Str} {s : Nat} (ey : TL.tl y = [s]) : Txt.partition (tx l) y = match TL.par [s] [] l with
    | some (a, b) => (tx a, y, tx b)
    | none => (tx l, Str.empty, Str.empty) := by
  rw [TL.partition_par (tx l) y (by rw [ey]; simp), ey]; rfl
/-- an answer, or a refusal -/
def exO {α : Type} (x : Nat) (f : α → D) (o : Option α) (S : Store) : R D := match o with
  | some a => .ok (f a) S
  | none => .ex x S
@[simp] theorem exO_some {α : Type} {x : Nat} {f : α → D} {a : α} {S : Store} : exO x f (some a) S = .ok (f a) S := rfl
@[simp] theorem exO_none {α : Type} {x : Nat} {f : α → D} {S : Store} : exO x f none S = .ex x S := rfl
/-! ### items, asks -/
inductive It where
  | span (a b : Int) | frm (a : Int) | last (n : Int)
deriving DecidableEq
def itD : It → D
  | .span a b => .tup [.str "span", .int a, .int b]
  | .frm a => .tup [.str "from", .int a]
  | .last n => .tup [.str "last", .int n]
instance : Okf itD := ⟨fun i => by cases i <;> rfl, fun i => by cases i <;> rfl⟩
def itO (a b : List Nat) : Option It := match numO a, numO b with
  | some x, some y => if x ≤ y then some (.span x y) else none
  | some x, none => if b = [] then some (.frm x) else none
  | none, some y => if a = [] ∧ 0 < y then some (.last y) else none
  | none, none => none
def rdItem (l : List Nat) : Option It := match TL.par [45] [] l with
  | some (a, b) => itO a b
  | none => none
def okIt : It → Prop
  | .span a b => 0 ≤ a ∧ a ≤ b ∧ b < 1000000000
  | .frm a => 0 ≤ a ∧ a < 1000000000
  | .last n => 0 < n ∧ n < 1000000000
def itL : It → List Nat
  | .span a b => nL a ++ 45 :: nL b
  | .frm a => nL a ++ [45]
  | .last n => 45 :: nL n
theorem txtI_free {i : Int} {s : Nat} (h0 : 0 ≤ i) (h : s < 48 ∨ 57 < s) : s ∉ nL i := by
  rw [nL_eq h0]; exact TL.numL_free h
theorem rd_itL {i : It} (h : okIt i) : rdItem (itL i) = some i := by
  cases i with
  | span a b =>
    obtain ⟨h1, h2, h3⟩ := h
    have e := TL.par_part1 (S := []) (rest := nL b) (acc := []) (txtI_free (s := 45) h1 (by omega))
    simp only [List.nil_append, List.cons_append] at e
    unfold rdItem itL
    rw [e]
    simp only [itO, numO_txt h1 (show a < 1000000000 by omega), numO_txt (show 0 ≤ b by omega) h3, if_pos h2]
  | frm a =>
    obtain ⟨h1, h3⟩ := h
    have e := TL.par_part1 (S := []) (rest := []) (acc := []) (txtI_free (s := 45) h1 (by omega))
    simp only [List.nil_append, List.append_nil] at e
    unfold rdItem itL
    rw [e]
    simp only [itO, numO_txt h1 h3, numO_nil, if_true]
  | last n =>
    obtain ⟨h1, h3⟩ := h
    have e := TL.par_part1 (s := 45) (S := []) (p := []) (rest := nL n) (acc := []) (by simp)
    simp only [List.nil_append, List.cons_append] at e
    unfold rdItem itL
    rw [e]
    simp only [itO, numO_txt (show 0 ≤ n by omega) h3, numO_nil]
    rw [if_pos ⟨trivial, h1⟩]
theorem itL_free {i : It} (h : okIt i) : 44 ∉ itL i := by
  cases i with
  | span a b =>
    have h1 := txtI_free (i := a) (s := 44) h.1 (by omega)
    have h2 := txtI_free (i := b) (s := 44) (by have := h.1; have := h.2.1; omega) (by omega)
    simp [itL, h1, h2]
  | frm a => have h1 := txtI_free (i := a) (s := 44) h.1 (by omega); simp [itL, h1]
  | last n => have h1 := txtI_free (i := n) (s := 44) (by have := h.1; omega) (by omega); simp [itL, h1]
theorem itL_len {i : It} (h : okIt i) : (itL i).length ≤ 19 := by
  have l := fun (i : Int) (h0 : 0 ≤ i) (h : i < 1000000000) => nL_len h0 h
  cases i with
  | span a b =>
    obtain ⟨h1, h2, h3⟩ := h
    have := l a h1 (by omega)
    have := l b (by omega) h3
    simp [itL]; omega
  | frm a => have := l a h.1 h.2; simp [itL]; omega
  | last n => have := l n (by have := h.1; omega) h.2; simp [itL]; omega
def mapO {α β : Type} (g : α → Option β) : List α → Option (List β)
  | [] => some []
  | x :: xs => match g x with
    | none => none
    | some y => match mapO g xs with
      | none => none
      | some ys => some (y :: ys)
theorem mapO_some {α β : Type} {g : α → Option β} {f : β → α} : ∀ {ys : List β}, (∀ y ∈ ys, g (f y) = some y) → mapO g (ys.map f) = some ys
  | [], _ => rfl
  | y :: ys, h => by
    have e := mapO_some (g := g) (f := f) (ys := ys) fun z hz => h z (List.mem_cons_of_mem _ hz)
    simp [mapO, h y (by simp), e]
theorem mapO_len {α β : Type} {g : α → Option β} : ∀ {xs : List α} {ys : List β}, mapO g xs = some ys → ys.length = xs.length
  | [], ys, h => by cases h; rfl
  | x :: xs, ys, h => by
    simp only [mapO] at h
    split at h
    · cases h
    · split at h
      · cases h
      · rename_i e
        cases h
        simp [mapO_len e]
def rdAsk (l : List Nat) : Option (List It) := if 8 < (spC 44 l).length then none else mapO rdItem (spC 44 l)
def askL (is : List It) : List Nat := TL.joinL [44] (is.map itL)
theorem rd_askL {is : List It} (hn : is ≠ []) (hl : is.length ≤ 8) (h : ∀ i ∈ is, okIt i) : rdAsk (askL is) = some is := by
  unfold rdAsk askL spC
  rw [TL.spl_join (by simpa using hn) (by simpa using fun i hi => itL_free (h i hi)), if_neg (by simp; omega)]
  exact mapO_some fun i hi => rd_itL (h i hi)
theorem ev_compX {src c e : E} {tg : Tg} {d : D} {α β : Type} {enc : β → D} {fo : α → D} (g : β → Option α) {x : Nat} {xs : List β} (hs : ev G call src env S = .ok d S) (hi : mkIt .plain [d] S = some (.items (xs.map enc))) (hl : xs.length ≤ SZ)
    (h : ∀ y ∈ xs, compB G call tg c e env (enc y) S = match g y with | some r => .ok (some (fo r)) S | none => .ex x S) :
    ev G call (.comp .plain src tg c e) env S = exO x (ll fo) (mapO g xs) S := by
  have key : ∀ (ys : List β) (acc : List α), (∀ y ∈ ys, y ∈ xs) → acc.length + ys.length ≤ SZ → goComp (compB G call tg c e env) (ys.map enc) (acc.map fo) S = match mapO g ys with | some rs => .ok ((acc ++ rs).map fo) S | none => .ex x S := by
    intro ys
    induction ys with
    | nil => intro acc _ _; simp [goComp, mapO]
    | cons y ys ih =>
      intro acc hm hz
      have hy := h y (hm y (by simp))
      simp only [List.map_cons, goComp, hy, mapO]
      cases hg : g y with
      | none => rfl
      | some r =>
        simp only [R.bind_ok]
        rw [if_pos (by rw [List.length_map]; simp only [List.length_cons] at hz; omega)]
        have := ih (acc ++ [r]) (fun z hz => hm z (by simp [hz])) (by simp only [List.length_append, List.length_cons, List.length_nil] at *; omega)
        rw [List.map_append] at this
        rw [show List.map fo [r] = [fo r] from rfl] at this
        rw [this]
        cases mapO g ys <;> simp
  have := key xs [] (fun _ h => h) (by simpa using hl)
  show (ev G call src env S).bind _ = _
  rw [hs]
  simp only [R.bind_ok, srcL_plain, hi]
  show (goComp (compB G call tg c e env) (xs.map enc) [] S).bind _ = _
  rw [show goComp (compB G call tg c e env) (xs.map enc) [] S = _ from this]
  cases mapO g xs with
  | none => rfl
  | some rs => simp [ll]
theorem part_str {l : List Nat} {b : Str} (h : l.length ≤ 1000000) (hb : b.length = 1) : bmD .partition (.str (tx l)) [.str b] S = .ok (.tup [.str (Txt.partition (tx l) b).1, .str (Txt.partition (tx l) b).2.1, .str (Txt.partition (tx l) b).2.2]) S := by
  show R.of (if b.length ≠ 0 ∧ (tx l).length ≤ SZ then some _ else none) S = _
  rw [if_pos ⟨by omega, by rw [len_tx]; unfold SZ; omega⟩]; rfl
def txD (l : List Nat) : D := .str (tx l)
instance : Okf txD := ⟨fun _ => rfl, fun _ => rfl⟩
theorem split_str {l : List Nat} {b : Str} {s : Nat} (h : l.length ≤ 1000000) (hb : b.length = 1) (ey : TL.tl b = [s]) (hs : s < 256) : bmD .split (.str (tx l)) [.str b] S = .ok (ll txD (spC s l)) S := by
  show R.of (if b.length ≠ 0 ∧ (tx l).length + 2 ≤ SZ then some (D.lst ((Txt.split (tx l) b).map D.str)) else none) S = _
  rw [if_pos ⟨by omega, by rw [len_tx]; unfold SZ; omega⟩, split_tx ey hs, List.map_map]; rfl
theorem l_dash : ("-" : Str).length = 1 := by decide +kernel
theorem l_comma : ("," : Str).length = 1 := by decide +kernel
theorem l_blank : (" " : Str).length = 1 := by decide +kernel
theorem t_dash : TL.tl ("-" : Str) = [45] := by decide +kernel
theorem t_comma : TL.tl ("," : Str) = [44] := by decide +kernel
theorem t_blank : TL.tl (" " : Str) = [32] := by decide +kernel
theorem dash_ne : (("-" : Str) = "") = False := by simp; decide +kernel
theorem emp_tx : Str.empty = tx [] := rfl
theorem tx_e0 {l : List Nat} : (tx l = ("" : Str)) = (l = []) := by rw [tx_0, tx_inj]
theorem r_read_item [h : Has G i_read_item f_read_item] [hn : Has G i_number_of f_number_of] [h4 : HasC G 4 (.str "0123456789")] [h5 : HasC G 5 (.int 9)] {l : List Nat} (hx : l.length ≤ 1000000) :
    run G (k + 2) i_read_item [txD l] S = exO 0 itD (rdItem l) S := by
  have rn : ∀ (y : List Nat) S, y.length ≤ 1000000 → run G (k + 1) i_number_of [.str (tx y)] S = .ok (opD .int (numO y)) S := fun y S h => r_number_of h
  have pt := fun S => part_str (S := S) hx l_dash
  rw [part_tx t_dash] at pt
  unfold txD
  refine pure_W (h := h) rfl rfl (by simp [frzAs]; rfl) ?_
  simp only [b_read_item, startE]
  unfold rdItem
  cases hp : TL.par [45] [] l with
  | none =>
    rw [hp] at pt
    simp only [emp_tx] at pt ⊢
    have r1 := fun S => rn l S hx
    have r2 := fun S => rn [] S (by decide)
    rw [numO_nil] at r2
    have e0 : tx [] = ("" : Str) := tx_0.symm
    simp [pt, r1, r2, tx_e0, opD]
  | some p =>
    obtain ⟨a, b⟩ := p
    have hap := par_some 45 _ [] a b hp
    have ln := congrArg List.length hap
    simp only [List.nil_append, List.length_append, List.length_cons] at ln
    rw [hp] at pt
    simp only at pt ⊢
    have r1 := fun S => rn a S (by omega)
    have r2 := fun S => rn b S (by omega)
    unfold itO
    cases ha : numO a with
    | none =>
      rw [ha] at r1
      cases hb : numO b with
      | none =>
        rw [hb] at r2
        by_cases q : a = []
        · subst q; simp [pt, r1, r2, dash_ne, opD, tx_e0]
        · simp [pt, r1, r2, dash_ne, opD, tx_e0, q]
      | some y =>
        rw [hb] at r2
        have hb0 : ¬ b = [] := by rintro rfl; rw [numO_nil] at hb; cases hb
        by_cases q : a = []
        · subst q
          by_cases q' : 0 < y <;> simp [pt, r1, r2, dash_ne, opD, tx_e0, q', itD, scl, scls]
        · simp [pt, r1, r2, dash_ne, opD, tx_e0, q]
    | some v =>
      rw [ha] at r1
      have ha0 : ¬ a = [] := by rintro rfl; rw [numO_nil] at ha; cases ha
      cases hb : numO b with
      | none =>
        rw [hb] at r2
        by_cases q : b = []
        · subst q; simp [pt, r1, r2, dash_ne, opD, tx_e0, itD, scl, scls]
        · simp [pt, r1, r2, dash_ne, opD, tx_e0, q, ha0]
      | some y =>
        rw [hb] at r2
        have hb0 : ¬ b = [] := by rintro rfl; rw [numO_nil] at hb; cases hb
        by_cases q : v ≤ y <;> simp [pt, r1, r2, dash_ne, opD, tx_e0, q, ha0, hb0, itD, scl, scls]
theorem r_read_ask [h : Has G i_read_ask f_read_ask] [hi : Has G i_read_item f_read_item] [hn : Has G i_number_of f_number_of] [h4 : HasC G 4 (.str "0123456789")] [h5 : HasC G 5 (.int 9)] [h6 : HasC G 6 (.int 8)] {l : List Nat} (hx : l.length ≤ 1000000) :
    run G (k + 3) i_read_ask [.str (tx l)] S = exO 0 (tl itD) (rdAsk l) S := by
  have sp := fun S => split_str (S := S) hx l_comma t_comma (by decide)
  obtain ⟨sl1, sl2⟩ := spC_len 44 l
  refine pure_W (h := h) rfl rfl (by simp [frzAs]; rfl) ?_
  simp only [b_read_ask, startE]
  unfold rdAsk
  generalize spC 44 l = ps at *
  by_cases q : 8 < ps.length
  · have q' : (8 : Int) < ps.length := by omega
    rw [if_pos q]
    simp [sp, q']
  · have q' : ¬ (8 : Int) < ps.length := by omega
    rw [if_neg q]
    have cm : ∀ env : Env, env[1]? = some (some (ll txD ps)) → env.length = 3 → ev G (run G (k + 2)) (.comp .plain (.var 1) (.one 2) .emp (.call i_read_item (.cons (.var 2) .nil))) env [] = exO 0 (ll itD) (mapO rdItem ps) [] := fun env e1 el => by
      obtain ⟨a, b, c, rfl⟩ : ∃ a b c, env = [a, b, c] := by match env, el with | [a, b, c], _ => exact ⟨a, b, c, rfl⟩
      simp at e1; subst e1
      refine ev_compX (fo := itD) (enc := txD) (xs := ps) (d := ll txD ps) rdItem (by simp) mkIt_ll (by unfold SZ; omega) fun y hy => ?_
      have := r_read_item (G := G) (k := k) (S := []) (l := y) (by have hq := sl2 y hy; omega)
      cases hr : rdItem y with
      | none => rw [hr] at this; simp [compB, this]
      | some i => rw [hr] at this; simp [compB, this]
    have cm := cm [some (.str (tx l)), some (ll txD ps), none] rfl rfl
    cases hm : mapO rdItem ps with
    | none => rw [hm] at cm; simp [sp, q', cm]
    | some is => rw [hm] at cm; simp [sp, q', cm]
end
end PL

set_option Elab.async false
set_option linter.all false
set_option maxRecDepth 100000
set_option maxHeartbeats 1000000
/-! PMT: the texts of asks, what asks mean. -/
namespace PL
open PySem
abbrev i_resolved_item : Nat := 50
/-- resolved_item: item 0 size 1 -/
def b_resolved_item : T := (.ifs (.cmp .eq (.ix (.var 0) (.con (.int 0))) (.con (.str "span")))
  (.ret (.tup (.cons (.bf .min (.cons (.ix (.var 0) (.con (.int 1))) (.cons (.var 1) .nil))) (.cons (.bf .min (.cons (.bin .add (.ix (.var 0) (.con (.int 2))) (.con (.int 1))) (.cons (.var 1) .nil))) .nil))))
  .nil
  (.ifs (.cmp .eq (.ix (.var 0) (.con (.int 0))) (.con (.str "from")))
  (.ret (.tup (.cons (.bf .min (.cons (.ix (.var 0) (.con (.int 1))) (.cons (.var 1) .nil))) (.cons (.var 1) .nil))))
  .nil
  (.ret (.tup (.cons (.bf .max (.cons (.bin .sub (.var 1) (.ix (.var 0) (.con (.int 1)))) (.cons (.con (.int 0)) .nil))) (.cons (.var 1) .nil))))))
def f_resolved_item : Fn := ⟨true, 2, 2, b_resolved_item⟩
abbrev i_resolved : Nat := 51
/-- resolved: ask 0 size 1 pairs 2 found 3 item 4 pair 5 -/
def b_resolved : T := (.asg 2 (.comp .plain (.var 0) (.one 4) .emp (.call i_resolved_item (.cons (.var 4) (.cons (.var 1) .nil))))
  (.asg 3 (.bf .tuple (.cons (.comp .plain (.var 2) (.one 5) (.cmp .lt (.ix (.var 5) (.con (.int 0))) (.ix (.var 5) (.con (.int 1)))) (.var 5)) .nil))
  (.ifs (.nt (.val (.var 3)))
  (.rais 1)
  .nil
  (.ret (.var 3)))))
def f_resolved : Fn := ⟨true, 2, 6, b_resolved⟩
theorem sx_fs : ¬ Str.ofString "from" = Str.ofString "span" := by decide +kernel
theorem sx_ls : ¬ Str.ofString "last" = Str.ofString "span" := by decide +kernel
theorem sx_lf : ¬ Str.ofString "last" = Str.ofString "from" := by decide +kernel
section
variable {G : Tab} {call : Calls} {env : Env} {S : Store} {k : Nat}
theorem fmt_nL {i : Int} (h0 : 0 ≤ i) (h : i < 1000000000) : fmtD (.int i) = some (tx (nL i)) := by rw [fmt_int h0 h, txtI_nL]
theorem tx_cat (l : List Nat) (r : List D) : catD (.str (tx l) :: r) = (catD r).map fun y => tx l ++ y := rfl
theorem nil_cat : catD [] = some (tx []) := rfl
theorem join_tx {y : Str} {ls : List (List Nat)} {s : List Nat} (ey : TL.tl y = s) : Txt.join y (ls.map tx) = tx (TL.joinL s ls) := by
  refine TL.ext_tl ?_
  rw [TL.join_eq, TL.tl_join, ey, List.map_map, tl_tx]
  congr 1
  exact (List.map_congr_left fun p _ => rfl).trans (List.map_id _)
/-! the law's own reader -/
end
/-! ### what asks mean -/
def resI (n : Int) : It → PI
  | .span a b => (min a n, min (b + 1) n)
  | .frm a => (min a n, n)
  | .last m => (max (n - m) 0, n)
def resF (is : List It) (n : Int) : List PI := (is.map (resI n)).filter fun p => decide (p.1 < p.2)
def resO (is : List It) (n : Int) : Option (List PI) := if resF is n = [] then none else some (resF is n)
section
variable {G : Tab} {call : Calls} {env : Env} {S : Store} {k : Nat}
theorem r_resolved_item [h : Has G i_resolved_item f_resolved_item] {i : It} {n : Int} : run G (k + 1) i_resolved_item [itD i, .int n] S = .ok (pairD (resI n i)) S := by
  refine pure_W (h := h) (as' := [itD i, .int n]) rfl rfl (by cases i <;> rfl) ?_
  simp only [b_resolved_item, startE]
  cases i with
  | span a b => simp [itD, ix0_tup, ix1_tup, ix2_tup, bf_min2, -bf_min, scl, scls, pairD, resI]
  | frm a => simp [itD, ix0_tup, ix1_tup, ix2_tup, bf_min2, -bf_min, scl, scls, pairD, resI, sx_fs]
  | last m => simp [itD, ix0_tup, ix1_tup, ix2_tup, bf_max2, -bf_max, scl, scls, pairD, resI, sx_ls, sx_lf]
theorem resF_len (is : List It) (n : Int) : (resF is n).length ≤ is.length := by
  have := List.length_filter_le (fun p : PI => decide (p.1 < p.2)) (is.map (resI n))
  rw [List.length_map] at this
  exact this
theorem r_resolved [h : Has G i_resolved f_resolved] [hi : Has G i_resolved_item f_resolved_item] {is : List It} {n : Int} (hl : is.length ≤ 9000) : run G (k + 2) i_resolved [tl itD is, .int n] S = exO 1 (tl pairD) (resO is n) S := by
  refine pure_W (h := h) rfl rfl (by simp [frzAs]; rfl) ?_
  simp only [b_resolved, startE, x_asg]
  rw [ev_compG (enc := itD) (xs := is) (d := tl itD is) pairD (resI n)]
  rotate_left
  · simp
  · simp
  · unfold SZ; omega
  · intro i _
    have := r_resolved_item (G := G) (k := k) (S := []) (i := i) (n := n)
    simp [compB, this]
  simp only [R.stm_ok, e_bf, e_cons, e_nil]
  rw [ev_comp (enc := pairD) (xs := is.map (resI n)) (d := ll pairD (is.map (resI n))) (p := fun p => decide (p.1 < p.2)) pairD]
  rotate_left
  · simp
  · simp
  · simp; unfold SZ; omega
  · intro p _
    by_cases q : p.1 < p.2
    · simp [compB, pairD, ix0_tup, ix1_tup, q]
    · simp [compB, pairD, ix0_tup, ix1_tup, q]
  have e : bfD .tuple [.lst (((is.map (resI n)).filter fun p => decide (p.1 < p.2)).map pairD)] [] = some (tl pairD (resF is n)) := rfl
  simp only [R.bind_ok, toTup_tup, e, R.of_some, R.stm_ok]
  unfold resO
  cases hr : resF is n with
  | nil => simp
  | cons p ps => simp
end
end PL

set_option Elab.async false
set_option linter.all false
set_option maxRecDepth 100000
set_option maxHeartbeats 1000000
/-! PMU: the law's own asks; told or refused. -/
namespace PL
open PySem

section
variable {G : Tab} {call : Calls} {env : Env} {S : Store} {k : Nat}
end
end PL

set_option Elab.async false
set_option linter.all false
set_option maxRecDepth 100000
set_option maxHeartbeats 1000000
/-! PMV: answers as bytes; what is received of any bytes. -/
namespace PL
open PySem
abbrev i_text_bytes : Nat := 57
/-- text_bytes: text 0 sign 1 -/
def b_text_bytes : T := (.ret (.bf .tuple (.cons (.comp .plain (.var 0) (.one 1) .emp (.bm .find (.glb 7) (.cons (.var 1) .nil))) .nil)))
def f_text_bytes : Fn := ⟨true, 1, 2, b_text_bytes⟩
abbrev i_bytes_text : Nat := 58
/-- bytes_text: some 0 one 1 -/
def b_bytes_text : T := (.ifs (.val (.bf .any (.cons (.comp .plain (.var 0) (.one 1) .emp (.cmp .ge (.var 1) (.bf .len (.cons (.glb 7) .nil)))) .nil)))
  (.rais 0)
  .nil
  (.ret (.bm .join (.con (.str "")) (.cons (.comp .plain (.var 0) (.one 1) .emp (.ix (.glb 7) (.var 1))) .nil))))
def f_bytes_text : Fn := ⟨true, 1, 2, b_bytes_text⟩
abbrev i_answer_bytes : Nat := 59
/-- answer_bytes: answer 0 code 1 mark 2 size 3 parts 4 some 5 begin 6 body 7 -/
def b_answer_bytes : T := (.asgT [1, 2, 3, 4] (.var 0)
  (.asg 5 (.call i_text_bytes (.cons (.fstr (.cons (.fmt (.var 1)) (.cons (.con (.str " ")) (.cons (.fmt (.call i_mark_text (.cons (.var 2) .nil))) (.cons (.con (.str " ")) (.cons (.fmt (.var 3)) (.cons (.con (.str " ")) (.cons (.fmt (.bf .len (.cons (.var 4) .nil))) (.cons (.con (.str "\n")) .nil))))))))) .nil))
  (.for_ .plain (.var 4) (.many [6, 7])
  (.asg 5 (.bin .add (.bin .add (.bin .add (.var 5) (.call i_text_bytes (.cons (.fstr (.cons (.fmt (.var 6)) (.cons (.con (.str " ")) (.cons (.fmt (.bf .len (.cons (.var 7) .nil))) (.cons (.con (.str "\n")) .nil))))) .nil))) (.var 7)) (.call i_text_bytes (.cons (.con (.str "\n")) .nil)))
  .nil)
  (.ret (.var 5)))))
def f_answer_bytes : Fn := ⟨true, 1, 8, b_answer_bytes⟩
abbrev i_Received_init : Nat := 60
/-- Received_init: self 0 some 1 -/
def b_Received_init : T := (.fldS 0 (.var 0) 0 (.var 1)
  (.fldS 0 (.var 0) 1 (.con (.int 0))
  (.fldS 0 (.var 0) 2 (.con .non)
  (.fldS 0 (.var 0) 3 (.tup .nil)
  (.fldS 0 (.var 0) 4 (.con (.str "more"))
  .nil)))))
def f_Received_init : Fn := ⟨false, 2, 2, b_Received_init⟩
abbrev i_Received_row : Nat := 61
/-- Received_row: self 0 end 1 text 2 -/
def b_Received_row : T := (.asg 1 (.fld 0 (.var 0) 1)
  (.whl (.and (.cmp .lt (.var 1) (.bf .len (.cons (.fld 0 (.var 0) 0) .nil))) (.one (.cmp .ne (.ix (.fld 0 (.var 0) 0) (.var 1)) (.bin .sub (.bf .len (.cons (.glb 7) .nil)) (.con (.int 1))))))
  (.asg 1 (.bin .add (.var 1) (.con (.int 1)))
  .nil)
  (.ifs (.cmp .gt (.bin .sub (.var 1) (.fld 0 (.var 0) 1)) (.glb 9))
  (.rais 0)
  .nil
  (.ifs (.cmp .eq (.var 1) (.bf .len (.cons (.fld 0 (.var 0) 0) .nil)))
  (.ret (.con .non))
  .nil
  (.asg 2 (.call i_bytes_text (.cons (.sl (.fld 0 (.var 0) 0) (.fld 0 (.var 0) 1) (.var 1)) .nil))
  (.fldS 0 (.var 0) 1 (.bin .add (.var 1) (.con (.int 1)))
  (.ret (.bm .split (.var 2) (.cons (.con (.str " ")) .nil)))))))))
def f_Received_row : Fn := ⟨false, 1, 3, b_Received_row⟩
abbrev i_Received_read_head : Nat := 62
/-- Received_read_head: self 0 words 1 code 2 size 3 many 4 -/
def b_Received_read_head : T := (.asg 1 (.meth 0 (.var 0) 0 .nil)
  (.ifs (.isn (.var 1))
  (.ret (.con .non))
  .nil
  (.ifs (.cmp .ne (.bf .len (.cons (.var 1) .nil)) (.con (.int 4)))
  (.rais 0)
  .nil
  (.asg 2 (.call i_number_of (.cons (.ix (.var 1) (.con (.int 0))) .nil))
  (.asg 3 (.call i_number_of (.cons (.ix (.var 1) (.con (.int 2))) .nil))
  (.asg 4 (.call i_number_of (.cons (.ix (.var 1) (.con (.int 3))) .nil))
  (.ifs (.or (.cmp .nin (.var 2) (.glb 8)) (.or (.isn (.var 3)) (.one (.isn (.var 4)))))
  (.rais 0)
  .nil
  (.fldS 0 (.var 0) 2 (.tup (.cons (.var 2) (.cons (.call i_read_mark (.cons (.ix (.var 1) (.con (.int 1))) .nil)) (.cons (.var 3) .nil))))
  (.ret (.var 4))))))))))
def f_Received_read_head : Fn := ⟨false, 1, 5, b_Received_read_head⟩
abbrev i_Received_read_part : Nat := 63
/-- Received_read_part: self 0 words 1 begin 2 size 3 body 4 -/
def b_Received_read_part : T := (.asg 1 (.meth 0 (.var 0) 0 .nil)
  (.ifs (.isn (.var 1))
  (.ret (.con (.bl false)))
  .nil
  (.ifs (.cmp .ne (.bf .len (.cons (.var 1) .nil)) (.con (.int 2)))
  (.rais 0)
  .nil
  (.asg 2 (.call i_number_of (.cons (.ix (.var 1) (.con (.int 0))) .nil))
  (.asg 3 (.call i_number_of (.cons (.ix (.var 1) (.con (.int 1))) .nil))
  (.ifs (.or (.isn (.var 2)) (.or (.isn (.var 3)) (.one (.cmp .gt (.bin .add (.var 2) (.var 3)) (.ix (.fld 0 (.var 0) 2) (.con (.int 2)))))))
  (.rais 0)
  .nil
  (.asg 4 (.sl (.fld 0 (.var 0) 0) (.fld 0 (.var 0) 1) (.bin .add (.fld 0 (.var 0) 1) (.var 3)))
  (.fldS 0 (.var 0) 3 (.bin .add (.fld 0 (.var 0) 3) (.tup (.cons (.tup (.cons (.var 2) (.cons (.var 4) .nil))) .nil)))
  (.fldS 0 (.var 0) 1 (.bin .add (.fld 0 (.var 0) 1) (.var 3))
  (.ifs (.cmp .ge (.fld 0 (.var 0) 1) (.bf .len (.cons (.fld 0 (.var 0) 0) .nil)))
  (.ret (.con (.bl false)))
  .nil
  (.ifs (.cmp .ne (.ix (.fld 0 (.var 0) 0) (.fld 0 (.var 0) 1)) (.bin .sub (.bf .len (.cons (.glb 7) .nil)) (.con (.int 1))))
  (.rais 0)
  .nil
  (.fldS 0 (.var 0) 1 (.bin .add (.fld 0 (.var 0) 1) (.con (.int 1)))
  (.ret (.con (.bl true)))))))))))))))
def f_Received_read_part : Fn := ⟨false, 1, 5, b_Received_read_part⟩
abbrev i_Received_read : Nat := 64
/-- Received_read: self 0 many 1 whole 2 -/
def b_Received_read : T := (.asg 1 (.meth 0 (.var 0) 1 .nil)
  (.ifs (.ntn (.var 1))
  (.asg 2 (.con (.bl true))
  (.whl (.and (.val (.var 2)) (.one (.cmp .lt (.bf .len (.cons (.fld 0 (.var 0) 3) .nil)) (.var 1))))
  (.asg 2 (.meth 0 (.var 0) 2 .nil)
  .nil)
  (.ifs (.val (.var 2))
  (.fldS 0 (.var 0) 4 (.con (.str "whole"))
  (.ifs (.cmp .lt (.fld 0 (.var 0) 1) (.bf .len (.cons (.fld 0 (.var 0) 0) .nil)))
  (.rais 0)
  .nil
  .nil))
  .nil
  .nil)))
  .nil
  .nil))
def f_Received_read : Fn := ⟨false, 1, 3, b_Received_read⟩
abbrev i_received : Nat := 65
/-- received: some 0 told 1 -/
def b_received : T := (.asg 1 (.mk 0 (.cons (.var 0) .nil))
  (.tr (.exp (.meth 0 (.var 1) 3 .nil)
  .nil)
  [0]
  (.fldS 0 (.var 1) 4 (.con (.str "bad"))
  .nil)
  (.ret (.tup (.cons (.fld 0 (.var 1) 2) (.cons (.fld 0 (.var 1) 3) (.cons (.fld 0 (.var 1) 4) .nil)))))))
def f_received : Fn := ⟨true, 1, 2, b_received⟩
class HasM (G : Tab) (c m : Nat) (f : outParam Nat) : Prop where
  h : G.meth c m = some f
class HasI (G : Tab) (c : Nat) (f : outParam Nat) : Prop where
  h : G.init c = some f
@[simp] theorem meth_of {G : Tab} {c m f : Nat} [h : HasM G c m f] : G.meth c m = some f := h.h
@[simp] theorem init_of {G : Tab} {c f : Nat} [h : HasI G c f] : G.init c = some f := h.h
/-! ### signs as bytes -/
def sgnL : List Nat := [48, 49, 50, 51, 52, 53, 54, 55, 56, 57, 97, 98, 99, 100, 101, 102, 103, 104, 105, 106, 107, 108, 109, 110, 111, 112, 113, 114, 115, 116, 117, 118, 119, 120, 121, 122, 32, 45, 44, 10]
theorem sgn_tl : (("0123456789abcdefghijklmnopqrstuvwxyz -,\n" : Str)).cps.toList = sgnL := by decide +kernel
theorem sgn_len : ("0123456789abcdefghijklmnopqrstuvwxyz -,\n" : Str).length = 40 := by decide +kernel
def sbN (c : Nat) : Nat := if 48 ≤ c ∧ c ≤ 57 then c - 48 else if 97 ≤ c ∧ c ≤ 122 then c - 87 else if c = 32 then 36 else if c = 45 then 37 else if c = 44 then 38 else 39
def sbI (c : Nat) : Int := (sbN c : Nat)
def bsI (x : Int) : Nat := sgnL.getD x.toNat 0
theorem find_sgn : ∀ c ∈ sgnL, Txt.find "0123456789abcdefghijklmnopqrstuvwxyz -,\n" (sg c) = sbI c := by decide +kernel
theorem bs_sb : ∀ c ∈ sgnL, bsI (sbI c) = c ∧ 0 ≤ sbI c ∧ sbI c < 40 := by decide +kernel
theorem sb_lf : ∀ c ∈ sgnL, sbI c = 39 ↔ c = 10 := by decide +kernel
abbrev tb (l : List Nat) : List Int := l.map sbI
abbrev Sgn (l : List Nat) : Prop := ∀ c ∈ l, c ∈ sgnL
/-! ### reading -/
inductive Row where
  | bad | more | ok (t : List Nat)
/-- the row that stands ahead -/
def rowL (r : List Int) : Row :=
  let w := r.takeWhile fun x => decide (x ≠ 39)
  if 40 < w.length then .bad else if w.length = r.length then .more else if (w.any fun x => decide (40 ≤ x)) = true then .bad else .ok (w.map bsI)
abbrev Hd : Type := Int × Int × Int
abbrev Part : Type := Int × List Int
def hdD (h : Hd) : D := .tup [.int h.1, .int h.2.1, .int h.2.2]
def partD (p : Part) : D := .tup [.int p.1, tl .int p.2]
instance : Okf hdD := ⟨fun _ => rfl, fun _ => rfl⟩
instance : Okf partD := ⟨fun p => by simp [partD, noRef, noRefs], fun p => by simp [partD, scl, scls]⟩
inductive Stand where
  | more | whole | bad
deriving DecidableEq
def stdS : Stand → Str
  | .more => "more"
  | .whole => "whole"
  | .bad => "bad"
def codes : List Int := [200, 206, 404, 412, 416]
def headF (ws : List (List Nat)) : Option (Hd × Int) := match ws with
  | [a, m, s, n] => match numO a, numO s, numO n, readF (tx m) with
    | some c, some z, some k, some mk => if c ∈ codes then some ((c, mk, z), k) else none
    | _, _, _, _ => none
  | _ => none
inductive PR where
  | stop (st : Stand) | last (p : Part) (st : Stand) | next (p : Part) (r : List Int)
def partU (x y : Int) (r' : List Int) : Option Int → PR
  | none => .last (x, r'.take y.toNat) .more
  | some c => if c = 39 then .next (x, r'.take y.toNat) (r'.drop (y.toNat + 1)) else .last (x, r'.take y.toNat) .bad
def partV (z : Int) (r' : List Int) : Option Int → Option Int → PR
  | some x, some y => if z < x + y then .stop .bad else partU x y r' r'[y.toNat]?
  | _, _ => .stop .bad
def partW (z : Int) (r' : List Int) : List (List Nat) → PR
  | [u, v] => partV z r' (numO u) (numO v)
  | _ => .stop .bad
/-- one part, as far as it came -/
def partR (z : Int) (r : List Int) : PR := match rowL r with
  | .bad => .stop .bad
  | .more => .stop .more
  | .ok t => partW z (r.drop (t.length + 1)) (spC 32 t)
def recP (z many : Int) : Nat → List Int → List Part → List Part × Stand
  | 0, _, ps => (ps, .bad)
  | n + 1, r, ps => if many ≤ ps.length then (ps, if r = [] then .whole else .bad) else match partR z r with
    | .stop st => (ps, st)
    | .last p st => (ps ++ [p], st)
    | .next p r' => recP z many n r' (ps ++ [p])
def recF (xs : List Int) : Option Hd × List Part × Stand := match rowL xs with
  | .bad => (none, [], .bad)
  | .more => (none, [], .more)
  | .ok t => match headF (spC 32 t) with
    | none => (none, [], .bad)
    | some (h, many) => let q := recP h.2.2 many (xs.length + 1) (xs.drop (t.length + 1)) []; (some h, q.1, q.2)
theorem takeW_len (r : List Int) : (r.takeWhile fun x => decide (x ≠ 39)).length ≤ r.length := (List.takeWhile_prefix _).length_le
theorem takeW_at {r : List Int} (h : (r.takeWhile fun x => decide (x ≠ 39)).length < r.length) : r[(r.takeWhile fun x => decide (x ≠ 39)).length]? = some 39 := by
  induction r with
  | nil => simp at h
  | cons x r ih =>
    by_cases hx : x = 39
    · subst hx; simp
    · have e : (x :: r).takeWhile (fun x => decide (x ≠ 39)) = x :: r.takeWhile fun x => decide (x ≠ 39) := by
        rw [List.takeWhile_cons, if_pos (by simpa using hx)]
      rw [e] at h ⊢
      simp only [List.length_cons] at h ⊢
      rw [List.getElem?_cons_succ]
      exact ih (by omega)
theorem takeW_ne {r : List Int} {i : Nat} {x : Int} (hi : i < (r.takeWhile fun x => decide (x ≠ 39)).length) (h : r[i]? = some x) : x ≠ 39 := by
  have p := List.takeWhile_prefix (p := fun x : Int => decide (x ≠ 39)) (l := r)
  have e : (r.takeWhile fun x => decide (x ≠ 39))[i]? = some x := by
    rw [List.getElem?_eq_getElem hi]
    rw [List.getElem?_eq_getElem (by have := takeW_len r; omega)] at h
    rw [← h]
    congr 1
    exact List.IsPrefix.getElem p hi
  have := List.all_eq_true.mp (List.all_takeWhile (p := fun x : Int => decide (x ≠ 39)) (l := r)) x (List.mem_of_getElem? e)
  simpa using this
theorem takeW_take (r : List Int) : r.take (r.takeWhile fun x => decide (x ≠ 39)).length = r.takeWhile fun x => decide (x ≠ 39) := by
  have p := List.takeWhile_prefix (p := fun x : Int => decide (x ≠ 39)) (l := r)
  exact (List.prefix_iff_eq_take.mp p).symm
/-- the rest behind a row is shorter -/
theorem rowL_ok {r : List Int} {t : List Nat} (h : rowL r = .ok t) : t.length + 1 ≤ r.length ∧ t.length ≤ 40 ∧ t.length = (r.takeWhile fun x => decide (x ≠ 39)).length := by
  unfold rowL at h
  simp only at h
  split at h
  · cases h
  · split at h
    · cases h
    · split at h
      · cases h
      · cases h
        have := takeW_len r
        rw [List.length_map]
        omega
theorem partU_next {x y : Int} {r' r2 : List Int} {o : Option Int} {p : Part} (ho : o = r'[y.toNat]?) (h : partU x y r' o = .next p r2) : r2 = r'.drop (y.toNat + 1) ∧ y.toNat < r'.length := by
  cases o with
  | none => cases h
  | some c =>
    simp only [partU] at h
    split at h
    · cases h
      exact ⟨rfl, (List.getElem?_eq_some_iff.mp ho.symm).1⟩
    · cases h
theorem partW_next {z : Int} {r' r2 : List Int} {ws : List (List Nat)} {p : Part} (h : partW z r' ws = .next p r2) : r2.length ≤ r'.length := by
  unfold partW at h
  split at h
  · unfold partV at h
    split at h
    · split at h
      · cases h
      · obtain ⟨rfl, h2⟩ := partU_next rfl h
        rw [List.length_drop]; omega
    · cases h
  · cases h
theorem partR_next {z : Int} {r r' : List Int} {p : Part} (h : partR z r = .next p r') : r'.length < r.length := by
  unfold partR at h
  split at h
  · cases h
  · cases h
  · rename_i t ht
    have := partW_next h
    have := rowL_ok ht
    rw [List.length_drop] at *
    omega
theorem recP_fuel (z many : Int) : ∀ (n m : Nat) (r : List Int) (ps : List Part), r.length < n → r.length < m → recP z many n r ps = recP z many m r ps
  | 0, _, _, _, h, _ => by omega
  | _, 0, _, _, _, h => by omega
  | n + 1, m + 1, r, ps, h1, h2 => by
    simp only [recP]
    cases hp : partR z r with
    | stop st => rfl
    | last p st => rfl
    | next p r' =>
      have := partR_next hp
      simp only [recP_fuel z many n m r' (ps ++ [p]) (by omega) (by omega)]

section
variable {G : Tab} {call : Calls} {env : Env} {S : Store} {k : Nat}
abbrev SIG : Str := "0123456789abcdefghijklmnopqrstuvwxyz -,\n"
theorem joinL_nil : ∀ l : List Nat, TL.joinL [] (l.map fun c => [c]) = l
  | [] => rfl
  | [c] => rfl
  | c :: d :: l => by
    have := joinL_nil (d :: l)
    rw [List.map_cons, List.map_cons]
    show [c] ++ ([] ++ TL.joinL [] ([d] :: l.map fun c => [c])) = _
    rw [List.map_cons] at this
    rw [this]; rfl
theorem t_emp : TL.tl ("" : Str) = [] := by decide +kernel
theorem join_sgs {l : List Nat} (h : l.length ≤ 9000) : bmD .join (.str "") [.lst (l.map sgD)] S = .ok (.str (tx l)) S := by
  have e : l.map sgD = ((l.map fun c => [c]).map tx).map D.str := by rw [List.map_map, List.map_map]; rfl
  rw [e, join_lst (by decide) (by simp; omega) (by
    intro y hy
    obtain ⟨z, hz, rfl⟩ := List.mem_map.mp hy
    obtain ⟨c, hc, rfl⟩ := List.mem_map.mp hz
    rw [len_tx]; simp), join_tx t_emp, joinL_nil]
theorem r_text_bytes [h : Has G i_text_bytes f_text_bytes] [h7 : HasC G 7 (.str SIG)] {l : List Nat} (hl : l.length ≤ 100000) (hs : Sgn l) : run G (k + 1) i_text_bytes [.str (tx l)] S = .ok (tl .int (tb l)) S := by
  refine pure_W (h := h) rfl rfl (by simp [frzAs]; rfl) ?_
  simp only [b_text_bytes, startE, x_ret, e_bf, e_cons, e_nil]
  rw [ev_compG (enc := sgD) (xs := l) (d := .str (tx l)) .int sbI]
  rotate_left
  · simp
  · simp
  · unfold SZ; omega
  · intro c hc
    have := find_sgn c (hs c hc)
    simp [compB, sgD, find_str, this]
  simp
theorem r_bytes_text [h : Has G i_bytes_text f_bytes_text] [h7 : HasC G 7 (.str SIG)] {xs : List Int} (hl : xs.length ≤ 9000) (h0 : ∀ x ∈ xs, 0 ≤ x) : run G (k + 1) i_bytes_text [tl .int xs] S = if (xs.any fun x => decide (40 ≤ x)) = true then .ex 0 S else .ok (.str (tx (xs.map bsI))) S := by
  have l7 : ∀ S, bfD .len [.str SIG] S = some (.int 40) := fun S => by rw [len_str (by rw [sgn_len]; decide), sgn_len]; rfl
  refine pure_W (h := h) rfl rfl (by simp [frzAs]; rfl) ?_
  simp only [b_bytes_text, startE, x_ifs, e_val, e_bf, e_cons, e_nil]
  rw [ev_compM (enc := D.int) (xs := xs) (d := tl .int xs) (fun x => .bl (decide (40 ≤ x)))]
  rotate_left
  · simp
  · simp
  · unfold SZ; omega
  · intro c hc
    simp [compB, l7]
  have an : ∀ S, bfD .any [.lst (xs.map fun x => .bl (decide (40 ≤ x)))] S = some (.bl (xs.any fun x => decide (40 ≤ x))) := fun S => any_ll
  simp only [R.bind_ok, toTup_tup, an, R.of_some, mapT_ok, truthy_bl, R.stm_ok]
  cases hq : (xs.any fun x => decide (40 ≤ x)) with
  | true => simp
  | false =>
    have hb : ∀ x ∈ xs, x < 40 := fun x hx => by
      have := List.any_eq_false.mp hq x hx
      simpa using this
    simp only [Bool.false_eq_true, if_false, x_nil, RS.andThen_nx, x_ret, e_bm, e_con, e_cons, e_nil, R.bind_ok, ok_join, if_true]
    rw [ev_compM (enc := D.int) (xs := xs) (d := tl .int xs) (fun x => sgD (bsI x))]
    rotate_left
    · simp
    · simp
    · unfold SZ; omega
    · intro x hx
      have b0 := h0 x hx
      have b1 := hb x hx
      have ix : ∀ S, getD_ (.str SIG) (.int x) S = some (.str (sg (bsI x))) := fun S => by
        rw [ix_str (by rw [sgn_len]; decide) b0 (by rw [sgn_len]; omega), sgn_tl]; rfl
      simp [compB, ix, sgD]
    have e : xs.map (fun x => sgD (bsI x)) = (xs.map bsI).map sgD := by rw [List.map_map]; rfl
    have jn := join_sgs (S := []) (l := xs.map bsI) (by simp; omega)
    rw [e]
    simp [-List.map_map, jn]
/-- the reader's state -/
abbrev RO (xs : List Int) (a : Nat) (hd : D) (ps : List Part) (st : Stand) : Store := [.ins 0 [(0, tl .int xs), (1, .int a), (2, hd), (3, tl partD ps), (4, .str (stdS st))]]
def rowO (xs : List Int) (a : Nat) (hd : D) (ps : List Part) (st : Stand) : Row → R D
  | .bad => .ex 0 (RO xs a hd ps st)
  | .more => .ok .non (RO xs a hd ps st)
  | .ok t => .ok (ll txD (spC 32 t)) (RO xs (a + (t.length + 1)) hd ps st)
theorem r_row [h : Has G i_Received_row f_Received_row] [hb : Has G i_bytes_text f_bytes_text] [h7 : HasC G 7 (.str SIG)] [h9 : HasC G 9 (.int 40)] {xs : List Int} {a : Nat} {hd : D} {ps : List Part} {st : Stand} (hl : xs.length ≤ 9000) (h0 : ∀ x ∈ xs, 0 ≤ x) (ha : a ≤ xs.length) :
    run G (k + 2) i_Received_row [.ref 0] (RO xs a hd ps st) = rowO xs a hd ps st (rowL (xs.drop a)) := by
  have l7 : ∀ S, bfD .len [.str SIG] S = some (.int 40) := fun S => by rw [len_str (by rw [sgn_len]; decide), sgn_len]; rfl
  have tw := takeW_len (xs.drop a)
  have rb : ∀ S, run G (k + 1) i_bytes_text [tl .int ((xs.drop a).takeWhile fun x => decide (x ≠ 39))] S = if (((xs.drop a).takeWhile fun x => decide (x ≠ 39)).any fun x => decide (40 ≤ x)) = true then .ex 0 S else .ok (.str (tx (((xs.drop a).takeWhile fun x => decide (x ≠ 39)).map bsI))) S := fun S => r_bytes_text (by rw [List.length_drop] at tw; omega) fun x hx => h0 x (List.mem_of_mem_drop ((List.takeWhile_prefix _).subset hx))
  have cut : cutD xs (some (a : Int)) (some ((a : Int) + ((xs.drop a).takeWhile fun x => decide (x ≠ 39)).length)) = (xs.drop a).takeWhile fun x => decide (x ≠ 39) := by
    rw [cut_both (by omega) (by omega), show (a : Int).toNat = a by omega, show ((a : Int) + ((xs.drop a).takeWhile fun x => decide (x ≠ 39)).length).toNat - a = ((xs.drop a).takeWhile fun x => decide (x ≠ 39)).length by omega, takeW_take]
  have hw1 : ∀ j, j < ((xs.drop a).takeWhile fun x => decide (x ≠ 39)).length → ∃ x, xs[a + j]? = some x ∧ x ≠ 39 := fun j hj => by
    have e : (xs.drop a)[j]? = some ((xs.drop a)[j]'(by omega)) := List.getElem?_eq_getElem _
    refine ⟨_, by rw [List.getElem?_drop] at e; exact e, takeW_ne hj e⟩
  have hw2 : ((xs.drop a).takeWhile fun x => decide (x ≠ 39)).length < (xs.drop a).length → xs[a + ((xs.drop a).takeWhile fun x => decide (x ≠ 39)).length]? = some 39 := fun h => by
    have := takeW_at h
    rwa [List.getElem?_drop] at this
  have r1 : 40 < ((xs.drop a).takeWhile fun x => decide (x ≠ 39)).length → rowL (xs.drop a) = .bad := fun h => by unfold rowL; exact if_pos h
  have r2 : ¬ 40 < ((xs.drop a).takeWhile fun x => decide (x ≠ 39)).length → ((xs.drop a).takeWhile fun x => decide (x ≠ 39)).length = (xs.drop a).length → rowL (xs.drop a) = .more := fun h h2 => by unfold rowL; exact (if_neg h).trans (if_pos h2)
  have r3 : ¬ 40 < ((xs.drop a).takeWhile fun x => decide (x ≠ 39)).length → ¬ ((xs.drop a).takeWhile fun x => decide (x ≠ 39)).length = (xs.drop a).length → (((xs.drop a).takeWhile fun x => decide (x ≠ 39)).any fun x => decide (40 ≤ x)) = true → rowL (xs.drop a) = .bad := fun h h2 h3 => by unfold rowL; exact (if_neg h).trans ((if_neg h2).trans (if_pos h3))
  have r4 : ¬ 40 < ((xs.drop a).takeWhile fun x => decide (x ≠ 39)).length → ¬ ((xs.drop a).takeWhile fun x => decide (x ≠ 39)).length = (xs.drop a).length → ¬ (((xs.drop a).takeWhile fun x => decide (x ≠ 39)).any fun x => decide (40 ≤ x)) = true → rowL (xs.drop a) = .ok (((xs.drop a).takeWhile fun x => decide (x ≠ 39)).map bsI) := fun h h2 h3 => by unfold rowL; exact (if_neg h).trans ((if_neg h2).trans (if_neg h3))
  generalize (xs.drop a).takeWhile (fun x => decide (x ≠ 39)) = w at *
  generalize rowL (xs.drop a) = row at *
  have dl : (xs.drop a).length = xs.length - a := List.length_drop

  refine imp_W (h := h) rfl rfl ?_
  simp only [b_Received_row, startE]
  have cl : ∀ a hd ps st, clsD (.ref 0) (RO xs a hd ps st) = some 0 := fun _ _ _ _ => rfl
  have g0 : ∀ a hd ps st, fldD (.ref 0) 0 (RO xs a hd ps st) = some (tl .int xs) := fun _ _ _ _ => rfl
  have g1 : ∀ a hd ps st, fldD (.ref 0) 1 (RO xs a hd ps st) = some (.int (a : Nat)) := fun _ _ _ _ => rfl
  have s1 : ∀ (a b : Nat) hd ps st, setFld (.ref 0) 1 (.int ((b : Nat) : Int)) (RO xs a hd ps st) = some (RO xs b hd ps st) := fun _ _ _ _ _ => rfl
  unfold rowO
  generalize hS : RO xs a hd ps st = S0 at *
  have cl0 : clsD (.ref 0) S0 = some 0 := by rw [← hS]; rfl
  have g00 : fldD (.ref 0) 0 S0 = some (tl .int xs) := by rw [← hS]; rfl
  have g10 : fldD (.ref 0) 1 S0 = some (.int (a : Nat)) := by rw [← hS]; rfl
  have s10 : ∀ (b : Nat), setFld (.ref 0) 1 (.int ((b : Nat) : Int)) S0 = some (RO xs b hd ps st) := by rw [← hS]; intro b; rfl
  simp [cl0, g00, g10]
  refine x_whlW (fun m e s => s = S0 ∧ m ≤ w.length ∧ e = [some (.ref 0), some (.int ((a : Int) + ((w.length - m : Nat) : Int))), none]) (m0 := w.length) ?_ (by omega) ?_
  · refine ⟨rfl, Nat.le_refl _, ?_⟩
    simp
  · rintro m e s ⟨rfl, hm, rfl⟩
    have ai : ∀ j : Nat, L2.atI xs ((a : Int) + (j : Int)) = xs[a + j]? := fun j => by rw [← Int.natCast_add]; exact atI_nat
    by_cases q : m = 0
    · subst q
      refine ⟨false, s, ?_, ?_⟩
      · rw [Nat.sub_zero]
        by_cases q1 : w.length < (xs.drop a).length
        · have q1' : (a : Int) + w.length < xs.length := by omega
          have q2 := hw2 q1
          simp [cl0, g00, l7, q1', ai, q2]
        · have q1' : ¬ (a : Int) + w.length < xs.length := by omega
          simp [cl0, g00, l7, q1']
      · rw [Nat.sub_zero]
        have sb : (a : Int) + w.length - a = w.length := by omega
        simp only [Bool.false_eq_true, if_false]
        by_cases c1 : 40 < w.length
        · have c1' : (40 : Int) < w.length := by omega
          rw [r1 c1]
          simp [cl0, g00, g10, sb, c1']
        · have c1' : ¬ (40 : Int) < w.length := by omega
          by_cases c2 : w.length = (xs.drop a).length
          · have c2' : (a : Int) + w.length = xs.length := by omega
            rw [r2 c1 c2]
            rw [c2']
            have sb' : (xs.length : Int) - a = w.length := by omega
            simp [cl0, g00, g10, sb', c1']
          · have c2' : ¬ (a : Int) + w.length = xs.length := by omega
            cases c3 : (w.any fun x => decide (40 ≤ x)) with
            | true =>
              rw [r3 c1 c2 c3]
              rw [c3] at rb
              simp only [if_true] at rb
              simp [cl0, g00, g10, sb, c1', c2', isEmp, part, cut, rb]
            | false =>
              rw [r4 c1 c2 (by rw [c3]; decide)]
              rw [c3] at rb
              simp only [Bool.false_eq_true, if_false] at rb
              simp only [List.length_map]
              have sp := fun S => split_str (S := S) (l := w.map bsI) (by rw [List.length_map]; omega) l_blank t_blank (by decide)
              have s11 := s10 (a + (w.length + 1))
              have e1 : (((a + (w.length + 1) : Nat)) : Int) = (a : Int) + w.length + 1 := by omega
              rw [e1] at s11
              simp [cl0, g00, g10, sb, c1', c2', isEmp, part, cut, rb, s11, sp]
    · obtain ⟨x, hx1, hx2⟩ := hw1 (w.length - m) (by omega)
      have lt := (List.getElem?_eq_some_iff.mp hx1).1
      have lt' : (a : Int) + ((w.length - m : Nat) : Int) < xs.length := by omega
      generalize hj : w.length - m = j at *
      refine ⟨true, s, ?_, ?_⟩
      · simp [cl0, g00, l7, lt', ai, hx1, hx2]
      · simp only [if_true]
        simp
        refine ⟨m - 1, by omega, by omega, ?_⟩
        omega

theorem r_read_markO [h : Has G i_read_mark f_read_mark] [h0 : HasC G 0 (.int 2147483647)] [h2 : HasC G 2 (.str "0123456789abcdef")] [h3 : HasC G 3 (.int 8)] {x : Str} (hx : x.length ≤ 1000000) : run G (k + 1) i_read_mark [.str x] S = exO 0 .int (readF x) S := by
  rw [r_read_mark hx]
  cases readF x <;> rfl
abbrev COD : D := .tup [.int 200, .int 206, .int 404, .int 412, .int 416]
theorem nin_codes {c : Int} : cop .nin (.int c) COD S = some (!decide (c ∈ codes)) := by
  show (memF (.int c) [.int 200, .int 206, .int 404, .int 412, .int 416]).map not = _
  simp only [memF, flatEq, codes, List.mem_cons, List.not_mem_nil, or_false, Option.map_some, Bool.or_false, Bool.decide_or]
  congr 2
  have e : ∀ a : Int, decide (a = c) = decide (c = a) := fun a => decide_eq_decide.mpr eq_comm
  rw [e 200, e 206, e 404, e 412, e 416]
theorem nin_codes0 : cop .nin .non COD S = some true := rfl
def headO2 (xs : List Int) (t : List Nat) : Option (Hd × Int) → R D
  | none => .ex 0 (RO xs (t.length + 1) .non [] .more)
  | some (h, n) => .ok (.int n) (RO xs (t.length + 1) (hdD h) [] .more)
def headO (xs : List Int) : Row → R D
  | .bad => .ex 0 (RO xs 0 .non [] .more)
  | .more => .ok .non (RO xs 0 .non [] .more)
  | .ok t => headO2 xs t (headF (spC 32 t))
theorem headF_none {ws : List (List Nat)} (h : ∀ a m s n, ws ≠ [a, m, s, n]) : ¬ (ws.length : Int) = 4 ∧ headF ws = none := by
  match ws, h with
  | [], _ => exact ⟨by simp, rfl⟩
  | [_], _ => exact ⟨by simp, rfl⟩
  | [_, _], _ => exact ⟨by simp, rfl⟩
  | [_, _, _], _ => exact ⟨by simp, rfl⟩
  | [a, b, c, d], h => exact absurd rfl (h a b c d)
  | _ :: _ :: _ :: _ :: _ :: _, _ => exact ⟨by simp; omega, rfl⟩
theorem r_read_head [h : Has G i_Received_read_head f_Received_read_head] [hr : Has G i_Received_row f_Received_row] [hm0 : HasM G 0 0 i_Received_row] [hb : Has G i_bytes_text f_bytes_text] [hn : Has G i_number_of f_number_of] [hm : Has G i_read_mark f_read_mark] [h0 : HasC G 0 (.int 2147483647)] [h2 : HasC G 2 (.str "0123456789abcdef")] [h3 : HasC G 3 (.int 8)] [h4 : HasC G 4 (.str "0123456789")] [h5 : HasC G 5 (.int 9)] [h7 : HasC G 7 (.str SIG)] [h8 : HasC G 8 COD] [h9 : HasC G 9 (.int 40)] {xs : List Int} (hl : xs.length ≤ 9000) (hx : ∀ x ∈ xs, 0 ≤ x) :
    run G (k + 3) i_Received_read_head [.ref 0] (RO xs 0 .non [] .more) = headO xs (rowL xs) := by
  have rr := r_row (G := G) (k := k) (a := 0) (hd := .non) (ps := []) (st := .more) hl hx (Nat.zero_le _)
  rw [List.drop_zero] at rr
  have rn : ∀ (l : List Nat) S, l.length ≤ 1000000 → run G (k + 2) i_number_of [.str (tx l)] S = .ok (opD .int (numO l)) S := fun l S h => r_number_of h
  have rm : ∀ (l : List Nat) S, l.length ≤ 1000000 → run G (k + 2) i_read_mark [.str (tx l)] S = exO 0 .int (readF (tx l)) S := fun l S h => r_read_markO (by rw [len_tx]; exact h)
  have cl : ∀ a hd ps st, clsD (.ref 0) (RO xs a hd ps st) = some 0 := fun _ _ _ _ => rfl
  have s2 : ∀ (a : Nat) hd v ps st, setFld (.ref 0) 2 v (RO xs a hd ps st) = some (RO xs a v ps st) := fun _ _ _ _ _ => rfl
  refine imp_W (h := h) rfl rfl ?_
  simp only [b_Received_read_head, startE]
  generalize run G (k + 2) = call at *
  cases hrow : rowL xs with
  | bad => rw [hrow] at rr; simp [rowO] at rr; simp [cl, rr, headO]
  | more => rw [hrow] at rr; simp [rowO] at rr; simp [cl, rr, headO]
  | ok t =>
    obtain ⟨t1, t2, t3⟩ := rowL_ok hrow
    rw [hrow] at rr
    simp only [rowO, Nat.zero_add] at rr
    have q := (spC_len 32 t).2
    simp only [headO]
    generalize spC 32 t = ws at *
    by_cases hw : ∃ a m s n, ws = [a, m, s, n]
    · obtain ⟨a, m, s, n, rfl⟩ := hw
      have la := q a (by simp)
      have lm := q m (by simp)
      have ls := q s (by simp)
      have ln := q n (by simp)
      have g : ∀ (i : Nat) (l : List Nat) S, [a, m, s, n][i]? = some l → getD_ (ll txD [a, m, s, n]) (.int (i : Int)) S = some (.str (tx l)) := fun i l S h => by rw [ix_ll, atI_nat, h]; rfl
      have g0 : ∀ S, getD_ (ll txD [a, m, s, n]) (.int 0) S = some (.str (tx a)) := fun S => g 0 a S rfl
      have g1 : ∀ S, getD_ (ll txD [a, m, s, n]) (.int 1) S = some (.str (tx m)) := fun S => g 1 m S rfl
      have g2 : ∀ S, getD_ (ll txD [a, m, s, n]) (.int 2) S = some (.str (tx s)) := fun S => g 2 s S rfl
      have g3 : ∀ S, getD_ (ll txD [a, m, s, n]) (.int 3) S = some (.str (tx n)) := fun S => g 3 n S rfl
      have na := fun S => rn a S (by omega)
      have ns := fun S => rn s S (by omega)
      have nn := fun S => rn n S (by omega)
      have nm := fun S => rm m S (by omega)
      have s2 : ∀ v, setFld (.ref 0) 2 v (RO xs (t.length + 1) .non [] .more) = some (RO xs (t.length + 1) v [] .more) := fun v => s2 _ _ _ _ _
      have cl1 : clsD (.ref 0) (RO xs (t.length + 1) .non [] .more) = some 0 := rfl
      have f2 : headO2 xs t none = .ex 0 (RO xs (t.length + 1) .non [] .more) := rfl
      have f3 : ∀ h n, headO2 xs t (some (h, n)) = .ok (.int n) (RO xs (t.length + 1) (hdD h) [] .more) := fun _ _ => rfl
      simp only [headF]
      generalize RO xs (t.length + 1) .non [] .more = S1 at *
      cases ha : numO a with
      | none =>
        rw [ha] at na
        have e : (match (none : Option Int), numO s, numO n, readF (tx m) with | some c, some z, some k, some mk => if c ∈ codes then some ((c, mk, z), k) else none | _, _, _, _ => none) = none := by cases numO s <;> cases numO n <;> cases readF (tx m) <;> rfl
        rw [e, f2]
        simp [cl, rr, g0, g1, g2, g3, -ix_ll, na, ns, nn, opD, nin_codes0]
      | some c =>
        rw [ha] at na
        by_cases hc : c ∈ codes
        · cases hs : numO s with
          | none =>
            rw [hs] at ns
            have e : (match some c, (none : Option Int), numO n, readF (tx m) with | some c, some z, some k, some mk => if c ∈ codes then some ((c, mk, z), k) else none | _, _, _, _ => none) = none := by cases numO n <;> cases readF (tx m) <;> rfl
            rw [e, f2]
            simp [cl, rr, g0, g1, g2, g3, -ix_ll, na, ns, nn, opD, nin_codes, hc]
          | some z =>
            rw [hs] at ns
            cases hn : numO n with
            | none =>
              rw [hn] at nn
              have e : (match some c, some z, (none : Option Int), readF (tx m) with | some c, some z, some k, some mk => if c ∈ codes then some ((c, mk, z), k) else none | _, _, _, _ => none) = none := by cases readF (tx m) <;> rfl
              rw [e, f2]
              simp [cl, rr, g0, g1, g2, g3, -ix_ll, na, ns, nn, opD, nin_codes, hc]
            | some y =>
              rw [hn] at nn
              cases hm : readF (tx m) with
              | none =>
                rw [hm] at nm
                simp only [f2]
                simp [cl, rr, g0, g1, g2, g3, -ix_ll, na, ns, nn, nm, opD, nin_codes, hc]
              | some mk =>
                rw [hm] at nm
                simp only [if_pos hc, f3]
                have s3 := s2 (.tup [.int c, .int mk, .int z])
                simp [cl, rr, g0, g1, g2, g3, -ix_ll, na, ns, nn, nm, opD, nin_codes, hc, cl1, s3]
                rfl
        · have e : (match some c, numO s, numO n, readF (tx m) with | some c, some z, some k, some mk => if c ∈ codes then some ((c, mk, z), k) else none | _, _, _, _ => none) = none := by cases numO s <;> cases numO n <;> cases readF (tx m) <;> simp [hc]
          rw [e, f2]
          simp [cl, rr, g0, g1, g2, g3, -ix_ll, na, ns, nn, opD, nin_codes, hc]
    · obtain ⟨l1, l2⟩ := headF_none fun a m s n e => hw ⟨a, m, s, n, e⟩
      rw [l2]
      simp [cl, rr, l1, headO2]
end
end PL

set_option Elab.async false
set_option linter.all false
set_option maxRecDepth 100000
set_option maxHeartbeats 1000000
/-! PMW: parts, what is received. -/
namespace PL
open PySem

section
variable {G : Tab} {call : Calls} {env : Env} {S : Store} {k : Nat}
def partO (xs : List Int) (a : Nat) (h : Hd) (ps : List Part) : PR → R D
  | .stop .more => .ok (.bl false) (RO xs a (hdD h) ps .more)
  | .stop _ => .ex 0 (RO xs a (hdD h) ps .more)
  | .last p .more => .ok (.bl false) (RO xs a (hdD h) (ps ++ [p]) .more)
  | .last p _ => .ex 0 (RO xs a (hdD h) (ps ++ [p]) .more)
  | .next p _ => .ok (.bl true) (RO xs a (hdD h) (ps ++ [p]) .more)
theorem words2 {ws : List (List Nat)} (h : ∀ u v, ws ≠ [u, v]) : ¬ (ws.length : Int) = 2 := by
  match ws, h with
  | [], _ => simp
  | [_], _ => simp
  | [u, v], h => exact absurd rfl (h u v)
  | _ :: _ :: _ :: _, _ => simp; omega
theorem r_read_part [h : Has G i_Received_read_part f_Received_read_part] [hr : Has G i_Received_row f_Received_row] [hm0 : HasM G 0 0 i_Received_row] [hb : Has G i_bytes_text f_bytes_text] [hn : Has G i_number_of f_number_of] [h4 : HasC G 4 (.str "0123456789")] [h5 : HasC G 5 (.int 9)] [h7 : HasC G 7 (.str SIG)] [h9 : HasC G 9 (.int 40)] {xs : List Int} {a : Nat} {hd : Hd} {ps : List Part} (hl : xs.length ≤ 9000) (hx : ∀ x ∈ xs, 0 ≤ x) (ha : a ≤ xs.length) (hp : ps.length ≤ 100000) :
    ∃ a', run G (k + 3) i_Received_read_part [.ref 0] (RO xs a (hdD hd) ps .more) = partO xs a' hd ps (partR hd.2.2 (xs.drop a)) ∧ ∀ p r', partR hd.2.2 (xs.drop a) = .next p r' → r' = xs.drop a' ∧ a' ≤ xs.length := by
  have rr := r_row (G := G) (k := k) (a := a) (hd := hdD hd) (ps := ps) (st := .more) hl hx ha
  have rn : ∀ (l : List Nat) S, l.length ≤ 1000000 → run G (k + 2) i_number_of [.str (tx l)] S = .ok (opD .int (numO l)) S := fun l S h => r_number_of h
  have l7 : ∀ S, bfD .len [.str SIG] S = some (.int 40) := fun S => by rw [len_str (by rw [sgn_len]; decide), sgn_len]; rfl
  have cl : ∀ a hd ps st, clsD (.ref 0) (RO xs a hd ps st) = some 0 := fun _ _ _ _ => rfl
  have g0 : ∀ a hd ps st, fldD (.ref 0) 0 (RO xs a hd ps st) = some (tl .int xs) := fun _ _ _ _ => rfl
  have g1 : ∀ a hd ps st, fldD (.ref 0) 1 (RO xs a hd ps st) = some (.int (a : Nat)) := fun _ _ _ _ => rfl
  have g2 : ∀ a hd ps st, fldD (.ref 0) 2 (RO xs a hd ps st) = some hd := fun _ _ _ _ => rfl
  have g3 : ∀ a hd ps st, fldD (.ref 0) 3 (RO xs a hd ps st) = some (tl partD ps) := fun _ _ _ _ => rfl
  have s1 : ∀ (a b : Nat) hd ps st, setFld (.ref 0) 1 (.int ((b : Nat) : Int)) (RO xs a hd ps st) = some (RO xs b hd ps st) := fun _ _ _ _ _ => rfl
  have s3 : ∀ (a : Nat) hd ps qs st, setFld (.ref 0) 3 (tl partD qs) (RO xs a hd ps st) = some (RO xs a hd qs st) := fun _ _ _ _ _ => rfl
  suffices key : ∃ a', Sat (FinI (partO xs a' hd ps (partR hd.2.2 (xs.drop a)))) (exT G (run G (k + 2)) b_Received_read_part (startE 5 [.ref 0]) (RO xs a (hdD hd) ps .more)) ∧ ∀ p r', partR hd.2.2 (xs.drop a) = .next p r' → r' = xs.drop a' ∧ a' ≤ xs.length by
    obtain ⟨a', h1, h2⟩ := key
    exact ⟨a', imp_W (h := h) rfl rfl h1, h2⟩
  simp only [b_Received_read_part, startE]
  generalize run G (k + 2) = call at *
  unfold partR
  cases hrow : rowL (xs.drop a) with
  | bad => rw [hrow] at rr; simp [rowO] at rr; exact ⟨a, by simp [cl, rr, partO], by simp⟩
  | more => rw [hrow] at rr; simp [rowO] at rr; exact ⟨a, by simp [cl, rr, partO], by simp⟩
  | ok t =>
    obtain ⟨t1, t2, t3⟩ := rowL_ok hrow
    rw [List.length_drop] at t1
    rw [hrow] at rr
    simp only [rowO] at rr
    have q := (spC_len 32 t).2
    have dr : (xs.drop a).drop (t.length + 1) = xs.drop (a + (t.length + 1)) := List.drop_drop
    simp only [dr]
    generalize hb : a + (t.length + 1) = b at *
    have bl : b ≤ xs.length := by omega
    generalize spC 32 t = ws at *
    by_cases hw : ∃ u v, ws = [u, v]
    · obtain ⟨u, v, rfl⟩ := hw
      have lu := q u (by simp)
      have lv := q v (by simp)
      have k0 : ∀ S, getD_ (ll txD [u, v]) (.int 0) S = some (.str (tx u)) := fun S => by rw [ix_ll, atI_nn (by decide)]; rfl
      have k1 : ∀ S, getD_ (ll txD [u, v]) (.int 1) S = some (.str (tx v)) := fun S => by rw [ix_ll, atI_nn (by decide)]; rfl
      have nu := fun S => rn u S (by omega)
      have nv := fun S => rn v S (by omega)
      show ∃ a', Sat (FinI (partO xs a' hd ps (partV hd.2.2 (xs.drop b) (numO u) (numO v)))) _ ∧ ∀ p r', partV hd.2.2 (xs.drop b) (numO u) (numO v) = .next p r' → _
      cases hu : numO u with
      | none =>
        rw [hu] at nu
        have e : partV hd.2.2 (xs.drop b) none (numO v) = .stop .bad := by cases numO v <;> rfl
        rw [e]
        refine ⟨b, ?_, by simp⟩
        simp [cl, rr, k0, k1, -ix_ll, nu, nv, opD, partO]
      | some x =>
        rw [hu] at nu
        cases hv : numO v with
        | none =>
          rw [hv] at nv
          refine ⟨b, ?_, by simp [partV]⟩
          simp [cl, rr, k0, k1, -ix_ll, nu, nv, opD, partO, partV]
        | some y =>
          rw [hv] at nv
          obtain ⟨x0, x1, _⟩ := numO_back hu
          obtain ⟨y0, y1, _⟩ := numO_back hv
          obtain ⟨m, rfl⟩ := Int.eq_ofNat_of_zero_le y0
          have h2 : ∀ S, getD_ (hdD hd) (.int 2) S = some (.int hd.2.2) := fun S => ix2_tup
          simp only [partV]
          by_cases c1 : hd.2.2 < x + (m : Int)
          · simp only [if_pos c1]
            refine ⟨b, ?_, by simp⟩
            simp [cl, rr, k0, k1, -ix_ll, nu, nv, opD, g2, h2, c1, partO]
          · simp only [if_neg c1, Int.toNat_natCast]
            have cut : cutD xs (some (b : Int)) (some ((b : Int) + m)) = (xs.drop b).take m := by
              rw [cut_both (by omega) (by omega), show (b : Int).toNat = b by omega]; congr 1; omega
            have ad : ∀ (body : List Int) S, bop .add (tl partD ps) (.tup [.tup [.int x, tl .int body]]) S = some (tl partD (ps ++ [(x, body)])) := fun body S => add_tl1 rfl (by unfold SZ; omega)
            have by_ : (b : Int) + m = ((b + m : Nat) : Int) := by omega
            have s11 := fun ps => s1 b (b + m) (hdD hd) ps .more
            have s12 := fun ps => s1 (b + m) (b + m + 1) (hdD hd) ps .more
            have g11 := fun hd ps st => g1 (b + m) hd ps st
            have e1 : (((b + m + 1 : Nat)) : Int) = (b : Int) + m + 1 := by omega
            have ai : L2.atI xs ((b : Int) + m) = xs[b + m]? := by rw [by_]; exact atI_nat
            rw [← by_] at s11 g11
            rw [e1] at s12
            have dg : (xs.drop b)[m]? = xs[b + m]? := List.getElem?_drop
            rw [dg]
            cases hc : xs[b + m]? with
            | none =>
              have c2 : (xs.length : Int) ≤ (b : Int) + m := by have := List.getElem?_eq_none_iff.mp hc; omega
              refine ⟨b + m, ?_, by simp [partU]⟩
              simp [cl, rr, k0, k1, -ix_ll, nu, nv, opD, g0, g1, g2, g3, h2, c1, isEmp, part, cut, ad, s3, s11, g11, c2, partU, partO]
            | some c =>
              have lt := (List.getElem?_eq_some_iff.mp hc).1
              have c2 : ¬ (xs.length : Int) ≤ (b : Int) + m := by omega
              rw [hc] at ai
              simp only [partU, Int.toNat_natCast]
              by_cases c3 : c = 39
              · simp only [if_pos c3]
                refine ⟨b + m + 1, ?_, ?_⟩
                · simp [cl, rr, k0, k1, -ix_ll, nu, nv, opD, g0, g1, g2, g3, h2, c1, isEmp, part, cut, ad, s3, s11, s12, g11, c2, partO, ai, l7, c3]
                · rintro p r' hh
                  cases hh
                  refine ⟨?_, by omega⟩
                  rw [List.drop_drop]; congr 1
              · simp only [if_neg c3]
                refine ⟨b + m, ?_, by simp⟩
                simp [cl, rr, k0, k1, -ix_ll, nu, nv, opD, g0, g1, g2, g3, h2, c1, isEmp, part, cut, ad, s3, s11, s12, g11, c2, partO, ai, l7, c3]
    · have l1 := words2 fun u v e => hw ⟨u, v, e⟩
      have e : partW hd.2.2 (xs.drop b) ws = .stop .bad := by
        match ws, hw with
        | [], _ => rfl
        | [_], _ => rfl
        | [u, v], hw => exact absurd ⟨u, v, rfl⟩ hw
        | _ :: _ :: _ :: _, _ => rfl
      rw [e]
      refine ⟨b, ?_, by simp⟩
      simp [cl, rr, l1, partO]

theorem partU_nw {x y : Int} {r : List Int} {o : Option Int} : partU x y r o ≠ .stop .whole ∧ ∀ p, partU x y r o ≠ .last p .whole := by
  cases o with
  | none => simp [partU]
  | some c => by_cases h : c = 39 <;> simp [partU, h]
theorem partR_nw {z : Int} {r : List Int} : partR z r ≠ .stop .whole ∧ ∀ p, partR z r ≠ .last p .whole := by
  unfold partR
  cases rowL r with
  | bad => simp
  | more => simp
  | ok t =>
    simp only
    generalize spC 32 t = ws
    match ws with
    | [] => simp [partW]
    | [_] => simp [partW]
    | _ :: _ :: _ :: _ => simp [partW]
    | [u, v] =>
      simp only [partW]
      cases numO u with
      | none => simp [partV]
      | some x =>
        cases numO v with
        | none => simp [partV]
        | some y =>
          simp only [partV]
          split
          · simp
          · exact partU_nw
theorem andThen_id (r : RS) : (r.andThen fun e s => .nx e s) = r := by cases r <;> rfl
abbrev Rcv : Type := Option Hd × List Part × Stand
def recD (r : Rcv) : D := .tup [opD hdD r.1, tl partD r.2.1, .str (stdS r.2.2)]
def recOut (xs : List Int) (a : Nat) (st' : Stand) : Rcv → R D
  | (h, ps, .bad) => .ex 0 (RO xs a (opD hdD h) ps st')
  | (h, ps, st) => .ok .non (RO xs a (opD hdD h) ps st)
theorem r_read [h : Has G i_Received_read f_Received_read] [hh : Has G i_Received_read_head f_Received_read_head] [hp : Has G i_Received_read_part f_Received_read_part] [hr : Has G i_Received_row f_Received_row] [hm0 : HasM G 0 0 i_Received_row] [hm1 : HasM G 0 1 i_Received_read_head] [hm2 : HasM G 0 2 i_Received_read_part] [hb : Has G i_bytes_text f_bytes_text] [hn : Has G i_number_of f_number_of] [hm : Has G i_read_mark f_read_mark] [h0 : HasC G 0 (.int 2147483647)] [h2 : HasC G 2 (.str "0123456789abcdef")] [h3 : HasC G 3 (.int 8)] [h4 : HasC G 4 (.str "0123456789")] [h5 : HasC G 5 (.int 9)] [h7 : HasC G 7 (.str SIG)] [h8 : HasC G 8 COD] [h9 : HasC G 9 (.int 40)] {xs : List Int} (hl : xs.length ≤ 9000) (hx : ∀ x ∈ xs, 0 ≤ x) :
    ∃ a' st', run G (k + 4) i_Received_read [.ref 0] (RO xs 0 .non [] .more) = recOut xs a' st' (recF xs) := by
  have rh := r_read_head (G := G) (k := k) hl hx
  have rp := fun (a : Nat) hd (ps : List Part) (ha : a ≤ xs.length) hp => r_read_part (G := G) (k := k) (a := a) (hd := hd) (ps := ps) hl hx ha hp
  have cl : ∀ a hd ps st, clsD (.ref 0) (RO xs a hd ps st) = some 0 := fun _ _ _ _ => rfl
  have g0 : ∀ a hd ps st, fldD (.ref 0) 0 (RO xs a hd ps st) = some (tl .int xs) := fun _ _ _ _ => rfl
  have g1 : ∀ a hd ps st, fldD (.ref 0) 1 (RO xs a hd ps st) = some (.int (a : Nat)) := fun _ _ _ _ => rfl
  have g3 : ∀ a hd ps st, fldD (.ref 0) 3 (RO xs a hd ps st) = some (tl partD ps) := fun _ _ _ _ => rfl
  have s4 : ∀ (a : Nat) hd ps st, setFld (.ref 0) 4 (.str "whole") (RO xs a hd ps st) = some (RO xs a hd ps .whole) := fun _ _ _ _ => rfl
  have e : run G (k + 4) i_Received_read [.ref 0] (RO xs 0 .non [] .more) = finI (exT G (run G (k + 3)) b_Received_read (startE 3 [.ref 0]) (RO xs 0 .non [] .more)) := imp_W (h := h) (o := finI (exT G (run G (k + 3)) b_Received_read (startE 3 [.ref 0]) (RO xs 0 .non [] .more))) rfl rfl rfl
  rw [e]
  clear e
  change Sat (fun r => ∃ a' st', finI r = recOut xs a' st' (recF xs)) _
  simp only [b_Received_read, startE]
  generalize run G (k + 3) = call at *
  unfold recF
  cases hrow : rowL xs with
  | bad =>
    rw [hrow] at rh; simp only [headO] at rh
    simp [cl, rh]
    exact ⟨0, .more, rfl⟩
  | more =>
    rw [hrow] at rh; simp only [headO] at rh
    simp [cl, rh]
    exact ⟨0, .more, rfl⟩
  | ok t =>
    obtain ⟨t1, t2, t3⟩ := rowL_ok hrow
    rw [hrow] at rh
    simp only [headO] at rh ⊢
    cases hhd : headF (spC 32 t) with
    | none =>
      rw [hhd] at rh; simp only [headO2] at rh
      simp [cl, rh]
      exact ⟨_, .more, rfl⟩
    | some q =>
      obtain ⟨hd, n⟩ := q
      rw [hhd] at rh; simp only [headO2] at rh
      simp only
      generalize hfin : recP hd.2.2 n (xs.length + 1) (xs.drop (t.length + 1)) [] = fin
      simp [cl, rh]
      rw [andThen_id]
      refine x_whlW (fun m e s => ∃ whole a ps, s = RO xs a (hdD hd) ps .more ∧ e = [some (.ref 0), some (.int n), some (.bl whole)] ∧ ((whole = true ∧ a ≤ xs.length ∧ ps.length ≤ a ∧ m = (xs.length - a) + 1 ∧ recP hd.2.2 n (xs.length + 1) (xs.drop a) ps = fin) ∨ (whole = false ∧ m = 0 ∧ fin = (ps, .more)))) (m0 := (xs.length - (t.length + 1)) + 1) ?_ (by omega) ?_
      · exact ⟨true, t.length + 1, [], rfl, rfl, .inl ⟨rfl, t1, by simp, rfl, hfin⟩⟩
      · rintro m e s ⟨whole, a, ps, rfl, rfl, ⟨rfl, ha, hps, rfl, hrec⟩ | ⟨rfl, rfl, rfl⟩⟩
        · simp only [recP] at hrec
          by_cases c1 : n ≤ (ps.length : Int)
          · have c1' : ¬ (ps.length : Int) < n := by omega
            rw [if_pos c1] at hrec
            refine ⟨false, RO xs a (hdD hd) ps .more, by simp [cl, g3, c1'], ?_⟩
            simp only [Bool.false_eq_true, if_false]
            by_cases c2 : a < xs.length
            · have c2' : (a : Int) < xs.length := by omega
              have c3 : xs.drop a ≠ [] := by intro h; have := congrArg List.length h; rw [List.length_drop] at this; simp at this; omega
              rw [if_neg c3] at hrec
              subst hrec
              simp [cl, g0, g1, s4, c2']
              exact ⟨a, .whole, rfl⟩
            · have c2' : ¬ (a : Int) < xs.length := by omega
              have c3 : xs.drop a = [] := List.drop_eq_nil_of_le (by omega)
              rw [if_pos c3] at hrec
              subst hrec
              simp [cl, g0, g1, s4, c2']
              exact ⟨a, .whole, rfl⟩
          · have c1' : (ps.length : Int) < n := by omega
            rw [if_neg c1] at hrec
            refine ⟨true, RO xs a (hdD hd) ps .more, by simp [cl, g3, c1'], ?_⟩
            simp only [if_true]
            obtain ⟨a', h1, h2⟩ := rp a hd ps ha (by omega)
            obtain ⟨w1, w2⟩ := partR_nw (z := hd.2.2) (r := xs.drop a)
            cases hpr : partR hd.2.2 (xs.drop a) with
            | stop st =>
              rw [hpr] at h1 hrec w1
              subst hrec
              cases st with
              | more =>
                simp only [x_asg, e_meth, e_var, List.getElem?_cons_zero, R.bind_ok, cl, meth_of, if_true, e_nil, toTup_tup, h1, partO, R.stm_ok, R.stm_ex, x_nil, sat_nx, sat_ex, List.set_cons_succ, List.set_cons_zero]
                exact ⟨0, by omega, false, a', ps, rfl, rfl, .inr ⟨rfl, rfl, rfl⟩⟩
              | whole => exact absurd rfl w1
              | bad =>
                simp only [x_asg, e_meth, e_var, List.getElem?_cons_zero, R.bind_ok, cl, meth_of, if_true, e_nil, toTup_tup, h1, partO, R.stm_ok, R.stm_ex, x_nil, sat_nx, sat_ex, List.set_cons_succ, List.set_cons_zero]
                exact ⟨a', .more, rfl⟩
            | last p st =>
              rw [hpr] at h1 hrec w2
              subst hrec
              cases st with
              | more =>
                simp only [x_asg, e_meth, e_var, List.getElem?_cons_zero, R.bind_ok, cl, meth_of, if_true, e_nil, toTup_tup, h1, partO, R.stm_ok, R.stm_ex, x_nil, sat_nx, sat_ex, List.set_cons_succ, List.set_cons_zero]
                exact ⟨0, by omega, false, a', ps ++ [p], rfl, rfl, .inr ⟨rfl, rfl, rfl⟩⟩
              | whole => exact absurd rfl (w2 p)
              | bad =>
                simp only [x_asg, e_meth, e_var, List.getElem?_cons_zero, R.bind_ok, cl, meth_of, if_true, e_nil, toTup_tup, h1, partO, R.stm_ok, R.stm_ex, x_nil, sat_nx, sat_ex, List.set_cons_succ, List.set_cons_zero]
                exact ⟨a', .more, rfl⟩
            | next p r' =>
              have sh := partR_next hpr
              obtain ⟨rfl, h4⟩ := h2 p r' hpr
              rw [hpr] at h1 hrec
              simp only [List.length_drop] at sh
              simp only at hrec
              rw [recP_fuel hd.2.2 n xs.length (xs.length + 1) _ _ (by rw [List.length_drop]; omega) (by rw [List.length_drop]; omega)] at hrec
              simp only [x_asg, e_meth, e_var, List.getElem?_cons_zero, R.bind_ok, cl, meth_of, if_true, e_nil, toTup_tup, h1, partO, R.stm_ok, R.stm_ex, x_nil, sat_nx, sat_ex, List.set_cons_succ, List.set_cons_zero]
              exact ⟨(xs.length - a') + 1, by omega, true, a', ps ++ [p], rfl, rfl, .inl ⟨rfl, h4, by simp; omega, rfl, hrec⟩⟩
        · refine ⟨false, RO xs a (hdD hd) ps .more, by simp, ?_⟩
          simp
          exact ⟨a, .more, rfl⟩
theorem r_received [h : Has G i_received f_received] [hi : HasI G 0 i_Received_init] [hin : Has G i_Received_init f_Received_init] [hm3 : HasM G 0 3 i_Received_read] [hrd : Has G i_Received_read f_Received_read] [hh : Has G i_Received_read_head f_Received_read_head] [hp : Has G i_Received_read_part f_Received_read_part] [hr : Has G i_Received_row f_Received_row] [hm0 : HasM G 0 0 i_Received_row] [hm1 : HasM G 0 1 i_Received_read_head] [hm2 : HasM G 0 2 i_Received_read_part] [hb : Has G i_bytes_text f_bytes_text] [hn : Has G i_number_of f_number_of] [hm : Has G i_read_mark f_read_mark] [h0 : HasC G 0 (.int 2147483647)] [h2 : HasC G 2 (.str "0123456789abcdef")] [h3 : HasC G 3 (.int 8)] [h4 : HasC G 4 (.str "0123456789")] [h5 : HasC G 5 (.int 9)] [h7 : HasC G 7 (.str SIG)] [h8 : HasC G 8 COD] [h9 : HasC G 9 (.int 40)] {xs : List Int} (he : 0 ∈ G.exs) (hl : xs.length ≤ 9000) (hx : ∀ x ∈ xs, 0 ≤ x) :
    run G (k + 5) i_received [tl .int xs] S = .ok (recD (recF xs)) S := by
  obtain ⟨a', st', rr⟩ := r_read (G := G) (k := k) hl hx
  have ri : run G (k + 4) i_Received_init [.ref 0, tl .int xs] [.ins 0 []] = .ok .non (RO xs 0 .non [] .more) := by
    refine imp_W (h := hin) rfl rfl ?_
    simp [b_Received_init, startE, clsD, setFld, fldPut]
    exact ⟨rfl, rfl⟩
  have cl : ∀ a hd ps st, clsD (.ref 0) (RO xs a hd ps st) = some 0 := fun _ _ _ _ => rfl
  have g2 : ∀ a hd ps st, fldD (.ref 0) 2 (RO xs a hd ps st) = some hd := fun _ _ _ _ => rfl
  have g3 : ∀ a hd ps st, fldD (.ref 0) 3 (RO xs a hd ps st) = some (tl partD ps) := fun _ _ _ _ => rfl
  have g4 : ∀ a hd ps st, fldD (.ref 0) 4 (RO xs a hd ps st) = some (.str (stdS st)) := fun _ _ _ _ => rfl
  have s4 : ∀ (a : Nat) hd ps st, setFld (.ref 0) 4 (.str "bad") (RO xs a hd ps st) = some (RO xs a hd ps .bad) := fun _ _ _ _ => rfl
  refine pure_W (h := h) rfl rfl (by simp [frzAs]; rfl) ?_
  simp only [b_received, startE]
  generalize run G (k + 4) = call at *
  generalize recF xs = q at *
  obtain ⟨hd, ps, st⟩ := q
  have sc : scl (recD (hd, ps, st)) = true := by
    simp [recD, scl, scls, Okf.sc (f := opD hdD) hd]
  have sc' := frzR_scl' (S := RO xs a' (opD hdD hd) ps st) sc
  cases st with
  | more =>
    simp only [recOut] at rr
    simp [ri, rr, cl, g2, g3, g4]
    rw [show D.tup [opD hdD hd, tl partD ps, .str (stdS .more)] = recD (hd, ps, .more) from rfl, sc']; rfl
  | whole =>
    simp only [recOut] at rr
    simp [ri, rr, cl, g2, g3, g4]
    rw [show D.tup [opD hdD hd, tl partD ps, .str (stdS .whole)] = recD (hd, ps, .whole) from rfl, sc']; rfl
  | bad =>
    simp only [recOut] at rr
    simp [ri, rr, cl, g2, g3, g4, he, s4]
    rw [show D.tup [opD hdD hd, tl partD ps, .str (stdS .bad)] = recD (hd, ps, .bad) from rfl, sc']; rfl
end
end PL

set_option Elab.async false
set_option linter.all false
set_option maxRecDepth 100000
set_option maxHeartbeats 1000000
/-! PMX: answers as bytes; what is received of a beginning. -/
namespace PL
open PySem
structure Ans where
  c : Int
  m : Int
  z : Int
  ps : List Part
def ansD (A : Ans) : D := .tup [.int A.c, .int A.m, .int A.z, tl partD A.ps]
def hdR (c m z : Int) (k : Nat) : List Nat := nL c ++ 32 :: (mkT m ++ 32 :: (nL z ++ 32 :: nL k))
def ptR (b : Int) (n : Nat) : List Nat := nL b ++ 32 :: nL n
def ptB (p : Part) : List Int := tb (ptR p.1 p.2.length ++ [10]) ++ p.2 ++ [39]
def restB (ps : List Part) : List Int := ps.flatMap ptB
def ansB (A : Ans) : List Int := tb (hdR A.c A.m A.z A.ps.length ++ [10]) ++ restB A.ps
/-- numbers of an answer's row -/
def OkN (i : Int) : Prop := 0 ≤ i ∧ i < 1000000000
structure OkA (A : Ans) : Prop where
  c : A.c ∈ codes
  m : 0 ≤ A.m ∧ A.m < 2147483647
  z : OkN A.z
  k : A.ps.length ≤ 100
  p : ∀ p ∈ A.ps, 0 ≤ p.1 ∧ p.1 + p.2.length ≤ A.z ∧ p.2.length ≤ 4000 ∧ Byt p.2
theorem codes_ok {c : Int} (h : c ∈ codes) : OkN c := by
  simp only [codes, List.mem_cons, List.not_mem_nil, or_false] at h
  rcases h with rfl | rfl | rfl | rfl | rfl <;> exact ⟨by decide, by decide⟩
/-! signs -/
theorem sgn_app {a b : List Nat} (ha : Sgn a) (hb : Sgn b) : Sgn (a ++ b) := fun c h => (List.mem_append.mp h).elim (ha c) (hb c)
theorem sgn_cons {a : Nat} {b : List Nat} (ha : a ∈ sgnL) (hb : Sgn b) : Sgn (a :: b) := fun c h => (List.mem_cons.mp h).elim (fun e => e ▸ ha) (hb c)
theorem sgn_nL {i : Int} (h : 0 ≤ i) : Sgn (nL i) := fun c hc => by
  rw [nL_eq h] at hc
  have := TL.numL_digits _ c hc
  have h1 := this.1
  have h2 := this.2
  have : ∀ c < 58, 48 ≤ c → c ∈ sgnL := by decide
  exact this c (by omega) h1
theorem hex_sgn : ∀ c ∈ hexd, c ∈ sgnL := by decide
theorem mkT_hex {m : Int} (h : 0 ≤ m) : ∀ c ∈ mkT m, c ∈ hexd := by
  have d := dgs h
  have d0 := d 1 (by decide)
  rw [Int.ediv_one] at d0
  intro c hc
  simp only [mkT, List.mem_cons, List.not_mem_nil, or_false] at hc
  rcases hc with rfl | rfl | rfl | rfl | rfl | rfl | rfl | rfl
  · exact (d 268435456 (by decide)).2
  · exact (d 16777216 (by decide)).2
  · exact (d 1048576 (by decide)).2
  · exact (d 65536 (by decide)).2
  · exact (d 4096 (by decide)).2
  · exact (d 256 (by decide)).2
  · exact (d 16 (by decide)).2
  · exact d0.2
theorem sgn_mkT {m : Int} (h : 0 ≤ m) : Sgn (mkT m) := fun c hc => hex_sgn c (mkT_hex h c hc)
theorem mkT_len (m : Int) : (mkT m).length = 8 := rfl
theorem sgn_hdR {c m z : Int} {k : Nat} (hc : 0 ≤ c) (hm : 0 ≤ m) (hz : 0 ≤ z) : Sgn (hdR c m z k) := sgn_app (sgn_nL hc) (sgn_cons (by decide) (sgn_app (sgn_mkT hm) (sgn_cons (by decide) (sgn_app (sgn_nL hz) (sgn_cons (by decide) (sgn_nL (by omega)))))))
theorem sgn_ptR {b : Int} {n : Nat} (hb : 0 ≤ b) : Sgn (ptR b n) := sgn_app (sgn_nL hb) (sgn_cons (by decide) (sgn_nL (by omega)))
theorem nL_no {i : Int} {s : Nat} (h0 : 0 ≤ i) (h : s < 48 ∨ 57 < s) : s ∉ nL i := txtI_free h0 h
theorem mkT_no {m : Int} {s : Nat} (h : 0 ≤ m) (hs : s ∉ hexd) : s ∉ mkT m := fun hc => hs (mkT_hex h s hc)
theorem hdR_lf {c m z : Int} {k : Nat} (hc : 0 ≤ c) (hm : 0 ≤ m) (hz : 0 ≤ z) : 10 ∉ hdR c m z k := by
  have h1 := nL_no (s := 10) hc (by decide)
  have h2 := mkT_no (s := 10) hm (by decide)
  have h3 := nL_no (s := 10) hz (by decide)
  have h4 := nL_no (i := (k : Int)) (s := 10) (by omega) (by decide)
  simp [hdR, h1, h2, h3, h4]
theorem ptR_lf {b : Int} {n : Nat} (hb : 0 ≤ b) : 10 ∉ ptR b n := by
  have h1 := nL_no (s := 10) hb (by decide)
  have h4 := nL_no (i := (n : Int)) (s := 10) (by omega) (by decide)
  simp [ptR, h1, h4]
theorem hdR_len {c m z : Int} {k : Nat} (hc : c ∈ codes) (hz : OkN z) (hk : k < 1000000000) : (hdR c m z k).length ≤ 38 := by
  have oc := codes_ok hc
  have h1 : (nL c).length ≤ 3 := by
    simp only [codes, List.mem_cons, List.not_mem_nil, or_false] at hc
    rcases hc with rfl | rfl | rfl | rfl | rfl <;> rw [nL_eq (by decide)] <;> exact TL.numL_len (by decide) (by decide)
  have h3 := nL_len hz.1 hz.2
  have h4 := nL_len (i := (k : Int)) (by omega) (by omega)
  simp [hdR, mkT_len]; omega
theorem ptR_len {b : Int} {n : Nat} (hb : OkN b) (hn : n < 1000000000) : (ptR b n).length ≤ 19 := by
  have h3 := nL_len hb.1 hb.2
  have h4 := nL_len (i := (n : Int)) (by omega) (by omega)
  simp [ptR]; omega
/-! splitting at blanks -/
theorem spC_cons {p q : List Nat} (h : 32 ∉ p) : spC 32 (p ++ 32 :: q) = p :: spC 32 q := by
  have := TL.spl_part1 (s := 32) (S := []) (p := p) (rest := q) (acc := []) h
  simpa using this
theorem spC_last {p : List Nat} (h : 32 ∉ p) : spC 32 p = [p] := by
  have := TL.spl_last1 (s := 32) (S := []) (p := p) (acc := []) h
  simpa using this
theorem spC_hdR {c m z : Int} {k : Nat} (hc : 0 ≤ c) (hm : 0 ≤ m) (hz : 0 ≤ z) : spC 32 (hdR c m z k) = [nL c, mkT m, nL z, nL k] := by
  unfold hdR
  rw [spC_cons (nL_no hc (by decide)), spC_cons (mkT_no hm (by decide)), spC_cons (nL_no hz (by decide)), spC_last (nL_no (by omega) (by decide))]
theorem spC_ptR {b : Int} {n : Nat} (hb : 0 ≤ b) : spC 32 (ptR b n) = [nL b, nL n] := by
  unfold ptR
  rw [spC_cons (nL_no hb (by decide)), spC_last (nL_no (by omega) (by decide))]
theorem headF_hdR {c m z : Int} {k : Nat} (hc : c ∈ codes) (hm : 0 ≤ m ∧ m < 2147483647) (hz : OkN z) (hk : k < 1000000000) : headF (spC 32 (hdR c m z k)) = some ((c, m, z), (k : Int)) := by
  have oc := codes_ok hc
  rw [spC_hdR oc.1 hm.1 hz.1]
  have e1 := numO_txt oc.1 oc.2
  have e2 := numO_txt hz.1 hz.2
  have e3 := numO_txt (i := (k : Int)) (by omega) (by omega)
  have e4 : readF (tx (mkT m)) = some m := read_mk hm.1 hm.2
  simp only [headF, e1, e2, e3, e4, if_pos hc]
/-! rows -/
theorem tb_ne {t : List Nat} (hs : Sgn t) (hn : 10 ∉ t) : ∀ x ∈ tb t, (decide (x ≠ 39)) = true := by
  intro x hx
  obtain ⟨c, hc, rfl⟩ := List.mem_map.mp hx
  simp only [decide_eq_true_eq]
  intro e
  exact hn (((sb_lf c (hs c hc)).mp e) ▸ hc)
theorem tb_lt {t : List Nat} (hs : Sgn t) : ∀ x ∈ tb t, 0 ≤ x ∧ x < 40 := by
  intro x hx
  obtain ⟨c, hc, rfl⟩ := List.mem_map.mp hx
  exact (bs_sb c (hs c hc)).2
theorem bs_tb {t : List Nat} (hs : Sgn t) : (tb t).map bsI = t := by
  rw [List.map_map]
  exact (List.map_congr_left fun c hc => (bs_sb c (hs c hc)).1).trans (List.map_id _)
theorem takeWhile_all {α : Type} {p : α → Bool} : ∀ {l : List α}, (∀ x ∈ l, p x = true) → l.takeWhile p = l
  | [], _ => rfl
  | x :: l, h => by rw [List.takeWhile_cons, if_pos (h x (by simp)), takeWhile_all fun y hy => h y (by simp [hy])]
theorem takeWhile_app {α : Type} {p : α → Bool} {y : α} {r : List α} (hy : p y = false) : ∀ {l : List α}, (∀ x ∈ l, p x = true) → (l ++ y :: r).takeWhile p = l
  | [], _ => by rw [List.nil_append, List.takeWhile_cons, if_neg (by simp [hy])]
  | x :: l, h => by rw [List.cons_append, List.takeWhile_cons, if_pos (h x (by simp)), takeWhile_app hy fun z hz => h z (by simp [hz])]
theorem rowL_full {t : List Nat} {r : List Int} (hs : Sgn t) (hn : 10 ∉ t) (hl : t.length ≤ 40) : rowL (tb t ++ 39 :: r) = .ok t := by
  have e : (tb t ++ 39 :: r).takeWhile (fun x => decide (x ≠ 39)) = tb t := takeWhile_app (by decide) (tb_ne hs hn)
  unfold rowL
  rw [e]
  simp only
  rw [if_neg (by rw [List.length_map]; omega), if_neg (by simp), if_neg, bs_tb hs]
  rw [List.any_eq_true]
  rintro ⟨x, hx, h⟩
  have := (tb_lt hs x hx).2
  have := of_decide_eq_true h
  omega
theorem rowL_cut {t : List Nat} {n : Nat} (hs : Sgn t) (hn : 10 ∉ t) (hl : t.length ≤ 40) : rowL ((tb t).take n) = .more := by
  have e : ((tb t).take n).takeWhile (fun x => decide (x ≠ 39)) = (tb t).take n := takeWhile_all fun x hx => tb_ne hs hn x (List.mem_of_mem_take hx)
  unfold rowL
  rw [e]
  simp only
  rw [if_neg (by rw [List.length_take, List.length_map]; omega)]
  exact if_pos trivial
theorem tb_snoc (t : List Nat) : tb (t ++ [10]) = tb t ++ [39] := by
  unfold tb
  rw [List.map_append]; rfl
/-! what is received -/
def cutPs : List Part → Nat → List Part
  | [], _ => []
  | p :: r, n => if n < (ptR p.1 p.2.length).length + 1 then [] else (p.1, p.2.take (n - ((ptR p.1 p.2.length).length + 1))) :: cutPs r (n - ((ptR p.1 p.2.length).length + 1) - (p.2.length + 1))
theorem cutPs_0 (ps : List Part) : cutPs ps 0 = [] := by
  cases ps with
  | nil => rfl
  | cons p r => simp [cutPs]
theorem restB_cons (p : Part) (r : List Part) : restB (p :: r) = tb (ptR p.1 p.2.length) ++ 39 :: (p.2 ++ 39 :: restB r) := by
  unfold restB
  rw [List.flatMap_cons]
  unfold ptB
  rw [tb_snoc]
  simp
def OkP (z : Int) (ps : List Part) : Prop := ∀ p ∈ ps, 0 ≤ p.1 ∧ p.1 + p.2.length ≤ z ∧ p.2.length ≤ 4000 ∧ Byt p.2
theorem recP_cut {z : Int} (hz : z < 1000000000) : ∀ (ps done : List Part) (n f : Nat), OkP z ps → ((restB ps).take n).length < f →
    recP z ((done.length + ps.length : Nat) : Int) f ((restB ps).take n) done = if n < (restB ps).length then (done ++ cutPs ps n, .more) else (done ++ ps, .whole)
  | [], done, n, f, _, hf => by
    obtain ⟨f, rfl⟩ : ∃ g, f = g + 1 := ⟨f - 1, by omega⟩
    simp [recP, restB]
  | p :: r, done, n, f, ho, hf => by
    obtain ⟨f, rfl⟩ : ∃ g, f = g + 1 := ⟨f - 1, by omega⟩
    obtain ⟨p0, p1, p2, p3⟩ := ho p (by simp)
    have sg := sgn_ptR (n := p.2.length) p0
    have lf := ptR_lf (n := p.2.length) p0
    have tl_ := ptR_len (b := p.1) (n := p.2.length) ⟨p0, by omega⟩ (by omega)
    have hl : (restB (p :: r)).length = (ptR p.1 p.2.length).length + 1 + (p.2.length + 1 + (restB r).length) := by
      rw [restB_cons]; simp; omega
    have nm : ¬ ((done.length + (p :: r).length : Nat) : Int) ≤ done.length := by simp only [List.length_cons]; omega
    simp only [recP]
    rw [if_neg nm]
    generalize ht : ptR p.1 p.2.length = t at *
    by_cases c1 : n ≤ t.length
    · have e : (restB (p :: r)).take n = (tb t).take n := by
        rw [restB_cons, ht, List.take_append_of_le_length (by simpa using c1)]
      have hp : partR z ((restB (p :: r)).take n) = .stop .more := by
        rw [e]; unfold partR; rw [rowL_cut sg lf (by omega)]
      rw [hp]
      simp only
      rw [if_pos (by omega)]
      simp only [cutPs, ht]
      rw [if_pos (by omega), List.append_nil]
    · obtain ⟨n1, rfl⟩ : ∃ n1, n = t.length + 1 + n1 := ⟨n - (t.length + 1), by omega⟩
      have e : (restB (p :: r)).take (t.length + 1 + n1) = tb t ++ 39 :: (p.2 ++ 39 :: restB r).take n1 := by
        rw [restB_cons, ht, List.take_append, List.take_of_length_le (by simp; omega)]
        congr 1
        rw [show t.length + 1 + n1 - (tb t).length = n1 + 1 by simp; omega, List.take_succ_cons]
      have dr : (tb t ++ 39 :: (p.2 ++ 39 :: restB r).take n1).drop (t.length + 1) = (p.2 ++ 39 :: restB r).take n1 := by
        rw [List.drop_append, List.drop_of_length_le (by simp), List.nil_append, show t.length + 1 - (tb t).length = 1 by simp]
        rfl
      have n1' := numO_txt (i := p.1) p0 (by omega)
      have n2' := numO_txt (i := (p.2.length : Int)) (by omega) (by omega)
      have hw : partR z ((restB (p :: r)).take (t.length + 1 + n1)) = partU p.1 (p.2.length : Int) ((p.2 ++ 39 :: restB r).take n1) ((p.2 ++ 39 :: restB r).take n1)[p.2.length]? := by
        rw [e]
        unfold partR
        rw [rowL_full sg lf (by omega)]
        simp only [dr]
        rw [← ht, spC_ptR p0]
        simp only [partW, n1', n2', partV]
        rw [if_neg (by omega), Int.toNat_natCast]
      rw [hw]
      simp only [cutPs, ht]
      rw [if_neg (show ¬ t.length + 1 + n1 < t.length + 1 by omega), show t.length + 1 + n1 - (t.length + 1) = n1 by omega]
      by_cases c2 : n1 ≤ p.2.length
      · have e2 : ((p.2 ++ 39 :: restB r).take n1)[p.2.length]? = none := by
          rw [List.getElem?_eq_none_iff, List.length_take]; omega
        rw [e2]
        simp only [partU, Int.toNat_natCast]
        rw [if_pos (by omega), show n1 - (p.2.length + 1) = 0 by omega, cutPs_0]
        congr 3
        rw [List.take_take, Nat.min_eq_right c2, List.take_append_of_le_length c2]
      · obtain ⟨n2, rfl⟩ : ∃ n2, n1 = p.2.length + 1 + n2 := ⟨n1 - (p.2.length + 1), by omega⟩
        have e2 : (p.2 ++ 39 :: restB r).take (p.2.length + 1 + n2) = p.2 ++ 39 :: (restB r).take n2 := by
          rw [List.take_append, List.take_of_length_le (by omega), show p.2.length + 1 + n2 - p.2.length = n2 + 1 by omega, List.take_succ_cons]
        have e3 : (p.2 ++ 39 :: (restB r).take n2)[p.2.length]? = some 39 := by
          rw [List.getElem?_append_right (Nat.le_refl _), Nat.sub_self]; rfl
        have e4 : (p.2 ++ 39 :: (restB r).take n2).take p.2.length = p.2 := by
          rw [List.take_append_of_le_length (Nat.le_refl _), List.take_length]
        have e5 : (p.2 ++ 39 :: (restB r).take n2).drop (p.2.length + 1) = (restB r).take n2 := by
          rw [List.drop_append, List.drop_of_length_le (by omega), List.nil_append, show p.2.length + 1 - p.2.length = 1 by omega]; rfl
        rw [e2, e3]
        simp only [partU, if_true, Int.toNat_natCast, e4, e5]
        have ih := recP_cut hz r (done ++ [p]) n2 f (fun q hq => ho q (by simp [hq])) (by
          rw [List.length_take] at *; omega)
        have ec : ((done ++ [p]).length + r.length : Nat) = done.length + (p :: r).length := by simp; omega
        rw [ec] at ih
        rw [show (p.1, p.2) = p from rfl, ih]
        rw [show p.2.length + 1 + n2 - (p.2.length + 1) = n2 by omega, List.take_of_length_le (show p.2.length ≤ p.2.length + 1 + n2 by omega)]
        by_cases c3 : n2 < (restB r).length
        · rw [if_pos c3, if_pos (by omega)]; simp
        · rw [if_neg c3, if_neg (by omega)]; simp
/-- what is received of a beginning of an answer's bytes -/
def dueF (A : Ans) (n : Nat) : Rcv :=
  if n < (hdR A.c A.m A.z A.ps.length).length + 1 then (none, [], .more) else (some (A.c, A.m, A.z), if n < (ansB A).length then (cutPs A.ps (n - ((hdR A.c A.m A.z A.ps.length).length + 1)), .more) else (A.ps, .whole))
theorem recF_cut {A : Ans} (h : OkA A) (n : Nat) : recF ((ansB A).take n) = dueF A n := by
  have oc := codes_ok h.c
  have sg := sgn_hdR (k := A.ps.length) oc.1 h.m.1 h.z.1
  have lf := hdR_lf (k := A.ps.length) oc.1 h.m.1 h.z.1
  have hl := hdR_len (m := A.m) (k := A.ps.length) h.c h.z (by have := h.k; omega)
  have hh := headF_hdR (k := A.ps.length) h.c h.m h.z (by have := h.k; omega)
  have al : (ansB A).length = (hdR A.c A.m A.z A.ps.length).length + 1 + (restB A.ps).length := by
    unfold ansB; rw [tb_snoc]; simp; omega
  unfold dueF
  have ea : ansB A = tb (hdR A.c A.m A.z A.ps.length) ++ 39 :: restB A.ps := by unfold ansB; rw [tb_snoc]; simp
  rw [ea] at al ⊢
  generalize hdR A.c A.m A.z A.ps.length = t at *
  by_cases c1 : n ≤ t.length
  · rw [if_pos (by omega), List.take_append_of_le_length (by simpa using c1)]
    unfold recF
    rw [rowL_cut sg lf (by omega)]
  · obtain ⟨n1, rfl⟩ : ∃ n1, n = t.length + 1 + n1 := ⟨n - (t.length + 1), by omega⟩
    have e : (tb t ++ 39 :: restB A.ps).take (t.length + 1 + n1) = tb t ++ 39 :: (restB A.ps).take n1 := by
      rw [List.take_append, List.take_of_length_le (by simp; omega)]
      congr 1
      rw [show t.length + 1 + n1 - (tb t).length = n1 + 1 by simp; omega, List.take_succ_cons]
    have dr : (tb t ++ 39 :: (restB A.ps).take n1).drop (t.length + 1) = (restB A.ps).take n1 := by
      rw [List.drop_append, List.drop_of_length_le (by simp), List.nil_append, show t.length + 1 - (tb t).length = 1 by simp]
      rfl
    rw [if_neg (by omega), e]
    unfold recF
    rw [rowL_full sg lf (by omega)]
    simp only [hh, dr]
    have := recP_cut h.z.2 A.ps [] n1 ((tb t ++ 39 :: (restB A.ps).take n1).length + 1) h.p (by simp; omega)
    simp only [List.length_nil, Nat.zero_add, List.nil_append] at this
    rw [this, show t.length + 1 + n1 - (t.length + 1) = n1 by omega]
    by_cases c3 : n1 < (restB A.ps).length
    · rw [if_pos c3, if_pos (by omega)]
    · rw [if_neg c3, if_neg (by omega)]
theorem recF_ans {A : Ans} (h : OkA A) : recF (ansB A) = (some (A.c, A.m, A.z), A.ps, .whole) := by
  have := recF_cut h (ansB A).length
  rw [List.take_length] at this
  rw [this]
  unfold dueF
  rw [if_neg, if_neg (by omega)]
  have al : (ansB A).length = (hdR A.c A.m A.z A.ps.length).length + 1 + (restB A.ps).length := by
    unfold ansB; rw [tb_snoc]; simp; omega
  omega
end PL

set_option Elab.async false
set_option linter.all false
set_option maxRecDepth 100000
set_option maxHeartbeats 1000000
/-! PMY: runs of answer_bytes, of the law's own answers. -/
namespace PL
open PySem

section
variable {G : Tab} {call : Calls} {env : Env} {S : Store} {k : Nat}
theorem t_lf : TL.tl ("\n" : Str) = [10] := by decide +kernel
theorem tx_lf : ("\n" : Str) = tx [10] := eq_tx t_lf
theorem blank_cat (r : List D) : catD (.str " " :: r) = (catD r).map fun y => tx [32] ++ y := by rw [tx_blank]; rfl
theorem lf_cat (r : List D) : catD (.str "\n" :: r) = (catD r).map fun y => tx [10] ++ y := by rw [tx_lf]; rfl
theorem fmt_str {l : List Nat} (h : l.length ≤ 1000000) : fmtD (.str (tx l)) = some (tx l) := by
  show (if (tx l).length ≤ 1000000 then some (tx l) else none) = _
  rw [if_pos (by rw [len_tx]; exact h)]
theorem noRef_ansD (A : Ans) : noRef (ansD A) = true := by simp [ansD, noRef, noRefs]
theorem ptB_len {p : Part} {z : Int} (h : 0 ≤ p.1 ∧ p.1 + p.2.length ≤ z ∧ p.2.length ≤ 4000 ∧ Byt p.2) (hz : z < 1000000000) : (ptB p).length ≤ 4021 := by
  have := ptR_len (b := p.1) (n := p.2.length) ⟨h.1, by omega⟩ (by omega)
  unfold ptB
  rw [tb_snoc]
  simp; omega
theorem restB_len {z : Int} (hz : z < 1000000000) : ∀ {ps : List Part}, OkP z ps → (restB ps).length ≤ 4021 * ps.length
  | [], _ => by simp [restB]
  | p :: r, h => by
    have h1 := ptB_len (h p (by simp)) hz
    have h2 := restB_len hz (ps := r) fun q hq => h q (by simp [hq])
    have e : restB (p :: r) = ptB p ++ restB r := by simp [restB]
    rw [e]; simp only [List.length_append, List.length_cons]; omega
theorem r_answer_bytes [h : Has G i_answer_bytes f_answer_bytes] [ht : Has G i_text_bytes f_text_bytes] [hm : Has G i_mark_text f_mark_text] [h2 : HasC G 2 (.str "0123456789abcdef")] [h3 : HasC G 3 (.int 8)] [h7 : HasC G 7 (.str SIG)] {A : Ans} (ho : OkA A) :
    run G (k + 2) i_answer_bytes [ansD A] S = .ok (tl .int (ansB A)) S := by
  have oc := codes_ok ho.c
  have rt : ∀ (l : List Nat) S, l.length ≤ 100000 → Sgn l → run G (k + 1) i_text_bytes [.str (tx l)] S = .ok (tl .int (tb l)) S := fun l S h hs => r_text_bytes h hs
  have rm : ∀ S, run G (k + 1) i_mark_text [.int A.m] S = .ok (.str (tx (mkT A.m))) S := fun S => r_mark_text ho.m.1
  have hl := hdR_len (m := A.m) (k := A.ps.length) ho.c ho.z (by have := ho.k; omega)
  have sg := sgn_hdR (k := A.ps.length) oc.1 ho.m.1 ho.z.1
  have f1 := fmt_nL oc.1 oc.2
  have f2 := fmt_str (l := mkT A.m) (by rw [mkT_len]; decide)
  have f3 := fmt_nL ho.z.1 ho.z.2
  have f4 := fmt_nL (i := (A.ps.length : Int)) (by omega) (by have := ho.k; omega)
  have r1 := fun S => rt (hdR A.c A.m A.z A.ps.length ++ [10]) S (by simp; omega) (sgn_app sg (sgn_cons (by decide) (by intro c h; cases h)))
  have r2 : ∀ S, run G (k + 1) i_text_bytes [.str "\n"] S = .ok (tl .int [39]) S := fun S => by rw [tx_lf]; exact rt [10] S (by decide) (by decide)
  refine pure_W (h := h) (as' := [ansD A]) rfl rfl (by simp [frzAs, frzA_noRef (noRef_ansD A)]) ?_
  simp only [b_answer_bytes, startE]
  generalize run G (k + 1) = call at *
  have eh : nL A.c ++ 32 :: (mkT A.m ++ 32 :: (nL A.z ++ 32 :: (nL (A.ps.length : Int) ++ [10]))) = hdR A.c A.m A.z A.ps.length ++ [10] := by simp [hdR]
  have r1' : ∀ S, call i_text_bytes [.str (tx (nL A.c ++ 32 :: (mkT A.m ++ 32 :: (nL A.z ++ 32 :: (nL (A.ps.length : Int) ++ [10])))))] S = .ok (tl .int (tb (hdR A.c A.m A.z A.ps.length ++ [10]))) S := fun S => by rw [eh]; exact r1 S
  simp [ansD, bindL, bindT, f1, f2, f3, f4, rm, tx_cat, blank_cat, lf_cat, nil_cat, tx_app, r1', -List.map_append]
  refine x_forW (fun j e s => s = [] ∧ ∃ t6 t7, e = [some (ansD A), some (.int A.c), some (.int A.m), some (.int A.z), some (tl partD A.ps), some (tl .int (tb (hdR A.c A.m A.z A.ps.length ++ [10]) ++ restB (A.ps.take j))), t6, t7]) (enc := partD) (xs := A.ps) (d := tl partD A.ps) ?_ ?_ ?_ ?_ ?_
  · simp
  · simp
  · exact ⟨rfl, none, none, by simp [restB, ansD]⟩
  · rintro j p _ _ hj ⟨rfl, t6, t7, rfl⟩
    have jl := (List.getElem?_eq_some_iff.mp hj).1
    have hp := ho.p p (List.mem_of_getElem? hj)
    have e1 : A.ps.take (j + 1) = A.ps.take j ++ [p] := by rw [List.take_succ, hj]; rfl
    have e2 : restB (A.ps.take (j + 1)) = restB (A.ps.take j) ++ ptB p := by rw [e1]; simp [restB]
    have rl := restB_len ho.z.2 (ps := A.ps.take j) fun q hq => ho.p q (List.mem_of_mem_take hq)
    have pl := ptR_len (b := p.1) (n := p.2.length) ⟨hp.1, by have := ho.z.2; omega⟩ (by omega)
    have kk := ho.k
    rw [List.length_take] at rl
    have g1 := fmt_nL (i := p.1) hp.1 (by have := ho.z.2; omega)
    have g2 := fmt_nL (i := (p.2.length : Int)) (by omega) (by omega)
    have r3 : ∀ S, call i_text_bytes [.str (tx (nL p.1 ++ 32 :: (nL (p.2.length : Int) ++ [10])))] S = .ok (tl .int (tb (ptR p.1 p.2.length ++ [10]))) S := fun S => by
      have e : nL p.1 ++ 32 :: (nL (p.2.length : Int) ++ [10]) = ptR p.1 p.2.length ++ [10] := by simp [ptR]
      rw [e]
      exact rt _ S (by simp; omega) (sgn_app (sgn_ptR hp.1) (sgn_cons (by decide) (by intro c h; cases h)))
    rw [e2, ← List.append_assoc]
    have al : (tb (hdR A.c A.m A.z A.ps.length ++ [10]) ++ restB (A.ps.take j)).length ≤ 500000 := by simp; omega
    generalize tb (hdR A.c A.m A.z A.ps.length ++ [10]) ++ restB (A.ps.take j) = acc at *
    have tl1 : (tb (ptR p.1 p.2.length ++ [10])).length ≤ 20 := by simp; omega
    have a1 : ∀ S, bop .add (tl .int acc) (tl .int (tb (ptR p.1 p.2.length ++ [10]))) S = some (tl .int (acc ++ tb (ptR p.1 p.2.length ++ [10]))) := fun S => add_tl (by unfold SZ; omega)
    have a2 : ∀ S, bop .add (tl .int (acc ++ tb (ptR p.1 p.2.length ++ [10]))) (tl .int p.2) S = some (tl .int (acc ++ tb (ptR p.1 p.2.length ++ [10]) ++ p.2)) := fun S => add_tl (by rw [List.length_append]; unfold SZ; omega)
    have a3 : ∀ S, bop .add (tl .int (acc ++ tb (ptR p.1 p.2.length ++ [10]) ++ p.2)) (tl .int [39]) S = some (tl .int (acc ++ tb (ptR p.1 p.2.length ++ [10]) ++ p.2 ++ [39])) := fun S => add_tl (by rw [List.length_append, List.length_append]; unfold SZ; simp; omega)
    have ep : acc ++ ptB p = acc ++ tb (ptR p.1 p.2.length ++ [10]) ++ p.2 ++ [39] := by unfold ptB; simp
    rw [ep]
    generalize tb (ptR p.1 p.2.length ++ [10]) = T at *
    simp [turnB, partD, g1, g2, tx_cat, blank_cat, lf_cat, nil_cat, tx_app, r2, r3, a1, a2, a3, -List.append_assoc]
  rintro _ _ ⟨rfl, t6, t7, rfl⟩
  rw [List.take_length, show tb (hdR A.c A.m A.z A.ps.length ++ [10]) ++ restB A.ps = ansB A from rfl]
  simp
end
end PL

set_option Elab.async false
set_option linter.all false
set_option maxRecDepth 100000
set_option maxHeartbeats 1000000
/-! PMZ: runs of the law's own answers and dues. -/
namespace PL
open PySem

section
variable {G : Tab} {call : Calls} {env : Env} {S : Store} {k : Nat}
end
end PL

set_option Elab.async false
set_option linter.all false
set_option maxRecDepth 100000
set_option maxHeartbeats 1000000
/-! PN0: the bytes of answers: how many, none below 0; what is received, compared. -/
namespace PL
open PySem
theorem ansB_byt {A : Ans} (h : OkA A) : Byt (ansB A) := fun x hx => by
  have oc := codes_ok h.c
  unfold ansB at hx
  rw [tb_snoc] at hx
  rcases List.mem_append.mp hx with hx | hx
  · rcases List.mem_append.mp hx with hx | hx
    · have := tb_lt (sgn_hdR oc.1 h.m.1 h.z.1) x hx; omega
    · rw [List.mem_singleton.mp hx]; exact ⟨by decide, by decide⟩
  · unfold restB at hx
    rw [List.mem_flatMap] at hx
    obtain ⟨p, hp, hx⟩ := hx
    have ho := h.p p hp
    unfold ptB at hx
    rw [tb_snoc] at hx
    rcases List.mem_append.mp hx with hx | hx
    · rcases List.mem_append.mp hx with hx | hx
      · rcases List.mem_append.mp hx with hx | hx
        · have := tb_lt (sgn_ptR ho.1) x hx; omega
        · rw [List.mem_singleton.mp hx]; exact ⟨by decide, by decide⟩
      · exact ho.2.2.2 x hx
    · rw [List.mem_singleton.mp hx]; exact ⟨by decide, by decide⟩
theorem ansB_nn {A : Ans} (h : OkA A) : ∀ x ∈ ansB A, 0 ≤ x := fun x hx => (ansB_byt h x hx).1
theorem ansB_len30 {A : Ans} (h : OkA A) (h3 : A.ps.length ≤ 3) (h30 : ∀ p ∈ A.ps, p.2.length ≤ 30) : (ansB A).length ≤ 300 := by
  have h1 := hdR_len (m := A.m) (k := A.ps.length) h.c h.z (by omega)
  have key : ∀ ps : List Part, OkP A.z ps → (∀ p ∈ ps, p.2.length ≤ 30) → (restB ps).length ≤ 60 * ps.length := by
    intro ps
    induction ps with
    | nil => intro _ _; simp [restB]
    | cons p r ih =>
      intro ho h30
      have i1 := ih (fun q hq => ho q (by simp [hq])) fun q hq => h30 q (by simp [hq])
      have i2 := h30 p (by simp)
      have i3 := ho p (by simp)
      have i4 := ptR_len (b := p.1) (n := p.2.length) ⟨i3.1, by have := h.z.2; omega⟩ (by omega)
      rw [restB_cons]; simp; omega
  have h2 := key A.ps h.p h30
  unfold ansB
  rw [tb_snoc]; simp; omega
section
variable {G : Tab} {call : Calls} {env : Env} {S : Store} {k : Nat}
theorem x_asgV {P : RS → Prop} {i : Nat} {e : E} {k : T} {d : D} {S1 : Store} (he : ev G call e env S = .ok d S1) (hk : Sat P (exT G call k (env.set i (some d)) S1)) : Sat P (exT G call (.asg i e k) env S) := by
  rw [x_asg, he]
  exact hk
/-- an if that is passed by -/
theorem x_ifsF {P : RS → Prop} {c : E} {a k : T} {S' : Store} (hc : mapT (ev G call c env S) = .ok false S') (hk : Sat P (exT G call k env S')) : Sat P (exT G call (.ifs c a .nil k) env S) := by
  rw [x_ifs, hc]
  exact hk
end
end PL

set_option Elab.async false
set_option linter.all false
set_option maxRecDepth 100000
set_option maxHeartbeats 1000000
/-! PN2: files by names; sources. -/
namespace PL
open PySem
abbrev i_Source_init : Nat := 77
/-- Source_init: self 0 -/
def b_Source_init : T := (.fldS 1 (.var 0) 5 .dict0
  .nil)
def f_Source_init : Fn := ⟨false, 1, 1, b_Source_init⟩
abbrev i_Source_put : Nat := 78
/-- Source_put: self 0 name 1 body 2 -/
def b_Source_put : T := (.setI (.fld 1 (.var 0) 5) (.var 1) (.var 2)
  .nil)
def f_Source_put : Fn := ⟨false, 3, 3, b_Source_put⟩
abbrev i_Source_ask : Nat := 81
/-- Source_ask: self 0 name 1 text 2 mark 3 body 4 own 5 size 6 pairs 7 begin 8 end 9 -/
def b_Source_ask : T := (.ifs (.din true (.var 1) (.fld 1 (.var 0) 5))
  (.ret (.tup (.cons (.con (.int 404)) (.cons (.con (.int 0)) (.cons (.con (.int 0)) (.cons (.tup .nil) .nil))))))
  .nil
  (.asg 4 (.dix (.fld 1 (.var 0) 5) (.var 1))
  (.asg 5 (.call i_mark_of (.cons (.var 4) .nil))
  (.asg 6 (.bf .len (.cons (.var 4) .nil))
  (.ifs (.and (.ntn (.var 3)) (.one (.cmp .ne (.var 3) (.var 5))))
  (.ret (.tup (.cons (.con (.int 412)) (.cons (.var 5) (.cons (.var 6) (.cons (.tup .nil) .nil))))))
  .nil
  (.ifs (.isn (.var 2))
  (.ret (.tup (.cons (.con (.int 200)) (.cons (.var 5) (.cons (.var 6) (.cons (.tup (.cons (.tup (.cons (.con (.int 0)) (.cons (.var 4) .nil))) .nil)) .nil))))))
  .nil
  (.tr (.asg 7 (.call i_resolved (.cons (.call i_read_ask (.cons (.var 2) .nil)) (.cons (.var 6) .nil)))
  .nil)
  [0, 1]
  (.ret (.tup (.cons (.con (.int 416)) (.cons (.var 5) (.cons (.var 6) (.cons (.tup .nil) .nil))))))
  (.ret (.tup (.cons (.con (.int 206)) (.cons (.var 5) (.cons (.var 6) (.cons (.bf .tuple (.cons (.comp .plain (.var 7) (.many [8, 9]) .emp (.tup (.cons (.var 8) (.cons (.sl (.var 4) (.var 8) (.var 9)) .nil)))) .nil)) .nil)))))))))))))
def f_Source_ask : Fn := ⟨false, 4, 10, b_Source_ask⟩
/-! ### files by names -/
abbrev Fs : Type := List (Str × List Int)
def encF (fs : Fs) : List (Ky × D) := fs.map fun p => (.inr p.1, tl .int p.2)
def getF (fs : Fs) (n : Str) : Option (List Int) := match fs with
  | [] => none
  | p :: r => if p.1 = n then some p.2 else getF r n
def hasF (fs : Fs) (n : Str) : Bool := fs.any fun p => decide (p.1 = n)
def setF (fs : Fs) (n : Str) (b : List Int) : Fs := if hasF fs n = true then fs.map fun p => if p.1 = n then (p.1, b) else p else fs ++ [(n, b)]
def namesF (fs : Fs) : List Str := fs.map (·.1)
theorem getK_enc (n : Str) : ∀ fs : Fs, getK (encF fs) (.inr n) = (getF fs n).map (tl .int)
  | [] => rfl
  | p :: r => by
    have ih := getK_enc n r
    simp only [encF, List.map_cons, getK, getF, Sum.inr.injEq] at ih ⊢
    by_cases h : p.1 = n
    · rw [if_pos h, if_pos h]; rfl
    · rw [if_neg h, if_neg h]; exact ih
theorem any_enc (n : Str) (fs : Fs) : ((encF fs).any fun e => decide (e.1 = .inr n)) = hasF fs n := by
  unfold encF hasF
  rw [List.any_map]
  congr 1
  funext p
  simp
theorem setK_enc (n : Str) (b : List Int) (fs : Fs) : setK (encF fs) (.inr n) (tl .int b) = encF (setF fs n b) := by
  unfold setK setF
  rw [any_enc]
  cases h : hasF fs n with
  | true =>
    simp only [if_true]
    unfold encF
    rw [List.map_map, List.map_map]
    refine List.map_congr_left fun p _ => ?_
    simp only [Function.comp, Sum.inr.injEq]
    by_cases h : p.1 = n
    · rw [if_pos h, if_pos h]
    · rw [if_neg h, if_neg h]
  | false =>
    simp only [Bool.false_eq_true, if_false]
    unfold encF
    rw [List.map_append]; rfl
theorem encF_len (fs : Fs) : (encF fs).length = fs.length := by simp [encF]
/-- all names of a list are among these -/
def SubF (fs : Fs) (ns : List Str) : Prop := (namesF fs).Nodup ∧ ∀ n ∈ namesF fs, n ∈ ns
theorem set_same {α : Type} {S : List α} {m : Nat} {v : α} (h : S[m]? = some v) : S.set m v = S := by
  refine List.ext_getElem? fun i => ?_
  rw [List.getElem?_set]
  split
  · rename_i e
    subst e
    rw [if_pos (List.getElem?_eq_some_iff.mp h).1, h]
  · rfl
section
variable {G : Tab} {call : Calls} {env : Env} {S : Store} {k : Nat}
theorem dinR_enc {m : Nat} {fs : Fs} {n : Str} (h : S[m]? = some (.dct (encF fs))) : dinD (.str n) (.ref m) S = some (getF fs n).isSome := by
  simp only [dinD, dctOf, h, keyOf, Option.map_some, getK_enc, Option.isSome_map]
theorem dixR_enc {m : Nat} {fs : Fs} {n : Str} {b : List Int} (h : S[m]? = some (.dct (encF fs))) (hb : getF fs n = some b) : dixD (.ref m) (.str n) S = some (tl .int b) := by
  simp only [dixD, dctOf, h, keyOf, Option.bind_some, getK_enc, hb, Option.map_some]
theorem setR_enc {m : Nat} {fs : Fs} {n : Str} {b : List Int} (h : S[m]? = some (.dct (encF fs))) (hl : fs.length ≤ 1000) : setIx (.ref m) (.str n) (tl .int b) S = some (S.set m (.dct (encF (setF fs n b)))) := by
  simp only [setIx, h, encF_len, keyOf, Option.map_some, setK_enc]
  rw [if_pos (by unfold SZ; omega)]
/-- a source in the store -/
structure SrcAt (S : Store) (n m : Nat) (fs : Fs) : Prop where
  o : S[n]? = some (.ins 1 [(5, .ref m)])
  d : S[m]? = some (.dct (encF fs))
theorem SrcAt.cl {n m : Nat} {fs : Fs} (h : SrcAt S n m fs) : clsD (.ref n) S = some 1 := by simp only [clsD, h.o]
theorem SrcAt.f5 {n m : Nat} {fs : Fs} (h : SrcAt S n m fs) : fldD (.ref n) 5 S = some (.ref m) := by simp only [fldD, h.o]; rfl
theorem r_Source_put [h : Has G i_Source_put f_Source_put] {n m : Nat} {fs : Fs} {nm : Str} {b : List Int} (hs : SrcAt S n m fs) (hl : fs.length ≤ 1000) :
    run G (k + 1) i_Source_put [.ref n, .str nm, tl .int b] S = .ok .non (S.set m (.dct (encF (setF fs nm b)))) := by
  refine imp_W (h := h) rfl rfl ?_
  simp [b_Source_put, startE, hs.cl, hs.f5, setR_enc hs.d hl]
/-- the answer to an ask -/
def askP (b : List Int) : Option (List PI) → Ans
  | none => ⟨416, markF b, b.length, []⟩
  | some ps => ⟨206, markF b, b.length, ps.map fun p => (p.1, cutD b (some p.1) (some p.2))⟩
def askT (b : List Int) : Option (List Nat) → Ans
  | none => ⟨200, markF b, b.length, [(0, b)]⟩
  | some l => askP b ((rdAsk l).bind fun is => resO is b.length)
def askF (fs : Fs) (nm : Str) (text : Option (List Nat)) (mk : Option Int) : Ans := match getF fs nm with
  | none => ⟨404, 0, 0, []⟩
  | some b => if mk = none ∨ mk = some (markF b) then askT b text else ⟨412, markF b, b.length, []⟩
theorem rdAsk_len {l : List Nat} {is : List It} (h : rdAsk l = some is) : is.length ≤ 8 := by
  unfold rdAsk at h
  split at h
  · cases h
  · have := mapO_len h; omega
theorem resO_len {is : List It} {n : Int} {ps : List PI} (h : resO is n = some ps) : ps.length ≤ is.length := by
  unfold resO at h
  split at h
  · cases h
  · cases h; exact resF_len is n
theorem r_Source_ask [h : Has G i_Source_ask f_Source_ask] [hm : Has G i_mark_of f_mark_of] [hra : Has G i_read_ask f_read_ask] [hi : Has G i_read_item f_read_item] [hn : Has G i_number_of f_number_of] [hr : Has G i_resolved f_resolved] [hri : Has G i_resolved_item f_resolved_item] [h0 : HasC G 0 (.int 2147483647)] [h1 : HasC G 1 (.int 257)] [h4 : HasC G 4 (.str "0123456789")] [h5 : HasC G 5 (.int 9)] [h6 : HasC G 6 (.int 8)]
    {n m : Nat} {fs : Fs} {nm : Str} {text : Option (List Nat)} {mk : Option Int} (hs : SrcAt S n m fs) (e0 : 0 ∈ G.exs) (e1 : 1 ∈ G.exs) (ht : ∀ l, text = some l → l.length ≤ 1000000) :
    run G (k + 4) i_Source_ask [.ref n, .str nm, opD txD text, opD .int mk] S = .ok (ansD (askF fs nm text mk)) S := by
  have rmk : ∀ xs S, run G (k + 3) i_mark_of [tl .int xs] S = .ok (.int (markF xs)) S := fun xs S => r_mark_of
  have rra : ∀ l S, l.length ≤ 1000000 → run G (k + 3) i_read_ask [.str (tx l)] S = exO 0 (tl itD) (rdAsk l) S := fun l S h => r_read_ask h
  have rre : ∀ (is : List It) (z : Int) S, is.length ≤ 8 → run G (k + 3) i_resolved [tl itD is, .int z] S = exO 1 (tl pairD) (resO is z) S := fun is z S h => r_resolved (k := k + 1) (by omega)
  refine imp_W (h := h) rfl rfl ?_
  simp only [b_Source_ask, startE]
  generalize run G (k + 3) = call at *
  have cl := hs.cl
  have f5 := hs.f5
  unfold askF
  cases hb : getF fs nm with
  | none =>
    have di := dinR_enc (n := nm) hs.d
    rw [hb] at di
    simp [cl, f5, di, ansD]
    rfl
  | some b =>
    have di := dinR_enc (n := nm) hs.d
    rw [hb] at di
    have dx := dixR_enc hs.d hb
    have dx' := fun (S : Store) => rmk b S
    simp only
    have rest : ∀ (t3 : D), Sat (FinI (.ok (ansD (askT b text)) S)) (exT G call (.ifs (.isn (.var 2))
  (.ret (.tup (.cons (.con (.int 200)) (.cons (.var 5) (.cons (.var 6) (.cons (.tup (.cons (.tup (.cons (.con (.int 0)) (.cons (.var 4) .nil))) .nil)) .nil))))))
  .nil
  (.tr (.asg 7 (.call i_resolved (.cons (.call i_read_ask (.cons (.var 2) .nil)) (.cons (.var 6) .nil)))
  .nil)
  [0, 1]
  (.ret (.tup (.cons (.con (.int 416)) (.cons (.var 5) (.cons (.var 6) (.cons (.tup .nil) .nil))))))
  (.ret (.tup (.cons (.con (.int 206)) (.cons (.var 5) (.cons (.var 6) (.cons (.bf .tuple (.cons (.comp .plain (.var 7) (.many [8, 9]) .emp (.tup (.cons (.var 8) (.cons (.sl (.var 4) (.var 8) (.var 9)) .nil)))) .nil)) .nil)))))))) [some (.ref n), some (.str nm), some (opD txD text), some t3, some (tl .int b), some (.int (markF b)), some (.int (b.length : Int)), none, none, none] S) := by
      intro t3
      cases text with
      | none =>
        simp [opD, ansD, askT]
        rfl
      | some l =>
        have ra := fun S => rra l S (ht l rfl)
        simp only [opD, txD]
        cases hr : rdAsk l with
        | none =>
          rw [hr] at ra
          simp [ra, e0, ansD, askT, hr, askP]
          rfl
        | some is =>
          rw [hr] at ra
          have re := fun S => rre is (b.length : Int) S (rdAsk_len hr)
          cases hq : resO is b.length with
          | none =>
            rw [hq] at re
            simp [ra, re, e1, ansD, askT, hr, hq, askP]
            rfl
          | some ps =>
            rw [hq] at re
            have pl := resO_len hq
            have il := rdAsk_len hr
            have cm : ∀ env : Env, env[7]? = some (some (tl pairD ps)) → env[4]? = some (some (tl .int b)) → 9 < env.length → ev G call (.comp .plain (.var 7) (.many [8, 9]) .emp (.tup (.cons (.var 8) (.cons (.sl (.var 4) (.var 8) (.var 9)) .nil)))) env S = .ok (ll partD (ps.map fun p => (p.1, cutD b (some p.1) (some p.2)))) S := fun env e7 e4 el => by
              refine ev_compG (enc := pairD) (xs := ps) (d := tl pairD ps) partD (fun p => (p.1, cutD b (some p.1) (some p.2))) ?_ ?_ ?_ ?_
              · simp [e7]
              · simp
              · unfold SZ; omega
              · intro p _
                have el8 : 8 < env.length := by omega
                have e4' : ((env.set 8 (some (.int p.1))).set 9 (some (.int p.2)))[4]? = some (some (tl .int b)) := by
                  rw [List.getElem?_set_ne (by decide), List.getElem?_set_ne (by decide), e4]
                have e8' : ((env.set 8 (some (.int p.1))).set 9 (some (.int p.2)))[8]? = some (some (.int p.1)) := by
                  rw [List.getElem?_set_ne (by decide), List.getElem?_set_self el8]
                have e9' : ((env.set 8 (some (.int p.1))).set 9 (some (.int p.2)))[9]? = some (some (.int p.2)) := by
                  rw [List.getElem?_set_self (by simpa using el)]
                simp [compB, e4', e8', e9', isEmp, part, partD]
            have cm := cm [some (.ref n), some (.str nm), some (.str (tx l)), some t3, some (tl .int b), some (.int (markF b)), some (.int (b.length : Int)), some (tl pairD ps), none, none] rfl rfl (by simp)
            simp [ra, re, cm, ansD, askT, hr, hq, askP]
    refine x_ifsF (S' := S) (by simp [cl, f5, di]) ?_
    refine x_asgV (d := tl .int b) (S1 := S) (by simp [cl, f5, dx]) ?_
    refine x_asgV (d := .int (markF b)) (S1 := S) (by simp [rmk]) ?_
    refine x_asgV (d := .int b.length) (S1 := S) (by simp) ?_
    cases mk with
    | none =>
      rw [if_pos (.inl rfl)]
      refine x_ifsF (S' := S) (by simp [opD]) ?_
      exact rest _
    | some mv =>
      by_cases hmv : mv = markF b
      · subst hmv
        rw [if_pos (.inr rfl)]
        refine x_ifsF (S' := S) (by simp [opD]) ?_
        exact rest _
      · rw [if_neg (by simp [hmv])]
        simp [opD, hmv, ansD]
        rfl

theorem itO_ok {a b : List Nat} {i : It} (h : itO a b = some i) : okIt i := by
  unfold itO at h
  cases ha : numO a with
  | none =>
    rw [ha] at h
    cases hb : numO b with
    | none => rw [hb] at h; cases h
    | some y =>
      rw [hb] at h
      simp only at h
      split at h
      · rename_i q; cases h; exact ⟨q.2, (numO_back hb).2.1⟩
      · cases h
  | some x =>
    rw [ha] at h
    cases hb : numO b with
    | none =>
      rw [hb] at h
      simp only at h
      split at h
      · cases h; exact ⟨(numO_back ha).1, (numO_back ha).2.1⟩
      · cases h
    | some y =>
      rw [hb] at h
      simp only at h
      split at h
      · rename_i q; cases h; exact ⟨(numO_back ha).1, q, (numO_back hb).2.1⟩
      · cases h
theorem mapO_all {α β : Type} {g : α → Option β} {P : β → Prop} (hg : ∀ x y, g x = some y → P y) : ∀ {xs : List α} {ys : List β}, mapO g xs = some ys → ∀ y ∈ ys, P y
  | [], ys, h => by cases h; simp
  | x :: xs, ys, h => by
    simp only [mapO] at h
    split at h
    · cases h
    · rename_i y e
      split at h
      · cases h
      · rename_i zs e2
        cases h
        intro z hz
        rcases List.mem_cons.mp hz with rfl | hz
        · exact hg x z e
        · exact mapO_all hg e2 z hz
theorem rdAsk_ok {l : List Nat} {is : List It} (h : rdAsk l = some is) : ∀ i ∈ is, okIt i := by
  unfold rdAsk at h
  split at h
  · cases h
  · refine mapO_all (fun x y e => ?_) h
    unfold rdItem at e
    split at e
    · exact itO_ok e
    · cases e
/-- S' is S and more -/
def Keep (S S' : Store) : Prop := S.length ≤ S'.length ∧ ∀ i, i < S.length → S'[i]? = S[i]?
theorem Keep.refl (S : Store) : Keep S S := ⟨Nat.le_refl _, fun _ _ => rfl⟩
theorem Keep.trans {A B C : Store} (h : Keep A B) (h' : Keep B C) : Keep A C := ⟨Nat.le_trans h.1 h'.1, fun i hi => (h'.2 i (Nat.lt_of_lt_of_le hi h.1)).trans (h.2 i hi)⟩
theorem Keep.at {A B : Store} (h : Keep A B) {n : Nat} {o : Ob} (ha : A[n]? = some o) : B[n]? = some o := (h.2 n (List.getElem?_eq_some_iff.mp ha).1).trans ha
theorem keep_app (A T : Store) : Keep A (A ++ T) := ⟨by simp, fun i hi => List.getElem?_append_left hi⟩
theorem keep_set {A B : Store} {n : Nat} {v : Ob} (h : Keep A B) (hn : A.length ≤ n) : Keep A (B.set n v) := ⟨by rw [List.length_set]; exact h.1, fun i hi => by rw [List.getElem?_set_ne (by omega)]; exact h.2 i hi⟩
theorem SrcAt.keep {n m : Nat} {fs : Fs} {S' : Store} (h : SrcAt S n m fs) (k : Keep S S') : SrcAt S' n m fs := ⟨k.at h.o, k.at h.d⟩
end
end PL

set_option Elab.async false
set_option linter.all false
set_option maxRecDepth 100000
set_option maxHeartbeats 1000000
/-! PN3: disks. -/
namespace PL
open PySem
abbrev i_Disk_init : Nat := 106
/-- Disk_init: self 0 stops 1 -/
def b_Disk_init : T := (.fldS 2 (.var 0) 5 .dict0
  (.fldS 2 (.var 0) 6 (.var 1)
  .nil))
def f_Disk_init : Fn := ⟨false, 2, 2, b_Disk_init⟩
abbrev i_Disk_files : Nat := 114
/-- Disk_files: self 0 -/
def b_Disk_files : T := (.ret (.bf .tuple (.cons (.bf .sorted (.cons (.fld 2 (.var 0) 5) .nil)) .nil)))
def f_Disk_files : Fn := ⟨false, 1, 1, b_Disk_files⟩
abbrev i_Disk_step : Nat := 107
/-- Disk_step: self 0 -/
def b_Disk_step : T := (.ifs (.val (.fld 2 (.var 0) 6))
  (.ifs (.cmp .eq (.ix (.fld 2 (.var 0) 6) (.con (.int 0))) (.con (.int 0)))
  (.fldS 2 (.var 0) 6 (.sl (.fld 2 (.var 0) 6) (.con (.int 1)) .emp)
  (.rais 2))
  .nil
  (.fldS 2 (.var 0) 6 (.bin .add (.tup (.cons (.bin .sub (.ix (.fld 2 (.var 0) 6) (.con (.int 0))) (.con (.int 1))) .nil)) (.sl (.fld 2 (.var 0) 6) (.con (.int 1)) .emp))
  .nil))
  .nil
  .nil)
def f_Disk_step : Fn := ⟨false, 1, 1, b_Disk_step⟩
abbrev i_Disk_make : Nat := 109
/-- Disk_make: self 0 name 1 size 2 -/
def b_Disk_make : T := (.exp (.meth 2 (.var 0) 8 .nil)
  (.setI (.fld 2 (.var 0) 5) (.var 1) (.bin .mul (.tup (.cons (.con (.int 0)) .nil)) (.var 2))
  .nil))
def f_Disk_make : Fn := ⟨false, 3, 3, b_Disk_make⟩
abbrev i_Disk_need : Nat := 108
/-- Disk_need: self 0 name 1 -/
def b_Disk_need : T := (.ifs (.din true (.var 1) (.fld 2 (.var 0) 5))
  (.rais 3)
  .nil
  .nil)
def f_Disk_need : Fn := ⟨false, 2, 2, b_Disk_need⟩
abbrev i_Disk_put_at : Nat := 110
/-- Disk_put_at: self 0 name 1 place 2 some 3 k 4 one 5 body 6 -/
def b_Disk_put_at : T := (.exp (.meth 2 (.var 0) 9 (.cons (.var 1) .nil))
  (.for_ .enum (.cons (.var 3) .nil) (.many [4, 5])
  (.exp (.meth 2 (.var 0) 8 .nil)
  (.asg 6 (.dix (.fld 2 (.var 0) 5) (.var 1))
  (.setI (.fld 2 (.var 0) 5) (.var 1) (.bin .add (.bin .add (.sl (.var 6) .emp (.bin .add (.var 2) (.var 4))) (.tup (.cons (.var 5) .nil))) (.sl (.var 6) (.bin .add (.bin .add (.var 2) (.var 4)) (.con (.int 1))) .emp))
  .nil)))
  .nil))
def f_Disk_put_at : Fn := ⟨false, 4, 7, b_Disk_put_at⟩
abbrev i_Disk_rename : Nat := 111
/-- Disk_rename: self 0 name 1 goal 2 body 3 -/
def b_Disk_rename : T := (.exp (.meth 2 (.var 0) 9 (.cons (.var 1) .nil))
  (.exp (.meth 2 (.var 0) 8 .nil)
  (.asg 3 (.bm .pop (.fld 2 (.var 0) 5) (.cons (.var 1) .nil))
  (.setI (.fld 2 (.var 0) 5) (.var 2) (.var 3)
  .nil))))
def f_Disk_rename : Fn := ⟨false, 3, 4, b_Disk_rename⟩
abbrev i_Disk_drop : Nat := 112
/-- Disk_drop: self 0 name 1 -/
def b_Disk_drop : T := (.exp (.meth 2 (.var 0) 9 (.cons (.var 1) .nil))
  (.exp (.meth 2 (.var 0) 8 .nil)
  (.exp (.bm .pop (.fld 2 (.var 0) 5) (.cons (.var 1) .nil))
  .nil)))
def f_Disk_drop : Fn := ⟨false, 2, 2, b_Disk_drop⟩
abbrev i_Disk_body : Nat := 113
/-- Disk_body: self 0 name 1 -/
def b_Disk_body : T := (.exp (.meth 2 (.var 0) 9 (.cons (.var 1) .nil))
  (.ret (.dix (.fld 2 (.var 0) 5) (.var 1))))
def f_Disk_body : Fn := ⟨false, 2, 2, b_Disk_body⟩

/-! ### a disk in the store -/
abbrev dskO (m : Nat) (st : List Int) : Ob := .ins 2 [(5, .ref m), (6, tl .int st)]
/-- the store with this disk in it -/
def WD (S : Store) (n m : Nat) (fs : Fs) (st : List Int) : Store := (S.set n (dskO m st)).set m (.dct (encF fs))
/-- places for a disk -/
structure Pl (S : Store) (n m : Nat) : Prop where
  ne : n ≠ m
  n : n < S.length
  m : m < S.length
section
variable {S : Store} {n m i : Nat} {fs fs' : Fs} {st st' : List Int} {v : Ob}
@[simp] theorem WD_len : (WD S n m fs st).length = S.length := by simp [WD]
theorem Pl.set (h : Pl S n m) : Pl (S.set i v) n m := ⟨h.ne, by rw [List.length_set]; exact h.n, by rw [List.length_set]; exact h.m⟩
theorem Pl.wd (h : Pl S n m) : Pl (WD S n m fs st) n m := ⟨h.ne, by rw [WD_len]; exact h.n, by rw [WD_len]; exact h.m⟩
end
/-- one step: does it stop? -/
def stepS : List Int → Bool × List Int
  | [] => (false, [])
  | c :: r => if c = 0 then (true, r) else (false, (c - 1) :: r)
def put1 (b : List Int) (p : Nat) (x : Int) : List Int := b.take p ++ [x] ++ b.drop (p + 1)
def putF (nm : Str) : Nat → List Int → Fs → List Int → Bool × Fs × List Int
  | _, [], fs, st => (false, fs, st)
  | p, x :: r, fs, st => match stepS st with
    | (true, st') => (true, fs, st')
    | (false, st') => putF nm (p + 1) r (setF fs nm (put1 ((getF fs nm).getD []) p x)) st'
section
variable {G : Tab} {call : Calls} {env : Env} {S : Store} {k n m : Nat} {fs : Fs} {st : List Int} {nm : Str}
end
end PL

set_option Elab.async false
set_option linter.all false
set_option maxRecDepth 100000
set_option maxHeartbeats 1000000
/-! PN4: notes. -/
namespace PL
open PySem
abbrev i_note_bytes : Nat := 121
/-- note_bytes: mark 0 size 1 have 2 -/
def b_note_bytes : T := (.ret (.call i_text_bytes (.cons (.fstr (.cons (.fmt (.call i_mark_text (.cons (.var 0) .nil))) (.cons (.con (.str " ")) (.cons (.fmt (.var 1)) (.cons (.con (.str " ")) (.cons (.fmt (.call i_range_text (.cons (.var 2) .nil))) .nil)))))) .nil)))
def f_note_bytes : Fn := ⟨true, 3, 3, b_note_bytes⟩
abbrev i_read_pair : Nat := 122
/-- read_pair: text 0 front 1 gap 2 behind 3 begin 4 last 5 -/
def b_read_pair : T := (.asgT [1, 2, 3] (.bm .partition (.var 0) (.cons (.con (.str "-")) .nil))
  (.asg 4 (.call i_number_of (.cons (.var 1) .nil))
  (.asg 5 (.call i_number_of (.cons (.var 3) .nil))
  (.ifs (.or (.cmp .eq (.var 2) (.con (.str ""))) (.or (.isn (.var 4)) (.one (.isn (.var 5)))))
  (.rais 0)
  .nil
  (.ret (.tup (.cons (.var 4) (.cons (.bin .add (.var 5) (.con (.int 1))) .nil))))))))
def f_read_pair : Fn := ⟨true, 1, 6, b_read_pair⟩
abbrev i_read_note : Nat := 123
/-- read_note: some 0 words 1 mark 2 size 3 have 4 part 5 begin 6 end 7 one 8 two 9 -/
def b_read_note : T := (.asg 1 (.bm .split (.call i_bytes_text (.cons (.var 0) .nil)) (.cons (.con (.str " ")) .nil))
  (.ifs (.cmp .ne (.bf .len (.cons (.var 1) .nil)) (.con (.int 3)))
  (.rais 0)
  .nil
  (.asg 2 (.call i_read_mark (.cons (.ix (.var 1) (.con (.int 0))) .nil))
  (.asg 3 (.call i_number_of (.cons (.ix (.var 1) (.con (.int 1))) .nil))
  (.asg 4 (.tup .nil)
  (.ifs (.cmp .ne (.ix (.var 1) (.con (.int 2))) (.con (.str "")))
  (.asg 4 (.bf .tuple (.cons (.comp .plain (.bm .split (.ix (.var 1) (.con (.int 2))) (.cons (.con (.str ",")) .nil)) (.one 5) .emp (.call i_read_pair (.cons (.var 5) .nil))) .nil))
  .nil)
  .nil
  (.ifs (.or (.isn (.var 3)) (.or (.val (.bf .any (.cons (.comp .plain (.var 4) (.many [6, 7]) .emp (.cmp .gt (.var 7) (.var 3))) .nil))) (.one (.cmp .ne (.call i_note_bytes (.cons (.var 2) (.cons (.var 3) (.cons (.var 4) .nil)))) (.var 0)))))
  (.rais 0)
  .nil
  (.ifs (.nt (.val (.bf .all (.cons (.comp .zip (.cons (.sl (.var 4) .emp (.neg (.con (.int 1)))) (.cons (.sl (.var 4) (.con (.int 1)) .emp) .nil)) (.many [8, 9]) .emp (.cmp .lt (.ix (.var 8) (.con (.int 1))) (.ix (.var 9) (.con (.int 0))))) .nil))))
  (.rais 0)
  .nil
  (.ifs (.nt (.val (.bf .all (.cons (.comp .plain (.var 4) (.many [6, 7]) .emp (.cmp .lt (.var 6) (.var 7))) .nil))))
  (.rais 0)
  .nil
  (.ret (.tup (.cons (.var 2) (.cons (.var 3) (.cons (.var 4) .nil))))))))))))))
def f_read_note : Fn := ⟨true, 1, 10, b_read_note⟩
/-- the text of a pair -/
def pairL (p : PI) : List Nat := nL p.1 ++ 45 :: nL (p.2 - 1)
structure OkQ (p : PI) : Prop where
  a : 0 ≤ p.1
  b : p.1 < 1000000000
  c : 1 ≤ p.2
  d : p.2 ≤ 1000000000
abbrev rngL (ps : List PI) : List Nat := TL.joinL [44] (ps.map pairL)
def noteL (m s : Int) (ps : List PI) : List Nat := mkT m ++ 32 :: (nL s ++ 32 :: rngL ps)
theorem sgn_pairL {p : PI} (h : OkQ p) : Sgn (pairL p) := sgn_app (sgn_nL h.a) (sgn_cons (by decide) (sgn_nL (by have := h.c; omega)))
theorem sgn_rngL : ∀ {ps : List PI}, (∀ p ∈ ps, OkQ p) → Sgn (rngL ps)
  | [], _ => by intro c h; simp [rngL, TL.joinL] at h
  | [i], ho => by
    have h1 := sgn_pairL (ho i (by simp))
    simpa [rngL, TL.joinL] using h1
  | i :: j :: is, ho => by
    have h1 := sgn_pairL (ho i (by simp))
    have h2 := sgn_rngL (ps := j :: is) fun q hq => ho q (by simp [List.mem_cons.mp hq])
    have e : rngL (i :: j :: is) = pairL i ++ (44 :: rngL (j :: is)) := rfl
    rw [e]
    exact sgn_app h1 (sgn_cons (by decide) h2)
theorem sgn_noteL {m s : Int} {ps : List PI} (hm : 0 ≤ m) (hs : 0 ≤ s) (ho : ∀ p ∈ ps, OkQ p) : Sgn (noteL m s ps) :=
  sgn_app (sgn_mkT hm) (sgn_cons (by decide) (sgn_app (sgn_nL hs) (sgn_cons (by decide) (sgn_rngL ho))))
section
variable {G : Tab} {call : Calls} {env : Env} {S : Store} {k : Nat}
end
end PL

set_option pp.maxSteps 800
set_option Elab.async false
set_option linter.all false
set_option maxRecDepth 100000
set_option maxHeartbeats 1000000
/-! PN5: notes read. -/
namespace PL
open PySem
def prP : Option Int → Option Int → Option PI
  | some x, some y => some (x, y + 1)
  | _, _ => none
def prO (a b : List Nat) : Option PI := prP (numO a) (numO b)
def rdPair (l : List Nat) : Option PI := match TL.par [45] [] l with
  | none => none
  | some (a, b) => prO a b
def haveO (w : List Nat) : Option (List PI) := if w = [] then some [] else mapO rdPair (spC 44 w)
def sepB (ps : List PI) : Bool := (ps.dropLast.zip (ps.drop 1)).all fun q => decide (q.1.2 < q.2.1)
def goodB (xs : List Int) (m s : Int) (ps : List PI) : Bool := !(ps.any fun p => decide (s < p.2)) && decide (tb (noteL m s ps) = xs) && sepB ps && ps.all fun p => decide (p.1 < p.2)
def noteA (xs : List Int) : Option Int → Option Int → Option (List PI) → Option (Int × Int × List PI)
  | some m, some s, some ps => if goodB xs m s ps = true then some (m, s, ps) else none
  | _, _, _ => none
def noteW (xs : List Int) : List (List Nat) → Option (Int × Int × List PI)
  | [a, b, c] => noteA xs (readF (tx a)) (numO b) (haveO c)
  | _ => none
def noteO (xs : List Int) : Option (Int × Int × List PI) := if (xs.any fun x => decide (40 ≤ x)) = true then none else noteW xs (spC 32 (xs.map bsI))
section
variable {G : Tab} {call : Calls} {env : Env} {S : Store} {k : Nat}
end
end PL

set_option Elab.async false
set_option linter.all false
set_option maxRecDepth 100000
set_option maxHeartbeats 1000000
/-! PN6: notes of cells; told. -/
namespace PL
open PySem
theorem nl_free {i : Int} {s : Nat} (h0 : 0 ≤ i) (h : s < 48 ∨ 57 < s) : s ∉ nL i := txtI_free h0 h
theorem pairL_free {p : PI} (h : OkQ p) : 44 ∉ pairL p ∧ 32 ∉ pairL p := by
  have c := h.c
  constructor
  · intro hm
    simp only [pairL, List.mem_append, List.mem_cons] at hm
    rcases hm with hm | hm | hm
    · exact nl_free h.a (by omega) hm
    · exact absurd hm (by decide)
    · exact nl_free (by omega) (by omega) hm
  · intro hm
    simp only [pairL, List.mem_append, List.mem_cons] at hm
    rcases hm with hm | hm | hm
    · exact nl_free h.a (by omega) hm
    · exact absurd hm (by decide)
    · exact nl_free (by omega) (by omega) hm
theorem rd_pairL {p : PI} (h : OkQ p) : rdPair (pairL p) = some p := by
  have e := TL.par_part1 (S := []) (rest := nL (p.2 - 1)) (acc := []) (txtI_free (s := 45) h.a (by omega))
  simp only [List.nil_append, List.cons_append] at e
  unfold rdPair pairL
  rw [e]
  have c := h.c
  have d := h.d
  simp only [prO, numO_txt h.a h.b, numO_txt (i := p.2 - 1) (by omega) (by omega), prP]
  rw [show p.2 - 1 + 1 = p.2 by omega]
theorem rngL_free : ∀ {ps : List PI}, (∀ p ∈ ps, OkQ p) → 32 ∉ rngL ps
  | [], _ => by simp [rngL, TL.joinL]
  | [i], ho => by
    have h1 := (pairL_free (ho i (by simp))).2
    simpa [rngL, TL.joinL] using h1
  | i :: j :: is, ho => by
    have h1 := (pairL_free (ho i (by simp))).2
    have h2 := rngL_free (ps := j :: is) fun q hq => ho q (by simp [List.mem_cons.mp hq])
    have e : rngL (i :: j :: is) = pairL i ++ (44 :: rngL (j :: is)) := rfl
    rw [e]
    intro hm
    simp only [List.mem_append, List.mem_cons] at hm
    rcases hm with hm | hm | hm
    · exact h1 hm
    · exact absurd hm (by decide)
    · exact h2 hm
theorem have_rngL {ps : List PI} (ho : ∀ p ∈ ps, OkQ p) : haveO (rngL ps) = some ps := by
  by_cases hp : ps = []
  · subst hp; rfl
  · have ne : rngL ps ≠ [] := by
      match ps, hp with
      | [p], _ => simp [rngL, TL.joinL, pairL]
      | p :: q :: r, _ =>
        have e : rngL (p :: q :: r) = pairL p ++ (44 :: rngL (q :: r)) := rfl
        rw [e]; simp
    rw [haveO, if_neg ne]
    have e : spC 44 (rngL ps) = ps.map pairL := TL.spl_join (by simpa using hp) (by
      intro l hl
      obtain ⟨q, hq, rfl⟩ := List.mem_map.mp hl
      exact (pairL_free (ho q hq)).1)
    rw [e]
    exact mapO_some fun p hp => rd_pairL (ho p hp)
theorem mkT_free {m : Int} (h : 0 ≤ m) : 32 ∉ mkT m := fun hm => by
  have := mkT_hex h 32 hm
  exact absurd this (by decide)
theorem spl_note {m s : Int} {ps : List PI} (h0 : 0 ≤ m) (hs : 0 ≤ s) (ho : ∀ p ∈ ps, OkQ p) : spC 32 (noteL m s ps) = [mkT m, nL s, rngL ps] := by
  have e : noteL m s ps = TL.joinL [32] [mkT m, nL s, rngL ps] := by simp [noteL, TL.joinL]
  rw [e]
  exact TL.spl_join (by simp) (by
    intro p hp
    simp only [List.mem_cons, List.not_mem_nil, or_false] at hp
    rcases hp with rfl | rfl | rfl
    · exact mkT_free h0
    · exact nl_free hs (by omega)
    · exact rngL_free ho)
theorem sep_zip : ∀ {ps : List PI}, Can ps → ∀ q ∈ ps.dropLast.zip (ps.drop 1), q.1.2 < q.2.1
  | [], _, q, hq => by simp at hq
  | [p], _, q, hq => by simp at hq
  | p :: p' :: r, hc, q, hq => by
    simp only [List.dropLast_cons_cons, List.drop_succ_cons, List.drop_zero, List.zip_cons_cons, List.mem_cons] at hq
    obtain ⟨_, h2, h3⟩ := can_cons.mp hc
    rcases hq with rfl | hq
    · exact h2 p' (by simp)
    · exact sep_zip (ps := p' :: r) h3 q (by simpa using hq)
theorem note_rt {m s : Int} {ps : List PI} (h0 : 0 ≤ m) (h1 : m < 2147483647) (hs : 0 ≤ s) (hs' : s < 1000000000) (ho : ∀ p ∈ ps, OkQ p) (hc : Can ps) (hb : ∀ p ∈ ps, p.2 ≤ s) : noteO (tb (noteL m s ps)) = some (m, s, ps) := by
  have sg := sgn_noteL h0 hs ho
  have an : ((tb (noteL m s ps)).any fun x => decide (40 ≤ x)) = false := by
    rw [List.any_eq_false]
    intro x hx
    have := tb_lt sg x hx
    simp; omega
  rw [noteO, an, bs_tb sg, spl_note h0 hs ho]
  simp only [Bool.false_eq_true, if_false, noteW]
  have r1 : readF (tx (mkT m)) = some m := read_mk h0 h1
  rw [r1, numO_txt hs hs', have_rngL ho]
  have g : goodB (tb (noteL m s ps)) m s ps = true := by
    have g1 : (ps.any fun p => decide (s < p.2)) = false := by
      rw [List.any_eq_false]
      intro p hp
      have := hb p hp
      simp; omega
    have g2 : sepB ps = true := List.all_eq_true.mpr fun q hq => decide_eq_true (sep_zip hc q hq)
    have g3 : (ps.all fun p => decide (p.1 < p.2)) = true := List.all_eq_true.mpr fun p hp => decide_eq_true (hc.2 p hp)
    rw [goodB, g1, g2, g3]
    simp
  rw [noteA, if_pos g]
section
variable {G : Tab} {call : Calls} {env : Env} {S : Store} {k : Nat}
end
end PL

set_option pp.maxSteps 800
set_option Elab.async false
set_option linter.all false
set_option maxRecDepth 100000
set_option maxHeartbeats 1000000
/-! PN8: roads; heads learnt. -/
namespace PL
open PySem
/-! ### answers that are fit -/
structure OkFs (fs : Fs) : Prop where
  b : ∀ n b, getF fs n = some b → Byt b ∧ b.length ≤ 1000
theorem resI_in {n : Int} {i : It} (h : okIt i) (hn : 0 ≤ n) : 0 ≤ (resI n i).1 ∧ (resI n i).1 ≤ n ∧ (resI n i).2 ≤ n := by
  cases i with
  | span a b => obtain ⟨h1, h2, _⟩ := h; simp only [resI]; omega
  | frm a => obtain ⟨h1, _⟩ := h; simp only [resI]; omega
  | last m => obtain ⟨h1, _⟩ := h; simp only [resI]; omega
theorem okA_ask {fs : Fs} {nm : Str} {text : Option (List Nat)} {mk : Option Int} (h : OkFs fs) : OkA (askF fs nm text mk) := by
  unfold askF
  cases hb : getF fs nm with
  | none => exact ⟨by simp [codes], by simp, ⟨by simp, by simp⟩, by simp, by simp⟩
  | some b =>
    obtain ⟨bb, bl⟩ := h.b nm b hb
    have mk' := markF_lt b
    have z' : OkN ((b.length : Nat) : Int) := ⟨by omega, by omega⟩
    simp only
    split
    · cases text with
      | none =>
        refine ⟨by simp [askT, codes], mk', z', by simp [askT], ?_⟩
        intro p hp
        simp only [askT, List.mem_singleton] at hp
        subst hp
        exact ⟨by simp, by simp [askT], by simp only; omega, bb⟩
      | some l =>
        simp only [askT]
        cases hr : (rdAsk l).bind fun is => resO is b.length with
        | none => exact ⟨by simp [askP, codes], mk', z', by simp [askP], by simp [askP]⟩
        | some ps =>
          cases hi : rdAsk l with
          | none => rw [hi] at hr; cases hr
          | some is =>
            rw [hi] at hr
            simp only [Option.bind_some] at hr
            have l8 := rdAsk_len hi
            have pl := resO_len hr
            have hin : ∀ p ∈ ps, 0 ≤ p.1 ∧ p.1 < p.2 ∧ p.2 ≤ b.length := fun p hp => by
              unfold resO at hr
              split at hr
              · cases hr
              · have e := Option.some.inj hr
                rw [← e] at hp
                unfold resF at hp
                obtain ⟨hp1, hp2⟩ := List.mem_filter.mp hp
                obtain ⟨i, hi', rfl⟩ := List.mem_map.mp hp1
                have := resI_in (n := (b.length : Int)) (rdAsk_ok hi i hi') (by omega)
                have := of_decide_eq_true hp2
                omega
            refine ⟨by simp [askP, codes], mk', z', by simp [askP]; omega, ?_⟩
            intro q hq
            simp only [askP, List.mem_map] at hq
            obtain ⟨p, hp, rfl⟩ := hq
            have := hin p hp
            have cl : (cutD b (some p.1) (some p.2)).length ≤ p.2.toNat - p.1.toNat := by
              rw [cut_both (by omega) (by omega), List.length_take]; omega
            have cl' : (cutD b (some p.1) (some p.2)).length ≤ b.length := cutD_len
            refine ⟨this.1, ?_, by simp only; omega, byt_cut bb⟩
            simp only [askP]
            omega
    · exact ⟨by simp [codes], mk', z', by simp, by simp⟩
/-! ### a road in the store -/
section
variable {G : Tab} {call : Calls} {env : Env} {S : Store} {k r n : Nat} {cuts : List Nat} {a c : Nat}
end
end PL

set_option Elab.async false
set_option linter.all false
set_option maxRecDepth 100000
set_option maxHeartbeats 1000000
/-! PNF: haulers: traces of what is done on a disk; the methods. -/
namespace PL
open PySem
abbrev i_Hauler_there : Nat := 134
/-- Hauler_there: self 0 end 1 -/
def b_Hauler_there : T := (.ret (.cmp .inn (.bin .add (.fld 3 (.var 0) 7) (.var 1)) (.meth 2 (.fld 3 (.var 0) 8) 14 .nil)))
def f_Hauler_there : Fn := ⟨false, 2, 2, b_Hauler_there⟩
abbrev i_Hauler_init : Nat := 135
/-- Hauler_init: self 0 disk 1 name 2 -/
def b_Hauler_init : T := (.fldS 3 (.var 0) 8 (.var 1)
  (.fldS 3 (.var 0) 7 (.var 2)
  (.fldS 3 (.var 0) 9 (.con .non)
  (.ifs (.and (.val (.meth 3 (.var 0) 15 (.cons (.con (.str ".note")) .nil))) (.one (.val (.meth 3 (.var 0) 15 (.cons (.con (.str ".part")) .nil)))))
  (.fldS 3 (.var 0) 9 (.call i_read_note (.cons (.meth 2 (.var 1) 13 (.cons (.bin .add (.var 2) (.con (.str ".note"))) .nil)) .nil))
  .nil)
  .nil
  .nil))))
def f_Hauler_init : Fn := ⟨false, 3, 3, b_Hauler_init⟩
abbrev i_Hauler_need : Nat := 136
/-- Hauler_need: self 0 -/
def b_Hauler_need : T := (.ifs (.isn (.fld 3 (.var 0) 9))
  (.rais 4)
  .nil
  .nil)
def f_Hauler_need : Fn := ⟨false, 1, 1, b_Hauler_need⟩
abbrev i_Hauler_lacks_2 : Nat := 224
/-- Hauler_lacks_2: self 0 -/
def b_Hauler_lacks_2 : T := (.exp (.meth 3 (.var 0) 9 .nil)
  (.ret (.call i_without (.cons (.tup (.cons (.tup (.cons (.con (.int 0)) (.cons (.ix (.fld 3 (.var 0) 9) (.con (.int 1))) .nil))) .nil)) (.cons (.ix (.fld 3 (.var 0) 9) (.con (.int 2))) .nil)))))
def f_Hauler_lacks_2 : Fn := ⟨false, 1, 1, b_Hauler_lacks_2⟩
abbrev i_Hauler_write_note : Nat := 137
/-- Hauler_write_note: self 0 mark 1 size 2 have 3 some 4 -/
def b_Hauler_write_note : T := (.asg 4 (.call i_note_bytes (.cons (.var 1) (.cons (.var 2) (.cons (.var 3) .nil))))
  (.exp (.meth 2 (.fld 3 (.var 0) 8) 10 (.cons (.bin .add (.fld 3 (.var 0) 7) (.con (.str ".new"))) (.cons (.bf .len (.cons (.var 4) .nil)) .nil)))
  (.exp (.meth 2 (.fld 3 (.var 0) 8) 11 (.cons (.bin .add (.fld 3 (.var 0) 7) (.con (.str ".new"))) (.cons (.con (.int 0)) (.cons (.var 4) .nil))))
  (.exp (.meth 2 (.fld 3 (.var 0) 8) 12 (.cons (.bin .add (.fld 3 (.var 0) 7) (.con (.str ".new"))) (.cons (.bin .add (.fld 3 (.var 0) 7) (.con (.str ".note"))) .nil)))
  (.fldS 3 (.var 0) 9 (.tup (.cons (.var 1) (.cons (.var 2) (.cons (.var 3) .nil))))
  .nil)))))
def f_Hauler_write_note : Fn := ⟨false, 4, 5, b_Hauler_write_note⟩
abbrev i_Hauler_take_2 : Nat := 225
/-- Hauler_take_2: self 0 begin 1 some 2 mark 3 size 4 have 5 more 6 low 7 high 8 -/
def b_Hauler_take_2 : T := (.exp (.meth 3 (.var 0) 9 .nil)
  (.asgT [3, 4, 5] (.fld 3 (.var 0) 9)
  (.asg 6 (.call i_both (.cons (.tup (.cons (.tup (.cons (.var 1) (.cons (.bin .add (.var 1) (.bf .len (.cons (.var 2) .nil))) .nil))) .nil)) (.cons (.meth 3 (.var 0) 17 .nil) .nil)))
  (.for_ .plain (.var 6) (.many [7, 8])
  (.exp (.meth 2 (.fld 3 (.var 0) 8) 11 (.cons (.bin .add (.fld 3 (.var 0) 7) (.con (.str ".part"))) (.cons (.var 7) (.cons (.sl (.var 2) (.bin .sub (.var 7) (.var 1)) (.bin .sub (.var 8) (.var 1))) .nil))))
  .nil)
  (.ifs (.val (.var 6))
  (.exp (.meth 3 (.var 0) 16 (.cons (.var 3) (.cons (.var 4) (.cons (.call i_together (.cons (.var 5) (.cons (.var 6) .nil))) .nil))))
  .nil)
  .nil
  (.ret (.call i_count (.cons (.var 6) .nil))))))))
def f_Hauler_take_2 : Fn := ⟨false, 3, 9, b_Hauler_take_2⟩
abbrev i_Hauler_begin : Nat := 138
/-- Hauler_begin: self 0 mark 1 size 2 -/
def b_Hauler_begin : T := (.ifs (.and (.ntn (.fld 3 (.var 0) 9)) (.one (.cmp .eq (.sl (.fld 3 (.var 0) 9) .emp (.con (.int 2))) (.tup (.cons (.var 1) (.cons (.var 2) .nil))))))
  (.ret (.con (.bl true)))
  .nil
  (.fldS 3 (.var 0) 9 (.con .non)
  (.ifs (.val (.meth 3 (.var 0) 15 (.cons (.con (.str ".note")) .nil)))
  (.exp (.meth 2 (.fld 3 (.var 0) 8) 4 (.cons (.bin .add (.fld 3 (.var 0) 7) (.con (.str ".note"))) .nil))
  .nil)
  .nil
  (.exp (.meth 2 (.fld 3 (.var 0) 8) 10 (.cons (.bin .add (.fld 3 (.var 0) 7) (.con (.str ".part"))) (.cons (.var 2) .nil)))
  (.exp (.meth 3 (.var 0) 16 (.cons (.var 1) (.cons (.var 2) (.cons (.tup .nil) .nil))))
  (.ret (.con (.bl false))))))))
def f_Hauler_begin : Fn := ⟨false, 3, 3, b_Hauler_begin⟩
/-! ### how far a disk goes: the steps done, one by one -/
/-! ### a hauler in the store -/
structure Nt where
  m : Int
  z : Nat
  h : List PI
def ntD (s : Nt) : D := .tup [.int s.m, .int s.z, tl pairD s.h]
instance : Okf ntD := ⟨fun s => by simp [ntD, noRef, noRefs], fun s => by simp [ntD, scl, scls]⟩
abbrev hauO (n : Nat) (nm : Str) (hs : Option Nt) : Ob := .ins 3 [(8, .ref n), (7, .str nm), (9, opD ntD hs)]
/-- where things stand: the store's rest, disk, its files, hauler, name -/
structure Wrl where
  S : Store
  n : Nat
  m : Nat
  p : Nat
  nm : Str
structure Wrl.Ok (w : Wrl) : Prop where
  pl : Pl w.S w.n w.m
  pn : w.p ≠ w.n
  pm : w.p ≠ w.m
  p : w.p < w.S.length
  l : w.nm.length ≤ 100
def Wrl.at (w : Wrl) (fs : Fs) (st : List Int) (hs : Option Nt) : Store := WD (w.S.set w.p (hauO w.n w.nm hs)) w.n w.m fs st
section
variable {w : Wrl} {fs fs' : Fs} {st st' : List Int} {hs hs' : Option Nt}
@[simp] theorem at_len : (w.at fs st hs).length = w.S.length := by unfold Wrl.at; rw [WD_len, List.length_set]
end
section
variable {G : Tab} {call : Calls} {env : Env} {k : Nat} {w : Wrl} {fs fs' : Fs} {hs hs' : Option Nt} {x : Str}
/-! ### statements with steps -/
theorem imp_P {S : Store} {P : R D → Prop} {i k np nl : Nat} {b : T} {as : List D} {F : Fn} [h : Has G i F] (hF : F = ⟨false, np, nl, b⟩) (hl : as.length = np) (he : Sat (fun rs => P (finI rs)) (exT G (run G k) b (startE nl as) S)) :
    P (run G (k + 1) i as S) := by
  have hg : G.fns i = some ⟨false, np, nl, b⟩ := hF ▸ h.h
  have : run G (k + 1) i as S = finI (exT G (run G k) b (startE nl as) S) := by
    simp only [run, hg]
    rw [if_neg (by simpa using hl)]
    simp only [Bool.false_eq_true, if_false]
    cases exT G (run G k) b (startE nl as) S <;> rfl
  rw [this]
  exact he
theorem x_expV {S S1 : Store} {P : RS → Prop} {e : E} {k : T} {d : D} (he : ev G call e env S = .ok d S1) (hk : Sat P (exT G call k env S1)) : Sat P (exT G call (.exp e k) env S) := by
  rw [x_exp, he]
  exact hk
/-! ### names -/
abbrev nP (nm : Str) : Str := nm ++ ".part"
abbrev nN (nm : Str) : Str := nm ++ ".note"
abbrev nW (nm : Str) : Str := nm ++ ".new"
/-! ### the methods -/
end
end PL

set_option Elab.async false
set_option linter.all false
set_option maxRecDepth 100000
set_option maxHeartbeats 1000000
/-! PNG: what haulers do, by files. -/
namespace PL
open PySem
/-! ### bytes put into a file -/
/-! ### notes -/
theorem can_half : ∀ {ps : List PI} {lo hi : Int}, Can ps → (∀ p ∈ ps, lo ≤ p.1 ∧ p.2 ≤ hi) → lo ≤ hi + 1 → 2 * (ps.length : Int) ≤ hi - lo + 1
  | [], lo, hi, _, _, h => by simp; omega
  | p :: r, lo, hi, hc, hb, h => by
    obtain ⟨h1, h2, h3⟩ := can_cons.mp hc
    have b := hb p (by simp)
    have := can_half (ps := r) (lo := p.2 + 1) (hi := hi) h3 (fun q hq => ⟨by have := h2 q hq; omega, (hb q (by simp [hq])).2⟩) (by omega)
    rw [List.length_cons]; omega
structure NtOk (s : Nt) : Prop where
  m0 : 0 ≤ s.m
  m1 : s.m < 2147483647
  z : s.z ≤ 95
  c : Can s.h
  b : ∀ p ∈ s.h, 0 ≤ p.1 ∧ p.2 ≤ s.z
abbrev noteB (s : Nt) : List Int := tb (noteL s.m s.z s.h)
theorem NtOk.q {s : Nt} (o : NtOk s) : ∀ p ∈ s.h, OkQ p := fun p hp => by
  have h1 := o.b p hp
  have h2 := o.c.2 p hp
  have h3 := o.z
  exact ⟨h1.1, by omega, by omega, by omega⟩
theorem NtOk.hl {s : Nt} (o : NtOk s) : s.h.length ≤ 48 := by
  have := can_half (lo := 0) (hi := s.z) o.c o.b (by omega)
  have := o.z
  omega
theorem noteB_rt {s : Nt} (o : NtOk s) : noteO (noteB s) = some (s.m, (s.z : Int), s.h) := note_rt o.m0 o.m1 (by omega) (by have := o.z; omega) o.q o.c fun p hp => (o.b p hp).2
/-! ### a note written -/
structure Res where
  d : D
  tr : List Fs
  fs : Fs
  hs : Option Nt
/-- the names that a hauler uses, among others -/
structure Nms (nm : Str) (NS : List Str) : Prop where
  a : nm ∈ NS
  p : nP nm ∈ NS
  n : nN nm ∈ NS
  w : nW nm ∈ NS
  l : NS.length ≤ 50
section
variable {G : Tab} {call : Calls} {env : Env} {k : Nat} {w : Wrl} {fs fs' : Fs} {hs hs' : Option Nt} {x : Str} {NS : List Str} {s : Nt}
theorem x_retP {P : RS → Prop} {S S1 : Store} {e : E} {d : D} (he : ev G call e env S = .ok d S1) (hk : P (.rt d S1)) : Sat P (exT G call (.ret e) env S) := by
  rw [x_ret, he]
  exact hk
/-- an if that hands back -/
theorem x_ifsR {P : RS → Prop} {S S' : Store} {c : E} {a b k : T} (hc : mapT (ev G call c env S) = .ok true S') (he : ∃ d S2, exT G call a env S' = .rt d S2 ∧ P (.rt d S2)) : Sat P (exT G call (.ifs c a b k) env S) := by
  rw [x_ifs, hc]
  obtain ⟨d, S2, h1, h2⟩ := he
  simp only [R.stm_ok, if_true, h1]
  exact h2
end
end PL

set_option Elab.async false
set_option linter.all false
set_option maxRecDepth 100000
set_option maxHeartbeats 1000000
/-! PNH: begin, have, lacks, take. -/
namespace PL
open PySem
def hit (hs : Option Nt) (m : Int) (z : Nat) : Bool := match hs with
  | some s => decide (s.m = m ∧ s.z = z)
  | none => false
/-! ### pieces taken -/
def pcs (b : Nat) (xs : List Int) (p : PI) : List Int := (xs.drop (p.1.toNat - b)).take (p.2.toNat - p.1.toNat)
/-- a piece's places fit -/
structure Fit (b n L : Nat) (p : PI) : Prop where
  a : (b : Int) ≤ p.1
  l : p.1 < p.2
  e : p.2 ≤ (b : Int) + n
  m : p.2 ≤ L
/-! ### a loop of deeds -/
def trs {β : Type} (stp : Fs → β → Fs) (trc : Fs → β → List Fs) : List β → Fs → List Fs
  | [], _ => []
  | p :: r, fs => trc fs p ++ trs stp trc r (stp fs p)
section
variable {G : Tab} {call : Calls} {env : Env} {k : Nat} {w : Wrl} {fs fs' : Fs} {hs hs' : Option Nt} {x : Str} {NS : List Str} {s : Nt}
/-! ### begin, have, lacks -/
end
end PL

set_option Elab.async false
set_option linter.all false
set_option maxRecDepth 100000
set_option maxHeartbeats 1000000
/-! PNI: take, is_done, finish, begin_anew; haulers made. -/
namespace PL
open PySem
section
variable {G : Tab} {call : Calls} {env : Env} {k : Nat} {w : Wrl} {fs fs' : Fs} {hs hs' : Option Nt} {x : Str} {NS : List Str} {s : Nt}
end
end PL

set_option Elab.async false
set_option linter.all false
set_option maxRecDepth 100000
set_option maxHeartbeats 1000000
/-! PNJ: haulers made; the disk's bodies; places counted. -/
namespace PL
open PySem
def hs0 (nm : Str) (fs : Fs) : Option Nt := match getF fs (nN nm), getF fs (nP nm) with
  | some B, some _ => (noteO B).map fun n => ⟨n.1, n.2.1.toNat, n.2.2⟩
  | _, _ => none
theorem hs0_some {nm : Str} {fs : Fs} {s : Nt} {P : List Int} (o : NtOk s) (hN : getF fs (nN nm) = some (noteB s)) (hP : getF fs (nP nm) = some P) : hs0 nm fs = some s := by
  unfold hs0
  rw [hN, hP]
  simp only [noteB_rt o, Option.map_some]
  cases s; rfl
section
variable {G : Tab} {call : Calls} {env : Env} {k : Nat} {w : Wrl} {fs fs' : Fs} {hs hs' : Option Nt} {x nm : Str} {NS : List Str} {s : Nt} {S : Store} {n m p : Nat} {st : List Int}
end
end PL

set_option Elab.async false
set_option linter.all false
set_option maxRecDepth 100000
set_option maxHeartbeats 1000000
/-! PNK: the disk's bodies; pieces; places counted. -/
namespace PL
open PySem
/-! ### places counted -/
/-- a hauler is begun: files and note agree -/
structure Bgn (nm : Str) (NS : List Str) (fs : Fs) (s : Nt) (P : List Int) : Prop where
  o : NtOk s
  f : SubF fs NS
  p : getF fs (nP nm) = some P
  z : P.length = s.z
  n : getF fs (nN nm) = some (noteB s)
theorem Bgn.hs {nm : Str} {NS : List Str} {fs : Fs} {s : Nt} {P : List Int} (b : Bgn nm NS fs s P) : hs0 nm fs = some s := hs0_some b.o b.n b.p
/-! ### begun anew -/
/-! ### finished, done -/
/-! ### the disk's bodies in a dict -/
section
variable {G : Tab} {call : Calls} {env : Env} {k : Nat} {fs fs' : Fs} {x nm : Str} {NS : List Str} {s : Nt} {S : Store} {n m p : Nat} {st : List Int}
/-! ### dicts that are alike -/
/-! ### pieces -/
end
end PL

set_option Elab.async false
set_option linter.all false
set_option maxRecDepth 100000
set_option maxHeartbeats 1000000
/-! PNL: disks and haulers made in a store; finish without a beginning. -/
namespace PL
open PySem
section
variable {G : Tab} {call : Calls} {env : Env} {k : Nat} {w : Wrl} {fs fs' : Fs} {hs hs' : Option Nt} {x nm : Str} {NS : List Str} {s : Nt} {S : Store} {n m p : Nat} {st : List Int}
theorem Wrl.Ok.set (ok : w.Ok) {i : Nat} {v : Ob} : Wrl.Ok { w with S := w.S.set i v } := ⟨ok.pl.set, ok.pn, ok.pm, by rw [List.length_set]; exact ok.p, ok.l⟩
end
end PL

set_option Elab.async false
set_option linter.all false
set_option maxRecDepth 100000
set_option maxHeartbeats 1000000
/-! PNM: haulers without stops, in short. -/
namespace PL
open PySem
/-! all that haulers lean on, in one -/
class HauG (G : Tab) : Prop where
  f_Disk_step : Has G i_Disk_step f_Disk_step
  f_Disk_need : Has G i_Disk_need f_Disk_need
  f_Disk_make : Has G i_Disk_make f_Disk_make
  f_Disk_put_at : Has G i_Disk_put_at f_Disk_put_at
  f_Disk_rename : Has G i_Disk_rename f_Disk_rename
  f_Disk_drop : Has G i_Disk_drop f_Disk_drop
  f_Disk_body : Has G i_Disk_body f_Disk_body
  f_Disk_files : Has G i_Disk_files f_Disk_files
  f_Disk_init : Has G i_Disk_init f_Disk_init
  f_Hauler_init : Has G i_Hauler_init f_Hauler_init
  f_Hauler_there : Has G i_Hauler_there f_Hauler_there
  f_Hauler_need : Has G i_Hauler_need f_Hauler_need
  f_Hauler_write_note : Has G i_Hauler_write_note f_Hauler_write_note
  f_Hauler_begin : Has G i_Hauler_begin f_Hauler_begin
  f_Hauler_lacks_2 : Has G i_Hauler_lacks_2 f_Hauler_lacks_2
  f_Hauler_take_2 : Has G i_Hauler_take_2 f_Hauler_take_2
  f_mark_of : Has G i_mark_of f_mark_of
  f_mark_text : Has G i_mark_text f_mark_text
  f_read_mark : Has G i_read_mark f_read_mark
  f_tidied : Has G i_tidied f_tidied
  f_together : Has G i_together f_together
  f_both : Has G i_both f_both
  f_without : Has G i_without f_without
  f_count : Has G i_count f_count
  f_range_text : Has G i_range_text f_range_text
  f_number_of : Has G i_number_of f_number_of
  f_text_bytes : Has G i_text_bytes f_text_bytes
  f_bytes_text : Has G i_bytes_text f_bytes_text
  f_note_bytes : Has G i_note_bytes f_note_bytes
  f_read_pair : Has G i_read_pair f_read_pair
  f_read_note : Has G i_read_note f_read_note
  m_Disk_step : HasM G 2 8 i_Disk_step
  m_Disk_need : HasM G 2 9 i_Disk_need
  m_Disk_make : HasM G 2 10 i_Disk_make
  m_Disk_put_at : HasM G 2 11 i_Disk_put_at
  m_Disk_rename : HasM G 2 12 i_Disk_rename
  m_Disk_drop : HasM G 2 4 i_Disk_drop
  m_Disk_body : HasM G 2 13 i_Disk_body
  m_Disk_files : HasM G 2 14 i_Disk_files
  m_Hauler_there : HasM G 3 15 i_Hauler_there
  m_Hauler_need : HasM G 3 9 i_Hauler_need
  m_Hauler_write_note : HasM G 3 16 i_Hauler_write_note
  m_Hauler_begin : HasM G 3 18 i_Hauler_begin
  m_Hauler_lacks_2 : HasM G 3 17 i_Hauler_lacks_2
  m_Hauler_take_2 : HasM G 3 19 i_Hauler_take_2
  i_Disk_init : HasI G 2 i_Disk_init
  i_Hauler_init : HasI G 3 i_Hauler_init
  c_0 : HasC G 0 (.int 2147483647)
  c_1 : HasC G 1 (.int 257)
  c_2 : HasC G 2 (.str "0123456789abcdef")
  c_3 : HasC G 3 (.int 8)
  c_4 : HasC G 4 (.str "0123456789")
  c_5 : HasC G 5 (.int 9)
  c_7 : HasC G 7 (.str SIG)
instance {G : Tab} [h : HauG G] : Has G i_Disk_step f_Disk_step := h.f_Disk_step
instance {G : Tab} [h : HauG G] : Has G i_Disk_need f_Disk_need := h.f_Disk_need
instance {G : Tab} [h : HauG G] : Has G i_Disk_make f_Disk_make := h.f_Disk_make
instance {G : Tab} [h : HauG G] : Has G i_Disk_put_at f_Disk_put_at := h.f_Disk_put_at
instance {G : Tab} [h : HauG G] : Has G i_Disk_rename f_Disk_rename := h.f_Disk_rename
instance {G : Tab} [h : HauG G] : Has G i_Disk_drop f_Disk_drop := h.f_Disk_drop
instance {G : Tab} [h : HauG G] : Has G i_Disk_body f_Disk_body := h.f_Disk_body
instance {G : Tab} [h : HauG G] : Has G i_Disk_files f_Disk_files := h.f_Disk_files
instance {G : Tab} [h : HauG G] : Has G i_Disk_init f_Disk_init := h.f_Disk_init
instance {G : Tab} [h : HauG G] : Has G i_Hauler_init f_Hauler_init := h.f_Hauler_init
instance {G : Tab} [h : HauG G] : Has G i_Hauler_there f_Hauler_there := h.f_Hauler_there
instance {G : Tab} [h : HauG G] : Has G i_Hauler_need f_Hauler_need := h.f_Hauler_need
instance {G : Tab} [h : HauG G] : Has G i_Hauler_write_note f_Hauler_write_note := h.f_Hauler_write_note
instance {G : Tab} [h : HauG G] : Has G i_Hauler_begin f_Hauler_begin := h.f_Hauler_begin
instance {G : Tab} [h : HauG G] : Has G i_Hauler_lacks_2 f_Hauler_lacks_2 := h.f_Hauler_lacks_2
instance {G : Tab} [h : HauG G] : Has G i_Hauler_take_2 f_Hauler_take_2 := h.f_Hauler_take_2
instance {G : Tab} [h : HauG G] : Has G i_mark_of f_mark_of := h.f_mark_of
instance {G : Tab} [h : HauG G] : Has G i_mark_text f_mark_text := h.f_mark_text
instance {G : Tab} [h : HauG G] : Has G i_read_mark f_read_mark := h.f_read_mark
instance {G : Tab} [h : HauG G] : Has G i_tidied f_tidied := h.f_tidied
instance {G : Tab} [h : HauG G] : Has G i_together f_together := h.f_together
instance {G : Tab} [h : HauG G] : Has G i_both f_both := h.f_both
instance {G : Tab} [h : HauG G] : Has G i_without f_without := h.f_without
instance {G : Tab} [h : HauG G] : Has G i_count f_count := h.f_count
instance {G : Tab} [h : HauG G] : Has G i_range_text f_range_text := h.f_range_text
instance {G : Tab} [h : HauG G] : Has G i_number_of f_number_of := h.f_number_of
instance {G : Tab} [h : HauG G] : Has G i_text_bytes f_text_bytes := h.f_text_bytes
instance {G : Tab} [h : HauG G] : Has G i_bytes_text f_bytes_text := h.f_bytes_text
instance {G : Tab} [h : HauG G] : Has G i_note_bytes f_note_bytes := h.f_note_bytes
instance {G : Tab} [h : HauG G] : Has G i_read_pair f_read_pair := h.f_read_pair
instance {G : Tab} [h : HauG G] : Has G i_read_note f_read_note := h.f_read_note
instance {G : Tab} [h : HauG G] : HasM G 2 8 i_Disk_step := h.m_Disk_step
instance {G : Tab} [h : HauG G] : HasM G 2 9 i_Disk_need := h.m_Disk_need
instance {G : Tab} [h : HauG G] : HasM G 2 10 i_Disk_make := h.m_Disk_make
instance {G : Tab} [h : HauG G] : HasM G 2 11 i_Disk_put_at := h.m_Disk_put_at
instance {G : Tab} [h : HauG G] : HasM G 2 12 i_Disk_rename := h.m_Disk_rename
instance {G : Tab} [h : HauG G] : HasM G 2 4 i_Disk_drop := h.m_Disk_drop
instance {G : Tab} [h : HauG G] : HasM G 2 13 i_Disk_body := h.m_Disk_body
instance {G : Tab} [h : HauG G] : HasM G 2 14 i_Disk_files := h.m_Disk_files
instance {G : Tab} [h : HauG G] : HasM G 3 15 i_Hauler_there := h.m_Hauler_there
instance {G : Tab} [h : HauG G] : HasM G 3 9 i_Hauler_need := h.m_Hauler_need
instance {G : Tab} [h : HauG G] : HasM G 3 16 i_Hauler_write_note := h.m_Hauler_write_note
instance {G : Tab} [h : HauG G] : HasM G 3 18 i_Hauler_begin := h.m_Hauler_begin
instance {G : Tab} [h : HauG G] : HasM G 3 17 i_Hauler_lacks_2 := h.m_Hauler_lacks_2
instance {G : Tab} [h : HauG G] : HasM G 3 19 i_Hauler_take_2 := h.m_Hauler_take_2
instance {G : Tab} [h : HauG G] : HasI G 2 i_Disk_init := h.i_Disk_init
instance {G : Tab} [h : HauG G] : HasI G 3 i_Hauler_init := h.i_Hauler_init
instance {G : Tab} [h : HauG G] : HasC G 0 (.int 2147483647) := h.c_0
instance {G : Tab} [h : HauG G] : HasC G 1 (.int 257) := h.c_1
instance {G : Tab} [h : HauG G] : HasC G 2 (.str "0123456789abcdef") := h.c_2
instance {G : Tab} [h : HauG G] : HasC G 3 (.int 8) := h.c_3
instance {G : Tab} [h : HauG G] : HasC G 4 (.str "0123456789") := h.c_4
instance {G : Tab} [h : HauG G] : HasC G 5 (.int 9) := h.c_5
instance {G : Tab} [h : HauG G] : HasC G 7 (.str SIG) := h.c_7
section
variable {G : Tab} [hg : HauG G] {call : Calls} {env : Env} {k : Nat} {w : Wrl} {fs fs' : Fs} {hs hs' : Option Nt} {x nm : Str} {NS : List Str} {s : Nt} {S : Store} {n m p : Nat} {st : List Int} {P : List Int}
end
end PL

set_option Elab.async false
set_option linter.all false
set_option maxRecDepth 100000
set_option maxHeartbeats 1000000
/-! PNN: right pieces; what comes of them. -/
namespace PL
open PySem
theorem x_asgTW {G : Tab} {call : Calls} {env env' : Env} {S : Store} {P : RS → Prop} {is : List Nat} {e : E} {k : T} {d : D} {S1 : Store} (he : ev G call e env S = .ok d S1) (hb : bindT (.many is) d env = some env') (hk : Sat P (exT G call k env' S1)) : Sat P (exT G call (.asgT is e k) env S) := by
  rw [x_asgT, he]
  simp only [R.stm_ok, hb]
  exact hk
/-- a piece of B -/
structure GP (B : List Int) (p : Nat × List Int) : Prop where
  l : p.1 + p.2.length ≤ B.length
  e : ∀ i : Nat, p.1 ≤ i → i < p.1 + p.2.length → p.2[i - p.1]? = B[i]?
/-- what is there is as in B -/
def Gd (B : List Int) (s : Nt) (P : List Int) : Prop := ∀ i : Nat, inR s.h i → P[i]? = B[i]?
section
variable {G : Tab} [hg : HauG G] {call : Calls} {env : Env} {k : Nat} {w : Wrl} {fs fs' : Fs} {hs hs' : Option Nt} {x nm : Str} {NS : List Str} {s : Nt} {S : Store} {n m p : Nat} {st : List Int} {P : List Int}
end
end PL
namespace PL
open PySem
abbrev i_agreed_2 : Nat := 243
/-- agreed_2: sources 0 name 1 votes 2 source 3 head 4 parts 5 stand 6 told 7 many 8 -/
def b_agreed_2 : T := (.asg 2 .dT0
  (.for_ .plain (.var 0) (.one 3)
  (.asgT [4, 5, 6] (.call i_received (.cons (.call i_answer_bytes (.cons (.meth 1 (.var 3) 7 (.cons (.var 1) (.cons (.con .non) (.cons (.con .non) .nil)))) .nil)) .nil))
  (.ifs (.cmp .eq (.ix (.var 4) (.con (.int 0))) (.con (.int 200)))
  (.setT (.var 2) (.var 4) (.con (.int 1)) (.bin .add (.bmX .get (.var 2) (.cons (.sl (.var 4) (.con (.int 1)) .emp) (.cons (.con (.int 0)) .nil))) (.con (.int 1)))
  .nil)
  .nil
  .nil))
  (.ifs (.nt (.tdT (.var 2)))
  (.rais 5)
  .nil
  (.ret (.ix (.bfX .min (.cons (.compT (.var 2) [7, 8] (.tup (.cons (.bin .sub (.con (.int 0)) (.var 8)) (.cons (.var 7) .nil)))) .nil)) (.con (.int 1)))))))
def f_agreed_2 : Fn := ⟨false, 2, 9, b_agreed_2⟩
abbrev i_block_from : Nat := 164
/-- block_from: source 0 name 1 begin 2 end 3 head 4 parts 5 stand 6 -/
def b_block_from : T := (.asgT [4, 5, 6] (.call i_received (.cons (.call i_answer_bytes (.cons (.meth 1 (.var 0) 7 (.cons (.var 1) (.cons (.fstr (.cons (.fmt (.var 2)) (.cons (.con (.str "-")) (.cons (.fmt (.bin .sub (.var 3) (.con (.int 1)))) .nil)))) (.cons (.con .non) .nil)))) .nil)) .nil))
  (.ifs (.or (.cmp .ne (.var 6) (.con (.str "whole"))) (.or (.cmp .ne (.bf .len (.cons (.var 5) .nil)) (.con (.int 1))) (.one (.cmp .ne (.ix (.ix (.var 5) (.con (.int 0))) (.con (.int 0))) (.var 2)))))
  (.ret (.tup .nil))
  .nil
  (.ret (.ix (.ix (.var 5) (.con (.int 0))) (.con (.int 1))))))
def f_block_from : Fn := ⟨false, 4, 7, b_block_from⟩
abbrev i_gathered : Nat := 165
/-- gathered: sources 0 name 1 table 2 size 3 total 4 wrong 5 body 6 k 7 mark 8 begin 9 end 10 order 11 good 12 many 13 at 14 some 15 -/
def b_gathered : T := (.asg 5 (.new (.bin .mul (.lst (.cons (.con (.int 0)) .nil)) (.bf .len (.cons (.var 0) .nil))))
  (.asg 6 (.tup .nil)
  (.for_ .enum (.cons (.var 2) .nil) (.many [7, 8])
  (.asgT [9, 10] (.call i_block_range (.cons (.var 4) (.cons (.var 3) (.cons (.var 7) .nil))))
  (.asg 11 (.bf .sorted (.cons (.comp .enum (.cons (.var 5) .nil) (.many [14, 13]) .emp (.tup (.cons (.var 13) (.cons (.var 14) .nil)))) .nil))
  (.asg 12 (.con .non)
  (.for_ .plain (.var 11) (.many [13, 14])
  (.ifs (.isn (.var 12))
  (.asg 15 (.call i_block_from (.cons (.ix (.var 0) (.var 14)) (.cons (.var 1) (.cons (.var 9) (.cons (.var 10) .nil)))))
  (.ifs (.and (.cmp .eq (.bf .len (.cons (.var 15) .nil)) (.bin .sub (.var 10) (.var 9))) (.one (.cmp .eq (.call i_mark_of (.cons (.var 15) .nil)) (.var 8))))
  (.asg 12 (.var 15)
  .nil)
  (.setI (.var 5) (.var 14) (.bin .add (.ix (.var 5) (.var 14)) (.con (.int 1)))
  .nil)
  .nil))
  .nil
  .nil)
  (.ifs (.isn (.var 12))
  (.rais 5)
  .nil
  (.asg 6 (.bin .add (.var 6) (.var 12))
  .nil))))))
  (.ret (.tup (.cons (.var 6) (.cons (.bf .tuple (.cons (.var 5) .nil)) .nil)))))))
def f_gathered : Fn := ⟨false, 5, 16, b_gathered⟩
abbrev i_l_told_6 : Nat := 244
/-- l_told_6: _k 0 _sources 1 _found 2 -/
def b_l_told_6 : T := (.asg 2 (.con .non)
  (.tr (.ifs (.cmp .eq (.var 0) (.con (.int 0)))
  (.asg 2 (.call i_agreed_2 (.cons (.var 1) (.cons (.con (.str "f")) .nil)))
  .nil)
  (.asg 2 (.call i_gathered (.cons (.var 1) (.cons (.con (.str "f")) (.cons (.tup (.cons (.con (.int 2147483646)) .nil)) (.cons (.con (.int 2)) (.cons (.con (.int 2)) .nil))))))
  .nil)
  .nil)
  [5]
  (.asg 2 (.con (.str "refused"))
  .nil)
  (.ret (.var 2))))
def f_l_told_6 : Fn := ⟨false, 2, 3, b_l_told_6⟩
abbrev i_law_k36 : Nat := 245
/-- law_k36: _script 0 _cell_here 1 _sources 2 _votes 3 _k 4 _due 5 _more 6 _source 7 _body 8 _most 9 _one 10 -/
def b_law_k36 : T := (.asg 1 (.call i_l_cell (.cons (.var 0) (.cons (.con (.int 0)) .nil)))
  (.asg 2 (.tup .nil)
  (.asg 3 (.new (.lst .nil))
  (.for_ .rng1 (.cons (.call i_l_d (.cons (.var 1) (.cons (.con (.int 1)) (.cons (.con (.int 8)) .nil)))) .nil) (.one 4)
  (.asg 6 (.call i_l_cell (.cons (.var 0) (.cons (.bin .add (.con (.int 2)) (.var 4)) .nil)))
  (.asg 7 (.mk 1 .nil)
  (.asg 8 (.ix (.lst (.cons (.tup .nil) (.cons (.tup (.cons (.con (.int 1)) (.cons (.con (.int 2)) .nil))) (.cons (.call i_l_bytes (.cons (.call i_l_cell (.cons (.var 0) (.cons (.con (.int 1)) .nil))) (.cons (.call i_l_d (.cons (.var 1) (.cons (.con (.int 8)) (.cons (.con (.int 30)) .nil)))) .nil))) .nil)))) (.bin .mod (.var 6) (.con (.int 3))))
  (.ifs (.cmp .gt (.bin .mod (.bin .fdiv (.var 6) (.con (.int 3))) (.con (.int 4))) (.con (.int 0)))
  (.exp (.meth 1 (.var 7) 5 (.cons (.con (.str "f")) (.cons (.var 8) .nil)))
  (.exp (.bm .append (.var 3) (.cons (.tup (.cons (.call i_l_mark (.cons (.var 8) .nil)) (.cons (.bf .len (.cons (.var 8) .nil)) .nil))) .nil))
  .nil))
  .nil
  (.exp (.meth 1 (.var 7) 5 (.cons (.con (.str "g")) (.cons (.tup (.cons (.con (.int 7)) .nil)) .nil)))
  (.asg 2 (.bin .add (.var 2) (.tup (.cons (.var 7) .nil)))
  .nil))))))
  (.asg 5 (.con (.str "refused"))
  (.ifs (.val (.var 3))
  (.asg 9 (.bfX .max (.cons (.comp .plain (.var 3) (.one 10) .emp (.bmX .count (.var 3) (.cons (.var 10) .nil))) .nil))
  (.asg 5 (.bfX .min (.cons (.comp .plain (.var 3) (.one 10) (.cmp .eq (.bmX .count (.var 3) (.cons (.var 10) .nil)) (.var 9)) (.var 10)) .nil))
  .nil))
  .nil
  (.ret (.and (.call i_l_same (.cons (.call i_l_told_6 (.cons (.con (.int 0)) (.cons (.var 2) .nil))) (.cons (.var 5) .nil))) (.one (.call i_l_same (.cons (.call i_l_told_6 (.cons (.con (.int 1)) (.cons (.var 2) .nil))) (.cons (.con (.str "refused")) .nil))))))))))))
def f_law_k36 : Fn := ⟨true, 1, 11, b_law_k36⟩
def Gt : Tab := ⟨lookN [(i_number_of, f_number_of), (i_read_item, f_read_item), (i_read_ask, f_read_ask), (i_resolved_item, f_resolved_item), (i_resolved, f_resolved), (i_mark_of, f_mark_of), (i_mark_text, f_mark_text), (i_read_mark, f_read_mark), (i_text_bytes, f_text_bytes), (i_bytes_text, f_bytes_text), (i_answer_bytes, f_answer_bytes), (i_Received_init, f_Received_init), (i_Received_row, f_Received_row), (i_Received_read_head, f_Received_read_head), (i_Received_read_part, f_Received_read_part), (i_Received_read, f_Received_read), (i_received, f_received), (i_block_range, f_block_range), (i_block_from, f_block_from), (i_gathered, f_gathered), (i_agreed_2, f_agreed_2), (i_Source_init, f_Source_init), (i_Source_put, f_Source_put), (i_Source_ask, f_Source_ask), (i_l_d, f_l_d), (i_l_cell, f_l_cell), (i_l_same, f_l_same), (i_l_bytes, f_l_bytes), (i_l_mark, f_l_mark), (i_l_told_6, f_l_told_6), (i_law_k36, f_law_k36)], lookN [(4, (.str "0123456789")), (5, (.int 9)), (6, (.int 8)), (0, (.int 2147483647)), (1, (.int 257)), (2, (.str "0123456789abcdef")), (3, (.int 8)), (7, (.str "0123456789abcdefghijklmnopqrstuvwxyz -,\n")), (8, (.tup [(.int 200), (.int 206), (.int 404), (.int 412), (.int 416)])), (9, (.int 40))], fun c m => (lookN [(0, [(0, i_Received_row), (1, i_Received_read_head), (2, i_Received_read_part), (3, i_Received_read)]), (1, [(5, i_Source_put), (7, i_Source_ask)])] c).bind fun l => lookN l m, lookN [(0, i_Received_init), (1, i_Source_init)], [0, 1, 5]⟩
instance : Has Gt i_number_of f_number_of := ⟨rfl⟩
instance : Has Gt i_read_item f_read_item := ⟨rfl⟩
instance : Has Gt i_read_ask f_read_ask := ⟨rfl⟩
instance : Has Gt i_resolved_item f_resolved_item := ⟨rfl⟩
instance : Has Gt i_resolved f_resolved := ⟨rfl⟩
instance : Has Gt i_mark_of f_mark_of := ⟨rfl⟩
instance : Has Gt i_mark_text f_mark_text := ⟨rfl⟩
instance : Has Gt i_read_mark f_read_mark := ⟨rfl⟩
instance : Has Gt i_text_bytes f_text_bytes := ⟨rfl⟩
instance : Has Gt i_bytes_text f_bytes_text := ⟨rfl⟩
instance : Has Gt i_answer_bytes f_answer_bytes := ⟨rfl⟩
instance : Has Gt i_Received_init f_Received_init := ⟨rfl⟩
instance : Has Gt i_Received_row f_Received_row := ⟨rfl⟩
instance : Has Gt i_Received_read_head f_Received_read_head := ⟨rfl⟩
instance : Has Gt i_Received_read_part f_Received_read_part := ⟨rfl⟩
instance : Has Gt i_Received_read f_Received_read := ⟨rfl⟩
instance : Has Gt i_received f_received := ⟨rfl⟩
instance : Has Gt i_block_range f_block_range := ⟨rfl⟩
instance : Has Gt i_block_from f_block_from := ⟨rfl⟩
instance : Has Gt i_gathered f_gathered := ⟨rfl⟩
instance : Has Gt i_agreed_2 f_agreed_2 := ⟨rfl⟩
instance : Has Gt i_Source_init f_Source_init := ⟨rfl⟩
instance : Has Gt i_Source_put f_Source_put := ⟨rfl⟩
instance : Has Gt i_Source_ask f_Source_ask := ⟨rfl⟩
instance : Has Gt i_l_d f_l_d := ⟨rfl⟩
instance : Has Gt i_l_cell f_l_cell := ⟨rfl⟩
instance : Has Gt i_l_same f_l_same := ⟨rfl⟩
instance : Has Gt i_l_bytes f_l_bytes := ⟨rfl⟩
instance : Has Gt i_l_mark f_l_mark := ⟨rfl⟩
instance : Has Gt i_l_told_6 f_l_told_6 := ⟨rfl⟩
instance : Has Gt i_law_k36 f_law_k36 := ⟨rfl⟩
instance : HasC Gt 4 (.str "0123456789") := ⟨rfl⟩
instance : HasC Gt 5 (.int 9) := ⟨rfl⟩
instance : HasC Gt 6 (.int 8) := ⟨rfl⟩
instance : HasC Gt 0 (.int 2147483647) := ⟨rfl⟩
instance : HasC Gt 1 (.int 257) := ⟨rfl⟩
instance : HasC Gt 2 (.str "0123456789abcdef") := ⟨rfl⟩
instance : HasC Gt 3 (.int 8) := ⟨rfl⟩
instance : HasC Gt 7 (.str "0123456789abcdefghijklmnopqrstuvwxyz -,\n") := ⟨rfl⟩
instance : HasC Gt 8 (.tup [(.int 200), (.int 206), (.int 404), (.int 412), (.int 416)]) := ⟨rfl⟩
instance : HasC Gt 9 (.int 40) := ⟨rfl⟩
abbrev LI : Nat := i_law_k36
abbrev KK : Nat := 12
end PL
namespace PL
open PySem
instance : HasM Gt 0 0 i_Received_row := ⟨rfl⟩
instance : HasM Gt 0 1 i_Received_read_head := ⟨rfl⟩
instance : HasM Gt 0 2 i_Received_read_part := ⟨rfl⟩
instance : HasM Gt 0 3 i_Received_read := ⟨rfl⟩
instance : HasM Gt 1 5 i_Source_put := ⟨rfl⟩
instance : HasM Gt 1 7 i_Source_ask := ⟨rfl⟩
instance : HasI Gt 0 i_Received_init := ⟨rfl⟩
instance : HasI Gt 1 i_Source_init := ⟨rfl⟩
abbrev nf : Str := "f"
theorem x_trN {G : Tab} {call : Calls} {env env' : Env} {S S' : Store} {P : RS → Prop} {cs : List Nat} {b h k : T} (hb : exT G call b env S = .nx env' S') (hk : Sat P (exT G call k env' S')) : Sat P (exT G call (.tr b cs h k) env S) := by
  rw [x_tr, hb]
  exact hk
theorem x_trE {G : Tab} {call : Calls} {env env' env2 : Env} {S S' S2 : Store} {P : RS → Prop} {cs : List Nat} {b h k : T} {c : Nat} (hb : exT G call b env S = .ex c env' S') (h1 : c ∈ G.exs) (h2 : c ∈ cs) (hh : exT G call h env' S' = .nx env2 S2) (hk : Sat P (exT G call k env2 S2)) : Sat P (exT G call (.tr b cs h k) env S) := by
  rw [x_tr, hb]
  simp only [if_pos h1, if_pos h2, hh, RS.calm_nx, RS.andThen_nx]
  exact hk
/-- a comprehension over enumerate of a list of the store -/
theorem ev_compE {G : Tab} {call : Calls} {env : Env} {S : Store} {α β : Type} {src c e : E} {tg : Tg} {n : Nat} {enc : α → D} {fd : β → D} (f : Nat → α → β) {xs : List α} (hs : ev G call src env S = .ok (.tup [.ref n]) S) (hi : S[n]? = some (.lst (xs.map enc))) (hl : xs.length ≤ 1000000) (h : ∀ (i : Nat) (x : α), xs[i]? = some x → compB G call tg c e env (.tup [.int i, enc x]) S = .ok (some (fd (f i x))) S) :
    ev G call (.comp .enum src tg c e) env S = .ok (.lst (((List.range xs.length).zipWith f xs).map fd)) S := by
  have key : ∀ (m i : Nat) (acc : List β) (g : Nat), xs.length = i + m → m < g → acc = ((List.range i).zipWith f (xs.take i)) → goCompL n true (compB G call tg c e env) g i (acc.map fd) S = .ok (((List.range xs.length).zipWith f xs).map fd) S := by
    intro m
    induction m with
    | zero =>
      intro i acc g hl' hg ha
      obtain ⟨g, rfl⟩ : ∃ q, g = q + 1 := ⟨g - 1, by omega⟩
      have e : itemAt S n true i = some none := by
        unfold itemAt
        rw [hi]
        simp only [List.getElem?_map]
        rw [List.getElem?_eq_none (by omega)]
        rfl
      have e2 : i = xs.length := by omega
      subst e2
      rw [List.take_length] at ha
      simp only [goCompL, e, ha]
    | succ m ih =>
      intro i acc g hl' hg ha
      obtain ⟨g, rfl⟩ : ∃ q, g = q + 1 := ⟨g - 1, by omega⟩
      have hlt : i < xs.length := by omega
      have hx : xs[i]? = some xs[i] := List.getElem?_eq_getElem hlt
      have e : itemAt S n true i = some (some (.tup [.int i, enc xs[i]])) := by
        unfold itemAt
        rw [hi]
        simp only [List.getElem?_map, hx]
        rfl
      have h1 := h i xs[i] hx
      have al : acc.length ≤ i := by rw [ha]; simp; omega
      simp only [goCompL, e, h1, R.bind_ok]
      rw [if_pos (by rw [List.length_map]; unfold SZ; omega)]
      have e2 : acc.map fd ++ [fd (f i xs[i])] = (acc ++ [f i xs[i]]).map fd := by simp
      rw [e2]
      refine ih (i + 1) _ g (by omega) (by omega) ?_
      rw [ha, List.range_succ, List.take_succ, hx]
      simp only [Option.toList_some]
      rw [List.zipWith_append (by simp; omega)]
      rfl
  have em : mkIt .enum [.ref n] S = some (.live n true) := by
    show (match S[n]? with
      | some (.lst _) => some (PL.Itr.live n true)
      | _ => none) = _
    rw [hi]
  show (ev G call src env S).bind _ = _
  rw [hs]
  simp only [R.bind_ok, srcL_enum, toTup_tup, em]
  show (goCompL n true (compB G call tg c e env) LOOP 0 (([] : List β).map fd) S).bind _ = _
  rw [key xs.length 0 [] LOOP (by omega) (by rw [LOOP_eq]; omega) (by simp)]
  simp
/-! ### the plain law -/
def ordL (wr : List Int) : List PI := sortBy leP ((List.range wr.length).zipWith (fun (i : Nat) (x : Int) => (x, (i : Int))) wr)
theorem ord_mem {wr : List Int} {p : PI} : p ∈ ordL wr ↔ ∃ i : Nat, wr[i]? = some p.1 ∧ p.2 = (i : Int) := by
  unfold ordL
  rw [(sortBy_perm leP _).mem_iff, List.mem_iff_getElem?]
  constructor
  · rintro ⟨i, hi⟩
    rw [List.getElem?_zipWith] at hi
    cases hw : wr[i]? with
    | none => rw [hw] at hi; simp at hi
    | some x =>
      have il := (List.getElem?_eq_some_iff.mp hw).1
      rw [hw, List.getElem?_range il] at hi
      simp only [Option.some.injEq] at hi
      exact ⟨i, by rw [hw, ← hi], by rw [← hi]⟩
  · rintro ⟨i, h1, h2⟩
    have il := (List.getElem?_eq_some_iff.mp h1).1
    refine ⟨i, ?_⟩
    rw [List.getElem?_zipWith, h1, List.getElem?_range il]
    simp only [Option.some.injEq]
    exact Prod.ext rfl h2.symm
theorem ord_in {wr : List Int} {p : PI} (h : p ∈ ordL wr) : 0 ≤ p.2 ∧ p.2.toNat < wr.length := by
  obtain ⟨i, h1, h2⟩ := ord_mem.mp h
  have il := (List.getElem?_eq_some_iff.mp h1).1
  omega
/-- the bytes that a source has in a block's place -/
def bfO (t : Option (List Int)) (b n : Nat) : List Int := match t with
  | none => []
  | some t => (t.drop b).take n
theorem r_blockG {k : Nat} {σ : Store} {r : Nat} {fs : Fs} {t : Option (List Int)} {b n : Nat} (hs : SrcAt σ r (r + 1) fs) (okf : OkFs fs) (hg : getF fs nf = t) (hb : b ≤ 100) (hn : 1 ≤ n) (hn' : n ≤ 10) :
    run Gt (k + 6) i_block_from [.ref r, .str nf, .int b, .int ((b : Int) + n)] σ = .ok (tl .int (bfO t b n)) σ := by
  have e0 : (0 : Nat) ∈ Gt.exs := by decide
  have e1 : (1 : Nat) ∈ Gt.exs := by decide
  have itok : okIt (.span (b : Int) ((b : Int) + n - 1)) := ⟨by omega, by omega, by omega⟩
  have al2 := itL_len itok
  have ra := r_Source_ask (G := Gt) (k := k + 1) (nm := nf) (text := some (askL [.span (b : Int) ((b : Int) + n - 1)])) (mk := none) hs e0 e1 (fun l hl => by rw [← Option.some.inj hl]; simp [askL, TL.joinL]; omega)
  have txt : (tx (askL [.span (b : Int) ((b : Int) + n - 1)])) = (tx (nL b ++ 45 :: nL ((b : Int) + n - 1))) := by simp [askL, TL.joinL, itL]
  simp only [opD, txD] at ra
  rw [txt] at ra
  have A1 : (askF fs nf (some (askL [.span (b : Int) ((b : Int) + n - 1)])) none).ps.length ≤ 1 ∧ (∀ p ∈ (askF fs nf (some (askL [.span (b : Int) ((b : Int) + n - 1)])) none).ps, p.2.length ≤ 10) ∧
      ((askF fs nf (some (askL [.span (b : Int) ((b : Int) + n - 1)])) none).ps = [] ∧ bfO t b n = [] ∨ (askF fs nf (some (askL [.span (b : Int) ((b : Int) + n - 1)])) none).ps = [((b : Int), bfO t b n)]) := by
    cases t with
    | none =>
      have : askF fs nf (some (askL [.span (b : Int) ((b : Int) + n - 1)])) none = ⟨404, 0, 0, []⟩ := by unfold askF; rw [hg]
      rw [this]
      exact ⟨by simp, by simp, Or.inl ⟨rfl, rfl⟩⟩
    | some u =>
      have gu : getF fs nf = some u := hg
      have rd := rd_askL (is := [.span (b : Int) ((b : Int) + n - 1)]) (by simp) (by simp) (by intro i hi; rw [List.mem_singleton.mp hi]; exact itok)
      have eA : askF fs nf (some (askL [.span (b : Int) ((b : Int) + n - 1)])) none = askP u (resO [.span (b : Int) ((b : Int) + n - 1)] u.length) := by
        unfold askF
        rw [gu]
        simp only [true_or, if_true, askT, rd, Option.bind_some]
      rw [eA]
      have ri : resI (u.length : Int) (.span (b : Int) ((b : Int) + n - 1)) = (min (b : Int) u.length, min ((b : Int) + n) u.length) := by
        simp only [resI]
        rw [show (b : Int) + n - 1 + 1 = (b : Int) + n by omega]
      by_cases hl : b < u.length
      · have rs : resO [.span (b : Int) ((b : Int) + n - 1)] (u.length : Int) = some [((b : Int), min ((b : Int) + n) u.length)] := by
          unfold resO resF
          simp only [List.map_cons, List.map_nil, ri]
          rw [Int.min_eq_left (by omega), List.filter_cons_of_pos (by simp; omega)]
          rfl
        rw [rs]
        simp only [askP, List.map_cons, List.map_nil]
        have cu : cutD u (some (b : Int)) (some (min ((b : Int) + n) u.length)) = bfO (some u) b n := by
          rw [cut_both (by omega) (by omega)]
          unfold bfO
          simp only
          rw [show ((b : Int)).toNat = b by omega]
          by_cases h2 : b + n ≤ u.length
          · congr 1; omega
          · rw [List.take_of_length_le (by rw [List.length_drop]; omega), List.take_of_length_le (by rw [List.length_drop]; omega)]
        rw [cu]
        refine ⟨by simp, fun p hp => ?_, Or.inr rfl⟩
        rw [List.mem_singleton.mp hp]
        simp only [bfO, List.length_take]; omega
      · have rs : resO [.span (b : Int) ((b : Int) + n - 1)] (u.length : Int) = none := by
          unfold resO resF
          simp only [List.map_cons, List.map_nil, ri]
          rw [Int.min_eq_right (by omega), Int.min_eq_right (by omega), List.filter_cons_of_neg (by simp)]
          rfl
        rw [rs]
        exact ⟨by simp [askP], by simp [askP], Or.inl ⟨rfl, by simp only [bfO]; rw [List.drop_eq_nil_of_le (by omega)]; simp⟩⟩
  have oA : OkA (askF fs nf (some (askL [.span (b : Int) ((b : Int) + n - 1)])) none) := okA_ask okf
  generalize askF fs nf (some (askL [.span (b : Int) ((b : Int) + n - 1)])) none = A at *
  have al := ansB_len30 oA (by omega) fun p hp => by have := A1.2.1 p hp; omega
  have rb := fun S => r_answer_bytes (G := Gt) (k := k + 3) (S := S) oA
  have hrow : (hdR A.c A.m A.z A.ps.length).length + 1 ≤ (ansB A).length := by unfold ansB; rw [tb_snoc]; simp
  have rr : ∀ S, run Gt (k + 5) i_received [tl .int (ansB A)] S = .ok (recD (some (A.c, A.m, A.z), A.ps, .whole)) S := fun S => by
    have := r_received (G := Gt) (k := k) (S := S) (xs := ansB A) e0 (by omega) (ansB_nn oA)
    have rf := recF_cut oA (ansB A).length
    rw [List.take_length] at rf
    rw [this, rf]
    unfold dueF
    rw [if_neg (by omega), if_neg (by omega)]
  have cl := hs.cl
  have f1 : fmtD (.int (b : Int)) = some (txtI b) := fmt_int (by omega) (by omega)
  have f2 : fmtD (.int ((b : Int) + n - 1)) = some (txtI ((b : Int) + n - 1)) := fmt_int (by omega) (by omega)
  have ct : catD [.str (txtI b), .str "-", .str (txtI ((b : Int) + n - 1))] = some (tx (nL b ++ 45 :: nL ((b : Int) + n - 1))) := by
    have := rtxt_cat (p := ((b : Int), (b : Int) + n))
    simp only at this
    rw [this]
    unfold rtxt
    simp only
    rw [txtI_nL, txtI_nL, tx_dash, tx_app, tx_app]
    simp
  refine imp_W (F := f_block_from) (h := ⟨rfl⟩) rfl rfl ?_
  simp only [b_block_from, startE]
  generalize run Gt (k + 5) = call at *
  have bt : ∀ (x y z : D) (env : Env), bindT (.many [4, 5, 6]) (.tup [x, y, z]) env = some (((env.set 4 (some x)).set 5 (some y)).set 6 (some z)) := fun _ _ _ _ => rfl
  refine x_asgTW (d := recD (some (A.c, A.m, A.z), A.ps, .whole)) (S1 := σ) (by simp [cl, f1, f2, ct, ra, rb, rr]) (bt _ _ _ _) ?_
  have sw : ∀ S, cop .ne (.str (stdS .whole)) (.str "whole") S = some false := fun S => by
    show some (!decide ((stdS .whole) = ("whole" : Str))) = _
    decide +kernel
  rcases A1.2.2 with ⟨h1, h2⟩ | h1
  · rw [h1, h2]
    refine x_ifsR (S' := σ) (by simp [sw]) ⟨tl .int [], σ, by simp [tl], rfl⟩
  · rw [h1]
    have i0 : ∀ S, getD_ (tl partD [((b : Int), bfO t b n)]) (.int 0) S = some (partD ((b : Int), bfO t b n)) := fun S => by rw [ix_tl, atI_nn (by decide)]; rfl
    have j0 : ∀ S, getD_ (partD ((b : Int), bfO t b n)) (.int 0) S = some (.int b) := fun S => by unfold partD; rw [ix_tup, atI_nn (by decide)]; rfl
    have j1 : ∀ S, getD_ (partD ((b : Int), bfO t b n)) (.int 1) S = some (tl .int (bfO t b n)) := fun S => ix1_tup
    refine x_ifsF (S' := σ) (by simp [sw, i0, j0, -ix_tl]) ?_
    exact x_retP (d := tl .int (bfO t b n)) (S1 := σ) (by simp [i0, j1, -ix_tl]) rfl
theorem mul_lst1 {a : Int} {n : Nat} {S : Store} (h : n ≤ 1000) : bop .mul (.lst [.int a]) (.int n) S = some (ll .int (List.replicate n a)) := by
  have e : (List.replicate n [D.int a]).flatten = (List.replicate n a).map .int := by
    clear h
    induction n with
    | zero => rfl
    | succ n ih => rw [List.replicate_succ, List.flatten_cons, ih]; rfl
  show (if (0 : Int) ≤ n ∧ (n : Int) ≤ 1000 ∧ [D.int a].length ≤ 1000 then some (D.lst (List.replicate (n : Int).toNat [D.int a]).flatten) else none) = _
  rw [if_pos ⟨by omega, by omega, by simp⟩, Int.toNat_natCast, e]; rfl
/-! ### votes -/
def kp (p : Int × Int) : List Ky := [.inl p.1, .inl p.2]
theorem kp_inj {p q : Int × Int} : kp p = kp q ↔ p = q := by
  constructor
  · intro h
    simp only [kp, List.cons.injEq, Sum.inl.injEq, and_true] at h
    exact Prod.ext h.1 h.2
  · rintro rfl; rfl
abbrev Tal := List ((Int × Int) × Int)
def encT (T : Tal) : List (List Ky × D) := T.map fun q => (kp q.1, .int q.2)
def lkT : Tal → Int × Int → Option Int
  | [], _ => none
  | q :: r, p => if q.1 = p then some q.2 else lkT r p
def insT (T : Tal) (p : Int × Int) : Tal := if (T.any fun q => decide (q.1 = p)) = true then T.map fun q => if q.1 = p then (q.1, (lkT T p).getD 0 + 1) else q else T ++ [(p, (lkT T p).getD 0 + 1)]
theorem getT_enc (T : Tal) (p : Int × Int) : getT (encT T) (kp p) = (lkT T p).map .int := by
  induction T with
  | nil => rfl
  | cons q r ih =>
    show (if kp q.1 = kp p then some (D.int q.2) else getT (encT r) (kp p)) = _
    simp only [lkT, kp_inj]
    by_cases h : q.1 = p
    · simp [h]
    · simp [h, ih]
theorem setT_enc (T : Tal) (p : Int × Int) : setTK (encT T) (kp p) (.int ((lkT T p).getD 0 + 1)) = encT (insT T p) := by
  unfold setTK insT
  have e : ((encT T).any fun e => decide (e.1 = kp p)) = T.any fun q => decide (q.1 = p) := by
    unfold encT
    rw [List.any_map]
    congr 1
    funext q
    simp [kp_inj]
  rw [e]
  split
  · unfold encT
    rw [List.map_map, List.map_map]
    refine List.map_congr_left fun q _ => ?_
    simp only [Function.comp, kp_inj]
    split <;> rfl
  · simp [encT]
def cn (V : List (Int × Int)) (w : Int × Int) : Nat := V.countP fun y => decide (y = w)
theorem cn_snoc (V : List (Int × Int)) (p w : Int × Int) : cn (V ++ [p]) w = cn V w + if p = w then 1 else 0 := by
  unfold cn
  rw [List.countP_append]
  by_cases h : p = w <;> simp [h]
theorem cn_pos {V : List (Int × Int)} {w : Int × Int} : 0 < cn V w ↔ w ∈ V := by
  unfold cn
  rw [List.countP_pos_iff]
  constructor
  · rintro ⟨a, ha, h⟩
    have := of_decide_eq_true h
    subst this; exact ha
  · exact fun h => ⟨w, h, by simp⟩
structure TalOk (T : Tal) (V : List (Int × Int)) : Prop where
  a : ∀ q ∈ T, q.2 = (cn V q.1 : Int) ∧ q.1 ∈ V
  b : ∀ w ∈ V, ∃ q ∈ T, q.1 = w
theorem lkT_some {T : Tal} {p : Int × Int} {c : Int} (h : lkT T p = some c) : ∃ q ∈ T, q.1 = p ∧ q.2 = c := by
  induction T with
  | nil => cases h
  | cons q r ih =>
    simp only [lkT] at h
    split at h
    · rename_i e; cases h; exact ⟨q, by simp, e, rfl⟩
    · obtain ⟨q', h1, h2⟩ := ih h; exact ⟨q', by simp [h1], h2⟩
theorem lkT_none {T : Tal} {p : Int × Int} (h : lkT T p = none) : ∀ q ∈ T, q.1 ≠ p := by
  induction T with
  | nil => intro q hq; cases hq
  | cons q r ih =>
    simp only [lkT] at h
    split at h
    · cases h
    · rename_i e
      intro q' hq
      rcases List.mem_cons.mp hq with rfl | hq
      · exact e
      · exact ih h q' hq
theorem lkT_cn {T : Tal} {V : List (Int × Int)} (o : TalOk T V) (p : Int × Int) : (lkT T p).getD 0 = (cn V p : Int) := by
  cases h : lkT T p with
  | some c =>
    obtain ⟨q, h1, h2, h3⟩ := lkT_some h
    have := (o.a q h1).1
    rw [h2, h3] at this
    simpa using this
  | none =>
    have : ¬ p ∈ V := fun hp => by
      obtain ⟨q, h1, h2⟩ := o.b p hp
      exact lkT_none h q h1 h2
    have := mt cn_pos.mp this
    simp; omega
theorem insT_ok {T : Tal} {V : List (Int × Int)} (o : TalOk T V) (p : Int × Int) : TalOk (insT T p) (V ++ [p]) := by
  have hc := lkT_cn o p
  unfold insT
  split
  · rename_i h
    rw [List.any_eq_true] at h
    obtain ⟨q0, h1, h2⟩ := h
    have h2 := of_decide_eq_true h2
    refine ⟨fun q hq => ?_, fun w hw => ?_⟩
    · obtain ⟨q', h3, rfl⟩ := List.mem_map.mp hq
      by_cases e : q'.1 = p
      · simp only [e, if_true]
        rw [hc, cn_snoc]
        simp
      · simp only [if_neg e]
        obtain ⟨h4, h5⟩ := o.a q' h3
        rw [cn_snoc, if_neg (fun z => e z.symm)]
        exact ⟨by simpa using h4, by simp [h5]⟩
    · have key : ∀ q ∈ T, ∃ q' ∈ (T.map fun q => if q.1 = p then (q.1, (lkT T p).getD 0 + 1) else q), q'.1 = q.1 := fun q hq => by
        refine ⟨_, List.mem_map_of_mem hq, ?_⟩
        split <;> rfl
      rcases List.mem_append.mp hw with hw | hw
      · obtain ⟨q, h3, h4⟩ := o.b w hw
        obtain ⟨q', h5, h6⟩ := key q h3
        exact ⟨q', h5, h6.trans h4⟩
      · rw [List.mem_singleton.mp hw]
        obtain ⟨q', h5, h6⟩ := key q0 h1
        exact ⟨q', h5, h6.trans h2⟩
  · rename_i h
    refine ⟨fun q hq => ?_, fun w hw => ?_⟩
    · rcases List.mem_append.mp hq with hq | hq
      · obtain ⟨h4, h5⟩ := o.a q hq
        have e : ¬ p = q.1 := fun z => h (List.any_eq_true.mpr ⟨q, hq, by simp [z]⟩)
        rw [cn_snoc, if_neg e]
        exact ⟨by simpa using h4, by simp [h5]⟩
      · rw [List.mem_singleton.mp hq]
        simp only
        rw [hc, cn_snoc]
        simp
    · rcases List.mem_append.mp hw with hw | hw
      · obtain ⟨q, h3, h4⟩ := o.b w hw
        exact ⟨q, by simp [h3], h4⟩
      · rw [List.mem_singleton.mp hw]
        exact ⟨(p, (lkT T p).getD 0 + 1), by simp, rfl⟩
def talF (V : List (Int × Int)) : Tal := V.foldl insT []
theorem talF_snoc (V : List (Int × Int)) (p : Int × Int) : talF (V ++ [p]) = insT (talF V) p := by unfold talF; rw [List.foldl_append]; rfl
theorem talF_ok (V : List (Int × Int)) : TalOk (talF V) V := by
  have key : ∀ n, TalOk (talF (V.take n)) (V.take n) := by
    intro n
    induction n with
    | zero => rw [List.take_zero]; exact ⟨fun q h => (by cases h), fun q h => (by cases h)⟩
    | succ n ih =>
      cases h : V[n]? with
      | none =>
        have := List.getElem?_eq_none_iff.mp h
        rw [List.take_of_length_le (by omega)]
        rw [List.take_of_length_le (by omega)] at ih
        exact ih
      | some p =>
        rw [List.take_add_one, h]
        simp only [Option.toList_some]
        rw [talF_snoc]
        exact insT_ok ih p
  have := key V.length
  rwa [List.take_length] at this
theorem insT_len (T : Tal) (p : Int × Int) : (insT T p).length ≤ T.length + 1 := by unfold insT; split <;> simp
theorem fold_insT : ∀ (V : List (Int × Int)) (T : Tal), (V.foldl insT T).length ≤ T.length + V.length
  | [], T => by simp
  | p :: V, T => by
    have := fold_insT V (insT T p)
    have := insT_len T p
    simp only [List.foldl_cons, List.length_cons]; omega
theorem talF_len (V : List (Int × Int)) : (talF V).length ≤ V.length := by
  have := fold_insT V []
  simpa [talF] using this
/-! ### the least -/
theorem min_spec {α : Type} {lt : α → α → Bool} (as : ∀ a b, lt a b = true → lt b a = false) (nt : ∀ a b c, lt a c = true → lt a b = true ∨ lt b c = true) : ∀ (xs : List α) (x : α), minBy lt x xs ∈ x :: xs ∧ ∀ y ∈ x :: xs, lt y (minBy lt x xs) = false := by
  have ir : ∀ a, lt a a = false := fun a => by
    cases h : lt a a with
    | false => rfl
    | true => exact (as a a h).symm.trans h |>.symm ▸ rfl
  intro xs
  induction xs with
  | nil => intro x; exact ⟨by simp [minBy], fun y hy => by rw [List.mem_singleton.mp hy]; exact ir x⟩
  | cons y ys ih =>
    intro x
    have e : minBy lt x (y :: ys) = minBy lt (if lt y x = true then y else x) ys := rfl
    rw [e]
    obtain ⟨i1, i2⟩ := ih (if lt y x = true then y else x)
    refine ⟨?_, fun z hz => ?_⟩
    · rcases List.mem_cons.mp i1 with h | h
      · rw [h]; split <;> simp
      · simp [h]
    · generalize minBy lt (if lt y x = true then y else x) ys = m at *
      have j0 := i2 _ List.mem_cons_self
      rcases List.mem_cons.mp hz with rfl | hz
      · by_cases h : lt y z = true
        · rw [if_pos h] at j0
          cases q : lt z m with
          | false => rfl
          | true =>
            rcases nt _ y _ q with q | q
            · rw [as _ _ h] at q; cases q
            · rw [j0] at q; cases q
        · rw [if_neg h] at j0; exact j0
      · rcases List.mem_cons.mp hz with rfl | hz
        · by_cases h : lt z x = true
          · rw [if_pos h] at j0; exact j0
          · rw [if_neg h] at j0
            cases q : lt z m with
            | false => rfl
            | true =>
              rcases nt _ x _ q with q | q
              · exact absurd q h
              · rw [j0] at q; cases q
        · exact i2 z (List.mem_cons_of_mem _ hz)
theorem ltP_iff {p q : Int × Int} : ltP p q = true ↔ p.1 < q.1 ∨ (p.1 = q.1 ∧ p.2 < q.2) := by
  unfold ltP ltI
  split <;> simp <;> omega
theorem ltQ_iff {p q : Int × Int × Int} : ltQ p q = true ↔ p.1 < q.1 ∨ (p.1 = q.1 ∧ (p.2.1 < q.2.1 ∨ (p.2.1 = q.2.1 ∧ p.2.2 < q.2.2))) := by
  unfold ltQ
  split
  · rename_i h
    rw [ltP_iff]; omega
  · rename_i h
    unfold ltI
    simp; omega
theorem ltP_as (a b : Int × Int) (h : ltP a b = true) : ltP b a = false := by
  rw [← Bool.not_eq_true, ltP_iff]; rw [ltP_iff] at h; omega
theorem ltP_nt (a b c : Int × Int) (h : ltP a c = true) : ltP a b = true ∨ ltP b c = true := by
  rw [ltP_iff] at h ⊢; rw [ltP_iff]; omega
theorem ltQ_as (a b : Int × Int × Int) (h : ltQ a b = true) : ltQ b a = false := by
  rw [← Bool.not_eq_true, ltQ_iff]; rw [ltQ_iff] at h; omega
theorem ltQ_nt (a b c : Int × Int × Int) (h : ltQ a c = true) : ltQ a b = true ∨ ltQ b c = true := by
  rw [ltQ_iff] at h ⊢; rw [ltQ_iff]; omega
def Best (V : List (Int × Int)) (t : Int × Int) : Prop := t ∈ V ∧ ∀ w ∈ V, cn V w < cn V t ∨ (cn V w = cn V t ∧ ltP w t = false)
theorem best_uniq {V : List (Int × Int)} {t u : Int × Int} (h : Best V t) (h' : Best V u) : t = u := by
  have a := h.2 u h'.1
  have b := h'.2 t h.1
  have a2 : ltP u t = false := by rcases a with a | a <;> rcases b with b | b <;> first | omega | exact a.2
  have b2 : ltP t u = false := by rcases a with a | a <;> rcases b with b | b <;> first | omega | exact b.2
  rw [← Bool.not_eq_true, ltP_iff] at a2 b2
  exact Prod.ext (by omega) (by omega)
def agL (T : Tal) : List (Int × Int × Int) := T.map fun q => (0 - q.2, q.1)
def agF (T : Tal) : Int × Int := match agL T with
  | [] => (0, 0)
  | x :: xs => (minBy ltQ x xs).2
theorem ag_best {V : List (Int × Int)} (hV : V ≠ []) : Best V (agF (talF V)) := by
  have o := talF_ok V
  generalize talF V = T at *
  have hT : agL T ≠ [] := fun h => by
    obtain ⟨w, hw⟩ := List.exists_mem_of_ne_nil V hV
    obtain ⟨q, hq, _⟩ := o.b w hw
    rw [List.map_eq_nil_iff.mp h] at hq
    cases hq
  unfold agF
  cases hl : agL T with
  | nil => exact absurd hl hT
  | cons x xs =>
    simp only
    obtain ⟨h1, h2⟩ := min_spec ltQ_as ltQ_nt xs x
    rw [← hl] at h1 h2
    generalize minBy ltQ x xs = m at *
    obtain ⟨q, hq, rfl⟩ := List.mem_map.mp h1
    obtain ⟨c1, c2⟩ := o.a q hq
    refine ⟨c2, fun w hw => ?_⟩
    obtain ⟨q', hq', rfl⟩ := o.b w hw
    obtain ⟨d1, d2⟩ := o.a q' hq'
    have := h2 _ (List.mem_map_of_mem hq')
    rw [← Bool.not_eq_true, ltQ_iff] at this
    simp only at this ⊢
    rw [← Bool.not_eq_true, ltP_iff]
    omega
/-! ### the walk -/
theorem ev_compT {G : Tab} {call : Calls} {env : Env} {S : Store} {β : Type} {v e : E} {is : List Nat} {n : Nat} {enc : β → List Ky × D} (f : β → D) {xs : List β} (hs : ev G call v env S = .ok (.ref n) S) (hi : S[n]? = some (.dtt (xs.map enc))) (hl : xs.length ≤ SZ)
    (h : ∀ x ∈ xs, ∀ S, ∃ env', bindT (.many is) (itmT (enc x)) env = some env' ∧ ev G call e env' S = .ok (f x) S) : ev G call (.compT v is e) env S = .ok (.lst (xs.map f)) S := by
  have hn := (List.getElem?_eq_some_iff.mp hi).1
  have g := goComp_map (body := qk .keysR (fun x S => match bindT (.many is) x env with
      | some env' => (ev G call e env' S).bind fun y S => R.ok (some y) S
      | none => .bad)) (enc := fun x => itmT (enc x)) (f := f) (S := S.set n (.lct (xs.map enc))) hl fun x hx => qk_ok (by
      obtain ⟨env', h1, h2⟩ := h x hx (S.set n (.lct (xs.map enc)))
      simp only [h1, h2, R.bind_ok])
  have u : unlST n (S.set n (.lct (xs.map enc))) = some S := by
    unfold unlST
    rw [List.getElem?_set_self hn]
    simp only [List.set_set]
    rw [set_same hi]
  have w : walkT (.ref n) (fun x S => match bindT (.many is) x env with
      | some env' => (ev G call e env' S).bind fun y S => R.ok (some y) S
      | none => .bad) S = .ok (xs.map f) S := by
    unfold walkT
    simp only [hi]
    rw [List.map_map]
    rw [show (itmT ∘ enc) = fun x => itmT (enc x) from rfl, g]
    simp only [unlLT, u]
  show (ev G call v env S).bind _ = _
  rw [hs]
  simp only [R.bind_ok]
  exact congrArg (fun r => R.bind r fun ys S => R.ok (D.lst ys) S) w
def vt (fs : Fs) : Option (Int × Int) := (getF fs nf).map fun b => (markF b, (b.length : Int))
def AllS (σ : Store) (rs : List Nat) (fss : List Fs) : Prop := rs.length = fss.length ∧ ∀ (i r : Nat) (fs : Fs), rs[i]? = some r → fss[i]? = some fs → SrcAt σ r (r + 1) fs
theorem AllS.keep {σ σ' : Store} {rs : List Nat} {fss : List Fs} (h : AllS σ rs fss) (k : Keep σ σ') : AllS σ' rs fss := ⟨h.1, fun i r t h1 h2 => (h.2 i r t h1 h2).keep k⟩
theorem ansB_len60 {A : Ans} (h : OkA A) (h3 : A.ps.length ≤ 3) (h60 : ∀ p ∈ A.ps, p.2.length ≤ 60) : (ansB A).length ≤ 500 := by
  have h1 := hdR_len (m := A.m) (k := A.ps.length) h.c h.z (by omega)
  have key : ∀ ps : List Part, OkP A.z ps → (∀ p ∈ ps, p.2.length ≤ 60) → (restB ps).length ≤ 120 * ps.length := by
    intro ps
    induction ps with
    | nil => intro _ _; simp [restB]
    | cons p r ih =>
      intro ho h60
      have i1 := ih (fun q hq => ho q (by simp [hq])) fun q hq => h60 q (by simp [hq])
      have i2 := h60 p (by simp)
      have i3 := ho p (by simp)
      have i4 := ptR_len (b := p.1) (n := p.2.length) ⟨i3.1, by have := h.z.2; omega⟩ (by omega)
      rw [restB_cons]; simp; omega
  have h2 := key A.ps h.p h60
  unfold ansB
  rw [tb_snoc]; simp; omega
theorem setTD_enc {σ : Store} {T : Tal} {c m z : Int} (hl : T.length < 1000) : setTD (.ref σ.length) (.tup [.int c, .int m, .int z]) (.int 1) (.int ((lkT T (m, z)).getD 0 + 1)) (σ ++ [.dtt (encT T)]) = some (σ ++ [.dtt (encT (insT T (m, z)))]) := by
  have h0 : (σ ++ [Ob.dtt (encT T)])[σ.length]? = some (.dtt (encT T)) := by simp
  have h1 : keysL (cutD [D.int c, .int m, .int z] (some 1) none) = some (kp (m, z)) := rfl
  have h2 : (encT T).length < SZ ∧ HT.sIx [D.int c, .int m, .int z].length 0 (some 1) ≠ 0 := ⟨by simp only [encT, List.length_map]; unfold SZ; omega, by show HT.sIx 3 0 (some 1) ≠ 0; decide⟩
  have h3 : (σ ++ [Ob.dtt (encT T)]).set σ.length (.dtt (encT (insT T (m, z)))) = σ ++ [.dtt (encT (insT T (m, z)))] := by
    rw [List.set_append_right _ _ (Nat.le_refl _), Nat.sub_self]; rfl
  show (match (σ ++ [Ob.dtt (encT T)])[σ.length]?, D.tup [.int c, .int m, .int z], D.int 1 with
    | some (.dtt kvs), .tup xs, .int i => if kvs.length < SZ ∧ HT.sIx xs.length 0 (some i) ≠ 0 then (keysL (cutD xs (some i) none)).map fun k => (σ ++ [Ob.dtt (encT T)]).set σ.length (.dtt (setTK kvs k (.int ((lkT T (m, z)).getD 0 + 1)))) else none
    | _, _, _ => none) = _
  rw [h0]
  simp only
  rw [if_pos h2, h1]
  simp only [Option.map_some]
  rw [setT_enc, h3]
theorem r_agreed {k : Nat} {σ : Store} {rs : List Nat} {fss : List Fs} (hs : AllS σ rs fss) (hn : fss.length ≤ 100) (ok : ∀ fs ∈ fss, OkFs fs) (hl : ∀ fs ∈ fss, ∀ b, getF fs nf = some b → b.length ≤ 60) (e5 : (5 : Nat) ∈ Gt.exs) :
    run Gt (k + 6) i_agreed_2 [.tup (rs.map .ref), .str nf] σ = if fss.filterMap vt = [] then .ex 5 (σ ++ [.dtt []]) else .ok (pairD (agF (talF (fss.filterMap vt)))) (σ ++ [.dtt (encT (talF (fss.filterMap vt)))]) := by
  have e0 : (0 : Nat) ∈ Gt.exs := by decide
  have e1 : (1 : Nat) ∈ Gt.exs := by decide
  have rb := fun (A : Ans) (h : OkA A) S => r_answer_bytes (G := Gt) (k := k + 3) (S := S) h
  have rr := fun (A : Ans) (h : OkA A) (al : (ansB A).length ≤ 500) S => by
    have := r_received (G := Gt) (k := k) (S := S) (xs := ansB A) e0 (by omega) (ansB_nn h)
    rw [recF_ans h] at this
    exact this
  have ra := fun (S : Store) (r : Nat) (fs : Fs) (h : SrcAt S r (r + 1) fs) => by
    have := r_Source_ask (G := Gt) (k := k + 1) (nm := nf) (text := none) (mk := none) h e0 e1 (by simp)
    simp only [opD] at this
    exact this
  refine imp_W (F := f_agreed_2) (h := ⟨rfl⟩) rfl rfl ?_
  simp only [b_agreed_2, startE]
  generalize run Gt (k + 5) = call at *
  refine x_asgV (d := .ref σ.length) (S1 := σ ++ [.dtt []]) (by simp) ?_
  obtain ⟨J, hJ⟩ : ∃ J : Nat → Env → Store → Prop, J = fun j e s => ∃ t3 t4 t5 t6 : Option D, s = σ ++ [.dtt (encT (talF ((fss.take j).filterMap vt)))] ∧ e = [some (.tup (rs.map .ref)), some (.str nf), some (.ref σ.length), t3, t4, t5, t6, none, none] := ⟨_, rfl⟩
  refine x_forW J (enc := D.ref) (xs := rs) (d := .tup (rs.map .ref)) (by simp) rfl ?_ ?_ ?_
  · rw [hJ]; exact ⟨none, none, none, none, rfl, rfl⟩
  · rintro j r _ s hj hI
    rw [hJ] at hI
    obtain ⟨t3, t4, t5, t6, rfl, rfl⟩ := hI
    have jl := (List.getElem?_eq_some_iff.mp hj).1
    obtain ⟨fs, hf⟩ : ∃ fs, fss[j]? = some fs := ⟨fss[j]'(by rw [← hs.1]; exact jl), List.getElem?_eq_getElem _⟩
    have hm := List.mem_of_getElem? hf
    obtain ⟨T, hT⟩ : ∃ T, T = talF ((fss.take j).filterMap vt) := ⟨_, rfl⟩
    have tl9 : T.length ≤ 100 := by
      have h1 := talF_len ((fss.take j).filterMap vt)
      have h2 := List.length_filterMap_le vt (fss.take j)
      rw [List.length_take] at h2
      rw [hT]; omega
    have nx : talF ((fss.take (j + 1)).filterMap vt) = match vt fs with | none => T | some p => insT T p := by
      rw [List.take_add_one, hf, List.filterMap_append]
      simp only [Option.toList_some, List.filterMap_cons, List.filterMap_nil]
      cases vt fs with
      | none => simp [hT]
      | some p => rw [talF_snoc, hT]
    rw [← hT]
    have hs' : SrcAt (σ ++ [.dtt (encT T)]) r (r + 1) fs := (hs.2 j r fs hj hf).keep (keep_app _ _)
    have a1 := ra _ r fs hs'
    have cl := hs'.cl
    have oA : OkA (askF fs nf none none) := okA_ask (ok fs hm)
    have eA : askF fs nf none none = match getF fs nf with
      | none => ⟨404, 0, 0, []⟩
      | some b => ⟨200, markF b, b.length, [(0, b)]⟩ := by
      unfold askF
      cases getF fs nf with
      | none => rfl
      | some b => simp [askT]
    have al : (ansB (askF fs nf none none)).length ≤ 500 := by
      refine ansB_len60 oA ?_ ?_
      · rw [eA]; cases getF fs nf <;> simp
      · rw [eA]
        cases hg : getF fs nf with
        | none => simp
        | some b =>
          intro p hp
          rw [List.mem_singleton.mp hp]
          exact hl fs hm b hg
    have a2 := rb _ oA
    have a3 := rr _ oA al
    have hA : (askF fs nf none none).c = 200 ∧ vt fs = some ((askF fs nf none none).m, (askF fs nf none none).z) ∨ ¬ (askF fs nf none none).c = 200 ∧ vt fs = none := by
      rw [eA]
      unfold vt
      cases getF fs nf with
      | none => exact Or.inr ⟨by decide, rfl⟩
      | some b => exact Or.inl ⟨rfl, rfl⟩
    generalize askF fs nf none none = A at *
    simp only [turnB, bindT]
    refine x_asgTW (d := recD (some (A.c, A.m, A.z), A.ps, .whole)) (S1 := σ ++ [.dtt (encT T)]) (by simp [cl, a1, a2, a3]) (show bindT (.many [4, 5, 6]) (.tup [hdD (A.c, A.m, A.z), tl partD A.ps, .str (stdS .whole)]) _ = _ from rfl) ?_
    have hh : hdD (A.c, A.m, A.z) = .tup [.int A.c, .int A.m, .int A.z] := rfl
    rw [hh]
    have i0 : ∀ S, getD_ (.tup [.int A.c, .int A.m, .int A.z]) (.int 0) S = some (.int A.c) := fun S => ix0_tup
    have s0 : ∀ S, slD (.tup [.int A.c, .int A.m, .int A.z]) (some 1) none S = some (.tup [.int A.m, .int A.z]) := fun S => rfl
    refine x_ifsW (t := decide (A.c = 200)) (S' := σ ++ [.dtt (encT T)]) (J (j + 1)) (by simp [i0]) ?_ ?_ ?_
    · intro h
      have h := of_decide_eq_true h
      have hv : vt fs = some (A.m, A.z) := by
        rcases hA with h' | h'
        · exact h'.2
        · exact absurd h h'.1
      have dR : dttR (.ref σ.length) (σ ++ [.dtt (encT T)]) = some (encT T) := by
        simp only [dttR, List.getElem?_concat_length]
      have g0 : byOk .get (.ref σ.length) (σ ++ [.dtt (encT T)]) = true := by simp only [byOk, isDttR, dR]; rfl
      have g1 : byD .get (.ref σ.length) [.tup [.int A.m, .int A.z], .int 0] (σ ++ [.dtt (encT T)]) = some (.int ((lkT T (A.m, A.z)).getD 0)) := by
        have hk : tupK (.tup [.int A.m, .int A.z]) = some (kp (A.m, A.z)) := rfl
        simp only [byD, dTgetD, dR, hk, getT_enc]
        cases lkT T (A.m, A.z) <;> rfl
      have g2 := setTD_enc (σ := σ) (T := T) (c := A.c) (m := A.m) (z := A.z) (by omega)
      rw [x_setT]
      simp only [List.set_cons_succ, List.set_cons_zero, e_bin, e_bmX, e_var, List.getElem?_cons_succ, List.getElem?_cons_zero, R.bind_ok, g0, if_true, e_cons, e_sl, e_con, isEmp, part, Bool.false_eq_true, if_false, R.of_some, s0, e_nil, toTup_tup, g1, bop_add_int, R.stm_ok, g2]
      show J (j + 1) _ _
      rw [hJ]
      refine ⟨_, _, _, _, ?_, rfl⟩
      rw [nx, hv]
    · intro h
      have h := of_decide_eq_false h
      have hv : vt fs = none := by
        rcases hA with h' | h'
        · exact absurd h'.1 h
        · exact h'.2
      show J (j + 1) _ _
      rw [hJ]
      refine ⟨_, _, _, _, ?_, rfl⟩
      rw [nx, hv]
    · intro e s h
      exact h
  · rintro _ s hI
    rw [hJ] at hI
    obtain ⟨t3, t4, t5, t6, rfl, rfl⟩ := hI
    rw [hs.1, List.take_length]
    have dR : dttR (.ref σ.length) (σ ++ [.dtt (encT (talF (fss.filterMap vt)))]) = some (encT (talF (fss.filterMap vt))) := by
      simp only [dttR, List.getElem?_concat_length]
    have hmem := talF_ok (fss.filterMap vt)
    have tl9 : (talF (fss.filterMap vt)).length ≤ 100 := by
      have h1 := talF_len (fss.filterMap vt)
      have h2 := List.length_filterMap_le vt fss
      omega
    by_cases hV : fss.filterMap vt = []
    · rw [if_pos hV, hV]
      rw [hV] at dR
      rw [x_ifs]
      simp only [e_nt, e_tdT, e_var, List.getElem?_cons_succ, List.getElem?_cons_zero, R.bind_ok, dR, Option.map_some, R.of_some]
      show Sat _ _
      simp [mapT, talF, encT, truthy]
    · rw [if_neg hV]
      have hT : talF (fss.filterMap vt) ≠ [] := fun h => by
        obtain ⟨w, hw⟩ := List.exists_mem_of_ne_nil _ hV
        obtain ⟨q, hq, _⟩ := hmem.b w hw
        rw [h] at hq
        cases hq
      generalize talF (fss.filterMap vt) = T at *
      refine x_ifsF (S' := σ ++ [.dtt (encT T)]) (by
        have : (encT T).isEmpty = false := by cases T <;> first | exact absurd rfl hT | rfl
        simp [mapT, dR, this, truthy]) ?_
      have hc : ∀ env : Env, env[2]? = some (some (.ref σ.length)) → env.length = 9 → ev Gt call (.compT (.var 2) [7, 8] (.tup (.cons (.bin .sub (.con (.int 0)) (.var 8)) (.cons (.var 7) .nil)))) env (σ ++ [.dtt (encT T)]) = .ok (.lst (T.map fun q => triD (0 - q.2, q.1))) (σ ++ [.dtt (encT T)]) := fun env h2 he => by
        have h7 : 7 < env.length := by omega
        have h8 : 8 < env.length := by omega
        refine ev_compT (n := σ.length) (enc := fun q : (Int × Int) × Int => (kp q.1, D.int q.2)) (fun q => triD (0 - q.2, q.1)) (by simp [h2]) (by simp [encT]) (by unfold SZ; omega) fun q _ S => ⟨_, rfl, ?_⟩
        simp [h7, h8, triD, kp, kyD, mkTup, SZ]
      have hm : bxD .min [.lst (T.map fun q => triD (0 - q.2, q.1))] (σ ++ [.dtt (encT T)]) = some (triD (match agL T with | [] => (0, 0, 0) | x :: xs => minBy ltQ x xs)) := by
        have ht : ∀ l : List (Int × Int × Int), trisD (l.map triD) = some l := by
          intro l
          induction l with
          | nil => rfl
          | cons p l ih => show (trisD (l.map triD)).map ((p.1, p.2.1, p.2.2) :: ·) = _; rw [ih]; rfl
        have e : (T.map fun q => triD (0 - q.2, q.1)) = (agL T).map triD := by unfold agL; rw [List.map_map]; rfl
        rw [e]
        show minD1 ((agL T).map triD) = _
        have hne : agL T ≠ [] := fun h => hT (List.map_eq_nil_iff.mp h)
        cases hl : agL T with
        | nil => exact absurd hl hne
        | cons x xs =>
          have h1 : intsD ((x :: xs).map triD) = none := rfl
          have h2 : pairsD ((x :: xs).map triD) = none := rfl
          unfold minD1
          rw [h1, h2, ht]
      have hx : getD_ (triD (match agL T with | [] => (0, 0, 0) | x :: xs => minBy ltQ x xs)) (.int 1) (σ ++ [.dtt (encT T)]) = some (pairD (agF T)) := by
        unfold agF
        have hne : agL T ≠ [] := fun h => hT (List.map_eq_nil_iff.mp h)
        cases hl : agL T with
        | nil => exact absurd hl hne
        | cons x xs => exact ix1_tup
      refine x_retP (d := pairD (agF T)) (S1 := σ ++ [Ob.dtt (encT T)]) ?_ rfl
      rw [e_ix, e_bfX, e_cons, hc _ rfl rfl]
      simp only [R.bind_ok, e_nil, toTup_tup, e_con, hm, hx, R.of_some]
/-- no source has the block -/
theorem mark_two {l : List Int} (h : Byt l) (hl : l.length = 2) : markF l ≠ 2147483646 := by
  obtain ⟨a, b, rfl⟩ : ∃ a b, l = [a, b] := by
    cases l with
    | nil => cases hl
    | cons a l => cases l with
      | nil => cases hl
      | cons b l => cases l with
        | nil => exact ⟨a, b, rfl⟩
        | cons _ _ => simp at hl
  have ha := h a (by simp)
  have hb := h b (by simp)
  have e : markF [a, b] = ((0 * 257 + a + 1) % 2147483647 * 257 + b + 1) % 2147483647 := rfl
  have h1 : (0 * 257 + a + 1) % 2147483647 = a + 1 := by rw [Int.emod_eq_of_lt] <;> omega
  have h2 : ((a + 1) * 257 + b + 1) % 2147483647 = (a + 1) * 257 + b + 1 := by rw [Int.emod_eq_of_lt] <;> omega
  rw [e, h1, h2]
  omega
theorem r_gathered0 {k : Nat} {σ0 : Store} {rs : List Nat} {fss : List Fs} (hs : AllS σ0 rs fss) (hn : fss.length ≤ 100) (ok : ∀ fs ∈ fss, OkFs fs) :
    ∃ σ, run Gt (k + 7) i_gathered [.tup (rs.map .ref), .str nf, tl .int [2147483646], .int 2, .int 2] σ0 = .ex 5 σ ∧ Keep σ0 σ := by
  obtain ⟨P, hP⟩ : ∃ P : R D → Prop, P = fun r => ∃ σ, r = .ex 5 σ ∧ Keep σ0 σ := ⟨_, rfl⟩
  have goal : P (run Gt (k + 7) i_gathered [.tup (rs.map .ref), .str nf, tl .int [2147483646], .int 2, .int 2] σ0) := by
    have rbk : ∀ (σ : Store) (r : Nat) (fs : Fs), SrcAt σ r (r + 1) fs → OkFs fs → run Gt (k + 6) i_block_from [.ref r, .str nf, .int 0, .int 2] σ = .ok (tl .int (bfO (getF fs nf) 0 2)) σ := fun σ r fs h1 h2 => by
      have := r_blockG (k := k) (b := 0) (n := 2) h1 h2 rfl (by decide) (by decide) (by decide)
      simpa using this
    have rbr : ∀ S, run Gt (k + 6) i_block_range [.int 2, .int 2, .int 0] S = .ok (pairD ((0 : Int), (2 : Int))) S := fun S => by
      have := r_block_range (G := Gt) (k := k + 5) (S := S) (n := 2) (z := 2) (j := 0) (by omega)
      have e : brF 2 2 0 = ((0 : Int), (2 : Int)) := by decide +kernel
      rw [e] at this
      exact this
    have rmk : ∀ (b : List Int) S, run Gt (k + 6) i_mark_of [tl .int b] S = .ok (.int (markF b)) S := fun b S => r_mark_of (k := k + 5)
    have rl := hs.1
    refine imp_P (P := P) (k := k + 6) (F := f_gathered) (h := ⟨rfl⟩) rfl rfl ?_
    simp only [b_gathered, startE]
    generalize run Gt (k + 6) = call at *
    have lrs : ∀ S, bfD .len [.tup (rs.map .ref)] S = some (.int rs.length) := fun S => by simp [bfD, lenF, lenD, seqOf]
    have mu := fun S => mul_lst1 (a := 0) (n := fss.length) (S := S) (by omega)
    refine x_asgV (d := .ref σ0.length) (S1 := σ0 ++ [.lst ((List.replicate fss.length (0 : Int)).map .int)]) (by
      simp [lrs, mu, rl]) ?_
    refine x_asgV (d := tl .int []) (S1 := σ0 ++ [.lst ((List.replicate fss.length (0 : Int)).map .int)]) (by simp [tl]) ?_
    obtain ⟨w, hw⟩ : ∃ w, w = σ0.length := ⟨_, rfl⟩
    rw [← hw]
    obtain ⟨wr, hwr⟩ : ∃ wr, wr = List.replicate fss.length (0 : Int) := ⟨_, rfl⟩
    have wl : wr.length = fss.length := by rw [hwr]; simp
    rw [← hwr]
    have hσ0 : (σ0 ++ [Ob.lst (wr.map .int)])[w]? = some (.lst (wr.map .int)) := by rw [hw]; simp
    have hk0 : Keep σ0 (σ0 ++ [.lst (wr.map .int)]) := keep_app _ _
    generalize σ0 ++ [Ob.lst (wr.map .int)] = σ at *
    obtain ⟨J, hJ⟩ : ∃ J : Nat → Env → Store → Prop, J = fun j e s => j = 0 ∧ s = σ ∧ e = [some (.tup (rs.map .ref)), some (.str nf), some (tl .int [2147483646]), some (.int 2), some (.int 2), some (.ref w), some (tl .int []), none, none, none, none, none, none, none, none, none] := ⟨_, rfl⟩
    refine x_forW J (enc := fun k : Nat => D.tup [.int k, .int (([2147483646] : List Int).getD k 0)]) (xs := List.range ([2147483646] : List Int).length) (d := .tup [tl .int [2147483646]]) ?_ ?_ ?_ ?_ ?_
    · simp
    · exact mkIt_enumG (f := D.int) 0
    · rw [hJ]
      exact ⟨rfl, rfl, rfl⟩
    · rintro j x _ s hj hI
      rw [hJ] at hI
      obtain ⟨rfl, hs0, rfl⟩ := hI
      rw [hs0]
      clear hs0
      obtain ⟨rfl, _⟩ := range_get hj
      have bt2 : ∀ (x y : D) (env : Env), bindT (.many [7, 8]) (.tup [x, y]) env = some ((env.set 7 (some x)).set 8 (some y)) := fun _ _ _ => rfl
      have bt3 : ∀ (p : PI) (env : Env), bindT (.many [9, 10]) (pairD p) env = some ((env.set 9 (some (.int p.1))).set 10 (some (.int p.2))) := fun _ _ => rfl
      simp only [turnB, bt2]
      refine x_asgTW (d := pairD ((0 : Int), (2 : Int))) (S1 := σ) (by simp [rbr]) (bt3 _ _) ?_
      have cm : ∀ env : Env, env[5]? = some (some (.ref w)) → env.length = 16 → ev Gt call (.comp .enum (.cons (.var 5) .nil) (.many [14, 13]) .emp (.tup (.cons (.var 13) (.cons (.var 14) .nil)))) env σ = .ok (ll pairD ((List.range wr.length).zipWith (fun (i : Nat) (x : Int) => (x, (i : Int))) wr)) σ := fun env h5 hl => by
        have h13 : 13 < env.length := by omega
        have h14 : 14 < env.length := by omega
        refine ev_compE (fun (i : Nat) (x : Int) => (x, (i : Int))) (by simp [h5]) hσ0 (by omega) fun i x hx => ?_
        have b2 : bindT (.many [14, 13]) (.tup [.int i, .int x]) env = some ((env.set 14 (some (.int i))).set 13 (some (.int x))) := rfl
        simp [compB, b2, h13, h14, pairD]
      refine x_asgV (d := ll pairD (ordL wr)) (S1 := σ) (by
        rw [ev_bf1]
        simp only [pairD, List.set_cons_succ, List.set_cons_zero]
        rw [cm _ rfl rfl]
        simp only [R.bind_ok, sort_llP, R.of_some]
        rfl) ?_
      refine x_asgV (d := .non) (S1 := σ) (by simp) ?_
      have ess := set_same hσ0
      have wlt := (List.getElem?_eq_some_iff.mp hσ0).1
      rw [← ess]
      refine x_forF (P := Sat _) (ik := .plain) (xs := ordL wr) (enc := pairD) (a0 := wr) (t0 := ((none, none, none) : Option D × Option D × Option D)) (d := ll pairD (ordL wr))
        (fun a t => [some (.tup (rs.map .ref)), some (.str nf), some (tl .int [2147483646]), some (.int 2), some (.int 2), some (.ref w), some (tl .int []), some (.int 0), some (.int 2147483646), some (.int 0), some (.int 2), some (ll pairD (ordL wr)), some .non, t.1, t.2.1, t.2.2]) (fun a => σ.set w (.lst (a.map .int))) (fun (a : List Int) (p : PI) => a.set p.2.toNat (a.getD p.2.toNat 0 + 1)) (fun _ a => a.length = fss.length) ?_ ?_ ?_ ?_ ?_
      · simp
      · simp
      · exact wl
      · rintro i p wv ⟨u13, u14, u15⟩ hi hlen
        try simp only at hlen
        obtain ⟨p0, pl⟩ := ord_in (List.mem_of_getElem? hi)
        obtain ⟨at_, hat⟩ := Int.eq_ofNat_of_zero_le p0
        rw [hat] at pl
        simp only [Int.toNat_natCast] at pl
        have lt2 : at_ < wv.length := by omega
        simp only [turnB, bindT_pair]
        obtain ⟨fs, hth⟩ : ∃ fs, fss[at_]? = some fs := ⟨fss[at_]'(by omega), List.getElem?_eq_getElem (by omega)⟩
        obtain ⟨r, hr⟩ : ∃ r, rs[at_]? = some r := ⟨rs[at_]'(by omega), List.getElem?_eq_getElem (by omega)⟩
        have sr := hs.2 at_ r fs hr hth
        have r1 := (List.getElem?_eq_some_iff.mp sr.o).1
        have r2 := (List.getElem?_eq_some_iff.mp sr.d).1
        have sr2 : SrcAt (σ.set w (.lst (wv.map .int))) r (r + 1) fs := ⟨by rw [List.getElem?_set_ne (by omega)]; exact (sr.keep hk0).o, by rw [List.getElem?_set_ne (by omega)]; exact (sr.keep hk0).d⟩
        have okf := ok fs (List.mem_of_getElem? hth)
        have rk := rbk _ r fs sr2 okf
        have ir : ∀ S, getD_ (.tup (rs.map .ref)) (.int (at_ : Int)) S = some (.ref r) := fun S => by
          rw [ix_tup, atI_nat, List.getElem?_map, hr]; rfl
        have hw2 : (σ.set w (.lst (wv.map .int)))[w]? = some (.lst (wv.map .int)) := List.getElem?_set_self wlt
        have byb : Byt (bfO (getF fs nf) 0 2) := by
          cases hg : getF fs nf with
          | none => intro y hy; cases hy
          | some u =>
            have := (okf.b nf u hg).1
            intro y hy
            exact this y (List.mem_of_mem_drop (List.mem_of_mem_take hy))
        generalize bfO (getF fs nf) 0 2 = some_ at *
        have iw : getD_ (.ref w) (.int (at_ : Int)) (σ.set w (.lst (wv.map .int))) = some (.int (wv.getD at_ 0)) := by
          rw [ix_refI]
          simp only [lstOf, hw2]
          rw [atI_nat, List.getElem?_map, List.getD_eq_getElem?_getD, List.getElem?_eq_getElem lt2]; rfl
        have si := setI_refL (i := (at_ : Int)) (v := D.int (wv.getD at_ 0 + 1)) hw2 (by omega) (by rw [List.length_map]; omega)
        rw [List.set_set, Int.toNat_natCast, ← List.map_set] at si
        refine ⟨(some (.int p.1), some (.int at_), some (tl .int some_)), ?_, by simp only [List.length_set]; exact hlen⟩
        rw [hat, Int.toNat_natCast]
        by_cases hl : some_.length = 2
        · have hm : ¬ markF some_ = 2147483646 := mark_two byb hl
          simp [ir, rk, isNonD, hl, rmk, hm, iw, si, -List.getD_eq_getElem?_getD, -ix_refI]
        · have hl' : ¬ (some_.length : Int) = 2 := fun h => hl (by omega)
          simp [ir, rk, isNonD, hl', iw, si, -List.getD_eq_getElem?_getD, -ix_refI]
      · rintro ⟨u13, u14, u15⟩ hlen
        generalize List.foldl (fun (a : List Int) (p : PI) => a.set p.2.toNat (a.getD p.2.toNat 0 + 1)) wr (ordL wr) = wv at *
        rw [x_ifs]
        have : mapT (ev Gt call (.isn (.var 12)) [some (.tup (rs.map .ref)), some (.str nf), some (tl .int [2147483646]), some (.int 2), some (.int 2), some (.ref w), some (tl .int []), some (.int 0), some (.int 2147483646), some (.int 0), some (.int 2), some (ll pairD (ordL wr)), some .non, u13, u14, u15] (σ.set w (.lst (wv.map .int)))) = .ok true (σ.set w (.lst (wv.map .int))) := by simp [isNonD]
        rw [this]
        show P (.ex 5 (σ.set w (.lst (wv.map .int))))
        rw [hP]
        exact ⟨_, rfl, keep_set hk0 (by omega)⟩
    · rintro _ s hI
      rw [hJ] at hI
      exact absurd hI.1 (by simp)
  rw [hP] at goal
  exact goal
theorem ev_compVg {G : Tab} {call : Calls} {env : Env} {S : Store} {β : Type} {src c e : E} {tg : Tg} {n : Nat} {enc : β → D} {p : β → Bool} (f : β → D) {xs : List β} (hs : ev G call src env S = .ok (.ref n) S) (hi : S[n]? = some (.lst (xs.map enc))) (hl : xs.length ≤ 1000000) (h : ∀ x ∈ xs, compB G call tg c e env (enc x) S = .ok (if p x then some (f x) else none) S) :
    ev G call (.comp .plain src tg c e) env S = .ok (.lst ((xs.filter p).map f)) S := by
  have key : ∀ (m i : Nat) (acc : List β) (g : Nat), xs.length = i + m → m < g → acc.length ≤ i → goCompL n false (compB G call tg c e env) g i (acc.map f) S = .ok ((acc ++ (xs.drop i).filter p).map f) S := by
    intro m
    induction m with
    | zero =>
      intro i acc g hl' hg ha
      obtain ⟨g, rfl⟩ : ∃ q, g = q + 1 := ⟨g - 1, by omega⟩
      have e : itemAt S n false i = some none := by
        unfold itemAt
        rw [hi]
        simp only [List.getElem?_map]
        rw [List.getElem?_eq_none (by omega)]
        rfl
      rw [List.drop_eq_nil_of_le (by omega)]
      simp [goCompL, e]
    | succ m ih =>
      intro i acc g hl' hg ha
      obtain ⟨g, rfl⟩ : ∃ q, g = q + 1 := ⟨g - 1, by omega⟩
      have hlt : i < xs.length := by omega
      have hx : xs[i]? = some xs[i] := List.getElem?_eq_getElem hlt
      have e : itemAt S n false i = some (some (enc xs[i])) := by
        unfold itemAt
        rw [hi]
        simp only [List.getElem?_map, hx]
        rfl
      have h1 := h xs[i] (List.getElem_mem hlt)
      have fd : (xs.drop i).filter p = if p xs[i] = true then xs[i] :: (xs.drop (i + 1)).filter p else (xs.drop (i + 1)).filter p := by
        rw [List.drop_eq_getElem_cons hlt, List.filter_cons]
      rw [fd]
      simp only [goCompL, e, h1, R.bind_ok]
      cases hp : p xs[i] with
      | true =>
        simp only [if_true]
        rw [if_pos (by rw [List.length_map]; unfold SZ; omega)]
        have e2 : acc.map f ++ [f xs[i]] = (acc ++ [xs[i]]).map f := by simp
        rw [e2, ih (i + 1) (acc ++ [xs[i]]) g (by omega) (by omega) (by rw [List.length_append]; simp; omega)]
        simp
      | false =>
        simp only [Bool.false_eq_true, if_false]
        rw [ih (i + 1) acc g (by omega) (by omega) (by omega)]
  have em : mkIt .plain [.ref n] S = some (.live n false) := by
    show (match S[n]? with
      | some (.lst _) => some (PL.Itr.live n false)
      | _ => none) = _
    rw [hi]
  show (ev G call src env S).bind _ = _
  rw [hs]
  simp only [R.bind_ok, srcL_plain, em]
  show (goCompL n false (compB G call tg c e env) LOOP 0 (([] : List β).map f) S).bind _ = _
  rw [key xs.length 0 [] LOOP (by omega) (by rw [LOOP_eq]; omega) (by simp)]
  simp
/-! ### the law -/
theorem max_spec : ∀ (xs : List Int) (x : Int), maxBy ltI x xs ∈ x :: xs ∧ ∀ y ∈ x :: xs, y ≤ maxBy ltI x xs := by
  intro xs
  induction xs with
  | nil => intro x; exact ⟨by simp [maxBy], fun y hy => by rw [List.mem_singleton.mp hy]; exact Int.le_refl _⟩
  | cons y ys ih =>
    intro x
    have e : maxBy ltI x (y :: ys) = maxBy ltI (if ltI x y = true then y else x) ys := rfl
    rw [e]
    obtain ⟨i1, i2⟩ := ih (if ltI x y = true then y else x)
    refine ⟨?_, fun z hz => ?_⟩
    · rcases List.mem_cons.mp i1 with h | h
      · rw [h]; split <;> simp
      · simp [h]
    · have j0 := i2 _ List.mem_cons_self
      generalize maxBy ltI (if ltI x y = true then y else x) ys = m at *
      have j1 : x ≤ m ∧ y ≤ m := by
        by_cases h : ltI x y = true
        · rw [if_pos h] at j0
          have : x < y := by simpa [ltI] using h
          omega
        · rw [if_neg h] at j0
          have : ¬ x < y := by simpa [ltI] using h
          omega
      rcases List.mem_cons.mp hz with rfl | hz
      · exact j1.1
      · rcases List.mem_cons.mp hz with rfl | hz
        · exact j1.2
        · exact i2 z (List.mem_cons_of_mem _ hz)
theorem ints_map {α : Type} (f : α → Int) : ∀ l : List α, intsD (l.map fun q => D.int (f q)) = some (l.map f)
  | [] => rfl
  | x :: l => by
    show (intsD (l.map fun q => D.int (f q))).map (f x :: ·) = _
    rw [ints_map f l]; rfl
theorem pairs_map : ∀ l : List (Int × Int), pairsD (l.map pairD) = some l
  | [] => rfl
  | x :: l => by
    show (pairsD (l.map pairD)).map ((x.1, x.2) :: ·) = _
    rw [pairs_map l]; rfl
/-- the law's own reckoning -/
theorem due_best {v : Int × Int} {V : List (Int × Int)} : ∃ m : Int, ∃ t : Int × Int, maxD1 ((v :: V).map fun p => D.int (cn (v :: V) p)) = some (.int m) ∧ minD1 (((v :: V).filter fun p => decide ((cn (v :: V) p : Int) = m)).map pairD) = some (pairD t) ∧ Best (v :: V) t := by
  obtain ⟨W, hW⟩ : ∃ W, W = v :: V := ⟨_, rfl⟩
  rw [← hW]
  have hm : maxD1 (W.map fun p => D.int (cn W p)) = some (.int (maxBy ltI (cn W v) (V.map fun p => (cn W p : Int)))) := by
    unfold maxD1
    rw [ints_map (fun p => (cn W p : Int)) W]
    rw [show W.map (fun p => (cn W p : Int)) = (cn W v : Int) :: V.map (fun p => (cn W p : Int)) by rw [hW]; rfl]
  obtain ⟨s1, s2⟩ := max_spec (V.map fun p => (cn W p : Int)) (cn W v)
  have sw : ∀ y, y ∈ (cn W v : Int) :: V.map (fun p => (cn W p : Int)) ↔ ∃ p ∈ W, (cn W p : Int) = y := fun y => by
    rw [show (cn W v : Int) :: V.map (fun p => (cn W p : Int)) = W.map (fun p => (cn W p : Int)) by rw [hW]; rfl]
    simp
  generalize maxBy ltI (cn W v) (V.map fun p => (cn W p : Int)) = m at *
  obtain ⟨p0, hp0, e0⟩ := (sw m).mp s1
  have s3 : ∀ p ∈ W, (cn W p : Int) ≤ m := fun p hp => s2 _ ((sw _).mpr ⟨p, hp, rfl⟩)
  have hF : p0 ∈ W.filter fun p => decide ((cn W p : Int) = m) := by
    rw [List.mem_filter]; exact ⟨hp0, by simpa using e0⟩
  have hmem : ∀ p, p ∈ (W.filter fun p => decide ((cn W p : Int) = m)) ↔ p ∈ W ∧ (cn W p : Int) = m := fun p => by rw [List.mem_filter]; simp
  cases hl : W.filter fun p => decide ((cn W p : Int) = m) with
  | nil => rw [hl] at hF; cases hF
  | cons x xs =>
    refine ⟨m, minBy ltP x xs, hm, ?_, ?_⟩
    · have h1 : intsD ((x :: xs).map pairD) = none := rfl
      rw [hl]
      unfold minD1
      rw [h1, pairs_map]
    · obtain ⟨t1, t2⟩ := min_spec ltP_as ltP_nt xs x
      rw [← hl] at t1 t2
      obtain ⟨u1, u2⟩ := (hmem _).mp t1
      refine ⟨u1, fun w hw => ?_⟩
      by_cases e : (cn W w : Int) = m
      · exact Or.inr ⟨by omega, t2 w ((hmem w).mpr ⟨hw, e⟩)⟩
      · have := s3 w hw
        exact Or.inl (by omega)
theorem r_told0 {k : Nat} {σ : Store} {rs : List Nat} {fss : List Fs} (hs : AllS σ rs fss) (hn : fss.length ≤ 100) (ok : ∀ fs ∈ fss, OkFs fs) (hl : ∀ fs ∈ fss, ∀ b, getF fs nf = some b → b.length ≤ 60) (e5 : (5 : Nat) ∈ Gt.exs) :
    ∃ σ', run Gt (k + 7) i_l_told_6 [.int 0, .tup (rs.map .ref)] σ = .ok (if fss.filterMap vt = [] then .str "refused" else pairD (agF (talF (fss.filterMap vt)))) σ' ∧ Keep σ σ' := by
  have ra := r_agreed (k := k) hs hn ok hl e5
  by_cases hV : fss.filterMap vt = []
  · rw [if_pos hV] at ra
    simp only [if_pos hV]
    refine ⟨σ ++ [.dtt []], ?_, keep_app _ _⟩
    refine imp_W (F := f_l_told_6) (h := ⟨rfl⟩) rfl rfl ?_
    simp only [b_l_told_6, startE]
    generalize run Gt (k + 6) = call at *
    refine x_asgV (d := .non) (S1 := σ) (by simp) ?_
    refine x_trE (env' := [some (.int 0), some (.tup (rs.map .ref)), some .non]) (S' := σ ++ [.dtt []]) (env2 := [some (.int 0), some (.tup (rs.map .ref)), some (.str "refused")]) (S2 := σ ++ [.dtt []]) (c := 5) ?_ e5 (by simp) (by simp) ?_
    · simp [ra]
    · exact x_retP (d := .str "refused") (S1 := σ ++ [Ob.dtt []]) (by simp) rfl
  · rw [if_neg hV] at ra
    simp only [if_neg hV]
    refine ⟨σ ++ [.dtt (encT (talF (fss.filterMap vt)))], ?_, keep_app _ _⟩
    refine imp_W (F := f_l_told_6) (h := ⟨rfl⟩) rfl rfl ?_
    simp only [b_l_told_6, startE]
    generalize run Gt (k + 6) = call at *
    refine x_asgV (d := .non) (S1 := σ) (by simp) ?_
    refine x_trN (env' := [some (.int 0), some (.tup (rs.map .ref)), some (pairD (agF (talF (fss.filterMap vt))))]) (S' := σ ++ [.dtt (encT (talF (fss.filterMap vt)))]) ?_ ?_
    · simp [ra]
    · exact x_retP (d := pairD (agF (talF (fss.filterMap vt)))) (S1 := σ ++ [Ob.dtt (encT (talF (fss.filterMap vt)))]) (by simp) rfl
theorem r_told1 {k : Nat} {σ : Store} {rs : List Nat} {fss : List Fs} (hs : AllS σ rs fss) (hn : fss.length ≤ 100) (ok : ∀ fs ∈ fss, OkFs fs) (e5 : (5 : Nat) ∈ Gt.exs) :
    ∃ σ', run Gt (k + 8) i_l_told_6 [.int 1, .tup (rs.map .ref)] σ = .ok (.str "refused") σ' ∧ Keep σ σ' := by
  obtain ⟨σ', rg, hk⟩ := r_gathered0 (k := k) hs hn ok
  refine ⟨σ', ?_, hk⟩
  refine imp_W (F := f_l_told_6) (h := ⟨rfl⟩) rfl rfl ?_
  simp only [b_l_told_6, startE]
  generalize run Gt (k + 7) = call at *
  refine x_asgV (d := .non) (S1 := σ) (by simp) ?_
  have e1 : tl D.int [2147483646] = .tup [.int 2147483646] := rfl
  rw [e1] at rg
  refine x_trE (env' := [some (.int 1), some (.tup (rs.map .ref)), some .non]) (S' := σ') (env2 := [some (.int 1), some (.tup (rs.map .ref)), some (.str "refused")]) (S2 := σ') (c := 5) ?_ e5 (by simp) (by simp) ?_
  · simp [rg]
  · exact x_retP (d := .str "refused") (S1 := σ') (by simp) rfl
theorem law_true : ∀ ns : List Int, ns.length ≤ 63 → run Gt KK LI [.scr ns] [] = .ok (.bl true) [] := by
  intro ns hn
  have e5 : (5 : Nat) ∈ Gt.exs := by simp [Gt]
  have rd : ∀ (c p m : Int), 0 < m → ∃ v : Nat, (v : Int) < m ∧ ∀ S, run Gt 11 i_l_d [.int c, .int p, .int m] S = .ok (.int v) S := fun c p m h => by
    obtain ⟨v, hv⟩ := Int.eq_ofNat_of_zero_le (dF_lo (c := c) (p := p) (m := m) h)
    have := dF_hi (c := c) (p := p) (m := m) h
    exact ⟨v, by omega, fun S => hv ▸ r_d h⟩
  have rc : ∀ (b : Nat) S, run Gt 11 i_l_cell [.scr ns, .int b] S = .ok (.int (ns.getD b 0)) S := fun b S => by
    have := r_cell (G := Gt) (k := 10) (S := S) (ns := ns) (n := (b : Int)) (by omega)
    rw [this, Int.toNat_natCast]
  have rc0 : ∀ S, run Gt 11 i_l_cell [.scr ns, .int 0] S = .ok (.int (ns.getD 0 0)) S := rc 0
  have rc1 : ∀ S, run Gt 11 i_l_cell [.scr ns, .int 1] S = .ok (.int (ns.getD 1 0)) S := rc 1
  have rb : ∀ (c : Int) (n : Nat) S, n ≤ 1000 → run Gt 11 i_l_bytes [.int c, .int n] S = .ok (tl .int (bytesF c n)) S := fun c n S h => by
    have := r_bytes (G := Gt) (k := 9) (S := S) (c := c) (n := (n : Int)) (by omega) (by omega)
    rw [this, Int.toNat_natCast]
  have rsi : ∀ S : Store, run Gt 11 i_Source_init [.ref S.length] (S ++ [.ins 1 []]) = .ok .non (S ++ [.ins 1 [(5, .ref (S.length + 1))], .dct []]) := fun S => by
    refine imp_W (F := f_Source_init) (h := ⟨rfl⟩) rfl rfl ?_
    have c0 : clsD (.ref S.length) (S ++ [Ob.ins 1 []] ++ [.dct []]) = some 1 := by simp [clsD]
    have s1 : setFld (.ref S.length) 5 (.ref (S.length + 1)) (S ++ [Ob.ins 1 []] ++ [.dct []]) = some (S ++ [.ins 1 [(5, .ref (S.length + 1))], .dct []]) := by
      simp [setFld, fldPut]
    have ll : (S ++ [Ob.ins 1 []]).length = S.length + 1 := by simp
    simp only [b_Source_init, startE, x_fldS, e_dict0, R.stm_ok, ll, e_var]
    simp only [List.map_cons, List.map_nil, List.cons_append, List.getElem?_cons_zero, R.stm_ok, c0, if_true, s1]
    rfl
  have rpu : ∀ (S : Store) (r : Nat) fs (nm : Str) b, SrcAt S r (r + 1) fs → fs.length ≤ 1000 → run Gt 11 i_Source_put [.ref r, .str nm, tl .int b] S = .ok .non (S.set (r + 1) (.dct (encF (setF fs nm b)))) := fun S r fs nm b h1 h2 => r_Source_put (k := 10) h1 h2
  have rmk : ∀ (b : List Int) S, run Gt 11 i_l_mark [tl .int b] S = .ok (.int (markF b)) S := fun b S => r_l_mark
  have rt0 := fun (σ : Store) (rs : List Nat) (fss : List Fs) (h1 : AllS σ rs fss) (h2 : fss.length ≤ 100) (h3 : ∀ fs ∈ fss, OkFs fs) (h4 : ∀ fs ∈ fss, ∀ b, getF fs nf = some b → b.length ≤ 60) => r_told0 (k := 4) h1 h2 h3 h4 e5
  have rt1 := fun (σ : Store) (rs : List Nat) (fss : List Fs) (h1 : AllS σ rs fss) (h2 : fss.length ≤ 100) (h3 : ∀ fs ∈ fss, OkFs fs) => r_told1 (k := 3) h1 h2 h3 e5
  have rsP : ∀ (p : Int × Int) S, run Gt 11 i_l_same [pairD p, pairD p] S = .ok (.bl true) S := fun p S => r_same (by simp [pairD, okD, SZ])
  have rsS : ∀ S, run Gt 11 i_l_same [.str "refused", .str "refused"] S = .ok (.bl true) S := fun S => r_same rfl
  refine pure_W (k := 11) (F := f_law_k36) rfl rfl rfl ?_
  simp only [show 4 + 7 = 11 from rfl] at rt0
  simp only [show 3 + 8 = 11 from rfl] at rt1
  generalize hrun : run Gt 11 = call at *
  clear hrun
  simp only [b_law_k36, startE]
  obtain ⟨c, hc⟩ : ∃ c, c = ns.getD 0 0 := ⟨_, rfl⟩
  obtain ⟨c1, hc1⟩ : ∃ c, c = ns.getD 1 0 := ⟨_, rfl⟩
  rw [← hc] at rc0
  rw [← hc1] at rc1
  obtain ⟨v1, l1, d1⟩ := rd c 1 8 (by decide)
  obtain ⟨v2, l2, d2⟩ := rd c 8 30 (by decide)
  have rb1 := fun S => rb c1 v2 S (by omega)
  have bl : (bytesF c1 v2).length ≤ 60 := by rw [len_bytes]; omega
  have bB : Byt (bytesF c1 v2) := byt_bytes _ _
  generalize bytesF c1 v2 = B at *
  refine x_asgV (d := .int c) (S1 := []) (by simp [rc0]) ?_
  refine x_asgV (d := .tup []) (S1 := []) (by simp) ?_
  refine x_asgV (d := .ref 0) (S1 := [.lst []]) (by simp [ll]) ?_
  obtain ⟨J, hJ⟩ : ∃ J : Nat → Env → Store → Prop, J = fun j e σ => ∃ (fss : List Fs) (rs : List Nat) (t4 t6 t7 t8 : Option D), fss.length = j ∧ σ[0]? = some (.lst ((fss.filterMap vt).map pairD)) ∧ AllS σ rs fss ∧ (∀ r ∈ rs, 1 ≤ r) ∧ (∀ fs ∈ fss, OkFs fs) ∧ (∀ fs ∈ fss, ∀ b, getF fs nf = some b → b.length ≤ 60) ∧ e = [some (.scr ns), some (.int c), some (.tup (rs.map .ref)), some (.ref 0), t4, none, t6, t7, t8, none, none] := ⟨_, rfl⟩
  refine x_forW J (enc := fun k : Nat => D.int k) (xs := List.range v1) (d := .tup [.int (v1 : Int)]) ?_ ?_ ?_ ?_ ?_
  · simp [d1]
  · rw [srcL_rng1, toTup_tup, mkIt_rng1 (b62_of (by omega) (by omega)), rngD_map, Int.toNat_natCast]
  · rw [hJ]
    exact ⟨[], [], _, _, _, _, rfl, rfl, ⟨rfl, fun i r t h => by cases h⟩, by simp, by simp, by simp, rfl⟩
  · rintro j x _ σ hj hI
    rw [hJ] at hI
    obtain ⟨fss, rs, t4, t6, t7, t8, tl', h0, hs, hr, hok, hb, rfl⟩ := hI
    obtain ⟨rfl, jl⟩ := range_get hj
    obtain ⟨more, hmore⟩ : ∃ more, more = ns.getD (2 + x) 0 := ⟨_, rfl⟩
    have rcm : ∀ σ, call i_l_cell [.scr ns, .int (2 + (x : Int))] σ = .ok (.int more) σ := fun σ => by
      have := rc (2 + x) σ
      rw [← hmore] at this
      simpa using this
    obtain ⟨V, hV⟩ : ∃ V, V = fss.filterMap vt := ⟨_, rfl⟩
    have vl : V.length ≤ 100 := by
      have := List.length_filterMap_le vt fss
      rw [hV]; omega
    rw [← hV] at h0
    simp only [turnB, bindT]
    refine x_asgV (d := .int more) (S1 := σ) (by simp [rcm]) ?_
    refine x_asgV (d := .ref σ.length) (S1 := σ ++ [.ins 1 [(5, .ref (σ.length + 1))], .dct []]) (by simp [rsi]) ?_
    have z0l : 0 < σ.length := (List.getElem?_eq_some_iff.mp h0).1
    have h01 : (σ ++ [Ob.ins 1 [(5, .ref (σ.length + 1))], .dct []])[0]? = some (.lst (V.map pairD)) := by rw [List.getElem?_append_left z0l]; exact h0
    obtain ⟨mine, hmine⟩ : ∃ mine : List Int, mine = if more % 3 = 0 then [] else if more % 3 = 1 then [1, 2] else B := ⟨_, rfl⟩
    have my : Byt mine ∧ mine.length ≤ 60 := by
      rw [hmine]
      split
      · exact ⟨fun y hy => (by cases hy), by simp⟩
      · split
        · refine ⟨fun y hy => ?_, by simp⟩
          simp only [List.mem_cons, List.not_mem_nil, or_false] at hy
          rcases hy with rfl | rfl <;> exact ⟨by decide, by decide⟩
        · exact ⟨bB, bl⟩
    have i3 : ∀ S, getD_ (.lst [.tup [], .tup [.int 1, .int 2], tl .int B]) (.int (more % 3)) S = some (tl .int mine) := fun S => by
      have h3 : more % 3 = 0 ∨ more % 3 = 1 ∨ more % 3 = 2 := by omega
      rcases h3 with h | h | h
      · rw [hmine, h]; rfl
      · rw [hmine, h]; rfl
      · rw [hmine, h]; rfl
    refine x_asgV (d := tl .int mine) (S1 := σ ++ [.ins 1 [(5, .ref (σ.length + 1))], .dct []]) (by simp [rc1, d2, rb1, i3, -ix_lst, mkLst, mkTup, SZ]) ?_
    have sr0 : SrcAt (σ ++ [.ins 1 [(5, .ref (σ.length + 1))], .dct []]) σ.length (σ.length + 1) [] := ⟨by simp, by simp [encF]⟩
    have cl0 := sr0.cl
    have pu := rpu _ _ [] nf mine sr0 (by simp)
    have es : (σ ++ [Ob.ins 1 [(5, .ref (σ.length + 1))], Ob.dct []]).set (σ.length + 1) (Ob.dct (encF (setF [] nf mine))) = σ ++ [Ob.ins 1 [(5, .ref (σ.length + 1))], Ob.dct (encF [(nf, mine)])] := by
      rw [List.set_append_right _ _ (by omega)]
      simp [setF, hasF]
    rw [es] at pu
    have h02 : (σ ++ [Ob.ins 1 [(5, .ref (σ.length + 1))], Ob.dct (encF [(nf, mine)])])[0]? = some (.lst (V.map pairD)) := by rw [List.getElem?_append_left z0l]; exact h0
    have m4 : ∀ S, bop .mod (.int (more / 3)) (.int 4) S = some (.int (more / 3 % 4)) := fun S => bop_mod_int (by decide)
    obtain ⟨fs0, hfs0⟩ : ∃ fs0 : Fs, fs0 = if 0 < more / 3 % 4 then [(nf, mine)] else [] := ⟨_, rfl⟩
    obtain ⟨pv, hpv⟩ : ∃ pv : List (Int × Int), pv = if 0 < more / 3 % 4 then [(markF mine, (mine.length : Int))] else [] := ⟨_, rfl⟩
    have ap : bmD .append (.ref 0) [.tup [.int (markF mine), .int mine.length]] (σ ++ [Ob.ins 1 [(5, .ref (σ.length + 1))], Ob.dct (encF [(nf, mine)])]) = .ok .non ((σ ++ [Ob.ins 1 [(5, .ref (σ.length + 1))], Ob.dct (encF [(nf, mine)])]).set 0 (.lst ((V ++ [(markF mine, (mine.length : Int))]).map pairD))) := by
      simp only [bmD, h02]
      rw [if_pos (by rw [List.length_map]; unfold SZ; omega)]
      simp [pairD]
    have hop : bmOk .append (.ref 0) (σ ++ [Ob.ins 1 [(5, .ref (σ.length + 1))], Ob.dct (encF [(nf, mine)])]) = true := by simp only [bmOk, isLstR, h02]
    refine x_ifsW (t := decide (0 < more / 3 % 4)) (S' := σ ++ [.ins 1 [(5, .ref (σ.length + 1))], .dct []]) (fun e s => s = (σ ++ [Ob.ins 1 [(5, .ref (σ.length + 1))], Ob.dct (encF fs0)]).set 0 (.lst ((V ++ pv).map pairD)) ∧ e = [some (.scr ns), some (.int c), some (.tup (rs.map .ref)), some (.ref 0), some (.int x), none, some (.int more), some (.ref σ.length), some (tl .int mine), none, none]) (by simp [m4]) ?_ ?_ ?_
    · intro h
      have h := of_decide_eq_true h
      rw [if_pos h] at hfs0 hpv
      rw [hfs0, hpv]
      refine x_expV (S1 := σ ++ [.ins 1 [(5, .ref (σ.length + 1))], .dct (encF [(nf, mine)])]) (d := .non) (by simp [cl0, pu]) ?_
      refine x_expV (S1 := (σ ++ [Ob.ins 1 [(5, .ref (σ.length + 1))], Ob.dct (encF [(nf, mine)])]).set 0 (.lst ((V ++ [(markF mine, (mine.length : Int))]).map pairD))) (d := .non) (by simp [rmk, hop, ap, -List.map_append]) ?_
      exact ⟨rfl, rfl⟩
    · intro h
      have h := of_decide_eq_false h
      rw [if_neg h] at hfs0 hpv
      rw [hfs0, hpv]
      refine ⟨?_, rfl⟩
      rw [List.append_nil]
      exact (set_same h01).symm
    rintro _ s3 ⟨hs3, rfl⟩
    have l3 : s3.length = σ.length + 2 := by rw [hs3]; simp
    have g0 : s3[0]? = some (.lst ((V ++ pv).map pairD)) := by rw [hs3]; exact List.getElem?_set_self (by simp)
    have gk : ∀ i, 1 ≤ i → i < σ.length → s3[i]? = σ[i]? := fun i hi hl => by
      rw [hs3, List.getElem?_set_ne (by omega)]
      exact List.getElem?_append_left hl
    have sr3 : SrcAt s3 σ.length (σ.length + 1) fs0 := ⟨by rw [hs3, List.getElem?_set_ne (by omega)]; simp, by rw [hs3, List.getElem?_set_ne (by omega)]; simp⟩
    have fl : fs0.length ≤ 1 := by rw [hfs0]; split <;> simp
    have pg := rpu s3 σ.length fs0 "g" [7] sr3 (by omega)
    have cl3 := sr3.cl
    clear hs3 pu es ap hop
    obtain ⟨fN, hfN⟩ : ∃ fN, fN = setF fs0 "g" [7] := ⟨_, rfl⟩
    rw [← hfN] at pg
    have gN : getF fN nf = (if 0 < more / 3 % 4 then some mine else none) := by
      rw [hfN, hfs0]
      by_cases h : 0 < more / 3 % 4
      · simp only [if_pos h]
        show getF (setF [(nf, mine)] "g" [7]) nf = _
        have : ¬ nf = ("g" : Str) := by decide
        simp [setF, hasF, getF, this]
      · simp only [if_neg h]
        show getF (setF [] "g" [7]) nf = _
        have : ¬ ("g" : Str) = nf := by decide
        simp [setF, hasF, getF, this]
    have oN : OkFs fN := ⟨fun n b hb => by
      have key : ∀ p ∈ fN, Byt p.2 ∧ p.2.length ≤ 1000 := by
        have b7 : Byt [7] := fun y hy => by
          rw [List.mem_singleton.mp hy]; exact ⟨by decide, by decide⟩
        intro p hp
        rw [hfN, hfs0] at hp
        by_cases h : 0 < more / 3 % 4
        · rw [if_pos h] at hp
          have e : setF [(nf, mine)] "g" [7] = ([(nf, mine), ("g", [7])] : Fs) := by
            have : ¬ nf = ("g" : Str) := by decide
            simp [setF, hasF, this]
          rw [e] at hp
          simp only [List.mem_cons, List.not_mem_nil, or_false] at hp
          rcases hp with rfl | rfl
          · exact ⟨my.1, by have := my.2; show mine.length ≤ 1000; omega⟩
          · exact ⟨b7, by simp⟩
        · rw [if_neg h] at hp
          have e : setF [] "g" [7] = ([("g", [7])] : Fs) := by simp [setF, hasF]
          rw [e] at hp
          rw [List.mem_singleton.mp hp]
          exact ⟨b7, by simp⟩
      have mem : ∀ (l : Fs), getF l n = some b → ∃ p ∈ l, p.2 = b := by
        intro l
        induction l with
        | nil => intro h; cases h
        | cons p l ih =>
          intro h
          simp only [getF] at h
          split at h
          · cases h; exact ⟨p, by simp, rfl⟩
          · obtain ⟨q, h1, h2⟩ := ih h; exact ⟨q, by simp [h1], h2⟩
      obtain ⟨p, hp, rfl⟩ := mem fN hb
      exact key p hp⟩
    have vN : (fss ++ [fN]).filterMap vt = V ++ pv := by
      rw [List.filterMap_append, ← hV]
      congr 1
      rw [hpv]
      simp only [List.filterMap_cons, List.filterMap_nil, vt, gN]
      by_cases h : 0 < more / 3 % 4 <;> simp [h]
    have t7 : (tl D.int [7]) = .tup [.int 7] := rfl
    rw [t7] at pg
    refine x_expV (S1 := s3.set (σ.length + 1) (.dct (encF fN))) (d := .non) (by simp [cl3, pg]) ?_
    have ad : ∀ S, bop .add (.tup (rs.map .ref)) (.tup [.ref σ.length]) S = some (.tup ((rs ++ [σ.length]).map .ref)) := fun S => by
      have := hs.1
      rw [bop_add_tup (by rw [List.length_map]; simp [SZ]; omega)]
      simp
    refine x_asgV (d := .tup ((rs ++ [σ.length]).map .ref)) (S1 := s3.set (σ.length + 1) (.dct (encF fN))) (by simp [ad, -List.map_append]) ?_
    show J (x + 1) _ _
    rw [hJ]
    refine ⟨fss ++ [fN], rs ++ [σ.length], _, _, _, _, by simp [tl'], ?_, ⟨by simp [hs.1], fun i r' t' h1 h2 => ?_⟩, fun r' hr' => ?_, fun t' ht' => ?_, fun t' ht' b hb' => ?_, rfl⟩
    · rw [vN, List.getElem?_set_ne (by omega)]; exact g0
    · by_cases hi : i < rs.length
      · rw [List.getElem?_append_left hi] at h1
        rw [List.getElem?_append_left (by rw [← hs.1]; exact hi)] at h2
        have sr := hs.2 i r' t' h1 h2
        have r1 := hr r' (List.mem_of_getElem? h1)
        have lo := (List.getElem?_eq_some_iff.mp sr.o).1
        have ld := (List.getElem?_eq_some_iff.mp sr.d).1
        exact ⟨by rw [List.getElem?_set_ne (by omega), gk _ r1 lo]; exact sr.o, by rw [List.getElem?_set_ne (by omega), gk _ (by omega) ld]; exact sr.d⟩
      · rw [List.getElem?_append_right (by omega)] at h1
        rw [List.getElem?_append_right (by rw [← hs.1]; omega)] at h2
        have e0 : i - rs.length = 0 := by
          have := (List.getElem?_eq_some_iff.mp h1).1
          simp at this; omega
        have e1 : i - fss.length = 0 := by rw [← hs.1]; exact e0
        rw [e0] at h1
        rw [e1] at h2
        simp only [List.getElem?_cons_zero, Option.some.injEq] at h1 h2
        subst h1 h2
        exact ⟨by rw [List.getElem?_set_ne (by omega)]; exact sr3.o, List.getElem?_set_self (by omega)⟩
    · rcases List.mem_append.mp hr' with h | h
      · exact hr r' h
      · rw [List.mem_singleton.mp h]; omega
    · rcases List.mem_append.mp ht' with h | h
      · exact hok t' h
      · rw [List.mem_singleton.mp h]; exact oN
    · rcases List.mem_append.mp ht' with h | h
      · exact hb t' h b hb'
      · rw [List.mem_singleton.mp h, gN] at hb'
        split at hb'
        · cases hb'; exact my.2
        · cases hb'
  · rintro _ σ hI
    rw [hJ] at hI
    obtain ⟨fss, rs, t4, t6, t7, t8, tl', h0, hs, hr, hok, hb, rfl⟩ := hI
    rw [List.length_range] at tl'
    clear hJ J
    have fl : fss.length ≤ 100 := by omega
    obtain ⟨σ1, g1, k1⟩ := rt0 σ rs fss hs fl hok hb
    obtain ⟨σ2, g2, k2⟩ := rt1 σ1 rs fss (hs.keep k1) fl hok
    obtain ⟨V, hV⟩ : ∃ V, V = fss.filterMap vt := ⟨_, rfl⟩
    have vl : V.length ≤ 100 := by
      have := List.length_filterMap_le vt fss
      rw [hV]; omega
    rw [← hV] at h0 g1
    refine x_asgV (d := .str "refused") (S1 := σ) (by simp) ?_
    have tv : truthy (.ref 0) σ = some (!(V.map pairD).isEmpty) := by simp only [truthy, h0]
    cases hc' : V with
    | nil =>
      rw [hc'] at tv g1
      refine x_ifsF (S' := σ) (by simp [tv]) ?_
      simp only [if_true] at g1
      exact x_retP (d := .bl true) (S1 := σ2) (by simp [g1, g2, rsS]) rfl
    | cons v V' =>
      obtain ⟨m, t, q1, q2, q3⟩ := due_best (v := v) (V := V')
      rw [← hc'] at q1 q2 q3
      have hne : V ≠ [] := by rw [hc']; simp
      rw [if_neg hne] at g1
      have et : agF (talF V) = t := best_uniq (ag_best hne) q3
      rw [et] at g1
      have lV : lstOf (.ref 0) σ = some (V.map pairD) := by simp only [lstOf, h0]
      have iL : isLstR (.ref 0) σ = true := by simp only [isLstR, h0]
      have cnt : ∀ p : Int × Int, byD .count (.ref 0) [pairD p] σ = some (.int (cn V p)) := fun p => by
        show ((lstOf (.ref 0) σ).bind fun xs => cntD xs (pairD p)) = _
        rw [lV]
        show cntD (V.map pairD) (.tup [.int p.1, .int p.2]) = _
        unfold cntD
        rw [pairs_map]
        rfl
      have cm1 : ∀ env : Env, env[3]? = some (some (.ref 0)) → env.length = 11 → ev Gt call (.comp .plain (.var 3) (.one 10) .emp (.bmX .count (.var 3) (.cons (.var 10) .nil))) env σ = .ok (.lst (V.map fun p => D.int (cn V p))) σ := fun env h3 hl => by
        have h10 : 10 < env.length := by omega
        have := ev_compVg (G := Gt) (call := call) (env := env) (S := σ) (src := .var 3) (c := .emp) (e := .bmX .count (.var 3) (.cons (.var 10) .nil)) (tg := .one 10) (n := 0) (enc := pairD) (p := fun _ => true) (fun p : Int × Int => D.int (cn V p)) (xs := V) (by simp [h3]) h0 (by omega) fun p _ => by
          have h3' : (env.set 10 (some (pairD p)))[3]? = some (some (.ref 0)) := by rw [List.getElem?_set_ne (by decide)]; exact h3
          simp [compB, bindT, h3', h10, byOk, iL, cnt]
        rwa [List.filter_eq_self.mpr (by simp)] at this
      have cm2 : ∀ env : Env, env[3]? = some (some (.ref 0)) → env[9]? = some (some (.int m)) → env.length = 11 → ev Gt call (.comp .plain (.var 3) (.one 10) (.cmp .eq (.bmX .count (.var 3) (.cons (.var 10) .nil)) (.var 9)) (.var 10)) env σ = .ok (.lst ((V.filter fun p => decide ((cn V p : Int) = m)).map pairD)) σ := fun env h3 h9 hl => by
        have h10 : 10 < env.length := by omega
        refine ev_compVg (p := fun p => decide ((cn V p : Int) = m)) pairD (by simp [h3]) h0 (by omega) fun p _ => ?_
        have h3' : (env.set 10 (some (pairD p)))[3]? = some (some (.ref 0)) := by rw [List.getElem?_set_ne (by decide)]; exact h3
        have h9' : (env.set 10 (some (pairD p)))[9]? = some (some (.int m)) := by rw [List.getElem?_set_ne (by decide)]; exact h9
        by_cases hm : (cn V p : Int) = m
        · simp [compB, bindT, h3', h9', h10, byOk, iL, cnt, hm]
        · simp [compB, bindT, h3', h9', h10, byOk, iL, cnt, hm]
      have bm1 : bxD .max [.lst (V.map fun p => D.int (cn V p))] σ = some (.int m) := q1
      have bm2 : bxD .min [.lst ((V.filter fun p => decide ((cn V p : Int) = m)).map pairD)] σ = some (pairD t) := q2
      have te : (V.map pairD).isEmpty = false := by rw [hc']; rfl
      refine x_ifsW (t := true) (S' := σ) (fun e s => s = σ ∧ e = [some (.scr ns), some (.int c), some (.tup (rs.map .ref)), some (.ref 0), t4, some (pairD t), t6, t7, t8, some (.int m), none]) (by simp [tv, te]) ?_ ?_ ?_
      · intro _
        refine x_asgV (d := .int m) (S1 := σ) (by
          rw [e_bfX, e_cons, cm1 _ rfl rfl]
          simp only [R.bind_ok, e_nil, toTup_tup, bm1, R.of_some]) ?_
        refine x_asgV (d := pairD t) (S1 := σ) (by
          rw [e_bfX, e_cons, cm2 _ rfl rfl rfl]
          simp only [R.bind_ok, e_nil, toTup_tup, bm2, R.of_some]) ?_
        exact ⟨rfl, rfl⟩
      · intro h; cases h
      rintro _ s ⟨hs', rfl⟩
      rw [hs']
      exact x_retP (d := .bl true) (S1 := σ2) (by simp [g1, g2, rsP, rsS]) rfl
end PL
namespace PL
open PySem PySem.Spec PyProof.Rows L2
def topS (i : Nat) : Stmt := PySem.Challenge.pw_piecehaul_k36_whole_votes_of_sources.main.body.getD i (.Pass ⟨0, 0, 0, 0⟩)
def Yt : Sx := ⟨lookN ([(i_number_of, ("number_of" : Str)), (i_read_item, ("read_item" : Str)), (i_read_ask, ("read_ask" : Str)), (i_resolved_item, ("resolved_item" : Str)), (i_resolved, ("resolved" : Str)), (i_mark_of, ("mark_of" : Str)), (i_mark_text, ("mark_text" : Str)), (i_read_mark, ("read_mark" : Str)), (i_text_bytes, ("text_bytes" : Str)), (i_bytes_text, ("bytes_text" : Str)), (i_answer_bytes, ("answer_bytes" : Str)), (i_received, ("received" : Str)), (i_block_range, ("block_range" : Str)), (i_block_from, ("block_from" : Str)), (i_gathered, ("gathered" : Str)), (i_agreed_2, ("agreed" : Str)), (i_l_d, ("_law_d" : Str)), (i_l_cell, ("_law_cell" : Str)), (i_l_same, ("_law_same" : Str)), (i_l_bytes, ("_law_bytes" : Str)), (i_l_mark, ("_law_mark" : Str)), (i_l_told_6, ("_law_told" : Str)), (i_law_k36, ("law" : Str))] : List (Nat × Str)), lookN ([(4, ("FIGURES_asks" : Str)), (5, ("FIGURES_MOST" : Str)), (6, ("ITEMS_MOST" : Str)), (0, ("PRIME" : Str)), (1, ("BASE" : Str)), (2, ("FIGURES_marks" : Str)), (3, ("LONG" : Str)), (7, ("SIGNS" : Str)), (8, ("CODES" : Str)), (9, ("ROW_MOST" : Str))] : List (Nat × Str)), [("len" : Str), ("isinstance" : Str), ("bool" : Str), ("tuple" : Str), ("all" : Str), ("zip" : Str), ("str" : Str), ("int" : Str), ("any" : Str), ("range" : Str), ("min" : Str), ("max" : Str), ("enumerate" : Str), ("sorted" : Str)], lookN ([(0, ("Received" : Str)), (1, ("Source" : Str))] : List (Nat × Str)), fun c m => (lookN ([(0, [(0, ("row" : Str)), (1, ("read_head" : Str)), (2, ("read_part" : Str)), (3, ("read" : Str))]), (1, [(5, ("put" : Str)), (7, ("ask" : Str))])] : List (Nat × List (Nat × Str))) c).bind fun l => lookN l m, lookN ([(0, ("some" : Str)), (1, ("at" : Str)), (2, ("head" : Str)), (3, ("parts" : Str)), (4, ("stand" : Str)), (5, ("bodies" : Str)), (6, ("stops" : Str)), (7, ("name" : Str)), (8, ("disk" : Str)), (9, ("state" : Str)), (10, ("wanted" : Str)), (11, ("most" : Str)), (12, ("speeds" : Str)), (13, ("works" : Str)), (14, ("came" : Str)), (15, ("source" : Str)), (16, ("cuts" : Str)), (17, ("asked" : Str))] : List (Nat × Str)), lookN ([(0, ("BadText" : Str)), (1, ("BadRange" : Str)), (5, ("Lying" : Str))] : List (Nat × Str)), fun x => if x = (("BadText" : Str) : Str) then some [0] else if x = (("Lying" : Str) : Str) then some [5] else if x = (("BadRange" : Str) : Str) then some [1] else none⟩
def pst (i : Nat) : List Str := (lookN ([(i_number_of, [("text" : Str)]), (i_read_item, [("text" : Str)]), (i_read_ask, [("text" : Str)]), (i_resolved_item, [("item" : Str), ("size" : Str)]), (i_resolved, [("ask" : Str), ("size" : Str)]), (i_mark_of, [("some" : Str)]), (i_mark_text, [("mark" : Str)]), (i_read_mark, [("text" : Str)]), (i_text_bytes, [("text" : Str)]), (i_bytes_text, [("some" : Str)]), (i_answer_bytes, [("answer" : Str)]), (i_Received_init, [("self" : Str), ("some" : Str)]), (i_Received_row, [("self" : Str)]), (i_Received_read_head, [("self" : Str)]), (i_Received_read_part, [("self" : Str)]), (i_Received_read, [("self" : Str)]), (i_received, [("some" : Str)]), (i_block_range, [("total" : Str), ("size" : Str), ("k" : Str)]), (i_block_from, [("source" : Str), ("name" : Str), ("begin" : Str), ("end" : Str)]), (i_gathered, [("sources" : Str), ("name" : Str), ("table" : Str), ("size" : Str), ("total" : Str)]), (i_agreed_2, [("sources" : Str), ("name" : Str)]), (i_Source_init, [("self" : Str)]), (i_Source_put, [("self" : Str), ("name" : Str), ("body" : Str)]), (i_Source_ask, [("self" : Str), ("name" : Str), ("text" : Str), ("mark" : Str)]), (i_l_d, [("_law_cell_here" : Str), ("_law_place" : Str), ("_law_many" : Str)]), (i_l_cell, [("_law_script" : Str), ("_law_k" : Str)]), (i_l_same, [("_law_told_here" : Str), ("_law_due" : Str)]), (i_l_bytes, [("_law_cell_here" : Str), ("_law_many" : Str)]), (i_l_mark, [("_law_some" : Str)]), (i_l_told_6, [("_law_k" : Str), ("_law_sources" : Str)]), (i_law_k36, [("_law_script" : Str)])] : List (Nat × List Str)) i).getD []
abbrev s0 : Stmt := topS 10
def n0 : List Str := [("text" : Str), ("sign" : Str)]
theorem c0 : chkS Yt n0 (defScope s0) b_number_of (defBody s0) = true := by decide +kernel
theorem z0 : FnScope n0 (pst i_number_of) (defScope s0) := ⟨rfl, rfl, rfl, by decide +kernel, rfl, by decide +kernel, by decide +kernel⟩
abbrev s1 : Stmt := topS 11
def n1 : List Str := [("text" : Str), ("front" : Str), ("gap" : Str), ("behind" : Str), ("begin" : Str), ("end" : Str)]
theorem c1 : chkS Yt n1 (defScope s1) b_read_item (defBody s1) = true := by decide +kernel
theorem z1 : FnScope n1 (pst i_read_item) (defScope s1) := ⟨rfl, rfl, rfl, by decide +kernel, rfl, by decide +kernel, by decide +kernel⟩
abbrev s2 : Stmt := topS 12
def n2 : List Str := [("text" : Str), ("parts" : Str), ("part" : Str)]
theorem c2 : chkS Yt n2 (defScope s2) b_read_ask (defBody s2) = true := by decide +kernel
theorem z2 : FnScope n2 (pst i_read_ask) (defScope s2) := ⟨rfl, rfl, rfl, by decide +kernel, rfl, by decide +kernel, by decide +kernel⟩
abbrev s3 : Stmt := topS 13
def n3 : List Str := [("item" : Str), ("size" : Str)]
theorem c3 : chkS Yt n3 (defScope s3) b_resolved_item (defBody s3) = true := by decide +kernel
theorem z3 : FnScope n3 (pst i_resolved_item) (defScope s3) := ⟨rfl, rfl, rfl, by decide +kernel, rfl, by decide +kernel, by decide +kernel⟩
abbrev s4 : Stmt := topS 14
def n4 : List Str := [("ask" : Str), ("size" : Str), ("pairs" : Str), ("found" : Str), ("item" : Str), ("pair" : Str)]
theorem c4 : chkS Yt n4 (defScope s4) b_resolved (defBody s4) = true := by decide +kernel
theorem z4 : FnScope n4 (pst i_resolved) (defScope s4) := ⟨rfl, rfl, rfl, by decide +kernel, rfl, by decide +kernel, by decide +kernel⟩
abbrev s5 : Stmt := topS 20
def n5 : List Str := [("some" : Str), ("mark" : Str), ("one" : Str)]
theorem c5 : chkS Yt n5 (defScope s5) b_mark_of (defBody s5) = true := by decide +kernel
theorem z5 : FnScope n5 (pst i_mark_of) (defScope s5) := ⟨rfl, rfl, rfl, by decide +kernel, rfl, by decide +kernel, by decide +kernel⟩
abbrev s6 : Stmt := topS 21
def n6 : List Str := [("mark" : Str), ("text" : Str), ("left" : Str), ("k" : Str)]
theorem c6 : chkS Yt n6 (defScope s6) b_mark_text (defBody s6) = true := by decide +kernel
theorem z6 : FnScope n6 (pst i_mark_text) (defScope s6) := ⟨rfl, rfl, rfl, by decide +kernel, rfl, by decide +kernel, by decide +kernel⟩
abbrev s7 : Stmt := topS 22
def n7 : List Str := [("text" : Str), ("mark" : Str), ("sign" : Str)]
theorem c7 : chkS Yt n7 (defScope s7) b_read_mark (defBody s7) = true := by decide +kernel
theorem z7 : FnScope n7 (pst i_read_mark) (defScope s7) := ⟨rfl, rfl, rfl, by decide +kernel, rfl, by decide +kernel, by decide +kernel⟩
abbrev s8 : Stmt := topS 27
def n8 : List Str := [("text" : Str), ("sign" : Str)]
theorem c8 : chkS Yt n8 (defScope s8) b_text_bytes (defBody s8) = true := by decide +kernel
theorem z8 : FnScope n8 (pst i_text_bytes) (defScope s8) := ⟨rfl, rfl, rfl, by decide +kernel, rfl, by decide +kernel, by decide +kernel⟩
abbrev s9 : Stmt := topS 28
def n9 : List Str := [("some" : Str), ("one" : Str)]
theorem c9 : chkS Yt n9 (defScope s9) b_bytes_text (defBody s9) = true := by decide +kernel
theorem z9 : FnScope n9 (pst i_bytes_text) (defScope s9) := ⟨rfl, rfl, rfl, by decide +kernel, rfl, by decide +kernel, by decide +kernel⟩
abbrev s10 : Stmt := topS 29
def n10 : List Str := [("answer" : Str), ("code" : Str), ("mark" : Str), ("size" : Str), ("parts" : Str), ("some" : Str), ("begin" : Str), ("body" : Str)]
theorem c10 : chkS Yt n10 (defScope s10) b_answer_bytes (defBody s10) = true := by decide +kernel
theorem z10 : FnScope n10 (pst i_answer_bytes) (defScope s10) := ⟨rfl, rfl, rfl, by decide +kernel, rfl, by decide +kernel, by decide +kernel⟩
abbrev s11 : Stmt := inClass (topS 30) 0
def n11 : List Str := [("self" : Str), ("some" : Str)]
theorem c11 : chkS Yt n11 (defScope s11) b_Received_init (defBody s11) = true := by decide +kernel
theorem z11 : FnScope n11 (pst i_Received_init) (defScope s11) := ⟨rfl, rfl, rfl, by decide +kernel, rfl, by decide +kernel, by decide +kernel⟩
abbrev s12 : Stmt := inClass (topS 30) 1
def n12 : List Str := [("self" : Str), ("end" : Str), ("text" : Str)]
theorem c12 : chkS Yt n12 (defScope s12) b_Received_row (defBody s12) = true := by decide +kernel
theorem z12 : FnScope n12 (pst i_Received_row) (defScope s12) := ⟨rfl, rfl, rfl, by decide +kernel, rfl, by decide +kernel, by decide +kernel⟩
abbrev s13 : Stmt := inClass (topS 30) 2
def n13 : List Str := [("self" : Str), ("words" : Str), ("code" : Str), ("size" : Str), ("many" : Str)]
theorem c13 : chkS Yt n13 (defScope s13) b_Received_read_head (defBody s13) = true := by decide +kernel
theorem z13 : FnScope n13 (pst i_Received_read_head) (defScope s13) := ⟨rfl, rfl, rfl, by decide +kernel, rfl, by decide +kernel, by decide +kernel⟩
abbrev s14 : Stmt := inClass (topS 30) 3
def n14 : List Str := [("self" : Str), ("words" : Str), ("begin" : Str), ("size" : Str), ("body" : Str)]
theorem c14 : chkS Yt n14 (defScope s14) b_Received_read_part (defBody s14) = true := by decide +kernel
theorem z14 : FnScope n14 (pst i_Received_read_part) (defScope s14) := ⟨rfl, rfl, rfl, by decide +kernel, rfl, by decide +kernel, by decide +kernel⟩
abbrev s15 : Stmt := inClass (topS 30) 4
def n15 : List Str := [("self" : Str), ("many" : Str), ("whole" : Str)]
theorem c15 : chkS Yt n15 (defScope s15) b_Received_read (defBody s15) = true := by decide +kernel
theorem z15 : FnScope n15 (pst i_Received_read) (defScope s15) := ⟨rfl, rfl, rfl, by decide +kernel, rfl, by decide +kernel, by decide +kernel⟩
abbrev s16 : Stmt := topS 31
def n16 : List Str := [("some" : Str), ("told" : Str)]
theorem c16 : chkS Yt n16 (defScope s16) b_received (defBody s16) = true := by decide +kernel
theorem z16 : FnScope n16 (pst i_received) (defScope s16) := ⟨rfl, rfl, rfl, by decide +kernel, rfl, by decide +kernel, by decide +kernel⟩
abbrev s17 : Stmt := topS 33
def n17 : List Str := [("total" : Str), ("size" : Str), ("k" : Str)]
theorem c17 : chkS Yt n17 (defScope s17) b_block_range (defBody s17) = true := by decide +kernel
theorem z17 : FnScope n17 (pst i_block_range) (defScope s17) := ⟨rfl, rfl, rfl, by decide +kernel, rfl, by decide +kernel, by decide +kernel⟩
abbrev s18 : Stmt := topS 35
def n18 : List Str := [("source" : Str), ("name" : Str), ("begin" : Str), ("end" : Str), ("head" : Str), ("parts" : Str), ("stand" : Str)]
theorem c18 : chkS Yt n18 (defScope s18) b_block_from (defBody s18) = true := by decide +kernel
theorem z18 : FnScope n18 (pst i_block_from) (defScope s18) := ⟨rfl, rfl, rfl, by decide +kernel, rfl, by decide +kernel, by decide +kernel⟩
abbrev s19 : Stmt := topS 36
def n19 : List Str := [("sources" : Str), ("name" : Str), ("table" : Str), ("size" : Str), ("total" : Str), ("wrong" : Str), ("body" : Str), ("k" : Str), ("mark" : Str), ("begin" : Str), ("end" : Str), ("order" : Str), ("good" : Str), ("many" : Str), ("at" : Str), ("some" : Str)]
theorem c19 : chkS Yt n19 (defScope s19) b_gathered (defBody s19) = true := by decide +kernel
theorem z19 : FnScope n19 (pst i_gathered) (defScope s19) := ⟨rfl, rfl, rfl, by decide +kernel, rfl, by decide +kernel, by decide +kernel⟩
abbrev s20 : Stmt := topS 37
def n20 : List Str := [("sources" : Str), ("name" : Str), ("votes" : Str), ("source" : Str), ("head" : Str), ("parts" : Str), ("stand" : Str), ("told" : Str), ("many" : Str)]
theorem c20 : chkS Yt n20 (defScope s20) b_agreed_2 (defBody s20) = true := by decide +kernel
theorem z20 : FnScope n20 (pst i_agreed_2) (defScope s20) := ⟨rfl, rfl, rfl, by decide +kernel, rfl, by decide +kernel, by decide +kernel⟩
abbrev s21 : Stmt := inClass (topS 39) 0
def n21 : List Str := [("self" : Str)]
theorem c21 : chkS Yt n21 (defScope s21) b_Source_init (defBody s21) = true := by decide +kernel
theorem z21 : FnScope n21 (pst i_Source_init) (defScope s21) := ⟨rfl, rfl, rfl, by decide +kernel, rfl, by decide +kernel, by decide +kernel⟩
abbrev s22 : Stmt := inClass (topS 39) 1
def n22 : List Str := [("self" : Str), ("name" : Str), ("body" : Str)]
theorem c22 : chkS Yt n22 (defScope s22) b_Source_put (defBody s22) = true := by decide +kernel
theorem z22 : FnScope n22 (pst i_Source_put) (defScope s22) := ⟨rfl, rfl, rfl, by decide +kernel, rfl, by decide +kernel, by decide +kernel⟩
abbrev s23 : Stmt := inClass (topS 39) 4
def n23 : List Str := [("self" : Str), ("name" : Str), ("text" : Str), ("mark" : Str), ("body" : Str), ("own" : Str), ("size" : Str), ("pairs" : Str), ("begin" : Str), ("end" : Str)]
theorem c23 : chkS Yt n23 (defScope s23) b_Source_ask (defBody s23) = true := by decide +kernel
theorem z23 : FnScope n23 (pst i_Source_ask) (defScope s23) := ⟨rfl, rfl, rfl, by decide +kernel, rfl, by decide +kernel, by decide +kernel⟩
abbrev s24 : Stmt := topS 41
def n24 : List Str := [("_law_cell_here" : Str), ("_law_place" : Str), ("_law_many" : Str), ("_law_number" : Str)]
theorem c24 : chkS Yt n24 (defScope s24) b_l_d (defBody s24) = true := by decide +kernel
theorem z24 : FnScope n24 (pst i_l_d) (defScope s24) := ⟨rfl, rfl, rfl, by decide +kernel, rfl, by decide +kernel, by decide +kernel⟩
abbrev s25 : Stmt := topS 42
def n25 : List Str := [("_law_script" : Str), ("_law_k" : Str)]
theorem c25 : chkS Yt n25 (defScope s25) b_l_cell (defBody s25) = true := by decide +kernel
theorem z25 : FnScope n25 (pst i_l_cell) (defScope s25) := ⟨rfl, rfl, rfl, by decide +kernel, rfl, by decide +kernel, by decide +kernel⟩
abbrev s26 : Stmt := topS 43
def n26 : List Str := [("_law_told_here" : Str), ("_law_due" : Str), ("_law_one" : Str), ("_law_other" : Str)]
theorem c26 : chkS Yt n26 (defScope s26) b_l_same (defBody s26) = true := by decide +kernel
theorem z26 : FnScope n26 (pst i_l_same) (defScope s26) := ⟨rfl, rfl, rfl, by decide +kernel, rfl, by decide +kernel, by decide +kernel⟩
abbrev s27 : Stmt := topS 44
def n27 : List Str := [("_law_cell_here" : Str), ("_law_many" : Str), ("_law_found" : Str), ("_law_k" : Str), ("_law_one" : Str)]
theorem c27 : chkS Yt n27 (defScope s27) b_l_bytes (defBody s27) = true := by decide +kernel
theorem z27 : FnScope n27 (pst i_l_bytes) (defScope s27) := ⟨rfl, rfl, rfl, by decide +kernel, rfl, by decide +kernel, by decide +kernel⟩
abbrev s28 : Stmt := topS 45
def n28 : List Str := [("_law_some" : Str), ("_law_mark_here" : Str), ("_law_one" : Str)]
theorem c28 : chkS Yt n28 (defScope s28) b_l_mark (defBody s28) = true := by decide +kernel
theorem z28 : FnScope n28 (pst i_l_mark) (defScope s28) := ⟨rfl, rfl, rfl, by decide +kernel, rfl, by decide +kernel, by decide +kernel⟩
abbrev s29 : Stmt := topS 46
def n29 : List Str := [("_law_k" : Str), ("_law_sources" : Str), ("_law_found" : Str)]
theorem c29 : chkS Yt n29 (defScope s29) b_l_told_6 (defBody s29) = true := by decide +kernel
theorem z29 : FnScope n29 (pst i_l_told_6) (defScope s29) := ⟨rfl, rfl, rfl, by decide +kernel, rfl, by decide +kernel, by decide +kernel⟩
abbrev s30 : Stmt := topS 47
def n30 : List Str := [("_law_script" : Str), ("_law_cell_here" : Str), ("_law_sources" : Str), ("_law_votes" : Str), ("_law_k" : Str), ("_law_due" : Str), ("_law_more" : Str), ("_law_source" : Str), ("_law_body" : Str), ("_law_most" : Str), ("_law_one" : Str)]
theorem c30 : chkS Yt n30 (defScope s30) b_law_k36 (defBody s30) = true := by decide +kernel
theorem z30 : FnScope n30 (pst i_law_k36) (defScope s30) := ⟨rfl, rfl, rfl, by decide +kernel, rfl, by decide +kernel, by decide +kernel⟩
def fnL : List (Nat × Str) := [(0, ("some" : Str)), (1, ("at" : Str)), (2, ("head" : Str)), (3, ("parts" : Str)), (4, ("stand" : Str)), (5, ("bodies" : Str)), (6, ("stops" : Str)), (7, ("name" : Str)), (8, ("disk" : Str)), (9, ("state" : Str)), (10, ("wanted" : Str)), (11, ("most" : Str)), (12, ("speeds" : Str)), (13, ("works" : Str)), (14, ("came" : Str)), (15, ("source" : Str)), (16, ("cuts" : Str)), (17, ("asked" : Str))]
abbrev fnt : Nat → Str := fntOf fnL
theorem fnt_inj (f g : Nat) (h : fnt f = fnt g) : f = g := fnt_inj_of (by decide +kernel) (by decide +kernel) f g h
theorem fnt_ne_ask (f : Nat) : fnt f ≠ (("ask" : Str) : Str) := fnt_ne_of (by decide +kernel) (by decide +kernel) f
theorem fnt_ne_put (f : Nat) : fnt f ≠ (("put" : Str) : Str) := fnt_ne_of (by decide +kernel) (by decide +kernel) f
theorem fnt_ne_read (f : Nat) : fnt f ≠ (("read" : Str) : Str) := fnt_ne_of (by decide +kernel) (by decide +kernel) f
theorem fnt_ne_read_head (f : Nat) : fnt f ≠ (("read_head" : Str) : Str) := fnt_ne_of (by decide +kernel) (by decide +kernel) f
theorem fnt_ne_read_part (f : Nat) : fnt f ≠ (("read_part" : Str) : Str) := fnt_ne_of (by decide +kernel) (by decide +kernel) f
theorem fnt_ne_row (f : Nat) : fnt f ≠ (("row" : Str) : Str) := fnt_ne_of (by decide +kernel) (by decide +kernel) f
theorem all_mk {l : PySem.W.OpenLaw} {w : World} {K : PySem.W.Frag} {h : Heap} {mg : Str → Option Value} {fa : Addr} (X : K.In h) (Ns : h.Ns mainGlobals mg) (hfa : mg "law" = some (.ref fa))
    {C0 : Addr}
    {C1 : Addr}
    {X0 : Addr}
    {X1 : Addr}
    {X2 : Addr}
    {f0 : Addr} {od0 an0 : Option Addr} {sl0 : Array (Option Value)} {oc0 kV0 dc0 pm0 cd0 ct0 : Value}
    {f1 : Addr} {od1 an1 : Option Addr} {sl1 : Array (Option Value)} {oc1 kV1 dc1 pm1 cd1 ct1 : Value}
    {f2 : Addr} {od2 an2 : Option Addr} {sl2 : Array (Option Value)} {oc2 kV2 dc2 pm2 cd2 ct2 : Value}
    {f3 : Addr} {od3 an3 : Option Addr} {sl3 : Array (Option Value)} {oc3 kV3 dc3 pm3 cd3 ct3 : Value}
    {f4 : Addr} {od4 an4 : Option Addr} {sl4 : Array (Option Value)} {oc4 kV4 dc4 pm4 cd4 ct4 : Value}
    {f5 : Addr} {od5 an5 : Option Addr} {sl5 : Array (Option Value)} {oc5 kV5 dc5 pm5 cd5 ct5 : Value}
    {f6 : Addr} {od6 an6 : Option Addr} {sl6 : Array (Option Value)} {oc6 kV6 dc6 pm6 cd6 ct6 : Value}
    {f7 : Addr} {od7 an7 : Option Addr} {sl7 : Array (Option Value)} {oc7 kV7 dc7 pm7 cd7 ct7 : Value}
    {f8 : Addr} {od8 an8 : Option Addr} {sl8 : Array (Option Value)} {oc8 kV8 dc8 pm8 cd8 ct8 : Value}
    {f9 : Addr} {od9 an9 : Option Addr} {sl9 : Array (Option Value)} {oc9 kV9 dc9 pm9 cd9 ct9 : Value}
    {f10 : Addr} {od10 an10 : Option Addr} {sl10 : Array (Option Value)} {oc10 kV10 dc10 pm10 cd10 ct10 : Value}
    {f11 : Addr} {od11 an11 : Option Addr} {sl11 : Array (Option Value)} {oc11 kV11 dc11 pm11 cd11 ct11 : Value}
    {f12 : Addr} {od12 an12 : Option Addr} {sl12 : Array (Option Value)} {oc12 kV12 dc12 pm12 cd12 ct12 : Value}
    {f13 : Addr} {od13 an13 : Option Addr} {sl13 : Array (Option Value)} {oc13 kV13 dc13 pm13 cd13 ct13 : Value}
    {f14 : Addr} {od14 an14 : Option Addr} {sl14 : Array (Option Value)} {oc14 kV14 dc14 pm14 cd14 ct14 : Value}
    {f15 : Addr} {od15 an15 : Option Addr} {sl15 : Array (Option Value)} {oc15 kV15 dc15 pm15 cd15 ct15 : Value}
    {f16 : Addr} {od16 an16 : Option Addr} {sl16 : Array (Option Value)} {oc16 kV16 dc16 pm16 cd16 ct16 : Value}
    {f17 : Addr} {od17 an17 : Option Addr} {sl17 : Array (Option Value)} {oc17 kV17 dc17 pm17 cd17 ct17 : Value}
    {f18 : Addr} {od18 an18 : Option Addr} {sl18 : Array (Option Value)} {oc18 kV18 dc18 pm18 cd18 ct18 : Value}
    {f19 : Addr} {od19 an19 : Option Addr} {sl19 : Array (Option Value)} {oc19 kV19 dc19 pm19 cd19 ct19 : Value}
    {f20 : Addr} {od20 an20 : Option Addr} {sl20 : Array (Option Value)} {oc20 kV20 dc20 pm20 cd20 ct20 : Value}
    {f21 : Addr} {od21 an21 : Option Addr} {sl21 : Array (Option Value)} {oc21 kV21 dc21 pm21 cd21 ct21 : Value}
    {f22 : Addr} {od22 an22 : Option Addr} {sl22 : Array (Option Value)} {oc22 kV22 dc22 pm22 cd22 ct22 : Value}
    {f23 : Addr} {od23 an23 : Option Addr} {sl23 : Array (Option Value)} {oc23 kV23 dc23 pm23 cd23 ct23 : Value}
    {f24 : Addr} {od24 an24 : Option Addr} {sl24 : Array (Option Value)} {oc24 kV24 dc24 pm24 cd24 ct24 : Value}
    {f25 : Addr} {od25 an25 : Option Addr} {sl25 : Array (Option Value)} {oc25 kV25 dc25 pm25 cd25 ct25 : Value}
    {f26 : Addr} {od26 an26 : Option Addr} {sl26 : Array (Option Value)} {oc26 kV26 dc26 pm26 cd26 ct26 : Value}
    {f27 : Addr} {od27 an27 : Option Addr} {sl27 : Array (Option Value)} {oc27 kV27 dc27 pm27 cd27 ct27 : Value}
    {f28 : Addr} {od28 an28 : Option Addr} {sl28 : Array (Option Value)} {oc28 kV28 dc28 pm28 cd28 ct28 : Value}
    {f29 : Addr} {od29 an29 : Option Addr} {sl29 : Array (Option Value)} {oc29 kV29 dc29 pm29 cd29 ct29 : Value}
    {f30 : Addr} {od30 an30 : Option Addr} {sl30 : Array (Option Value)} {oc30 kV30 dc30 pm30 cd30 ct30 : Value}
    {t0 : Tok}
    {t1 : Tok}
    {t2 : Tok}
    {t3 : Tok}
    {t4 : Tok}
    {t5 : Tok}
    {t6 : Tok}
    {t7 : Tok}
    {T8 : Addr} {tc8 : Nat} {ts8 : Array (Option Value)} {t8_0 t8_1 t8_2 t8_3 t8_4 : Tok}
    {t9 : Tok}
    (ca0 : PySem.W.nsIn K mainGlobals "Received" = some (some (.ref C0))) (pg0 : PySem.W.plainGet K C0 Str.empty = true) (hd0 : PySem.W.hasDictIn K C0 = true) (po0 : PySem.W.plainOver K C0 = true) (sa0 : PySem.W.findIn K (.ref C0) "__setattr__" = some (some (.builtin "object.__setattr__"))) (mk0 : PySem.W.makesIn K C0 = true) (kc0 : PySem.W.keepIn K (.ref C0) = true)
    (na0_0 : PySem.W.findIn K (.ref C0) "some" = some none)
    (na0_1 : PySem.W.findIn K (.ref C0) "at" = some none)
    (na0_2 : PySem.W.findIn K (.ref C0) "head" = some none)
    (na0_3 : PySem.W.findIn K (.ref C0) "parts" = some none)
    (na0_4 : PySem.W.findIn K (.ref C0) "stand" = some none)
    (na0_5 : PySem.W.findIn K (.ref C0) "bodies" = some none)
    (na0_6 : PySem.W.findIn K (.ref C0) "stops" = some none)
    (na0_7 : PySem.W.findIn K (.ref C0) "name" = some none)
    (na0_8 : PySem.W.findIn K (.ref C0) "disk" = some none)
    (na0_9 : PySem.W.findIn K (.ref C0) "state" = some none)
    (na0_10 : PySem.W.findIn K (.ref C0) "wanted" = some none)
    (na0_11 : PySem.W.findIn K (.ref C0) "most" = some none)
    (na0_12 : PySem.W.findIn K (.ref C0) "speeds" = some none)
    (na0_13 : PySem.W.findIn K (.ref C0) "works" = some none)
    (na0_14 : PySem.W.findIn K (.ref C0) "came" = some none)
    (na0_15 : PySem.W.findIn K (.ref C0) "source" = some none)
    (na0_16 : PySem.W.findIn K (.ref C0) "cuts" = some none)
    (na0_17 : PySem.W.findIn K (.ref C0) "asked" = some none)
    (ca1 : PySem.W.nsIn K mainGlobals "Source" = some (some (.ref C1))) (pg1 : PySem.W.plainGet K C1 Str.empty = true) (hd1 : PySem.W.hasDictIn K C1 = true) (po1 : PySem.W.plainOver K C1 = true) (sa1 : PySem.W.findIn K (.ref C1) "__setattr__" = some (some (.builtin "object.__setattr__"))) (mk1 : PySem.W.makesIn K C1 = true) (kc1 : PySem.W.keepIn K (.ref C1) = true)
    (na1_0 : PySem.W.findIn K (.ref C1) "some" = some none)
    (na1_1 : PySem.W.findIn K (.ref C1) "at" = some none)
    (na1_2 : PySem.W.findIn K (.ref C1) "head" = some none)
    (na1_3 : PySem.W.findIn K (.ref C1) "parts" = some none)
    (na1_4 : PySem.W.findIn K (.ref C1) "stand" = some none)
    (na1_5 : PySem.W.findIn K (.ref C1) "bodies" = some none)
    (na1_6 : PySem.W.findIn K (.ref C1) "stops" = some none)
    (na1_7 : PySem.W.findIn K (.ref C1) "name" = some none)
    (na1_8 : PySem.W.findIn K (.ref C1) "disk" = some none)
    (na1_9 : PySem.W.findIn K (.ref C1) "state" = some none)
    (na1_10 : PySem.W.findIn K (.ref C1) "wanted" = some none)
    (na1_11 : PySem.W.findIn K (.ref C1) "most" = some none)
    (na1_12 : PySem.W.findIn K (.ref C1) "speeds" = some none)
    (na1_13 : PySem.W.findIn K (.ref C1) "works" = some none)
    (na1_14 : PySem.W.findIn K (.ref C1) "came" = some none)
    (na1_15 : PySem.W.findIn K (.ref C1) "source" = some none)
    (na1_16 : PySem.W.findIn K (.ref C1) "cuts" = some none)
    (na1_17 : PySem.W.findIn K (.ref C1) "asked" = some none)
    (ea0 : PySem.W.nsIn K mainGlobals "BadText" = some (some (.ref X0)))
    (et0 : PySem.W.typeIn K (.ref X0) = some (.type "type"))
    (ek0 : PySem.W.keepIn K (.ref X0) = true) (xx0 : PySem.W.excIn K X0 [.type "ValueError", .type "Exception", .type "BaseException", .type "object"] "ValueError.__new__" = true)
    (eb0 : PySem.W.subIn K (.ref X0) (.type "BaseException") = some true) (ei0 : PySem.W.isClsIn K X0 = true)
    (ea1 : PySem.W.nsIn K mainGlobals "BadRange" = some (some (.ref X1)))
    (et1 : PySem.W.typeIn K (.ref X1) = some (.type "type"))
    (ek1 : PySem.W.keepIn K (.ref X1) = true) (xx1 : PySem.W.excIn K X1 [.type "ValueError", .type "Exception", .type "BaseException", .type "object"] "ValueError.__new__" = true)
    (eb1 : PySem.W.subIn K (.ref X1) (.type "BaseException") = some true) (ei1 : PySem.W.isClsIn K X1 = true)
    (ea2 : PySem.W.nsIn K mainGlobals "Lying" = some (some (.ref X2)))
    (et2 : PySem.W.typeIn K (.ref X2) = some (.type "type"))
    (ek2 : PySem.W.keepIn K (.ref X2) = true) (xx2 : PySem.W.excIn K X2 [.type "ValueError", .type "Exception", .type "BaseException", .type "object"] "ValueError.__new__" = true)
    (eb2 : PySem.W.subIn K (.ref X2) (.type "BaseException") = some true) (ei2 : PySem.W.isClsIn K X2 = true)
    (es0_0 : PySem.W.subIn K (.ref X0) (.ref X0) = some true)
    (es1_0 : PySem.W.subIn K (.ref X1) (.ref X0) = some false)
    (es2_0 : PySem.W.subIn K (.ref X2) (.ref X0) = some false)
    (es0_2 : PySem.W.subIn K (.ref X0) (.ref X2) = some false)
    (es1_2 : PySem.W.subIn K (.ref X1) (.ref X2) = some false)
    (es2_2 : PySem.W.subIn K (.ref X2) (.ref X2) = some true)
    (es0_1 : PySem.W.subIn K (.ref X0) (.ref X1) = some false)
    (es1_1 : PySem.W.subIn K (.ref X1) (.ref X1) = some true)
    (es2_1 : PySem.W.subIn K (.ref X2) (.ref X1) = some false)
    (a0 : PySem.W.nsIn K mainGlobals "number_of" = some (some (.ref f0))) (l0 : K.lookup f0 = some ⟨oc0, od0, .func (PySem.W.fnOf "number_of" "number_of" (defArgs s0) (defBody s0) (defScope s0) .none kV0 dc0 pm0 an0 cd0 ct0), sl0⟩) (cc0 : PySem.W.codeIn K cd0 "number_of" = true) (k0 : PySem.W.keepIn K (.ref f0) = true)
    (a1 : PySem.W.nsIn K mainGlobals "read_item" = some (some (.ref f1))) (l1 : K.lookup f1 = some ⟨oc1, od1, .func (PySem.W.fnOf "read_item" "read_item" (defArgs s1) (defBody s1) (defScope s1) .none kV1 dc1 pm1 an1 cd1 ct1), sl1⟩) (cc1 : PySem.W.codeIn K cd1 "read_item" = true) (k1 : PySem.W.keepIn K (.ref f1) = true)
    (a2 : PySem.W.nsIn K mainGlobals "read_ask" = some (some (.ref f2))) (l2 : K.lookup f2 = some ⟨oc2, od2, .func (PySem.W.fnOf "read_ask" "read_ask" (defArgs s2) (defBody s2) (defScope s2) .none kV2 dc2 pm2 an2 cd2 ct2), sl2⟩) (cc2 : PySem.W.codeIn K cd2 "read_ask" = true) (k2 : PySem.W.keepIn K (.ref f2) = true)
    (a3 : PySem.W.nsIn K mainGlobals "resolved_item" = some (some (.ref f3))) (l3 : K.lookup f3 = some ⟨oc3, od3, .func (PySem.W.fnOf "resolved_item" "resolved_item" (defArgs s3) (defBody s3) (defScope s3) .none kV3 dc3 pm3 an3 cd3 ct3), sl3⟩) (cc3 : PySem.W.codeIn K cd3 "resolved_item" = true) (k3 : PySem.W.keepIn K (.ref f3) = true)
    (a4 : PySem.W.nsIn K mainGlobals "resolved" = some (some (.ref f4))) (l4 : K.lookup f4 = some ⟨oc4, od4, .func (PySem.W.fnOf "resolved" "resolved" (defArgs s4) (defBody s4) (defScope s4) .none kV4 dc4 pm4 an4 cd4 ct4), sl4⟩) (cc4 : PySem.W.codeIn K cd4 "resolved" = true) (k4 : PySem.W.keepIn K (.ref f4) = true)
    (a5 : PySem.W.nsIn K mainGlobals "mark_of" = some (some (.ref f5))) (l5 : K.lookup f5 = some ⟨oc5, od5, .func (PySem.W.fnOf "mark_of" "mark_of" (defArgs s5) (defBody s5) (defScope s5) .none kV5 dc5 pm5 an5 cd5 ct5), sl5⟩) (cc5 : PySem.W.codeIn K cd5 "mark_of" = true) (k5 : PySem.W.keepIn K (.ref f5) = true)
    (a6 : PySem.W.nsIn K mainGlobals "mark_text" = some (some (.ref f6))) (l6 : K.lookup f6 = some ⟨oc6, od6, .func (PySem.W.fnOf "mark_text" "mark_text" (defArgs s6) (defBody s6) (defScope s6) .none kV6 dc6 pm6 an6 cd6 ct6), sl6⟩) (cc6 : PySem.W.codeIn K cd6 "mark_text" = true) (k6 : PySem.W.keepIn K (.ref f6) = true)
    (a7 : PySem.W.nsIn K mainGlobals "read_mark" = some (some (.ref f7))) (l7 : K.lookup f7 = some ⟨oc7, od7, .func (PySem.W.fnOf "read_mark" "read_mark" (defArgs s7) (defBody s7) (defScope s7) .none kV7 dc7 pm7 an7 cd7 ct7), sl7⟩) (cc7 : PySem.W.codeIn K cd7 "read_mark" = true) (k7 : PySem.W.keepIn K (.ref f7) = true)
    (a8 : PySem.W.nsIn K mainGlobals "text_bytes" = some (some (.ref f8))) (l8 : K.lookup f8 = some ⟨oc8, od8, .func (PySem.W.fnOf "text_bytes" "text_bytes" (defArgs s8) (defBody s8) (defScope s8) .none kV8 dc8 pm8 an8 cd8 ct8), sl8⟩) (cc8 : PySem.W.codeIn K cd8 "text_bytes" = true) (k8 : PySem.W.keepIn K (.ref f8) = true)
    (a9 : PySem.W.nsIn K mainGlobals "bytes_text" = some (some (.ref f9))) (l9 : K.lookup f9 = some ⟨oc9, od9, .func (PySem.W.fnOf "bytes_text" "bytes_text" (defArgs s9) (defBody s9) (defScope s9) .none kV9 dc9 pm9 an9 cd9 ct9), sl9⟩) (cc9 : PySem.W.codeIn K cd9 "bytes_text" = true) (k9 : PySem.W.keepIn K (.ref f9) = true)
    (a10 : PySem.W.nsIn K mainGlobals "answer_bytes" = some (some (.ref f10))) (l10 : K.lookup f10 = some ⟨oc10, od10, .func (PySem.W.fnOf "answer_bytes" "answer_bytes" (defArgs s10) (defBody s10) (defScope s10) .none kV10 dc10 pm10 an10 cd10 ct10), sl10⟩) (cc10 : PySem.W.codeIn K cd10 "answer_bytes" = true) (k10 : PySem.W.keepIn K (.ref f10) = true)
    (a11 : PySem.W.findIn K (.ref C0) "__init__" = some (some (.ref f11))) (if11 : PySem.W.isFn K (.ref f11) = true) (l11 : K.lookup f11 = some ⟨oc11, od11, .func (PySem.W.fnOf "__init__" "Received.__init__" (defArgs s11) (defBody s11) (defScope s11) .none kV11 dc11 pm11 an11 cd11 ct11), sl11⟩) (cc11 : PySem.W.codeIn K cd11 "Received.__init__" = true) (k11 : PySem.W.keepIn K (.ref f11) = true)
    (a12 : PySem.W.findIn K (.ref C0) "row" = some (some (.ref f12))) (if12 : PySem.W.isFn K (.ref f12) = true) (l12 : K.lookup f12 = some ⟨oc12, od12, .func (PySem.W.fnOf "row" "Received.row" (defArgs s12) (defBody s12) (defScope s12) .none kV12 dc12 pm12 an12 cd12 ct12), sl12⟩) (cc12 : PySem.W.codeIn K cd12 "Received.row" = true) (k12 : PySem.W.keepIn K (.ref f12) = true)
    (a13 : PySem.W.findIn K (.ref C0) "read_head" = some (some (.ref f13))) (if13 : PySem.W.isFn K (.ref f13) = true) (l13 : K.lookup f13 = some ⟨oc13, od13, .func (PySem.W.fnOf "read_head" "Received.read_head" (defArgs s13) (defBody s13) (defScope s13) .none kV13 dc13 pm13 an13 cd13 ct13), sl13⟩) (cc13 : PySem.W.codeIn K cd13 "Received.read_head" = true) (k13 : PySem.W.keepIn K (.ref f13) = true)
    (a14 : PySem.W.findIn K (.ref C0) "read_part" = some (some (.ref f14))) (if14 : PySem.W.isFn K (.ref f14) = true) (l14 : K.lookup f14 = some ⟨oc14, od14, .func (PySem.W.fnOf "read_part" "Received.read_part" (defArgs s14) (defBody s14) (defScope s14) .none kV14 dc14 pm14 an14 cd14 ct14), sl14⟩) (cc14 : PySem.W.codeIn K cd14 "Received.read_part" = true) (k14 : PySem.W.keepIn K (.ref f14) = true)
    (a15 : PySem.W.findIn K (.ref C0) "read" = some (some (.ref f15))) (if15 : PySem.W.isFn K (.ref f15) = true) (l15 : K.lookup f15 = some ⟨oc15, od15, .func (PySem.W.fnOf "read" "Received.read" (defArgs s15) (defBody s15) (defScope s15) .none kV15 dc15 pm15 an15 cd15 ct15), sl15⟩) (cc15 : PySem.W.codeIn K cd15 "Received.read" = true) (k15 : PySem.W.keepIn K (.ref f15) = true)
    (a16 : PySem.W.nsIn K mainGlobals "received" = some (some (.ref f16))) (l16 : K.lookup f16 = some ⟨oc16, od16, .func (PySem.W.fnOf "received" "received" (defArgs s16) (defBody s16) (defScope s16) .none kV16 dc16 pm16 an16 cd16 ct16), sl16⟩) (cc16 : PySem.W.codeIn K cd16 "received" = true) (k16 : PySem.W.keepIn K (.ref f16) = true)
    (a17 : PySem.W.nsIn K mainGlobals "block_range" = some (some (.ref f17))) (l17 : K.lookup f17 = some ⟨oc17, od17, .func (PySem.W.fnOf "block_range" "block_range" (defArgs s17) (defBody s17) (defScope s17) .none kV17 dc17 pm17 an17 cd17 ct17), sl17⟩) (cc17 : PySem.W.codeIn K cd17 "block_range" = true) (k17 : PySem.W.keepIn K (.ref f17) = true)
    (a18 : PySem.W.nsIn K mainGlobals "block_from" = some (some (.ref f18))) (l18 : K.lookup f18 = some ⟨oc18, od18, .func (PySem.W.fnOf "block_from" "block_from" (defArgs s18) (defBody s18) (defScope s18) .none kV18 dc18 pm18 an18 cd18 ct18), sl18⟩) (cc18 : PySem.W.codeIn K cd18 "block_from" = true) (k18 : PySem.W.keepIn K (.ref f18) = true)
    (a19 : PySem.W.nsIn K mainGlobals "gathered" = some (some (.ref f19))) (l19 : K.lookup f19 = some ⟨oc19, od19, .func (PySem.W.fnOf "gathered" "gathered" (defArgs s19) (defBody s19) (defScope s19) .none kV19 dc19 pm19 an19 cd19 ct19), sl19⟩) (cc19 : PySem.W.codeIn K cd19 "gathered" = true) (k19 : PySem.W.keepIn K (.ref f19) = true)
    (a20 : PySem.W.nsIn K mainGlobals "agreed" = some (some (.ref f20))) (l20 : K.lookup f20 = some ⟨oc20, od20, .func (PySem.W.fnOf "agreed" "agreed" (defArgs s20) (defBody s20) (defScope s20) .none kV20 dc20 pm20 an20 cd20 ct20), sl20⟩) (cc20 : PySem.W.codeIn K cd20 "agreed" = true) (k20 : PySem.W.keepIn K (.ref f20) = true)
    (a21 : PySem.W.findIn K (.ref C1) "__init__" = some (some (.ref f21))) (if21 : PySem.W.isFn K (.ref f21) = true) (l21 : K.lookup f21 = some ⟨oc21, od21, .func (PySem.W.fnOf "__init__" "Source.__init__" (defArgs s21) (defBody s21) (defScope s21) .none kV21 dc21 pm21 an21 cd21 ct21), sl21⟩) (cc21 : PySem.W.codeIn K cd21 "Source.__init__" = true) (k21 : PySem.W.keepIn K (.ref f21) = true)
    (a22 : PySem.W.findIn K (.ref C1) "put" = some (some (.ref f22))) (if22 : PySem.W.isFn K (.ref f22) = true) (l22 : K.lookup f22 = some ⟨oc22, od22, .func (PySem.W.fnOf "put" "Source.put" (defArgs s22) (defBody s22) (defScope s22) .none kV22 dc22 pm22 an22 cd22 ct22), sl22⟩) (cc22 : PySem.W.codeIn K cd22 "Source.put" = true) (k22 : PySem.W.keepIn K (.ref f22) = true)
    (a23 : PySem.W.findIn K (.ref C1) "ask" = some (some (.ref f23))) (if23 : PySem.W.isFn K (.ref f23) = true) (l23 : K.lookup f23 = some ⟨oc23, od23, .func (PySem.W.fnOf "ask" "Source.ask" (defArgs s23) (defBody s23) (defScope s23) .none kV23 dc23 pm23 an23 cd23 ct23), sl23⟩) (cc23 : PySem.W.codeIn K cd23 "Source.ask" = true) (k23 : PySem.W.keepIn K (.ref f23) = true)
    (a24 : PySem.W.nsIn K mainGlobals "_law_d" = some (some (.ref f24))) (l24 : K.lookup f24 = some ⟨oc24, od24, .func (PySem.W.fnOf "_law_d" "_law_d" (defArgs s24) (defBody s24) (defScope s24) .none kV24 dc24 pm24 an24 cd24 ct24), sl24⟩) (cc24 : PySem.W.codeIn K cd24 "_law_d" = true) (k24 : PySem.W.keepIn K (.ref f24) = true)
    (a25 : PySem.W.nsIn K mainGlobals "_law_cell" = some (some (.ref f25))) (l25 : K.lookup f25 = some ⟨oc25, od25, .func (PySem.W.fnOf "_law_cell" "_law_cell" (defArgs s25) (defBody s25) (defScope s25) .none kV25 dc25 pm25 an25 cd25 ct25), sl25⟩) (cc25 : PySem.W.codeIn K cd25 "_law_cell" = true) (k25 : PySem.W.keepIn K (.ref f25) = true)
    (a26 : PySem.W.nsIn K mainGlobals "_law_same" = some (some (.ref f26))) (l26 : K.lookup f26 = some ⟨oc26, od26, .func (PySem.W.fnOf "_law_same" "_law_same" (defArgs s26) (defBody s26) (defScope s26) .none kV26 dc26 pm26 an26 cd26 ct26), sl26⟩) (cc26 : PySem.W.codeIn K cd26 "_law_same" = true) (k26 : PySem.W.keepIn K (.ref f26) = true)
    (a27 : PySem.W.nsIn K mainGlobals "_law_bytes" = some (some (.ref f27))) (l27 : K.lookup f27 = some ⟨oc27, od27, .func (PySem.W.fnOf "_law_bytes" "_law_bytes" (defArgs s27) (defBody s27) (defScope s27) .none kV27 dc27 pm27 an27 cd27 ct27), sl27⟩) (cc27 : PySem.W.codeIn K cd27 "_law_bytes" = true) (k27 : PySem.W.keepIn K (.ref f27) = true)
    (a28 : PySem.W.nsIn K mainGlobals "_law_mark" = some (some (.ref f28))) (l28 : K.lookup f28 = some ⟨oc28, od28, .func (PySem.W.fnOf "_law_mark" "_law_mark" (defArgs s28) (defBody s28) (defScope s28) .none kV28 dc28 pm28 an28 cd28 ct28), sl28⟩) (cc28 : PySem.W.codeIn K cd28 "_law_mark" = true) (k28 : PySem.W.keepIn K (.ref f28) = true)
    (a29 : PySem.W.nsIn K mainGlobals "_law_told" = some (some (.ref f29))) (l29 : K.lookup f29 = some ⟨oc29, od29, .func (PySem.W.fnOf "_law_told" "_law_told" (defArgs s29) (defBody s29) (defScope s29) .none kV29 dc29 pm29 an29 cd29 ct29), sl29⟩) (cc29 : PySem.W.codeIn K cd29 "_law_told" = true) (k29 : PySem.W.keepIn K (.ref f29) = true)
    (a30 : PySem.W.nsIn K mainGlobals "law" = some (some (.ref f30))) (l30 : K.lookup f30 = some ⟨oc30, od30, .func (PySem.W.fnOf "law" "law" (defArgs s30) (defBody s30) (defScope s30) .none kV30 dc30 pm30 an30 cd30 ct30), sl30⟩) (cc30 : PySem.W.codeIn K cd30 "law" = true) (k30 : PySem.W.keepIn K (.ref f30) = true)
    (p0 : PySem.W.nsIn K mainGlobals "FIGURES_asks" = some (some (.str "0123456789" t0)))
    (p1 : PySem.W.nsIn K mainGlobals "FIGURES_MOST" = some (some (.int 9 t1)))
    (p2 : PySem.W.nsIn K mainGlobals "ITEMS_MOST" = some (some (.int 8 t2)))
    (p3 : PySem.W.nsIn K mainGlobals "PRIME" = some (some (.int 2147483647 t3)))
    (p4 : PySem.W.nsIn K mainGlobals "BASE" = some (some (.int 257 t4)))
    (p5 : PySem.W.nsIn K mainGlobals "FIGURES_marks" = some (some (.str "0123456789abcdef" t5)))
    (p6 : PySem.W.nsIn K mainGlobals "LONG" = some (some (.int 8 t6)))
    (p7 : PySem.W.nsIn K mainGlobals "SIGNS" = some (some (.str "0123456789abcdefghijklmnopqrstuvwxyz -,\n" t7)))
    (p8 : PySem.W.nsIn K mainGlobals "CODES" = some (some (.ref T8))) (pt8 : K.lookup T8 = some ⟨.type "tuple", none, .seq #[.int 200 t8_0, .int 206 t8_1, .int 404 t8_2, .int 412 t8_3, .int 416 t8_4] tc8, ts8⟩)
    (p9 : PySem.W.nsIn K mainGlobals "ROW_MOST" = some (some (.int 40 t9)))
    (y0 : PySem.W.nsIn K mainGlobals "len" = some none)
    (y1 : PySem.W.nsIn K mainGlobals "isinstance" = some none)
    (y2 : PySem.W.nsIn K mainGlobals "bool" = some none)
    (y3 : PySem.W.nsIn K mainGlobals "tuple" = some none)
    (y4 : PySem.W.nsIn K mainGlobals "all" = some none)
    (y5 : PySem.W.nsIn K mainGlobals "zip" = some none)
    (y6 : PySem.W.nsIn K mainGlobals "str" = some none)
    (y7 : PySem.W.nsIn K mainGlobals "int" = some none)
    (y8 : PySem.W.nsIn K mainGlobals "any" = some none)
    (y9 : PySem.W.nsIn K mainGlobals "range" = some none)
    (y10 : PySem.W.nsIn K mainGlobals "min" = some none)
    (y11 : PySem.W.nsIn K mainGlobals "max" = some none)
    (y12 : PySem.W.nsIn K mainGlobals "enumerate" = some none)
    (y13 : PySem.W.nsIn K mainGlobals "sorted" = some none)
    (hl : ∀ ns : List Int, ns.length ≤ 63 → run Gt KK LI [.scr ns] [] = .ok (.bl true) []) :
    ∃ fd : FuncData, (∀ (s : Shared) (v : Value), BindsTo s fd ⟨[v], []⟩ [("_law_script", v)]) ∧ ∀ base : Heap, K.In base → base.Ns mainGlobals mg → FnOk l.prog w K mg base (L2.CX l.prog w) (2 * KK) fa fd ["_law_script"] (spL K) := by
  have efa : fa = f30 := by
    injection hfa.symm.trans (PySem.W.mg_of X Ns a30) with e
    injection e
  rw [efa]
  have F0 := fun_mk (st := s0) l0 cc0 k0
  have F1 := fun_mk (st := s1) l1 cc1 k1
  have F2 := fun_mk (st := s2) l2 cc2 k2
  have F3 := fun_mk (st := s3) l3 cc3 k3
  have F4 := fun_mk (st := s4) l4 cc4 k4
  have F5 := fun_mk (st := s5) l5 cc5 k5
  have F6 := fun_mk (st := s6) l6 cc6 k6
  have F7 := fun_mk (st := s7) l7 cc7 k7
  have F8 := fun_mk (st := s8) l8 cc8 k8
  have F9 := fun_mk (st := s9) l9 cc9 k9
  have F10 := fun_mk (st := s10) l10 cc10 k10
  have F11 := fun_mk (st := s11) l11 cc11 k11
  have F12 := fun_mk (st := s12) l12 cc12 k12
  have F13 := fun_mk (st := s13) l13 cc13 k13
  have F14 := fun_mk (st := s14) l14 cc14 k14
  have F15 := fun_mk (st := s15) l15 cc15 k15
  have F16 := fun_mk (st := s16) l16 cc16 k16
  have F17 := fun_mk (st := s17) l17 cc17 k17
  have F18 := fun_mk (st := s18) l18 cc18 k18
  have F19 := fun_mk (st := s19) l19 cc19 k19
  have F20 := fun_mk (st := s20) l20 cc20 k20
  have F21 := fun_mk (st := s21) l21 cc21 k21
  have F22 := fun_mk (st := s22) l22 cc22 k22
  have F23 := fun_mk (st := s23) l23 cc23 k23
  have F24 := fun_mk (st := s24) l24 cc24 k24
  have F25 := fun_mk (st := s25) l25 cc25 k25
  have F26 := fun_mk (st := s26) l26 cc26 k26
  have F27 := fun_mk (st := s27) l27 cc27 k27
  have F28 := fun_mk (st := s28) l28 cc28 k28
  have F29 := fun_mk (st := s29) l29 cc29 k29
  have F30 := fun_mk (st := s30) l30 cc30 k30
  have cls0 : Cls K C0 := ⟨pg0, hd0, po0, sa0⟩
  have cls1 : Cls K C1 := ⟨pg1, hd1, po1, sa1⟩
  let fas : Nat → Addr := fun i => (lookN ([(i_number_of, f0), (i_read_item, f1), (i_read_ask, f2), (i_resolved_item, f3), (i_resolved, f4), (i_mark_of, f5), (i_mark_text, f6), (i_read_mark, f7), (i_text_bytes, f8), (i_bytes_text, f9), (i_answer_bytes, f10), (i_Received_init, f11), (i_Received_row, f12), (i_Received_read_head, f13), (i_Received_read_part, f14), (i_Received_read, f15), (i_received, f16), (i_block_range, f17), (i_block_from, f18), (i_gathered, f19), (i_agreed_2, f20), (i_Source_init, f21), (i_Source_put, f22), (i_Source_ask, f23), (i_l_d, f24), (i_l_cell, f25), (i_l_same, f26), (i_l_bytes, f27), (i_l_mark, f28), (i_l_told_6, f29), (i_law_k36, f30)] : List (Nat × Addr)) i).getD 0
  let fds : Nat → FuncData := fun i => (lookN ([(i_number_of, PySem.W.fnOf "number_of" "number_of" (defArgs s0) (defBody s0) (defScope s0) .none kV0 dc0 pm0 an0 cd0 ct0), (i_read_item, PySem.W.fnOf "read_item" "read_item" (defArgs s1) (defBody s1) (defScope s1) .none kV1 dc1 pm1 an1 cd1 ct1), (i_read_ask, PySem.W.fnOf "read_ask" "read_ask" (defArgs s2) (defBody s2) (defScope s2) .none kV2 dc2 pm2 an2 cd2 ct2), (i_resolved_item, PySem.W.fnOf "resolved_item" "resolved_item" (defArgs s3) (defBody s3) (defScope s3) .none kV3 dc3 pm3 an3 cd3 ct3), (i_resolved, PySem.W.fnOf "resolved" "resolved" (defArgs s4) (defBody s4) (defScope s4) .none kV4 dc4 pm4 an4 cd4 ct4), (i_mark_of, PySem.W.fnOf "mark_of" "mark_of" (defArgs s5) (defBody s5) (defScope s5) .none kV5 dc5 pm5 an5 cd5 ct5), (i_mark_text, PySem.W.fnOf "mark_text" "mark_text" (defArgs s6) (defBody s6) (defScope s6) .none kV6 dc6 pm6 an6 cd6 ct6), (i_read_mark, PySem.W.fnOf "read_mark" "read_mark" (defArgs s7) (defBody s7) (defScope s7) .none kV7 dc7 pm7 an7 cd7 ct7), (i_text_bytes, PySem.W.fnOf "text_bytes" "text_bytes" (defArgs s8) (defBody s8) (defScope s8) .none kV8 dc8 pm8 an8 cd8 ct8), (i_bytes_text, PySem.W.fnOf "bytes_text" "bytes_text" (defArgs s9) (defBody s9) (defScope s9) .none kV9 dc9 pm9 an9 cd9 ct9), (i_answer_bytes, PySem.W.fnOf "answer_bytes" "answer_bytes" (defArgs s10) (defBody s10) (defScope s10) .none kV10 dc10 pm10 an10 cd10 ct10), (i_Received_init, PySem.W.fnOf "__init__" "Received.__init__" (defArgs s11) (defBody s11) (defScope s11) .none kV11 dc11 pm11 an11 cd11 ct11), (i_Received_row, PySem.W.fnOf "row" "Received.row" (defArgs s12) (defBody s12) (defScope s12) .none kV12 dc12 pm12 an12 cd12 ct12), (i_Received_read_head, PySem.W.fnOf "read_head" "Received.read_head" (defArgs s13) (defBody s13) (defScope s13) .none kV13 dc13 pm13 an13 cd13 ct13), (i_Received_read_part, PySem.W.fnOf "read_part" "Received.read_part" (defArgs s14) (defBody s14) (defScope s14) .none kV14 dc14 pm14 an14 cd14 ct14), (i_Received_read, PySem.W.fnOf "read" "Received.read" (defArgs s15) (defBody s15) (defScope s15) .none kV15 dc15 pm15 an15 cd15 ct15), (i_received, PySem.W.fnOf "received" "received" (defArgs s16) (defBody s16) (defScope s16) .none kV16 dc16 pm16 an16 cd16 ct16), (i_block_range, PySem.W.fnOf "block_range" "block_range" (defArgs s17) (defBody s17) (defScope s17) .none kV17 dc17 pm17 an17 cd17 ct17), (i_block_from, PySem.W.fnOf "block_from" "block_from" (defArgs s18) (defBody s18) (defScope s18) .none kV18 dc18 pm18 an18 cd18 ct18), (i_gathered, PySem.W.fnOf "gathered" "gathered" (defArgs s19) (defBody s19) (defScope s19) .none kV19 dc19 pm19 an19 cd19 ct19), (i_agreed_2, PySem.W.fnOf "agreed" "agreed" (defArgs s20) (defBody s20) (defScope s20) .none kV20 dc20 pm20 an20 cd20 ct20), (i_Source_init, PySem.W.fnOf "__init__" "Source.__init__" (defArgs s21) (defBody s21) (defScope s21) .none kV21 dc21 pm21 an21 cd21 ct21), (i_Source_put, PySem.W.fnOf "put" "Source.put" (defArgs s22) (defBody s22) (defScope s22) .none kV22 dc22 pm22 an22 cd22 ct22), (i_Source_ask, PySem.W.fnOf "ask" "Source.ask" (defArgs s23) (defBody s23) (defScope s23) .none kV23 dc23 pm23 an23 cd23 ct23), (i_l_d, PySem.W.fnOf "_law_d" "_law_d" (defArgs s24) (defBody s24) (defScope s24) .none kV24 dc24 pm24 an24 cd24 ct24), (i_l_cell, PySem.W.fnOf "_law_cell" "_law_cell" (defArgs s25) (defBody s25) (defScope s25) .none kV25 dc25 pm25 an25 cd25 ct25), (i_l_same, PySem.W.fnOf "_law_same" "_law_same" (defArgs s26) (defBody s26) (defScope s26) .none kV26 dc26 pm26 an26 cd26 ct26), (i_l_bytes, PySem.W.fnOf "_law_bytes" "_law_bytes" (defArgs s27) (defBody s27) (defScope s27) .none kV27 dc27 pm27 an27 cd27 ct27), (i_l_mark, PySem.W.fnOf "_law_mark" "_law_mark" (defArgs s28) (defBody s28) (defScope s28) .none kV28 dc28 pm28 an28 cd28 ct28), (i_l_told_6, PySem.W.fnOf "_law_told" "_law_told" (defArgs s29) (defBody s29) (defScope s29) .none kV29 dc29 pm29 an29 cd29 ct29), (i_law_k36, PySem.W.fnOf "law" "law" (defArgs s30) (defBody s30) (defScope s30) .none kV30 dc30 pm30 an30 cd30 ct30)] : List (Nat × FuncData)) i).getD (PySem.W.fnOf "number_of" "number_of" (defArgs s0) (defBody s0) (defScope s0) .none kV0 dc0 pm0 an0 cd0 ct0)
  let nmt : Nm := ⟨fun i => (lookN ([(0, C0), (1, C1)] : List (Nat × Addr)) i).getD 0, fnt, fun i => (lookN ([(0, X0), (1, X1), (5, X2)] : List (Nat × Addr)) i).getD 0⟩
  have g : GOk K mg Gt Yt nmt fas fds pst := by
    refine ⟨fun j x h => ?_, fun j x h => ?_, fun j h => ?_, fun x h => ?_, fun c x h => ?_, fun x cs h => ?_, fun c x h => ?_, fun c m n h => ?_, fun c x h => ?_, fnt_inj⟩
    · have h := lookN_mem h
      simp only [List.mem_cons, List.not_mem_nil, or_false, Prod.mk.injEq] at h
      rcases h with ⟨rfl, rfl⟩ | ⟨rfl, rfl⟩ | ⟨rfl, rfl⟩ | ⟨rfl, rfl⟩ | ⟨rfl, rfl⟩ | ⟨rfl, rfl⟩ | ⟨rfl, rfl⟩ | ⟨rfl, rfl⟩ | ⟨rfl, rfl⟩ | ⟨rfl, rfl⟩
      · exact ⟨_, _, V.str "0123456789", rfl, PySem.W.mg_of X Ns p0, ⟨_, rfl⟩, rep_str K _⟩
      · exact ⟨_, _, V.int 9, rfl, PySem.W.mg_of X Ns p1, ⟨_, rfl⟩, rep_int K _⟩
      · exact ⟨_, _, V.int 8, rfl, PySem.W.mg_of X Ns p2, ⟨_, rfl⟩, rep_int K _⟩
      · exact ⟨_, _, V.int 2147483647, rfl, PySem.W.mg_of X Ns p3, ⟨_, rfl⟩, rep_int K _⟩
      · exact ⟨_, _, V.int 257, rfl, PySem.W.mg_of X Ns p4, ⟨_, rfl⟩, rep_int K _⟩
      · exact ⟨_, _, V.str "0123456789abcdef", rfl, PySem.W.mg_of X Ns p5, ⟨_, rfl⟩, rep_str K _⟩
      · exact ⟨_, _, V.int 8, rfl, PySem.W.mg_of X Ns p6, ⟨_, rfl⟩, rep_int K _⟩
      · exact ⟨_, _, V.str "0123456789abcdefghijklmnopqrstuvwxyz -,\n", rfl, PySem.W.mg_of X Ns p7, ⟨_, rfl⟩, rep_str K _⟩
      · exact ⟨_, _, V.ref T8, rfl, PySem.W.mg_of X Ns p8, rfl, rep_tupK (xs := [200, 206, 404, 412, 416]) pt8 (.cons ⟨_, rfl⟩ (.cons ⟨_, rfl⟩ (.cons ⟨_, rfl⟩ (.cons ⟨_, rfl⟩ (.cons ⟨_, rfl⟩ (.nil)))))) (by have h : (5 : Nat) ≤ 16777216 := (by decide); exact h)⟩
      · exact ⟨_, _, V.int 40, rfl, PySem.W.mg_of X Ns p9, ⟨_, rfl⟩, rep_int K _⟩
    · have h := lookN_mem h
      simp only [List.mem_cons, List.not_mem_nil, or_false, Prod.mk.injEq] at h
      rcases h with ⟨rfl, rfl⟩ | ⟨rfl, rfl⟩ | ⟨rfl, rfl⟩ | ⟨rfl, rfl⟩ | ⟨rfl, rfl⟩ | ⟨rfl, rfl⟩ | ⟨rfl, rfl⟩ | ⟨rfl, rfl⟩ | ⟨rfl, rfl⟩ | ⟨rfl, rfl⟩ | ⟨rfl, rfl⟩ | ⟨rfl, rfl⟩ | ⟨rfl, rfl⟩ | ⟨rfl, rfl⟩ | ⟨rfl, rfl⟩ | ⟨rfl, rfl⟩ | ⟨rfl, rfl⟩ | ⟨rfl, rfl⟩ | ⟨rfl, rfl⟩ | ⟨rfl, rfl⟩ | ⟨rfl, rfl⟩ | ⟨rfl, rfl⟩ | ⟨rfl, rfl⟩
      · exact ⟨rfl, PySem.W.mg_of X Ns a0, k0⟩
      · exact ⟨rfl, PySem.W.mg_of X Ns a1, k1⟩
      · exact ⟨rfl, PySem.W.mg_of X Ns a2, k2⟩
      · exact ⟨rfl, PySem.W.mg_of X Ns a3, k3⟩
      · exact ⟨rfl, PySem.W.mg_of X Ns a4, k4⟩
      · exact ⟨rfl, PySem.W.mg_of X Ns a5, k5⟩
      · exact ⟨rfl, PySem.W.mg_of X Ns a6, k6⟩
      · exact ⟨rfl, PySem.W.mg_of X Ns a7, k7⟩
      · exact ⟨rfl, PySem.W.mg_of X Ns a8, k8⟩
      · exact ⟨rfl, PySem.W.mg_of X Ns a9, k9⟩
      · exact ⟨rfl, PySem.W.mg_of X Ns a10, k10⟩
      · exact ⟨rfl, PySem.W.mg_of X Ns a16, k16⟩
      · exact ⟨rfl, PySem.W.mg_of X Ns a17, k17⟩
      · exact ⟨rfl, PySem.W.mg_of X Ns a18, k18⟩
      · exact ⟨rfl, PySem.W.mg_of X Ns a19, k19⟩
      · exact ⟨rfl, PySem.W.mg_of X Ns a20, k20⟩
      · exact ⟨rfl, PySem.W.mg_of X Ns a24, k24⟩
      · exact ⟨rfl, PySem.W.mg_of X Ns a25, k25⟩
      · exact ⟨rfl, PySem.W.mg_of X Ns a26, k26⟩
      · exact ⟨rfl, PySem.W.mg_of X Ns a27, k27⟩
      · exact ⟨rfl, PySem.W.mg_of X Ns a28, k28⟩
      · exact ⟨rfl, PySem.W.mg_of X Ns a29, k29⟩
      · exact ⟨rfl, PySem.W.mg_of X Ns a30, k30⟩
    · obtain ⟨F, h⟩ := Option.isSome_iff_exists.mp h
      have h := lookN_mem h
      simp only [List.mem_cons, List.not_mem_nil, or_false, Prod.mk.injEq] at h
      rcases h with ⟨rfl, rfl⟩ | ⟨rfl, rfl⟩ | ⟨rfl, rfl⟩ | ⟨rfl, rfl⟩ | ⟨rfl, rfl⟩ | ⟨rfl, rfl⟩ | ⟨rfl, rfl⟩ | ⟨rfl, rfl⟩ | ⟨rfl, rfl⟩ | ⟨rfl, rfl⟩ | ⟨rfl, rfl⟩ | ⟨rfl, rfl⟩ | ⟨rfl, rfl⟩ | ⟨rfl, rfl⟩ | ⟨rfl, rfl⟩ | ⟨rfl, rfl⟩ | ⟨rfl, rfl⟩ | ⟨rfl, rfl⟩ | ⟨rfl, rfl⟩ | ⟨rfl, rfl⟩ | ⟨rfl, rfl⟩ | ⟨rfl, rfl⟩ | ⟨rfl, rfl⟩ | ⟨rfl, rfl⟩ | ⟨rfl, rfl⟩ | ⟨rfl, rfl⟩ | ⟨rfl, rfl⟩ | ⟨rfl, rfl⟩ | ⟨rfl, rfl⟩ | ⟨rfl, rfl⟩ | ⟨rfl, rfl⟩
      · exact F0.binds (ps := pst i_number_of) fun _ _ _ _ _ _ us hl => match us, hl with | [_], _ => rfl
      · exact F1.binds (ps := pst i_read_item) fun _ _ _ _ _ _ us hl => match us, hl with | [_], _ => rfl
      · exact F2.binds (ps := pst i_read_ask) fun _ _ _ _ _ _ us hl => match us, hl with | [_], _ => rfl
      · exact F3.binds (ps := pst i_resolved_item) fun _ _ _ _ _ _ us hl => match us, hl with | [_, _], _ => rfl
      · exact F4.binds (ps := pst i_resolved) fun _ _ _ _ _ _ us hl => match us, hl with | [_, _], _ => rfl
      · exact F5.binds (ps := pst i_mark_of) fun _ _ _ _ _ _ us hl => match us, hl with | [_], _ => rfl
      · exact F6.binds (ps := pst i_mark_text) fun _ _ _ _ _ _ us hl => match us, hl with | [_], _ => rfl
      · exact F7.binds (ps := pst i_read_mark) fun _ _ _ _ _ _ us hl => match us, hl with | [_], _ => rfl
      · exact F8.binds (ps := pst i_text_bytes) fun _ _ _ _ _ _ us hl => match us, hl with | [_], _ => rfl
      · exact F9.binds (ps := pst i_bytes_text) fun _ _ _ _ _ _ us hl => match us, hl with | [_], _ => rfl
      · exact F10.binds (ps := pst i_answer_bytes) fun _ _ _ _ _ _ us hl => match us, hl with | [_], _ => rfl
      · exact F11.binds (ps := pst i_Received_init) fun _ _ _ _ _ _ us hl => match us, hl with | [_, _], _ => rfl
      · exact F12.binds (ps := pst i_Received_row) fun _ _ _ _ _ _ us hl => match us, hl with | [_], _ => rfl
      · exact F13.binds (ps := pst i_Received_read_head) fun _ _ _ _ _ _ us hl => match us, hl with | [_], _ => rfl
      · exact F14.binds (ps := pst i_Received_read_part) fun _ _ _ _ _ _ us hl => match us, hl with | [_], _ => rfl
      · exact F15.binds (ps := pst i_Received_read) fun _ _ _ _ _ _ us hl => match us, hl with | [_], _ => rfl
      · exact F16.binds (ps := pst i_received) fun _ _ _ _ _ _ us hl => match us, hl with | [_], _ => rfl
      · exact F17.binds (ps := pst i_block_range) fun _ _ _ _ _ _ us hl => match us, hl with | [_, _, _], _ => rfl
      · exact F18.binds (ps := pst i_block_from) fun _ _ _ _ _ _ us hl => match us, hl with | [_, _, _, _], _ => rfl
      · exact F19.binds (ps := pst i_gathered) fun _ _ _ _ _ _ us hl => match us, hl with | [_, _, _, _, _], _ => rfl
      · exact F20.binds (ps := pst i_agreed_2) fun _ _ _ _ _ _ us hl => match us, hl with | [_, _], _ => rfl
      · exact F21.binds (ps := pst i_Source_init) fun _ _ _ _ _ _ us hl => match us, hl with | [_], _ => rfl
      · exact F22.binds (ps := pst i_Source_put) fun _ _ _ _ _ _ us hl => match us, hl with | [_, _, _], _ => rfl
      · exact F23.binds (ps := pst i_Source_ask) fun _ _ _ _ _ _ us hl => match us, hl with | [_, _, _, _], _ => rfl
      · exact F24.binds (ps := pst i_l_d) fun _ _ _ _ _ _ us hl => match us, hl with | [_, _, _], _ => rfl
      · exact F25.binds (ps := pst i_l_cell) fun _ _ _ _ _ _ us hl => match us, hl with | [_, _], _ => rfl
      · exact F26.binds (ps := pst i_l_same) fun _ _ _ _ _ _ us hl => match us, hl with | [_, _], _ => rfl
      · exact F27.binds (ps := pst i_l_bytes) fun _ _ _ _ _ _ us hl => match us, hl with | [_, _], _ => rfl
      · exact F28.binds (ps := pst i_l_mark) fun _ _ _ _ _ _ us hl => match us, hl with | [_], _ => rfl
      · exact F29.binds (ps := pst i_l_told_6) fun _ _ _ _ _ _ us hl => match us, hl with | [_, _], _ => rfl
      · exact F30.binds (ps := pst i_law_k36) fun _ _ _ _ _ _ us hl => match us, hl with | [_], _ => rfl
    · simp only [Yt, List.mem_cons, List.not_mem_nil, or_false] at h
      rcases h with rfl | rfl | rfl | rfl | rfl | rfl | rfl | rfl | rfl | rfl | rfl | rfl | rfl | rfl
      · exact PySem.W.mg_none_of X Ns y0
      · exact PySem.W.mg_none_of X Ns y1
      · exact PySem.W.mg_none_of X Ns y2
      · exact PySem.W.mg_none_of X Ns y3
      · exact PySem.W.mg_none_of X Ns y4
      · exact PySem.W.mg_none_of X Ns y5
      · exact PySem.W.mg_none_of X Ns y6
      · exact PySem.W.mg_none_of X Ns y7
      · exact PySem.W.mg_none_of X Ns y8
      · exact PySem.W.mg_none_of X Ns y9
      · exact PySem.W.mg_none_of X Ns y10
      · exact PySem.W.mg_none_of X Ns y11
      · exact PySem.W.mg_none_of X Ns y12
      · exact PySem.W.mg_none_of X Ns y13
    · have h := lookN_mem h
      simp only [List.mem_cons, List.not_mem_nil, or_false, Prod.mk.injEq] at h
      rcases h with ⟨rfl, rfl⟩ | ⟨rfl, rfl⟩ | ⟨rfl, rfl⟩
      · exact ⟨PySem.W.mg_of X Ns ea0, ek0, xx0, eb0, et0⟩
      · exact ⟨PySem.W.mg_of X Ns ea1, ek1, xx1, eb1, et1⟩
      · exact ⟨PySem.W.mg_of X Ns ea2, ek2, xx2, eb2, et2⟩
    · simp only [Yt] at h
      repeat' split at h
      · subst_vars; cases h
        refine ⟨X0, PySem.W.mg_of X Ns ea0, fun c hc => ?_⟩
        simp only [Gt, List.mem_cons, List.not_mem_nil, or_false] at hc
        rcases hc with rfl | rfl | rfl
        · exact exm_by eb0 ei0 et0 es0_0 rfl
        · exact exm_by eb0 ei0 et0 es1_0 rfl
        · exact exm_by eb0 ei0 et0 es2_0 rfl
      · subst_vars; cases h
        refine ⟨X2, PySem.W.mg_of X Ns ea2, fun c hc => ?_⟩
        simp only [Gt, List.mem_cons, List.not_mem_nil, or_false] at hc
        rcases hc with rfl | rfl | rfl
        · exact exm_by eb2 ei2 et2 es0_2 rfl
        · exact exm_by eb2 ei2 et2 es1_2 rfl
        · exact exm_by eb2 ei2 et2 es2_2 rfl
      · subst_vars; cases h
        refine ⟨X1, PySem.W.mg_of X Ns ea1, fun c hc => ?_⟩
        simp only [Gt, List.mem_cons, List.not_mem_nil, or_false] at hc
        rcases hc with rfl | rfl | rfl
        · exact exm_by eb1 ei1 et1 es0_1 rfl
        · exact exm_by eb1 ei1 et1 es1_1 rfl
        · exact exm_by eb1 ei1 et1 es2_1 rfl
      · cases h
    · have h := lookN_mem h
      simp only [List.mem_cons, List.not_mem_nil, or_false, Prod.mk.injEq] at h
      rcases h with ⟨rfl, rfl⟩ | ⟨rfl, rfl⟩
      · refine ⟨cls0, PySem.W.mg_of X Ns ca0, fun f n hf => ?_⟩
        have hf := lookN_mem hf
        simp only [List.mem_cons, List.not_mem_nil, or_false, Prod.mk.injEq] at hf
        rcases hf with ⟨rfl, rfl⟩ | ⟨rfl, rfl⟩ | ⟨rfl, rfl⟩ | ⟨rfl, rfl⟩ | ⟨rfl, rfl⟩ | ⟨rfl, rfl⟩ | ⟨rfl, rfl⟩ | ⟨rfl, rfl⟩ | ⟨rfl, rfl⟩ | ⟨rfl, rfl⟩ | ⟨rfl, rfl⟩ | ⟨rfl, rfl⟩ | ⟨rfl, rfl⟩ | ⟨rfl, rfl⟩ | ⟨rfl, rfl⟩ | ⟨rfl, rfl⟩ | ⟨rfl, rfl⟩ | ⟨rfl, rfl⟩
        · exact ⟨na0_0, rfl⟩
        · exact ⟨na0_1, rfl⟩
        · exact ⟨na0_2, rfl⟩
        · exact ⟨na0_3, rfl⟩
        · exact ⟨na0_4, rfl⟩
        · exact ⟨na0_5, rfl⟩
        · exact ⟨na0_6, rfl⟩
        · exact ⟨na0_7, rfl⟩
        · exact ⟨na0_8, rfl⟩
        · exact ⟨na0_9, rfl⟩
        · exact ⟨na0_10, rfl⟩
        · exact ⟨na0_11, rfl⟩
        · exact ⟨na0_12, rfl⟩
        · exact ⟨na0_13, rfl⟩
        · exact ⟨na0_14, rfl⟩
        · exact ⟨na0_15, rfl⟩
        · exact ⟨na0_16, rfl⟩
        · exact ⟨na0_17, rfl⟩
      · refine ⟨cls1, PySem.W.mg_of X Ns ca1, fun f n hf => ?_⟩
        have hf := lookN_mem hf
        simp only [List.mem_cons, List.not_mem_nil, or_false, Prod.mk.injEq] at hf
        rcases hf with ⟨rfl, rfl⟩ | ⟨rfl, rfl⟩ | ⟨rfl, rfl⟩ | ⟨rfl, rfl⟩ | ⟨rfl, rfl⟩ | ⟨rfl, rfl⟩ | ⟨rfl, rfl⟩ | ⟨rfl, rfl⟩ | ⟨rfl, rfl⟩ | ⟨rfl, rfl⟩ | ⟨rfl, rfl⟩ | ⟨rfl, rfl⟩ | ⟨rfl, rfl⟩ | ⟨rfl, rfl⟩ | ⟨rfl, rfl⟩ | ⟨rfl, rfl⟩ | ⟨rfl, rfl⟩ | ⟨rfl, rfl⟩
        · exact ⟨na1_0, rfl⟩
        · exact ⟨na1_1, rfl⟩
        · exact ⟨na1_2, rfl⟩
        · exact ⟨na1_3, rfl⟩
        · exact ⟨na1_4, rfl⟩
        · exact ⟨na1_5, rfl⟩
        · exact ⟨na1_6, rfl⟩
        · exact ⟨na1_7, rfl⟩
        · exact ⟨na1_8, rfl⟩
        · exact ⟨na1_9, rfl⟩
        · exact ⟨na1_10, rfl⟩
        · exact ⟨na1_11, rfl⟩
        · exact ⟨na1_12, rfl⟩
        · exact ⟨na1_13, rfl⟩
        · exact ⟨na1_14, rfl⟩
        · exact ⟨na1_15, rfl⟩
        · exact ⟨na1_16, rfl⟩
        · exact ⟨na1_17, rfl⟩
    · simp only [Yt, Option.bind_eq_some_iff] at h
      obtain ⟨l, h1, h2⟩ := h
      have h1 := lookN_mem h1
      simp only [List.mem_cons, List.not_mem_nil, or_false, Prod.mk.injEq] at h1
      rcases h1 with ⟨rfl, rfl⟩ | ⟨rfl, rfl⟩
      · have h2 := lookN_mem h2
        simp only [List.mem_cons, List.not_mem_nil, or_false, Prod.mk.injEq] at h2
        rcases h2 with ⟨rfl, rfl⟩ | ⟨rfl, rfl⟩ | ⟨rfl, rfl⟩ | ⟨rfl, rfl⟩
        · exact ⟨i_Received_row, rfl, rfl, cls0, ⟨a12, if12, k12⟩, fnt_ne_row⟩
        · exact ⟨i_Received_read_head, rfl, rfl, cls0, ⟨a13, if13, k13⟩, fnt_ne_read_head⟩
        · exact ⟨i_Received_read_part, rfl, rfl, cls0, ⟨a14, if14, k14⟩, fnt_ne_read_part⟩
        · exact ⟨i_Received_read, rfl, rfl, cls0, ⟨a15, if15, k15⟩, fnt_ne_read⟩
      · have h2 := lookN_mem h2
        simp only [List.mem_cons, List.not_mem_nil, or_false, Prod.mk.injEq] at h2
        rcases h2 with ⟨rfl, rfl⟩ | ⟨rfl, rfl⟩
        · exact ⟨i_Source_put, rfl, rfl, cls1, ⟨a22, if22, k22⟩, fnt_ne_put⟩
        · exact ⟨i_Source_ask, rfl, rfl, cls1, ⟨a23, if23, k23⟩, fnt_ne_ask⟩
    · have h := lookN_mem h
      simp only [List.mem_cons, List.not_mem_nil, or_false, Prod.mk.injEq] at h
      rcases h with ⟨rfl, rfl⟩ | ⟨rfl, rfl⟩
      · exact ⟨i_Received_init, rfl, rfl, ⟨mk0, a11, if11, kc0⟩⟩
      · exact ⟨i_Source_init, rfl, rfl, ⟨mk1, a21, if21, kc1⟩⟩
  have O : ∀ f : Nat, (Gt.fns f).isSome = true → FOk K Gt Yt f (fas f) (fds f) (pst f) := fun f h => by
    obtain ⟨F, h⟩ := Option.isSome_iff_exists.mp h
    have h := lookN_mem h
    simp only [List.mem_cons, List.not_mem_nil, or_false, Prod.mk.injEq] at h
    rcases h with ⟨rfl, rfl⟩ | ⟨rfl, rfl⟩ | ⟨rfl, rfl⟩ | ⟨rfl, rfl⟩ | ⟨rfl, rfl⟩ | ⟨rfl, rfl⟩ | ⟨rfl, rfl⟩ | ⟨rfl, rfl⟩ | ⟨rfl, rfl⟩ | ⟨rfl, rfl⟩ | ⟨rfl, rfl⟩ | ⟨rfl, rfl⟩ | ⟨rfl, rfl⟩ | ⟨rfl, rfl⟩ | ⟨rfl, rfl⟩ | ⟨rfl, rfl⟩ | ⟨rfl, rfl⟩ | ⟨rfl, rfl⟩ | ⟨rfl, rfl⟩ | ⟨rfl, rfl⟩ | ⟨rfl, rfl⟩ | ⟨rfl, rfl⟩ | ⟨rfl, rfl⟩ | ⟨rfl, rfl⟩ | ⟨rfl, rfl⟩ | ⟨rfl, rfl⟩ | ⟨rfl, rfl⟩ | ⟨rfl, rfl⟩ | ⟨rfl, rfl⟩ | ⟨rfl, rfl⟩ | ⟨rfl, rfl⟩
    · exact ⟨⟨_, _, s0, n0, _, rfl, F0, z0, rfl, rfl, c0⟩⟩
    · exact ⟨⟨_, _, s1, n1, _, rfl, F1, z1, rfl, rfl, c1⟩⟩
    · exact ⟨⟨_, _, s2, n2, _, rfl, F2, z2, rfl, rfl, c2⟩⟩
    · exact ⟨⟨_, _, s3, n3, _, rfl, F3, z3, rfl, rfl, c3⟩⟩
    · exact ⟨⟨_, _, s4, n4, _, rfl, F4, z4, rfl, rfl, c4⟩⟩
    · exact ⟨⟨_, _, s5, n5, _, rfl, F5, z5, rfl, rfl, c5⟩⟩
    · exact ⟨⟨_, _, s6, n6, _, rfl, F6, z6, rfl, rfl, c6⟩⟩
    · exact ⟨⟨_, _, s7, n7, _, rfl, F7, z7, rfl, rfl, c7⟩⟩
    · exact ⟨⟨_, _, s8, n8, _, rfl, F8, z8, rfl, rfl, c8⟩⟩
    · exact ⟨⟨_, _, s9, n9, _, rfl, F9, z9, rfl, rfl, c9⟩⟩
    · exact ⟨⟨_, _, s10, n10, _, rfl, F10, z10, rfl, rfl, c10⟩⟩
    · exact ⟨⟨_, _, s11, n11, _, rfl, F11, z11, rfl, rfl, c11⟩⟩
    · exact ⟨⟨_, _, s12, n12, _, rfl, F12, z12, rfl, rfl, c12⟩⟩
    · exact ⟨⟨_, _, s13, n13, _, rfl, F13, z13, rfl, rfl, c13⟩⟩
    · exact ⟨⟨_, _, s14, n14, _, rfl, F14, z14, rfl, rfl, c14⟩⟩
    · exact ⟨⟨_, _, s15, n15, _, rfl, F15, z15, rfl, rfl, c15⟩⟩
    · exact ⟨⟨_, _, s16, n16, _, rfl, F16, z16, rfl, rfl, c16⟩⟩
    · exact ⟨⟨_, _, s17, n17, _, rfl, F17, z17, rfl, rfl, c17⟩⟩
    · exact ⟨⟨_, _, s18, n18, _, rfl, F18, z18, rfl, rfl, c18⟩⟩
    · exact ⟨⟨_, _, s19, n19, _, rfl, F19, z19, rfl, rfl, c19⟩⟩
    · exact ⟨⟨_, _, s20, n20, _, rfl, F20, z20, rfl, rfl, c20⟩⟩
    · exact ⟨⟨_, _, s21, n21, _, rfl, F21, z21, rfl, rfl, c21⟩⟩
    · exact ⟨⟨_, _, s22, n22, _, rfl, F22, z22, rfl, rfl, c22⟩⟩
    · exact ⟨⟨_, _, s23, n23, _, rfl, F23, z23, rfl, rfl, c23⟩⟩
    · exact ⟨⟨_, _, s24, n24, _, rfl, F24, z24, rfl, rfl, c24⟩⟩
    · exact ⟨⟨_, _, s25, n25, _, rfl, F25, z25, rfl, rfl, c25⟩⟩
    · exact ⟨⟨_, _, s26, n26, _, rfl, F26, z26, rfl, rfl, c26⟩⟩
    · exact ⟨⟨_, _, s27, n27, _, rfl, F27, z27, rfl, rfl, c27⟩⟩
    · exact ⟨⟨_, _, s28, n28, _, rfl, F28, z28, rfl, rfl, c28⟩⟩
    · exact ⟨⟨_, _, s29, n29, _, rfl, F29, z29, rfl, rfl, c29⟩⟩
    · exact ⟨⟨_, _, s30, n30, _, rfl, F30, z30, rfl, rfl, c30⟩⟩
  exact ⟨_, fun s v => .of_eq rfl, fun base _ _ => law_fn (fn_all (P := l.prog) (w := w) (base := base) g O KK LI rfl) hl⟩
end PL
open PySem PySem.W PyProof.Rows
set_option maxRecDepth 100000 in
set_option maxHeartbeats 0 in
theorem PySem.Challenge.cw_piecehaul_k36_whole_votes_of_sources_holds : PySem.Challenge.rw_piecehaul_k36_whole_votes_of_sources.Holds := by
  w_on; o_law; k_head; (case hw => w_witness2)
  k_fill
  refine PL.law_walk (l := PySem.Challenge.rw_piecehaul_k36_whole_votes_of_sources) (x := "_law_script") (k := 2 * 12) rfl rfl ⟨rfl, by decide, by decide⟩ (fun w h Y => PySem.W.kIn_of Y) ?F
  case F =>
    intro w mg fa h KX Ns hmg
    refine' PL.all_mk KX Ns hmg ?ca0 ?pg0 ?hd0 ?po0 ?sa0 ?mk0 ?kc0 ?na0_0 ?na0_1 ?na0_2 ?na0_3 ?na0_4 ?na0_5 ?na0_6 ?na0_7 ?na0_8 ?na0_9 ?na0_10 ?na0_11 ?na0_12 ?na0_13 ?na0_14 ?na0_15 ?na0_16 ?na0_17 ?ca1 ?pg1 ?hd1 ?po1 ?sa1 ?mk1 ?kc1 ?na1_0 ?na1_1 ?na1_2 ?na1_3 ?na1_4 ?na1_5 ?na1_6 ?na1_7 ?na1_8 ?na1_9 ?na1_10 ?na1_11 ?na1_12 ?na1_13 ?na1_14 ?na1_15 ?na1_16 ?na1_17 ?ea0 ?et0 ?ek0 ?xx0 ?eb0 ?ei0 ?ea1 ?et1 ?ek1 ?xx1 ?eb1 ?ei1 ?ea2 ?et2 ?ek2 ?xx2 ?eb2 ?ei2 ?es0_0 ?es1_0 ?es2_0 ?es0_2 ?es1_2 ?es2_2 ?es0_1 ?es1_1 ?es2_1 ?a0 ?l0 ?cc0 ?k0 ?a1 ?l1 ?cc1 ?k1 ?a2 ?l2 ?cc2 ?k2 ?a3 ?l3 ?cc3 ?k3 ?a4 ?l4 ?cc4 ?k4 ?a5 ?l5 ?cc5 ?k5 ?a6 ?l6 ?cc6 ?k6 ?a7 ?l7 ?cc7 ?k7 ?a8 ?l8 ?cc8 ?k8 ?a9 ?l9 ?cc9 ?k9 ?a10 ?l10 ?cc10 ?k10 ?a11 ?if11 ?l11 ?cc11 ?k11 ?a12 ?if12 ?l12 ?cc12 ?k12 ?a13 ?if13 ?l13 ?cc13 ?k13 ?a14 ?if14 ?l14 ?cc14 ?k14 ?a15 ?if15 ?l15 ?cc15 ?k15 ?a16 ?l16 ?cc16 ?k16 ?a17 ?l17 ?cc17 ?k17 ?a18 ?l18 ?cc18 ?k18 ?a19 ?l19 ?cc19 ?k19 ?a20 ?l20 ?cc20 ?k20 ?a21 ?if21 ?l21 ?cc21 ?k21 ?a22 ?if22 ?l22 ?cc22 ?k22 ?a23 ?if23 ?l23 ?cc23 ?k23 ?a24 ?l24 ?cc24 ?k24 ?a25 ?l25 ?cc25 ?k25 ?a26 ?l26 ?cc26 ?k26 ?a27 ?l27 ?cc27 ?k27 ?a28 ?l28 ?cc28 ?k28 ?a29 ?l29 ?cc29 ?k29 ?a30 ?l30 ?cc30 ?k30 ?p0 ?p1 ?p2 ?p3 ?p4 ?p5 ?p6 ?p7 ?p8 ?pt8 ?p9 ?y0 ?y1 ?y2 ?y3 ?y4 ?y5 ?y6 ?y7 ?y8 ?y9 ?y10 ?y11 ?y12 ?y13 PL.law_true
    (case ca0 => k_is)
    (case pg0 => k_is)
    (case hd0 => k_is)
    (case po0 => k_is)
    (case sa0 => k_is)
    (case mk0 => k_is)
    (case kc0 => k_is)
    (case na0_0 => k_is)
    (case na0_1 => k_is)
    (case na0_2 => k_is)
    (case na0_3 => k_is)
    (case na0_4 => k_is)
    (case na0_5 => k_is)
    (case na0_6 => k_is)
    (case na0_7 => k_is)
    (case na0_8 => k_is)
    (case na0_9 => k_is)
    (case na0_10 => k_is)
    (case na0_11 => k_is)
    (case na0_12 => k_is)
    (case na0_13 => k_is)
    (case na0_14 => k_is)
    (case na0_15 => k_is)
    (case na0_16 => k_is)
    (case na0_17 => k_is)
    (case ca1 => k_is)
    (case pg1 => k_is)
    (case hd1 => k_is)
    (case po1 => k_is)
    (case sa1 => k_is)
    (case mk1 => k_is)
    (case kc1 => k_is)
    (case na1_0 => k_is)
    (case na1_1 => k_is)
    (case na1_2 => k_is)
    (case na1_3 => k_is)
    (case na1_4 => k_is)
    (case na1_5 => k_is)
    (case na1_6 => k_is)
    (case na1_7 => k_is)
    (case na1_8 => k_is)
    (case na1_9 => k_is)
    (case na1_10 => k_is)
    (case na1_11 => k_is)
    (case na1_12 => k_is)
    (case na1_13 => k_is)
    (case na1_14 => k_is)
    (case na1_15 => k_is)
    (case na1_16 => k_is)
    (case na1_17 => k_is)
    (case ea0 => k_is)
    (case et0 => k_is)
    (case ek0 => k_is)
    (case xx0 => k_exc)
    (case eb0 => k_is)
    (case ei0 => k_is)
    (case ea1 => k_is)
    (case et1 => k_is)
    (case ek1 => k_is)
    (case xx1 => k_exc)
    (case eb1 => k_is)
    (case ei1 => k_is)
    (case ea2 => k_is)
    (case et2 => k_is)
    (case ek2 => k_is)
    (case xx2 => k_exc)
    (case eb2 => k_is)
    (case ei2 => k_is)
    (case es0_0 => first | rfl | k_is)
    (case es1_0 => first | rfl | k_is)
    (case es2_0 => first | rfl | k_is)
    (case es0_2 => first | rfl | k_is)
    (case es1_2 => first | rfl | k_is)
    (case es2_2 => first | rfl | k_is)
    (case es0_1 => first | rfl | k_is)
    (case es1_1 => first | rfl | k_is)
    (case es2_1 => first | rfl | k_is)
    (case a0 => k_is)
    (case l0 => k_is)
    (case cc0 => k_is)
    (case k0 => k_is)
    (case a1 => k_is)
    (case l1 => k_is)
    (case cc1 => k_is)
    (case k1 => k_is)
    (case a2 => k_is)
    (case l2 => k_is)
    (case cc2 => k_is)
    (case k2 => k_is)
    (case a3 => k_is)
    (case l3 => k_is)
    (case cc3 => k_is)
    (case k3 => k_is)
    (case a4 => k_is)
    (case l4 => k_is)
    (case cc4 => k_is)
    (case k4 => k_is)
    (case a5 => k_is)
    (case l5 => k_is)
    (case cc5 => k_is)
    (case k5 => k_is)
    (case a6 => k_is)
    (case l6 => k_is)
    (case cc6 => k_is)
    (case k6 => k_is)
    (case a7 => k_is)
    (case l7 => k_is)
    (case cc7 => k_is)
    (case k7 => k_is)
    (case a8 => k_is)
    (case l8 => k_is)
    (case cc8 => k_is)
    (case k8 => k_is)
    (case a9 => k_is)
    (case l9 => k_is)
    (case cc9 => k_is)
    (case k9 => k_is)
    (case a10 => k_is)
    (case l10 => k_is)
    (case cc10 => k_is)
    (case k10 => k_is)
    (case a11 => k_is)
    (case if11 => k_is)
    (case l11 => k_is)
    (case cc11 => k_is)
    (case k11 => k_is)
    (case a12 => k_is)
    (case if12 => k_is)
    (case l12 => k_is)
    (case cc12 => k_is)
    (case k12 => k_is)
    (case a13 => k_is)
    (case if13 => k_is)
    (case l13 => k_is)
    (case cc13 => k_is)
    (case k13 => k_is)
    (case a14 => k_is)
    (case if14 => k_is)
    (case l14 => k_is)
    (case cc14 => k_is)
    (case k14 => k_is)
    (case a15 => k_is)
    (case if15 => k_is)
    (case l15 => k_is)
    (case cc15 => k_is)
    (case k15 => k_is)
    (case a16 => k_is)
    (case l16 => k_is)
    (case cc16 => k_is)
    (case k16 => k_is)
    (case a17 => k_is)
    (case l17 => k_is)
    (case cc17 => k_is)
    (case k17 => k_is)
    (case a18 => k_is)
    (case l18 => k_is)
    (case cc18 => k_is)
    (case k18 => k_is)
    (case a19 => k_is)
    (case l19 => k_is)
    (case cc19 => k_is)
    (case k19 => k_is)
    (case a20 => k_is)
    (case l20 => k_is)
    (case cc20 => k_is)
    (case k20 => k_is)
    (case a21 => k_is)
    (case if21 => k_is)
    (case l21 => k_is)
    (case cc21 => k_is)
    (case k21 => k_is)
    (case a22 => k_is)
    (case if22 => k_is)
    (case l22 => k_is)
    (case cc22 => k_is)
    (case k22 => k_is)
    (case a23 => k_is)
    (case if23 => k_is)
    (case l23 => k_is)
    (case cc23 => k_is)
    (case k23 => k_is)
    (case a24 => k_is)
    (case l24 => k_is)
    (case cc24 => k_is)
    (case k24 => k_is)
    (case a25 => k_is)
    (case l25 => k_is)
    (case cc25 => k_is)
    (case k25 => k_is)
    (case a26 => k_is)
    (case l26 => k_is)
    (case cc26 => k_is)
    (case k26 => k_is)
    (case a27 => k_is)
    (case l27 => k_is)
    (case cc27 => k_is)
    (case k27 => k_is)
    (case a28 => k_is)
    (case l28 => k_is)
    (case cc28 => k_is)
    (case k28 => k_is)
    (case a29 => k_is)
    (case l29 => k_is)
    (case cc29 => k_is)
    (case k29 => k_is)
    (case a30 => k_is)
    (case l30 => k_is)
    (case cc30 => k_is)
    (case k30 => k_is)
    (case p0 => k_is)
    (case p1 => k_is)
    (case p2 => k_is)
    (case p3 => k_is)
    (case p4 => k_is)
    (case p5 => k_is)
    (case p6 => k_is)
    (case p7 => k_is)
    (case p8 => k_is)
    (case pt8 => k_is)
    (case p9 => k_is)
    (case y0 => k_is)
    (case y1 => k_is)
    (case y2 => k_is)
    (case y3 => k_is)
    (case y4 => k_is)
    (case y5 => k_is)
    (case y6 => k_is)
    (case y7 => k_is)
    (case y8 => k_is)
    (case y9 => k_is)
    (case y10 => k_is)
    (case y11 => k_is)
    (case y12 => k_is)
    (case y13 => k_is)

