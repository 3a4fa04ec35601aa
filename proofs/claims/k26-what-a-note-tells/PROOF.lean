import PyProof.Rows.All
import Wide.All
import OpenK.AllK
import Wide.FinOn
import HandS.ForMost
import HandS.ForExc
import HandS.Wide
import HandS.TupAny
import HandS.TupMul
import HandS.Flow
import HandS.Style
import HandS.IsInst
import HandS.Zip
import HandS.Walk
import HandS.SortInts
import HandS.SortRule
import HandS.TryOnly
import HandS.TryMany
import HandS.FStr
import HandS.StrMore
import HandS.More
import HandS.SetKeys
import HandS.Small
import HandS.Comp
import KE.KTryMore
import HandS.Conv
import HandS.DictComp
import PyProof.SumWalkG
import PyProof.WalksMore
import KE.GoesMore
import KE.GoesEnum
import HandS.Iter
import PyProof.Rows.StrFit
import PySem.Challenge.RW_piecehaul_k26_whole_what_a_note_tells_is
set_option Elab.async false
set_option linter.all false
set_option maxRecDepth 100000
set_option maxHeartbeats 1000000
set_option Elab.async false
set_option linter.all false
set_option maxRecDepth 100000
set_option maxHeartbeats 1000000
/-! PLQ: exceptions that pass a comprehension; a clause of two classes. -/
namespace PL
open PySem PySem.Spec PyProof.Rows L2
/-- fresh, in flight, or noted at the frame fr -/
def SkyF (B : Heap) (l : List PySem.Env) (a : Addr) (Z : Obj → Prop) (fr : Option Addr) (h : Heap) : Prop :=
  (∃ oe vs, B.StaysIn h ∧ B.get? a = none ∧ h.FunFrames B l ∧ h.get? a = some oe ∧ Z oe ∧ oe.data = .fields vs ∧ vs[1]? = some .none) ∨
    HandSPX.FlyingZ B l a Z h ∨ ∃ L, fr = some L ∧ HandSPX.HeldZ B l a Z L h
/-- an exception in the air of X -/
def XF (X : Cx) (W : WX) (u : Value) (s' : Shared) : Prop :=
  ∃ (a : Addr) (B : Heap) (sI : Shared) (pins : List (Addr × Obj)) (σ : L2.St) (H : Hp) (cls : Value) (d : Option Addr),
    (u = .ref a ∧ Inv X pins σ H sI) ∧ ((∀ b o, sI.heap.get? b = some o → b ∉ frs X.stack → B.get? b = some o) ∧ sI.heap.UpToSlots s'.heap) ∧
      SkyF B X.stack a (Zc cls d) X.env.frame s'.heap ∧ (H a = none ∧ s'.os = sI.os ∧ AllBare s'.gens) ∧ W cls d σ H
def Tk (X : Cx) (W : WX) : Prop := ∀ u s', XF X W u s' → X.xe u s'
theorem tk_of {X : Cx} {W : WX} (hf : X.env.frame = some X.env.locals) (t : Takes X W) : Tk X W := by
  rintro u s' ⟨a, B, sI, pins, σ, H, cls, d, ⟨e, I⟩, ⟨nb, up⟩, sky, ⟨na, os, ag⟩, w⟩
  refine t u s' ⟨a, B, sI, pins, σ, H, cls, d, e, I, nb, up, ?_, na, os, ag, w⟩
  rcases sky with ⟨oe, vs, z1, z2, z3, z4⟩ | z | ⟨L, e, z⟩
  · exact .inl ⟨z1, z2, z3, oe, vs, z4⟩
  · exact .inr (.inl z)
  · rw [hf] at e
    cases e
    exact .inr (.inr z)
section
variable {X : Cx} {pins : List (Addr × Obj)} {σ : L2.St} {H : Hp} {s s' : Shared} {W : WX} {E : XK}
/-- what a callee lets out is in our air -/
theorem xf_call (I : Inv X pins σ H s) (hW : ∀ cls d H', E cls d H' → W cls d σ H') {u : Value} (c : L2.CX X.prog X.w X.stack H s E u s') : XF X W u s' := by
  obtain ⟨a, B, H1, cls, d, rfl, fl, hok, ub, na, os, ag, hE⟩ := c
  obtain ⟨G, yes, no⟩ := restrict s'.heap fun b => (B.get? b).isSome || decide (b ∈ frs X.stack)
  have stB : ∀ b o, B.get? b = some o → s'.heap.get? b = some o := fl.1
  have inG : ∀ b o, B.get? b = some o → G.get? b = some o := fun b o q => (yes b (by simp [q])).trans (stB b o q)
  have frG : ∀ b, b ∈ frs X.stack → G.get? b = s'.heap.get? b := fun b q => yes b (by simp [q])
  have outG : ∀ b o, G.get? b = some o → s'.heap.get? b = some o ∧ ((B.get? b).isSome = true ∨ b ∈ frs X.stack) := fun b o q => by
    by_cases z : ((B.get? b).isSome || decide (b ∈ frs X.stack)) = true
    · exact ⟨(yes b z).symm.trans q, by simpa [Bool.or_eq_true] using z⟩
    · have := no b (by simpa using z)
      rw [q] at this
      cases this
  have J : Inv X pins σ H1 { s with heap := G, gens := s'.gens, drawn := s'.drawn, toks := s'.toks } := by
    refine I.call (ch := []) ⟨fun b o q n hb _ => inG b o (ub.keep b o q n hb), fun b o q _ hb _ => ?_, fun b o q n _ => ub.free b o q n, fun b o q _ => ?_, ub.tups, ub.frzs, ub.tbls⟩ (hok.kept inG) ag (fun _ z => nomatch z)
    · obtain ⟨sl, z⟩ := ub.slot b o q hb
      exact ⟨sl, (frG b hb).trans z⟩
    · by_cases hb : b ∈ frs X.stack
      · obtain ⟨sl, z⟩ := ub.slot b o q hb
        exact ⟨_, (frG b hb).trans z⟩
      · obtain ⟨o', z⟩ := ub.there b o q hb
        exact ⟨o', inG b o' z⟩
  refine ⟨a, B, _, pins, σ, H1, cls, d, ⟨rfl, J⟩, ⟨fun b o q hb => ?_, Heap.UpToSlots.of_keeps fun b o q => (outG b o q).1⟩, .inr (.inl fl), ⟨na, os, ag⟩, hW _ _ _ hE⟩
  obtain ⟨z, y⟩ := outG b o q
  rcases y with y | y
  · obtain ⟨o', y⟩ := Option.isSome_iff_exists.mp y
    rw [y, ← stB b o' y, z]
  · exact absurd y hb
theorem tk_at (tk : Tk X W) (σ : L2.St) : PassesAt (L2.CX X.prog X.w) X σ (WE W σ) := fun _ _ _ e s' I c => tk e s' (xf_call I (fun _ _ _ h => h) c)
/-- what an own frame says -/
def FrOk (X : Cx) : Prop := ∃ env0 outer0 L, X.stack = env0 :: outer0 ∧ env0.frame = some L ∧ X.env.frame = some L
theorem note_frame {e1 e2 : PySem.Env} (h : e1.frame = e2.frame) (x : Value) : noteFrame x e1 = noteFrame x e2 := by
  unfold noteFrame PySem.frameOf
  rw [h]
theorem SkyF.note {M : Model} {A : Around} {Ee : Value → Shared → Prop} {B : Heap} {env0 : PySem.Env} {outer0 : List PySem.Env} {a L : Addr} {Z : Obj → Prop} {Q : Unit → Shared → Prop} (hZ : HandSPX.Steady Z) (hfr : A.frames = some (env0 :: outer0)) (hL : env0.frame = some L)
    (x : SkyF B (env0 :: outer0) a Z (some L) s.heap) (hQ : ∀ h1, HandSPX.HeldZ B (env0 :: outer0) a Z L h1 → s.heap.UpToSlots h1 → Q () { s with heap := h1 }) : wpAny M A (noteFrame (.ref a) env0) Q Ee s := by
  rcases x with ⟨oe, vs, k1, k2, k3, k4, k5, k6, k7⟩ | k | ⟨L', e, k⟩
  · exact HandSPX.look_newZ hZ hfr k3 hL k4 k1 k2 k6 k7 k5 hQ
  · exact HandSPX.looks_onZ hZ hfr hL k hQ
  · cases e
    exact HandSPX.againZ hL k.2.2.2 (hQ s.heap k (Heap.UpToSlots.refl _))
theorem frames_swap {h h' B B' : Heap} (k : ∀ b, B.get? b = none → h'.get? b = h.get? b ∧ B'.get? b = none) : ∀ {l : List PySem.Env}, h.FunFrames B l → h'.FunFrames B' l
  | [], _ => trivial
  | _ :: _, ⟨q, ⟨L, o, f1, f2, f3, f4⟩, r⟩ => ⟨q, ⟨L, o, f1, (k L f2).2, (k L f2).1.trans f3, f4⟩, frames_swap k r⟩
/-- the comprehension's end by an exception -/
def ErrE (X : Cx) (ce : PySem.Env) (x : Value) (s' : Shared) : Prop := ∃ m, s'.heap.Ns ce.locals m ∧ ∀ h', Heap.SameBut ce.locals s'.heap h' → ∀ cenv : PySem.Env, cenv.locals = ce.locals → cenv.frame = ce.frame →
  wpAny (model X.prog X.w) X.A (passOn "comprehension.variables-let-go" x cenv : Sem Value) (fun _ _ => False) X.xe { s' with heap := h' }
/-- the slots of the start, whatever the block's are -/
def WB (W : WX) (σ : L2.St) : WX := fun c d _ H => W c d σ H
theorem err_out {scope : Scope} {ce : PySem.Env} {fp : List Addr} {s3 : Shared} {H3 : Hp} (tk : Tk X W) (fr : FrOk X) (hce : ce.frame = X.env.frame) (hC : ce.locals = s3.heap.objs.size)
    (I3 : Inv X pins σ H3 s3) (f3 : ∀ b ∈ fp, FpOk X pins H3 b) {u : Value} {s' : Shared} {Ee : Value → Shared → Prop} (x : XF (X.blk s3 H3 scope ce fp) (WB W σ) u s') :
    wpAny (model X.prog X.w) X.A (noteFrame u ce) (fun _ s'' => ErrE X ce u s'') Ee s' := by
  obtain ⟨a, B, sI, pins', σ', H', cls, d, ⟨rfl, I'⟩, ⟨nb, up⟩, sky, ⟨na, os, ag⟩, w⟩ := x
  obtain ⟨env0, outer0, L, hst, hL, hX⟩ := fr
  rw [note_frame (hce.trans (hX.trans hL.symm))]
  have hfr : X.A.frames = some (env0 :: outer0) := by rw [I3.ok.frames, hst]
  have sky : SkyF B (env0 :: outer0) a (Zc cls d) (some L) s'.heap := by
    have z : SkyF B X.stack a (Zc cls d) ce.frame s'.heap := sky
    rw [hst, hce, hX] at z
    exact z
  refine sky.note Zc.steady hfr hL fun h1 hh up1 => ?_
  obtain ⟨m, hn, _⟩ := I'.loc
  have hn : sI.heap.Ns ce.locals m := hn
  have hn0 := hn
  refine ⟨m, (up.trans up1).ns hn, fun h2 sb cenv e1 e2 => ?_⟩
  generalize hCC : ce.locals = C at hn sb e1 hC hn0
  have nC : H' C = none := by
    have z : H' ce.locals = none := I'.free
    rw [hCC] at z
    exact z
  obtain ⟨f0, f1, f2, f4, f5, f6⟩ := I3.fpOk (H' := H') (b := C) (Nat.le_of_eq hC.symm) nC
  have CnS : C ∉ frs X.stack := fun z => by
    obtain ⟨_, o', q, _⟩ := I3.stack.mem z
    have z := Heap.lt_size q
    rw [hC] at z
    exact absurd z (Nat.lt_irrefl _)
  obtain ⟨oC, es, ep, hoC, hdC, _⟩ := hn0
  have BC : B.get? C = some oC := nb C oC hoC CnS
  have IX : Inv X pins σ H' sI := I3.call' (ch := fp) I'.os I'.base I'.hok I'.bare fun b hb => ⟨(f3 b hb).2.2.2.1, (f3 b hb).2.1, (f3 b hb).2.2.2.2.1, (f3 b hb).2.2.2.2.2⟩
  have hid : ∀ {h : Heap} {b : Addr} {o : Obj}, (PySem.W.hideAll h [C]).get? b = some o → b ≠ C ∧ h.get? b = some o := fun {h b o} q => by
    refine ⟨fun z => ?_, PySem.W.of_hideAll _ q⟩
    rw [PySem.W.hideAll_none _ (by rw [z]; exact List.mem_singleton.mpr rfl)] at q
    cases q
  have shw : ∀ {h : Heap} {b : Addr} {o : Obj}, b ≠ C → h.get? b = some o → (PySem.W.hideAll h [C]).get? b = some o := fun {h b o} n q => PySem.W.hideAll_get _ q (by simpa using n)
  have I2 : Inv X pins σ H' { sI with heap := PySem.W.hideAll sI.heap [C] } := IX.turned (t' := sI.toks) (it := C) (fun b o n q => shw n q) f0 f1 f4 f5 f6
  obtain ⟨st1, hna, ff1, oe, vs, T, oT, ts, t1, t2, t3, t4, t5, t6, t7, t8, t9⟩ := hh
  have aC : a ≠ C := fun z => by rw [z, BC] at hna; cases hna
  have TC : T ≠ C := fun z => by rw [z, BC] at t5; cases t5
  have bn : ∀ b, B.get? b = none → (PySem.W.hideAll B [C]).get? b = none := fun b q => by
    cases z : (PySem.W.hideAll B [C]).get? b with
    | none => rfl
    | some o => rw [(hid z).2] at q; cases q
  have st2 : (PySem.W.hideAll B [C]).StaysIn h2 := fun b o q => by
    obtain ⟨q1, q2⟩ := hid q
    rw [sb.2 b q1]
    exact st1 b o q2
  have ff2 : h2.FunFrames (PySem.W.hideAll B [C]) (env0 :: outer0) := frames_swap (fun b q => ⟨sb.2 b (fun z => by rw [z, BC] at q; cases q), bn b q⟩) ff1
  have a2 : h2.get? a = some oe := (sb.2 a aC).trans t1
  have T2 : h2.get? T = some oT := (sb.2 T TC).trans t7
  unfold PySem.passOn
  refine wpAny_bind (wpAny_field a2 t3 t4 ?_)
  rw [if_neg (show ¬ ((Value.ref T == Value.none) = true) from by simp)]
  have fin : wpAny (model X.prog X.w) X.A (setFlight (.ref a) cenv.frame) (fun _ s4 => wpAny (model X.prog X.w) X.A (throw (.ref a) : Sem Value) (fun _ _ => False) X.xe s4) X.xe { s' with heap := h2 } := by
    rw [e2, hce, hX]
    refine HandSPX.setFlight_anyZ (fr := some L) st2 ff2 ⟨oe, vs, T, oT, ts, a2, t2, t3, t4, bn T t5, t6, T2, t8, t9⟩ fun h4 s4 f4' t4' up4 => wpAny_throw (tk _ _ ?_)
    refine ⟨a, PySem.W.hideAll B [C], { sI with heap := PySem.W.hideAll sI.heap [C] }, pins, σ, H', cls, d, ⟨rfl, I2⟩, ⟨fun b o q hb => ?_, fun b o q nf => ?_⟩, .inr (.inr ⟨L, hX, s4, bn a hna, by rw [hst]; exact f4', t4'⟩), ⟨na, os, ag⟩, w⟩
    · obtain ⟨q1, q2⟩ := hid q
      exact shw q1 (nb b o q2 hb)
    · obtain ⟨q1, q2⟩ := hid q
      obtain ⟨sl, z⟩ := (up.trans up1) b o q2 nf
      rw [← sb.2 b q1] at z
      obtain ⟨sl', y⟩ := up4 b _ z nf
      exact ⟨sl', y⟩
  first
    | exact wpAny_bind (wpAny_pure (wpAny_bind fin))
    | exact wpAny_bind fin
end
end PL
namespace PL
open PySem PySem.Spec PyProof.Rows L2
/-! ### a comprehension whose steps may raise -/
/-- the end of its block -/
def EndC (X : Cx) (use : Option (Value → Sem Unit)) (Qf : Value → Shared → Prop) (acc : Value) (ce : PySem.Env) (r : Result) (s' : Shared) : Prop := match r with
  | .ok _ => compPost (model X.prog X.w) X.A X.xe use Qf acc ce.locals (.ok .next) s'
  | .error x => ErrE X ce x s'
theorem comp_free {X : Cx} {use : Option (Value → Sem Unit)} {s : Shared} {e : Expr} {scope : Scope} {pos : Pos} {newAcc first : Sem Value} {g : Comprehension} {gs : List Comprehension} {cl : List (Str × Addr)} {Qf : Value → Shared → Prop}
    (h1 : clausesOf e = g :: gs) (h2 : ∀ x, foldedSetIterable g.iter X.env x = pure x) (h3 : closureFor scope X.env = pure cl) (h4 : scope.kind = .function) (h5 : ∀ x ∈ scope.names, x.2 = .local → scope.names.lookup x.1 = some .local)
    (h : wpAny (model X.prog X.w) X.A first (fun x s₁ => wpAny (model X.prog X.w) X.A (pyIter x) (fun it s₂ => wpAny (model X.prog X.w) X.A newAcc (fun acc s₃ =>
      wpAny (model X.prog X.w) X.A (newFunctionEnv scope X.env.globals cl [] X.env.qual none .none (some X.env)) (fun cenv s₄ =>
        codeAny (model X.prog X.w) X.A (.compStart e 0 it acc { cenv with scope := relabel scope X.env }) (EndC X use Qf acc { cenv with scope := relabel scope X.env }) s₄) X.xe s₃) X.xe s₂) X.xe s₁) X.xe s) :
    wpAny (model X.prog X.w) X.A (comprehension e scope X.env pos newAcc false first use) Qf X.xe s := by
  unfold comprehension
  rw [h3, h1]
  refine wpAny_bind (wpAny_mono h (fun x s₁ w1 => ?_) fun _ _ h' => h')
  refine wpAny_bind (wpAny_standAt (wpAny_bind (wpAny_of_eq (h2 x) (wpAny_bind (wpAny_holding (wpAny_mono w1 (fun it s₂ w2 => ?_) fun _ _ h' => h'))))))
  refine wpAny_standIf (wpAny_bind (wpAny_mono w2 (fun acc s₃ w3 => ?_) fun _ _ h' => h'))
  refine wpAny_bind (wpAny_pure (wpAny_bind (wpAny_mono w3 (fun cenv s₄ w4 => ?_) fun _ _ h' => h')))
  dsimp only
  have loc : ∀ x ∈ (scope.names.filter fun x => (x.2 == .local || x.2 == .cell) && x.1 != (".0" : Str)).reverse, x.2 = .local → PySem.Env.kindOf { cenv with scope := relabel scope X.env } x.1 = some .local := fun x hx hl =>
    lookup_relabel_local (h5 x (List.mem_filter.mp (List.mem_reverse.mp hx)).1 hl)
  have loc2 : ∀ x ∈ (scope.names.filter fun x => (x.2 == .local || x.2 == .cell) && x.1 != (".0" : Str)).reverse.drop 1 ++ (scope.names.filter fun x => (x.2 == .local || x.2 == .cell) && x.1 != (".0" : Str)).reverse.take 1, x.2 = .local →
      PySem.Env.kindOf { cenv with scope := relabel scope X.env } x.1 = some .local := fun x hx hl => (List.mem_append.mp hx).elim (fun z => loc x (List.mem_of_mem_drop z) hl) fun z => loc x (List.mem_of_mem_take z) hl
  refine wpAny_holding (wpAny_bind (wpAny_attempt (wpAny_holding (wpAny_run (codeAny_mono w4 fun r s' hr => ?_)))))
  cases r with
  | ok f =>
    cases use with
    | none =>
      obtain ⟨m, hn, hr⟩ := hr
      refine wpAny_bind (wpAny_holding (wpAny_comp_letGo (cenv := { cenv with scope := relabel scope X.env }) h4 _ s' m loc hn fun h' m' _ hs' => ?_))
      exact wpAny_pure (hr h' hs')
    | some u =>
      refine wpAny_bind (wpAny_rule (wpAny_bind (wpAny_holding (wpAny_mono hr (fun _ s'' hr' => ?_) fun _ _ h' => h'))))
      obtain ⟨m, hn, hr'⟩ := hr'
      exact wpAny_bind (wpAny_comp_letGo (cenv := { cenv with scope := relabel scope X.env }) h4 _ s'' m loc2 hn fun h' m' _ hs' => wpAny_pure (hr' h' hs'))
  | error x =>
    obtain ⟨m, hn, hr⟩ := hr
    refine wpAny_bind (wpAny_holding (wpAny_comp_letGo (cenv := { cenv with scope := relabel scope X.env }) h4 _ s' m loc hn fun h' m' _ hs' => ?_))
    exact wpAny_mono (hr h' hs' _ rfl rfl) (fun _ _ f => f.elim) fun _ _ y => y
section
variable {X : Cx} {W : WX}
/-- the block's context, its exceptions passed on -/
abbrev blkX (X : Cx) (W : WX) (σ : L2.St) (s : Shared) (H : Hp) (scope : Scope) (ce : PySem.Env) (fp : List Addr) : Cx := (X.blk s H scope ce fp).wish (XF (X.blk s H scope ce fp) (WB W σ))
theorem blkX_tk {σ : L2.St} {s : Shared} {H : Hp} {scope : Scope} {ce : PySem.Env} {fp : List Addr} : Tk (blkX X W σ s H scope ce fp) (WB W σ) := by
  rintro u s' ⟨a, B, sI, pins, σ, H, cls, d, ⟨e, I⟩, r⟩
  exact ⟨a, B, sI, pins, σ, H, cls, d, ⟨e, I.unwish⟩, r⟩
theorem lc_run {use : Option (Value → Sem Unit)} {pins : List (Addr × Obj)} {s : Shared} {σ : L2.St} {H : Hp} {Q : VK} {elt tg iter : Expr} {ifs : List Expr} {scope : Scope} {own : List (Str × Nat)} {pos pos' : Pos} {wi : TI} {g : TG} {tt : TT} {te : TE} {Qf : Value → Shared → Prop}
    (hc : X.calm = true) (hN : X.N.Nodup) (tk : Tk X W) (fr : FrOk X) (I : Inv X pins σ H s) (hi : PI X tg iter wi) (ok : BlkOk X.N X.env.scope scope own)
    (hg : ∀ (s : Shared) (H : Hp) (C : Addr) (cl : List (Str × Addr)) (fp : List Addr), PG (X.blk s H scope (compEnvC scope cl C X.env) fp) tg g)
    (ht : ∀ (s : Shared) (H : Hp) (C : Addr) (cl : List (Str × Addr)) (fp : List Addr), PTs (blkX X W σ s H scope (compEnvC scope cl C X.env) fp) ifs tt)
    (he : ∀ (s : Shared) (H : Hp) (C : Addr) (cl : List (Str × Addr)) (fp : List Addr), PE (blkX X W σ s H scope (compEnvC scope cl C X.env) fp) elt te) (hs : ∀ x, foldedSetIterable iter X.env x = pure x)
    (h : tLc wi g tt te (own.map (·.2)) σ H Q)
    (hR : ∀ D C s' m H', Inv X pins σ H' s' → Q (.ref D) H' → s'.heap.Ns C m → FpOk X pins H' C → compPost (model X.prog X.w) X.A X.xe use Qf (.ref D) C (.ok .next) s') :
    wpAny (model X.prog X.w) X.A (comprehension (.ListComp elt [⟨tg, iter, ifs, 0⟩] scope pos) scope X.env pos' (newList []) false (eval iter X.env) use) Qf X.xe s := by
  have capt : ∀ y ∈ scope.names, y.2 = .free → ∃ c, X.env.cells.lookup y.1 = some c := fun y hy e => (ok.free y hy e).elim (fun k => I.ok.has _ (.inl k)) fun k => I.ok.has _ (.inr k)
  refine comp_free rfl hs (closure_ok capt) ok.kind (fun y hy e => by rw [ok.uniq y hy, e]) (thn (hi.run pins s σ H _ I h) fun xv s1 hx => thn hx fun itv s2 h2 => ?_)
  obtain ⟨it, fp, tn, J, H2, rfl, I2, T, st2, f2, q⟩ := h2
  refine wpAny_newObj_type (newEnv_comp ?_) (Nat.zero_le _)
  generalize hD : s2.heap.objs.size = D
  have hDn : H2 D = none := I2.hok.fresh (Nat.le_of_eq hD)
  obtain ⟨Wm, ⟨m0, w0⟩, turn⟩ := q D hDn
  generalize hs3 : ({ s2 with heap := s2.heap.push { cls := .type "list", data := .seq ([] : List Value).toArray } } : Shared) = s3
  have h3 : s3.heap = s2.heap.push { cls := .type "list", data := .seq ([] : List Value).toArray } := by rw [← hs3]
  have I3 : Inv X pins σ (upd H2 D (.lst [])) s3 := by
    subst hs3
    refine I2.laid (t' := s2.toks) (fun b o e => Heap.get?_push_of_some _ e) (Nat.le_of_eq hD) ⟨Nat.zero_le _, [], 0, .nil, ?_⟩
    subst hD
    exact Heap.get?_push_size _ rfl
  have small : ∀ b ∈ fp, b < s2.heap.objs.size := fun b hb => let ⟨o, e, _⟩ := T.obj _ _ st2 b hb; Heap.lt_size e
  have f3 : ∀ b ∈ fp, FpOk X pins (upd H2 D (.lst [])) b ∧ b < s3.heap.objs.size := fun b hb => by
    have lt := small b hb
    refine ⟨⟨?_, (f2 b hb).2⟩, ?_⟩
    · rw [upd_ne (hD ▸ Nat.ne_of_lt lt)]
      exact (f2 b hb).1
    · rw [h3, Heap.size_push]
      exact Nat.lt_succ_of_lt lt
  have st3 : tn 0 s3.heap := T.keep _ _ _ st2 fun b _ o e => h3 ▸ Heap.get?_push_of_some _ e
  have I4 := block_start I3 ok hN f3
  have pg := hg s3 (upd H2 D (.lst [])) s3.heap.objs.size (cellsFrom (s3.heap.objs.size + 1) scope.names (cloFrom X.env.cells scope.names [])) fp
  have pt := ht s3 (upd H2 D (.lst [])) s3.heap.objs.size (cellsFrom (s3.heap.objs.size + 1) scope.names (cloFrom X.env.cells scope.names [])) fp
  have pe := he s3 (upd H2 D (.lst [])) s3.heap.objs.size (cellsFrom (s3.heap.objs.size + 1) scope.names (cloFrom X.env.cells scope.names [])) fp
  show codeAny _ _ (.compStart _ 0 (.ref it) (.ref D) (compEnvC scope (cellsFrom (s3.heap.objs.size + 1) scope.names (cloFrom X.env.cells scope.names [])) s3.heap.objs.size X.env)) (EndC X use Qf (.ref D) (compEnvC scope (cellsFrom (s3.heap.objs.size + 1) scope.names (cloFrom X.env.cells scope.names [])) s3.heap.objs.size X.env))
    { s3 with heap := pushCells (s3.heap.push { cls := .type "dict", data := .dict #[] }) scope.names }
  have nfp : ∀ b ∈ fp, (upd H2 D (.lst [])) b = none := fun b hb => (f3 b hb).1.1
  generalize hce : compEnvC scope (cellsFrom (s3.heap.objs.size + 1) scope.names (cloFrom X.env.cells scope.names [])) s3.heap.objs.size X.env = ce at I4 pg pt pe ⊢
  have cL : ce.locals = s3.heap.objs.size := by subst hce; rfl
  have cF : ce.frame = X.env.frame := by subst hce; rfl
  generalize hH3 : upd H2 D (.lst []) = H3 at I3 I4 pg pt pe w0 nfp f3
  generalize hs4 : ({ s3 with heap := pushCells (s3.heap.push { cls := .type "dict", data := .dict #[] }) scope.names } : Shared) = s4 at I4 ⊢
  have st4 : tn 0 s4.heap := T.keep _ _ _ st3 fun b _ o e => hs4 ▸ pushCells_keeps _ _ _ _ (Heap.get?_push_of_some _ e)
  have err : ∀ {Q' : Value → Shared → Prop} (u : Value) (s' : Shared), (XF (X.blk s3 H3 scope ce fp) (WB W σ)) u s' → notedBy (model X.prog X.w) X.A ce (fun e s' => EndC X use Qf (.ref D) ce (.error e) s') u s' := fun {Q'} u s' x => err_out tk fr cF cL I3 (fun b hb => (f3 b hb).1) x
  have stat : ∀ {σ' : L2.St} {H' : Hp} {s' : Shared}, Inv (X.blk s3 H3 scope ce fp) [] σ' H' s' → (∀ b ∈ fp, H' b = none) → ∀ b ∈ fp, FpOk (X.blk s3 H3 scope ce fp) [] H' b := fun {σ' H' s'} I' hn b hb =>
    ⟨hn b hb, (I'.ok.exf b hb).1, I'.ok.exfs b hb, .inl hb, (I'.ok.exf b hb).2, fun p hp => absurd (show p ∈ ([] : List (Addr × Obj)) ++ [] from hp) (by simp)⟩
  have loop : codeAny (model X.prog X.w) X.A (.compLoop (.ListComp elt [⟨tg, iter, ifs, 0⟩] scope pos) 0 (.ref it) (.ref D) ce) (EndC X use Qf (.ref D) ce) s4 := by
    refine compLoop_any (fun n s' => ∃ i H', Inv (X.blk s3 H3 scope ce fp) [] (wipe σ (own.map (·.2))) H' s' ∧ tn i s'.heap ∧ (∀ b ∈ fp, H' b = none) ∧ Wm i n H') ?_ m0 ⟨0, H3, I4, st4, nfp, w0⟩
    rintro n s5 ⟨i, H5, I5, st5, n5, w5⟩
    rcases turn i n H5 w5 with ⟨stop, qq⟩ | ⟨go, Nx, hNx, step⟩
    · refine thnF (T.done (X.blk s3 H3 scope ce fp) rfl rfl rfl hc i [] s5 _ H5 (fun _ _ => False) I5 (stat I5 n5) st5 stop) fun r s6 hr6 => ?_
      obtain ⟨rfl, I6⟩ := hr6
      have I7 : Inv X pins σ H5 s6 := I3.call' (ch := fp) I6.os I6.base I6.hok I6.bare fun b hb => ⟨(f3 b hb).1.2.2.2.1, (f3 b hb).1.2.1, (f3 b hb).1.2.2.2.2.1, (f3 b hb).1.2.2.2.2.2⟩
      obtain ⟨m, hn, _⟩ := I6.loc
      have hn : s6.heap.Ns ce.locals m := hn
      have nC : H5 ce.locals = none := I6.free
      have z := hR D ce.locals s6 m H5 I7 qq hn (by rw [cL] at nC ⊢; exact I3.fpOk (Nat.le_refl _) nC)
      exact z
    · refine thnF (T.item (X.blk s3 H3 scope ce fp) rfl rfl rfl hc i [] s5 _ H5 (fun _ _ => False) I5 (stat I5 n5) st5 go) fun r s6 hr6 => ?_
      obtain ⟨u, rfl, h6⟩ := hr6
      refine thnF h6 fun _ s7 hr7 => ?_
      obtain ⟨x, H7, I7, r7, y7, st7, n7⟩ := hr7
      have I7' := I7.pinned (stat I7 n7) (T.obj _ _ st7)
      refine thnF (pg.run _ s7 _ H7 x u _ I7' r7 (step x H7 y7)) fun _ s8 hr8 => ?_
      obtain ⟨σ8, H8, I8, hw8, q8⟩ := hr8
      refine wpAny_mono (pt.run _ s8 σ8 H8 _ (I8.wish _) q8) (fun b s9 hr9 => ?_) (err (Q' := fun _ _ => True))
      obtain ⟨H9, I9, q9⟩ := hr9
      have I9 := I9.unwish
      have over : ∀ {s' : Shared} {H' : Hp}, Inv (X.blk s3 H3 scope ce fp) ([] ++ pinsAt fp s7.heap) σ8 H' s' → Nx H' → ∃ m, m < n ∧ ∃ i H', Inv (X.blk s3 H3 scope ce fp) [] (wipe σ (own.map (·.2))) H' s' ∧ tn i s'.heap ∧ (∀ b ∈ fp, H' b = none) ∧ Wm i m H' := fun {s' H'} I' nx => by
        obtain ⟨m', hm, w'⟩ := hNx H' nx
        have held : ∀ b ∈ fp, ∀ o, s7.heap.get? b = some o → s'.heap.get? b = some o ∧ H' b = none := fun b hb o e =>
          have z := I'.pin (b, o) (List.mem_append_right _ (List.mem_append_right _ (mem_pinsAt hb e)))
          ⟨z.1, z.2.1⟩
        refine ⟨m', hm, i + 1, H', (I'.unpinned (pins := [])).weak (by rw [← hw8, wipe_length]) (fun j v e => ?_), T.keep _ _ _ st7 fun b hb o e => (held b hb o e).1, fun b hb => ?_, w'⟩
        · exact (wipe_some (hw8 ▸ e)).1
        · obtain ⟨o, e, _⟩ := T.obj _ _ st7 b hb
          exact (held b hb o e).2
      cases b with
      | false =>
        simp only [Bool.false_eq_true, if_false] at q9 ⊢
        exact over I9 q9
      | true =>
        simp only [if_true] at q9 ⊢
        refine wpAny_mono (pe.run _ s9 σ8 H9 _ (I9.wish _) q9) (fun z s10 hr10 => ?_) (err (Q' := fun _ _ => True))
        obtain ⟨yv, H10, I10, r10, acc, hD10, hz10, nx⟩ := hr10
        exact app_ok (X := X.blk s3 H3 scope ce fp) I10.unwish hD10 hz10 r10 fun s11 I11 => over I11 nx
  exact codeAny_compStart_list loop (T.self X.A 0 _ _ _ st4 loop)
/-- as a value -/
theorem pe_lcX {elt tg iter : Expr} {ifs : List Expr} {scope : Scope} {own : List (Str × Nat)} {pos : Pos} {wi : TI} {g : TG} {tt : L2.St → TT} {te : L2.St → TE} (hc : X.calm = true) (hN : X.N.Nodup) (tk : Tk X W) (fr : FrOk X) (hi : PI X tg iter wi) (ok : BlkOk X.N X.env.scope scope own)
    (hg : ∀ (s : Shared) (H : Hp) (C : Addr) (cl : List (Str × Addr)) (fp : List Addr), PG (X.blk s H scope (compEnvC scope cl C X.env) fp) tg g)
    (ht : ∀ (σ : L2.St) (s : Shared) (H : Hp) (C : Addr) (cl : List (Str × Addr)) (fp : List Addr), PTs (blkX X W σ s H scope (compEnvC scope cl C X.env) fp) ifs (tt σ))
    (he : ∀ (σ : L2.St) (s : Shared) (H : Hp) (C : Addr) (cl : List (Str × Addr)) (fp : List Addr), PE (blkX X W σ s H scope (compEnvC scope cl C X.env) fp) elt (te σ)) (hs : ∀ x, foldedSetIterable iter X.env x = pure x) :
    PE X (.ListComp elt [⟨tg, iter, ifs, 0⟩] scope pos) (fun σ H Q => tLc wi g (tt σ) (te σ) (own.map (·.2)) σ H Q) := by
  refine ⟨fun pins s σ H Q I h => ?_⟩
  rw [eval_ListComp]
  refine lc_run hc hN tk fr I hi ok hg (ht σ) (he σ) hs h fun D C s' m H' I' q hn f => ⟨m, hn, fun h'' sb => ?_⟩
  obtain ⟨f0, f1, f2, f3, f4, f5⟩ := f
  exact ⟨.ref D, H', I'.turned (t' := s'.toks) (fun b o hb e => (sb.2 b hb).trans e) f0 f1 f3 f4 f5, rfl, q⟩
/-- name = [..] on one line, the name a local -/
theorem ps_setLcX {i : Nat} {y : Str} {py : Pos} {elt tg iter : Expr} {ifs : List Expr} {scope : Scope} {own : List (Str × Nat)} {pos spos : Pos} {wi : TI} {g : TG} {tt : L2.St → TT} {te : L2.St → TE} (hc : X.calm = true) (hN : X.N.Nodup) (tk : Tk X W) (fr : FrOk X) (hy : X.N[i]? = some y) (hyl : X.env.scope.names.lookup y = some .local)
    (hsw : swapsWith (.ListComp elt [⟨tg, iter, ifs, 0⟩] scope pos) (some (.Name y py)) spos.line X.env = pure true) (hi : PI X tg iter wi) (ok : BlkOk X.N X.env.scope scope own)
    (hg : ∀ (s : Shared) (H : Hp) (C : Addr) (cl : List (Str × Addr)) (fp : List Addr), PG (X.blk s H scope (compEnvC scope cl C X.env) fp) tg g)
    (ht : ∀ (σ : L2.St) (s : Shared) (H : Hp) (C : Addr) (cl : List (Str × Addr)) (fp : List Addr), PTs (blkX X W σ s H scope (compEnvC scope cl C X.env) fp) ifs (tt σ))
    (he : ∀ (σ : L2.St) (s : Shared) (H : Hp) (C : Addr) (cl : List (Str × Addr)) (fp : List Addr), PE (blkX X W σ s H scope (compEnvC scope cl C X.env) fp) elt (te σ)) (hs : ∀ x, foldedSetIterable iter X.env x = pure x) :
    PS X (.Assign [.Name y py] (.ListComp elt [⟨tg, iter, ifs, 0⟩] scope pos) spos) (tAsg (fun σ H Q => tLc wi g (tt σ) (te σ) (own.map (·.2)) σ H Q) (gName i)) := by
  refine ⟨fun pins s σ H D I h => ?_⟩
  rw [exec_Assign_Name_used _ _ _ _ hsw]
  refine wpAny_bind (wpAny_standAt (wpAny_bind ?_))
  show wpAny _ X.A (do let _ ← comprehension (.ListComp elt [⟨tg, iter, ifs, 0⟩] scope pos) scope X.env (firstIterPos [⟨tg, iter, ifs, 0⟩] pos) (newList []) false (eval iter X.env) (some (assign (.Name y py) X.env))) _ _ s
  have h : tLc wi g (tt σ) (te σ) (own.map (·.2)) σ H (fun x H1 => gName i x σ H1 D.nx) := h
  refine wpAny_bind (thn (lc_run (Qf := fun _ s' => SP X pins D .next s') hc hN tk fr I hi ok hg (ht σ) (he σ) hs h fun L C s' m H' I' q hn f => ?_) fun _ s' hq => wpAny_pure (wpAny_pure hq))
  show wpAny _ _ (assign (.Name y py) X.env (.ref L)) _ _ _
  refine wpAny_assign_Name (store_ok2 (v := V.ref L) I' hN hy (.inl hyl) rfl (fun s2 I2 ⟨a, sb, ha⟩ => ?_) (.inr hyl))
  obtain ⟨f0, f1, f2, f3, f4, f5⟩ := f
  have haC : C ≠ a := by
    rcases ha with z | z
    · rw [z]; exact f1
    · exact fun e => f4 y a z e.symm
  refine ⟨m, hn.sameBut sb haC, fun h3 sb3 => ?_⟩
  exact ⟨_, H', I2.turned (t' := s2.toks) (fun b o hb e => (sb3.2 b hb).trans e) f0 f1 f3 f4 f5, q⟩
end
end PL
namespace PL
open PySem PySem.Spec PyProof.Rows L2
/-! ### except (A, B): -/
/-- what such a clause wishes of the body's exceptions -/
def wTwo (K : PySem.W.Frag) (c1 c2 : Value) (ts : TS) (Wout : WX) (D : Ends) : WX := fun cls d σ H =>
  ∃ b, PySem.W.exmAny K cls [c1, c2] = some b ∧ (b = true → ts D σ H) ∧ (b = false → Wout cls d σ H)
theorem flying_grow {B h h' : Heap} {l : List PySem.Env} {a : Addr} {Z : Obj → Prop} (k : ∀ b o, h.get? b = some o → h'.get? b = some o) (x : HandSPX.FlyingZ B l a Z h) : HandSPX.FlyingZ B l a Z h' := by
  obtain ⟨q1, q2, q3, oe, vs, T, oT, ts, e1, e2, e3, e4, e5, e6, e7, e8⟩ := x
  exact ⟨fun b o e => k _ _ (q1 b o e), q2, Heap.FunFrames.of_keeps (fun b o e _ => ⟨o, k _ _ e, rfl⟩) q3, oe, vs, T, oT, ts, k _ _ e1, e2, e3, e4, e5, e6, k _ _ e7, e8⟩
section
variable {X : Cx} {x1 x2 : Str} {c1 c2 : Value} {body suite : List Stmt} {b₀ : Stmt} {np1 np2 tpos pos pos' : Pos} {tk0 : Nat} {tb : WX → TS} {ts : TS} {Wout : WX}
theorem ps_try_two (hs : X.stack = X.env :: X.outer) (hf : X.env.frame = some X.env.locals) (n1 : Names X x1 c1) (n2 : Names X x2 c2) (tk : Takes X Wout)
    (hb : ∀ (W : WX) (pn : List (Addr × Obj)) (xe : Value → Shared → Prop), Takes (X.tr pn xe) W → PassesOwn (model X.prog X.w) X.A X.env xe → PSs (X.tr pn xe) body (tb W))
    (hsu : ∀ (a : Addr) (oe : Obj) (pn : List (Addr × Obj)), PSs (X.suite a ((a, oe) :: pn)) (b₀ :: suite) ts) :
    PS X (.Try body [.ExceptHandler (some (.Tuple [.Name x1 np1, .Name x2 np2] tk0 tpos)) none (b₀ :: suite) pos'] [] [] pos) (fun D σ H => tb (wTwo X.K c1 c2 ts Wout D) D σ H) := by
  refine ⟨fun pins s σ H D I h => ?_⟩
  have ok := I.ok
  have hfr : X.A.frames = some (X.env :: X.outer) := by rw [ok.frames, hs]
  refine wpAny_Try_except ?_
  refine wpAny_mono ((hb (wTwo X.K c1 c2 ts Wout D) (X.pn ++ pins) (fun e s₁ => wpAny (model X.prog X.w) X.A (noteFrame e X.env) (fun _ s₂ => wpAny (model X.prog X.w) X.A (setFlight e none) (fun _ s₃ =>
    wpAny (model X.prog X.w) X.A (handleBy e X.env [.ExceptHandler (some (.Tuple [.Name x1 np1, .Name x2 np2] tk0 tpos)) none (b₀ :: suite) pos']) (SP X pins D) X.xe s₃) X.xe s₂) X.xe s₁) (fun u s' xx => ?_) PassesOwn.looking).run [] s σ H D (I.toTry _) h) (fun f s1 hsp => ?_) (fun e s1 he => he)
  · obtain ⟨a, B, sI, pins', σ', H', cls, d, rfl, J', nb, up, sky, na, os, ag, b, hb1, hyes, hno⟩ := xx
    have J : Inv X pins σ' H' sI := J'.ofTry ok
    have sky : Sky B (X.env :: X.outer) a (Zc cls d) X.env.locals s'.heap := by
      have z : Sky B X.stack a (Zc cls d) X.env.locals s'.heap := sky
      rwa [hs] at z
    show wpAny (model X.prog X.w) X.A (noteFrame (.ref a) X.env) _ _ _
    refine Sky.land Zc.steady hfr hf sky fun h3 fl3 up3 => ?_
    have J3 : Inv X pins σ' H' { s' with heap := h3 } := J.landed nb fl3.1 (up.trans up3) os ag
    have apart : ∀ {h : Heap} {o : Obj} {vs : Array Value}, h.FunFrames B (X.env :: X.outer) → h.get? a = some o → o.data = .fields vs → a ∉ frs (X.env :: X.outer) := fun {h o vs} ff e dd hm => by
      obtain ⟨_, o', e', hnf⟩ := ff.mem hm
      rw [e] at e'
      cases e'
      exact hnf _ dd
    obtain ⟨oe3, vs3, he3, hz3, hd3⟩ := fl3.there
    have nfr := apart fl3.2.2.1 he3 hd3
    have nL : a ≠ X.env.locals := fun z => nfr (List.mem_filterMap.mpr ⟨X.env, List.mem_cons_self, by rw [hf, z]⟩)
    have nF : a ∉ X.fs := fun hm => let ⟨e, he, q⟩ := List.mem_filterMap.mp hm; nfr (List.mem_filterMap.mpr ⟨e, List.mem_cons_of_mem _ he, q⟩)
    have S3 := J3.suite he3 hd3 na nL nF
    refine wpAny_handleBy_cons (codeAny_handlers_test ?_) (by intro q; cases q)
    have one : ∀ {x : Str} {c : Value} {np : Pos} {Q : Value → Shared → Prop} {E : Value → Shared → Prop}, Names X x c → Q c { s' with heap := h3 } → wpAny (model X.prog X.w) (X.A.mark (some (.ref a))) (eval (.Name x np) X.env) Q E { s' with heap := h3 } := fun {x c np Q E} hc q => by
      obtain ⟨hg, hdbg, hm | ⟨hm, hv, hnn⟩⟩ := hc
      · exact ld_glob (X := X.suite a ((a, oe3) :: (X.pn ++ pins))) S3 hg hm q hdbg
      · exact ld_blt (X := X.suite a ((a, oe3) :: (X.pn ++ pins))) S3 hg hm hv q hnn hdbg
    have kp : ∀ q o, h3.get? q = some o → (h3.push { cls := .type "tuple", data := .seq [c1, c2].toArray }).get? q = some o := fun _ _ z => Heap.get?_push_of_some _ z
    generalize hh5 : h3.push { cls := .type "tuple", data := .seq [c1, c2].toArray } = h5 at kp
    have fl5 : HandSPX.FlyingZ B (X.env :: X.outer) a (Zc cls d) h5 := flying_grow kp fl3
    have up5 : s'.heap.UpToSlots h5 := up3.trans (Heap.UpToSlots.of_keeps kp)
    have LT : PySem.W.Looks (model X.prog X.w) h5 (typeOf (.ref a)) cls := fun A Q E s k q => wpAny_typeOf_ref (k _ _ (kp _ _ he3)) (by rw [hz3.1]; exact q)
    have LM := PySem.W.exm_tup2 (M := model X.prog X.w) (tp := h3.objs.size) (J3.kIn.keeps kp) LT (by rw [← hh5]; exact Heap.get?_push_size h3 rfl) hb1
    refine wpAny_Tuple ?_
    refine wpAny_items_cons (one n1 ?_)
    refine wpAny_items_cons (one n2 ?_)
    refine wpAny_items_nil ⟨by size_fits, ?_⟩
    dsimp only
    rw [hh5]
    refine LM.here ?_
    cases b with
    | true =>
      refine codeAny_handlers_suite ?_
      refine HandSPX.lands_againZ fl5 fun h4 fl4 up4 => ?_
      have J4 : Inv X pins σ' H' { s' with heap := h4 } := J.landed nb fl4.1 ((up.trans up5).trans up4) os ag
      obtain ⟨oe4, vs4, he4, hz4, hd4⟩ := fl4.there
      have S4 := J4.suite he4 hd4 na nL nF
      refine wpAny_mono ((hsu a oe4 (X.pn ++ pins)).run [] _ _ H' _ S4 (hyes rfl)) (fun f s6 hsp => ?_) (fun _ _ z => False.elim z)
      cases f with
      | ret u => let ⟨v6, σ6, H6, S6, r6, q6⟩ := hsp; exact ⟨v6, σ6, H6, S6.unsuite ok, r6, q6⟩
      | next => let ⟨σ6, H6, S6, q6⟩ := hsp; exact ⟨σ6, H6, S6.unsuite ok, q6⟩
      | brk => let ⟨σ6, H6, S6, q6⟩ := hsp; exact ⟨σ6, H6, S6.unsuite ok, q6⟩
      | cont => let ⟨σ6, H6, S6, q6⟩ := hsp; exact ⟨σ6, H6, S6.unsuite ok, q6⟩
    | false =>
      show wpAny _ X.A (handleBy (.ref a) X.env []) _ _ _
      refine wpAny_handleBy_nil ?_
      obtain ⟨k1, k2, k3, oe, vs, T, oT, ts', he, hz, hd, h1, hr⟩ := id fl5
      unfold PySem.passOn
      refine wpAny_bind (wpAny_field he hd h1 ?_)
      rw [if_neg (show ¬ ((Value.ref T == Value.none) = true) from by simp)]
      have fin : wpAny (model X.prog X.w) X.A (setFlight (.ref a) X.env.frame) (fun _ s4 => wpAny (model X.prog X.w) X.A (throw (.ref a) : Sem Flow) (SP X pins D) X.xe s4) X.xe { s' with heap := h5 } := by
        rw [hf]
        refine HandSPX.setFlight_upZ fl5 fun h4 hh4 up4 => wpAny_throw (tk _ _ ?_)
        exact ⟨a, B, sI, pins, σ', H', cls, d, rfl, J, nb, (up.trans up5).trans up4, .inr (.inr (hs ▸ hh4)), na, os, ag, hno rfl⟩
      first
        | exact wpAny_bind (wpAny_pure (wpAny_bind fin))
        | exact wpAny_bind fin
  · cases f with
    | next => let ⟨σ', H', J', q⟩ := hsp; exact wpAny_execs_nil ⟨σ', H', J'.ofTry ok, q⟩
    | brk => let ⟨σ', H', J', q⟩ := hsp; exact ⟨σ', H', J'.ofTry ok, q⟩
    | cont => let ⟨σ', H', J', q⟩ := hsp; exact ⟨σ', H', J'.ofTry ok, q⟩
    | ret u => let ⟨v, σ', H', J', r, q⟩ := hsp; exact ⟨v, σ', H', J'.ofTry ok, r, q⟩
end
end PL
set_option maxHeartbeats 4000000
namespace PL
open PySem PySem.Spec PyProof.Rows L2
section
variable {X : Cx} {H : Hp}
/-! ### equal dicts of plain data -/
def rEqK (K : PySem.W.Frag) (b : Bool) : R2 := fun x y H Q => ∃ a c ks ls, x = .ref a ∧ y = .ref c ∧ H a = some (.dK ks) ∧ H c = some (.dK ls) ∧ ks.length = ls.length ∧
  (∀ p ∈ ks, ∃ u d, valV ls p.1 = some u ∧ Dp K H p.2 d ∧ Dp K H u d ∧ SeqAt.shaped d = true) ∧ Q (.bl b) H
theorem hitsK {pins : List (Addr × Obj)} {σ : L2.St} {s : Shared} {A : Around} (I : Inv X pins σ H s) (hu : A.in1.units + 64 < cLine) {ls : List (Key × V)} {vb : List (Key × Value)} (rb : KV ls vb) {ks : List (Key × V)} {va : List (Key × Value)} (ra : KV ks va) :
    (∀ p ∈ ks, ∃ u d, valV ls p.1 = some u ∧ Dp X.K H p.2 d ∧ Dp X.K H u d ∧ SeqAt.shaped d = true) → PySem.W.KeqHits A.in1 s vb va true := by
  unfold KV at ra
  induction ra with
  | nil => exact fun _ => .nil
  | @cons p q ps qs h t k =>
    intro hp
    obtain ⟨key, v⟩ := q
    obtain ⟨h1, h2⟩ := h
    obtain ⟨u, d, e, d1, d2, sd⟩ := hp p List.mem_cons_self
    have rr : RelO (some u) (valueAt vb p.1) := e ▸ rb.val p.1
    obtain ⟨y, hy, ry⟩ := rr.some_of
    obtain ⟨as, r1⟩ := Dp.reads I d p.2 v d1 h2
    obtain ⟨bs, r2⟩ := Dp.reads I d u y d2 ry
    have at1 := PySem.W.keq_at (A := A) r1 r2 sd sd hu
    rw [SeqAt.eqv_refl d (SeqAt.canLay_of_shaped sd)] at at1
    have hy : valueAt vb key = some y := by
      have h1 : p.1 = key := h1
      rw [← h1]; exact hy
    exact .hit hy at1 (k fun p' hm => hp p' (List.mem_cons_of_mem _ hm))
theorem op_eqK (hu : X.A.in1.units + 64 < cLine) (hu0 : X.A.units < cLine) : OpR X (compareOp .Eq) (rEqK X.K true) := by
  intro pins s σ H x y v u Q I rx ry h
  obtain ⟨a, b, ks, ls, rfl, rfl, ea, eb, hlen, hp, q⟩ := h
  obtain rfl : v = Value.ref a := rx
  obtain rfl : u = Value.ref b := ry
  obtain ⟨_, ya, va, ra, da⟩ := (show ObjOk X.prog X.w H s.heap a (.dK ks) from I.hok a _ ea)
  obtain ⟨_, yb, vb, rb, db⟩ := (show ObjOk X.prog X.w H s.heap b (.dK ls) from I.hok b _ eb)
  have hl : va.length = vb.length := by rw [← ra.length, ← rb.length]; exact hlen
  refine PySem.W.keq_eq (knd := mixKind X.prog X.w) (r := true) ya yb da db hu0 (fun _ => hitsK I hu rb ra hp) (fin_bl I q ?_)
  simp [hl]
theorem op_neK (hu : X.A.in1.units + 64 < cLine) (hu0 : X.A.units < cLine) : OpR X (compareOp .NotEq) (rEqK X.K false) := by
  intro pins s σ H x y v u Q I rx ry h
  obtain ⟨a, b, ks, ls, rfl, rfl, ea, eb, hlen, hp, q⟩ := h
  obtain rfl : v = Value.ref a := rx
  obtain rfl : u = Value.ref b := ry
  obtain ⟨_, ya, va, ra, da⟩ := (show ObjOk X.prog X.w H s.heap a (.dK ks) from I.hok a _ ea)
  obtain ⟨_, yb, vb, rb, db⟩ := (show ObjOk X.prog X.w H s.heap b (.dK ls) from I.hok b _ eb)
  have hl : va.length = vb.length := by rw [← ra.length, ← rb.length]; exact hlen
  refine PySem.W.keq_ne (knd := mixKind X.prog X.w) (r := true) ya yb da db hu0 (fun _ => hitsK I hu rb ra hp) (fin_bl I q ?_)
  simp [hl]
/-! ### a tuple once, or never -/
theorem tuple_mul1 (l : Addr) (items : Array Value) (n : Nat) (dd : Option Addr) (sl : Array (Option Value)) (u : Tok) :
    Meets (Builtin.«tuple.__mul__» ⟨[.ref l, .int 1 u], []⟩) (fun _ R s => s.heap.get? l = some { cls := .type "tuple", dict := dd, data := .seq items n, slots := sl } ∧ R (.ok (.ret (Value.ref l))) s) :=
  .of_wp fun prog w A R s h => by
    obtain ⟨hp, g, d, tk, os⟩ := s
    obtain ⟨hl, h⟩ := h
    have f1 := AutoSeq1.idx_int
    wp_walk using wpAny_loadPart' hl
    repeat (first
      | (refine wpAny_ite_false (by decide) ?_; wp_walk using wpAny_loadPart' hl)
      | (refine wpAny_ite_true (by simp) ?_; wp_walk using wpAny_loadPart' hl))
    exact ⟨_, rfl, h⟩
theorem tuple_mul0 (l : Addr) (items : Array Value) (n : Nat) (dd : Option Addr) (sl : Array (Option Value)) (x : Int) (u : Tok) (c0 : (decide (x < -(2 ^ 63)) || decide (x ≥ 2 ^ 63)) = false) (c1 : (items.isEmpty || x == 1) = false) (c2 : (decide (x ≤ 0) || items.isEmpty) = true) :
    Meets (Builtin.«tuple.__mul__» ⟨[.ref l, .int x u], []⟩) (fun _ R s => s.heap.get? l = some { cls := .type "tuple", dict := dd, data := .seq items n, slots := sl } ∧
      R (.ok (.ret (Value.ref s.heap.objs.size))) { s with heap := s.heap.push { cls := Value.type "tuple", data := Data.seq #[] }, toks := s.toks }) :=
  .of_wp fun prog w A R s h => by
    obtain ⟨hp, g, d, tk, os⟩ := s
    obtain ⟨hl, h⟩ := h
    have f1 := AutoSeq1.idx_int
    wp_walk using wpAny_loadPart' hl
    repeat (first
      | (refine wpAny_ite_false (decide_eq_false (by rw [c0]; exact Bool.false_ne_true)) ?_; wp_walk using wpAny_loadPart' hl)
      | (refine wpAny_ite_false (decide_eq_false (by rw [c1]; exact Bool.false_ne_true)) ?_; wp_walk using wpAny_loadPart' hl)
      | (refine wpAny_ite_true (by simp only [c2]; rfl) ?_; wp_walk using wpAny_loadPart' hl))
    exact ⟨_, rfl, h⟩
/-- t * k, k no more than one, t not empty -/
def rRep01 (K : PySem.W.Frag) : R2 := fun x y H Q => ∃ l k xs, x = .ref l ∧ y = .int k ∧ SqT K H l xs ∧ xs ≠ [] ∧ ((k = 1 ∧ Q (.ref l) H) ∨ (-(2 ^ 63) ≤ k ∧ k ≤ 0 ∧ ∀ p, H p = none → Q (.ref p) (upd H p (.tup []))))
theorem op_rep01 : OpR X (binaryOp .Mult) (rRep01 X.K) := by
  intro pins s σ H x y v u Q I rx ry h
  obtain ⟨l, k, xs, rfl, rfl, hT, hne, q⟩ := h
  cases rx
  obtain ⟨t, rfl⟩ := ry
  obtain ⟨its, r, ⟨⟨cls, dd, data, sl⟩, ho, hc, n, hd⟩, hs⟩ := I.tuple hT
  simp only at hc hd
  subst hc hd
  have hle : its.length = xs.length := r.length.symm
  have hi : its.toArray.isEmpty = false := by
    cases its with
    | nil => exact absurd (List.eq_nil_of_length_eq_zero hle.symm) hne
    | cons a b => rfl
  rcases q with ⟨rfl, q⟩ | ⟨k1, k2, q⟩
  · refine wpAny_binaryOp_repeat_ref (T := "tuple") (U := "int") (by decide) ⟨_, ho, rfl⟩ (fun s' => typeIs_int s' 1 t) noFill_tuple_mul F.fills_int_mul F.slot_int_rmul repeat_tuple F.slot_int_index.lookup
      (call_meets F.slot_int_rmul (typeIs_int s 1 t) F.entry_int_rmul (F.args_int_rmul_2 _ _) (int_rmul_tuple 1 t l its.toArray n dd sl)
        ⟨ho, rfl, ⟨_, ho, rfl⟩, call_meets F.slot_tuple_mul ⟨_, ho, rfl⟩ F.entry_tuple_mul (F.args_tuple_mul_2 _ _) (tuple_mul1 l its.toArray n dd sl t) ⟨ho, ?_⟩⟩)
    exact ⟨.ref l, H, I, rfl, q⟩
  · refine wpAny_binaryOp_repeat_ref (T := "tuple") (U := "int") (by decide) ⟨_, ho, rfl⟩ (fun s' => typeIs_int s' k t) noFill_tuple_mul F.fills_int_mul F.slot_int_rmul repeat_tuple F.slot_int_index.lookup
      (call_meets F.slot_int_rmul (typeIs_int s k t) F.entry_int_rmul (F.args_int_rmul_2 _ _) (int_rmul_tuple k t l its.toArray n dd sl)
        ⟨ho, rfl, ⟨_, ho, rfl⟩, call_meets F.slot_tuple_mul ⟨_, ho, rfl⟩ F.entry_tuple_mul (F.args_tuple_mul_2 _ _) (tuple_mul0 l its.toArray n dd sl k t
          (by rw [decide_eq_false (by omega), decide_eq_false (by omega)]; rfl) (by rw [hi, Bool.false_or]; exact beq_eq_false_iff_ne.mpr (by omega)) (by rw [decide_eq_true k2]; rfl)) ⟨ho, ?_⟩⟩)
    refine ⟨.ref s.heap.objs.size, _, I.laid (t' := s.toks) (o := .tup []) (fun b ob q => Heap.get?_push_of_some _ q) (Nat.le_refl _) ?_, rfl, q _ (I.hok.fresh (Nat.le_refl _))⟩
    exact ⟨Nat.zero_le _, [], .nil, IsTup.new _ _⟩
/-! ### the sum of a tuple of whole numbers -/
def rSumT (K : PySem.W.Frag) : List V → Hp → VK → Prop := fun vs H Q => ∃ (a : Addr) (ns : List Int), vs = [V.ref a] ∧ SqT K H a (ns.map V.int) ∧ Q (.int ns.sum) H
theorem cr_sumT (hc : X.calm = true) : CallR X (.builtin "sum") (rSumT X.K) := by
  intro pins s σ H vs us Q I r h
  obtain ⟨a, ns, rfl, hs, q⟩ := h
  obtain ⟨its, rv, hl, _⟩ := I.tuple hs
  rw [Vals.ref1 r]
  obtain ⟨xs, e⟩ := rv.ints.allInts.items
  have hn : numsOf (intItems xs).toList = ns := by rw [← e]; exact rv.ints.numsOf
  rw [nums_intItems] at hn
  have hl : s.heap.IsTuple a (intItems xs) := by rw [← e]; exact hl
  have lt : a < s.heap.objs.size := by obtain ⟨_, z, _⟩ := hl; exact Heap.lt_size z
  refine call_sum_walkG (wpAny_pyIter_tuple hl ?_)
  refine ⟨_, _, _, _, _, _, numAt xs, rfl, Walks.tuple (A := X.A.in1) (I.ok.hd hc) s.heap.objs.size a (Nat.ne_of_lt lt) (intItems xs), ⟨⟨_, Heap.get?_push_size _ rfl, rfl, rfl⟩, ?_⟩, fun b hb => ?_, fun _ _ => intItems_at, fun h' tk t' hk => ?_⟩
  · obtain ⟨o, z, rest⟩ := hl
    exact ⟨o, Heap.get?_push_of_some _ z, rest⟩
  · show b < (s.heap.push _).objs.size
    rw [Heap.size_push]
    rcases List.mem_cons.mp hb with rfl | hb
    · exact Nat.lt_succ_self _
    · rw [List.mem_singleton.mp hb]
      exact Nat.lt_succ_of_lt lt
  · have ex : preSum (numAt xs) (intItems xs).size = ns.sum := by
      rw [preSum_eq, List.take_of_length_le (by simp [intItems]), hn]
    rw [ex]
    refine ⟨.int ns.sum, H, I.kept (t' := tk) fun b o z => hk b o (fun hm => ?_) (Heap.get?_push_of_some _ z), ⟨_, rfl⟩, q⟩
    rw [List.mem_singleton.mp hm] at z
    exact absurd (Heap.lt_size z) (Nat.lt_irrefl _)
/-! ### list(range(..)) -/
/-- an expression that makes a range -/
def PRc (X : Cx) (e : Expr) (t : L2.St → Hp → (Int → Int → Int → Hp → Prop) → Prop) : Prop :=
  ∀ (pins : List (Addr × Obj)) (s : Shared) (σ : L2.St) (H : Hp) (Q : Int → Int → Int → Hp → Prop), Inv X pins σ H s → t σ H Q →
    wpAny (model X.prog X.w) X.A (eval e X.env) (fun x s' => ∃ r lo hi c t u v H', x = .ref r ∧ IsRange s'.heap r lo hi c t u v ∧ Inv X pins σ H' s' ∧ Q lo hi c H') X.xe s
/-- the range that these arguments tell -/
def RgA (vs : List V) (lo hi c : Int) : Prop := (vs = [.int hi] ∧ lo = 0 ∧ c = 1) ∨ (vs = [.int lo, .int hi] ∧ c = 1) ∨ (vs = [.int lo, .int hi, .int c] ∧ c ≠ 0 ∧ c.natAbs < 1073741824)
def tRc (ta : TA) : L2.St → Hp → (Int → Int → Int → Hp → Prop) → Prop := fun σ H Q => ta σ H fun vs H1 => ∃ lo hi c, RgA vs lo hi c ∧ Q lo hi c H1
theorem prc {a : Expr} {es : List Expr} {ta : TA} {p pos : Pos} (hg : Gl X "range") (hm : X.mg "range" = none) (ha : PA X (a :: es) ta) (hs : starEach (a :: es) X.env = (false, eval a X.env) :: starEach es X.env) (hpl : (backTo pos (starEach es X.env)).any (·.1) = false) :
    PRc X (.Call (.Name "range" p) (a :: es) [] pos) (tRc ta) := by
  intro pins s σ H Q I h
  refine Call_ (ld_blt I hg hm boot_range (PyProof.Rows.callWith_type1 (thn (ha.run pos pins s σ H _ I h) fun us s1 ⟨vs, H1, I1, r1, q1⟩ => ?_) hs hpl))
  obtain ⟨lo, hi, c, z, q⟩ := q1
  rcases z with ⟨rfl, rfl, rfl⟩ | ⟨rfl, rfl⟩ | ⟨rfl, c0, c1⟩
  · obtain ⟨u, rfl, t, rfl⟩ := vals1 r1
    exact call_range_1 ⟨_, 0, hi, 1, _, _, _, H1, rfl, IsRange.new _ _ _ _ _ _ _, I1.kept fun b u e => Heap.get?_push_of_some _ e, q⟩
  · obtain ⟨u1, u2, rfl, ⟨t, rfl⟩, ⟨t', rfl⟩⟩ := vals2 r1
    exact call_range_2 ⟨_, lo, hi, 1, _, _, _, H1, rfl, IsRange.new _ _ _ _ _ _ _, I1.kept fun b u e => Heap.get?_push_of_some _ e, q⟩
  · cases r1 with | cons g1 r1 => cases r1 with | cons g2 r1 => cases r1 with | cons g3 r1 =>
    cases r1
    obtain ⟨t, rfl⟩ := g1
    obtain ⟨t', rfl⟩ := g2
    obtain ⟨t'', rfl⟩ := g3
    exact call_range_3 c0 ⟨_, lo, hi, c, _, _, _, H1, rfl, IsRange.new _ _ _ _ _ _ _, I1.kept fun b u e => Heap.get?_push_of_some _ e, q⟩ (.inl (PyProof.noPylong_small c1))
def tLstRc (te : L2.St → Hp → (Int → Int → Int → Hp → Prop) → Prop) : TE := fun σ H Q => te σ H fun lo hi c H1 => ∃ n : Nat, Builtin.Range.small lo hi c = true ∧ Builtin.Range.rangeSize lo hi c = n ∧ n ≤ 2 ^ 24 ∧ ∀ q, H1 q = none → Q (.ref q) (upd H1 q (.lst ((List.range n).map fun (i : Nat) => V.int (lo + i * c))))
theorem pe_listRc {e : Expr} {te : L2.St → Hp → (Int → Int → Int → Hp → Prop) → Prop} {p pos : Pos} (hc : X.calm = true) (hg : Gl X "list") (hm : X.mg "list" = none) (he : PRc X e te) (na : starEach [e] X.env = (false, eval e X.env) :: starEach [] X.env) : PE X (.Call (.Name "list" p) [e] [] pos) (tLstRc te) := by
  refine ⟨fun pins s σ H Q I h => ?_⟩
  refine Call_ (ld_blt I hg hm (by decide +kernel : bootBuiltins "list" = some (.type "list")) (PyProof.Rows.callWith_type1 (args_cons (thn (he pins s σ H _ I h) fun x s1 ⟨r, lo, hi, c, t, u, v, H1, ex, hr, I1, n, ok, hn, hz, q⟩ => args_nil ?_) na) na))
  subst ex
  refine call_list_range (n := n) (I1.ok.hd hc) hr ok hn hz fun h' tk acc c' hk e' hi => ?_
  have vs : Vals ((List.range n).map fun (i : Nat) => V.int (lo + i * c)) acc.toList := by
    have e : acc.toList.length = n := by rw [Array.length_toList]; exact hi.1
    rw [← e]
    refine vals_of_get acc.toList _ fun j u hj => ?_
    obtain ⟨t, rfl⟩ := hi.2 j u (by rw [← hj, Array.getElem?_toList])
    exact ⟨t, rfl⟩
  refine ⟨.ref s1.heap.objs.size, upd H1 s1.heap.objs.size _, I1.laid hk (Nat.le_refl _) (show ObjOk X.prog X.w _ _ _ (.lst ((List.range n).map fun (i : Nat) => V.int (lo + i * c))) from ⟨?_, acc.toList, c', vs, ?_⟩), rfl, q _ (I1.hok.fresh (Nat.le_refl _))⟩
  · rw [List.length_map, List.length_range, sizeLine_eq]; omega
  · rw [Array.toArray_toList]; exact e'
end
end PL

set_option Elab.async false
set_option linter.all false
set_option maxRecDepth 100000
/-! PLA: a small evaluator over plain data: what a def computes, as a function. -/
namespace PL
open PySem

abbrev Ky := Sum Int Str
inductive D where
  | non | bl (b : Bool) | int (i : Int) | str (x : Str) | tup (xs : List D) | lst (xs : List D) | dct (kvs : List (Ky × D)) | ref (n : Nat) | scr (ns : List Int)
inductive Ob where
  | lst (xs : List D) | dct (kvs : List (Ky × D)) | dtt (kvs : List (List Ky × D)) | ins (c : Nat) (fs : List (Nat × D)) | lck (kvs : List (Ky × D))
abbrev Store := List Ob
abbrev Env := List (Option D)

inductive R (α : Type) where
  | ok (a : α) (S : Store) | ex (c : Nat) (S : Store) | bad
def R.bind {α β : Type} (r : R α) (f : α → Store → R β) : R β := match r with
  | .ok a S => f a S
  | .ex c S => .ex c S
  | .bad => .bad
@[simp] theorem R.bind_ok {α β : Type} (a : α) (S : Store) (f : α → Store → R β) : (R.ok a S).bind f = f a S := rfl
@[simp] theorem R.bind_ex {α β : Type} (c : Nat) (S : Store) (f : α → Store → R β) : (R.ex c S).bind f = .ex c S := rfl
@[simp] theorem R.bind_bad {α β : Type} (f : α → Store → R β) : (R.bad : R α).bind f = .bad := rfl
def R.of {α : Type} (o : Option α) (S : Store) : R α := match o with
  | some a => .ok a S
  | none => .bad
@[simp] theorem R.of_some {α : Type} (a : α) (S : Store) : R.of (some a) S = .ok a S := rfl
@[simp] theorem R.of_none {α : Type} (S : Store) : R.of (none : Option α) S = .bad := rfl
inductive RS where
  | nx (env : Env) (S : Store) | rt (d : D) (S : Store) | ex (c : Nat) (env : Env) (S : Store) | bad
def RS.andThen (r : RS) (f : Env → Store → RS) : RS := match r with
  | .nx env S => f env S
  | r => r
@[simp] theorem RS.andThen_nx (env : Env) (S : Store) (f) : (RS.nx env S).andThen f = f env S := rfl
@[simp] theorem RS.andThen_rt (d : D) (S : Store) (f) : (RS.rt d S).andThen f = .rt d S := rfl
@[simp] theorem RS.andThen_ex (c : Nat) (env : Env) (S : Store) (f) : (RS.ex c env S).andThen f = .ex c env S := rfl
@[simp] theorem RS.andThen_bad (f) : RS.bad.andThen f = .bad := rfl
/-- nothing is raised in an except suite -/
def RS.calm (r : RS) : RS := match r with
  | .ex _ _ _ => .bad
  | r => r
@[simp] theorem RS.calm_nx (env : Env) (S : Store) : (RS.nx env S).calm = .nx env S := rfl
@[simp] theorem RS.calm_rt (d : D) (S : Store) : (RS.rt d S).calm = .rt d S := rfl
/-- a value within a statement -/
def R.stm {α : Type} (r : R α) (env : Env) (f : α → Store → RS) : RS := match r with
  | .ok a S => f a S
  | .ex c S => .ex c env S
  | .bad => .bad
@[simp] theorem R.stm_ok {α : Type} (a : α) (S : Store) (env f) : (R.ok a S).stm env f = f a S := rfl
@[simp] theorem R.stm_ex {α : Type} (c : Nat) (S : Store) (env) (f : α → Store → RS) : (R.ex c S).stm env f = .ex c env S := rfl
@[simp] theorem R.stm_bad {α : Type} (env) (f : α → Store → RS) : (R.bad : R α).stm env f = .bad := rfl

inductive BOp where | add | sub | mul | mod | fdiv deriving DecidableEq
inductive COp where | eq | ne | lt | le | gt | ge | inn | nin | iss | nis deriving DecidableEq
inductive Bf where | len | all | any | sum | tuple | list | sorted | str | int | max | min deriving DecidableEq
inductive Bm where | append | split | join | partition | find | index | startswith | upper | pop | get | setdefault | count | popL deriving DecidableEq
inductive IK where | plain | rng1 | rng2 | rng3 | enum | zip | items | keys | keysR deriving DecidableEq
inductive Tg where | one (i : Nat) | many (is : List Nat)

inductive E where
  | var (i : Nat) | con (d : D) | glb (j : Nat)
  | bin (o : BOp) (a b : E) | cmp (o : COp) (a b : E) | chain (o o' : COp) (a b c : E) | isn (a : E) | ntn (a : E) | isb (a : E) (k : Bool) | nsb (a : E) (k : Bool)
  | neg (a : E) | nt (a : E) | and (a b : E) | or (a b : E) | ite (c a b : E) | isa (a : E) (t : Nat)
  | call (f : Nat) (as : E) | meth (c : Nat) (o : E) (m : Nat) (as : E) | mk (c : Nat) (as : E) | bf (f : Bf) (as : E) | bm (m : Bm) (o as : E)
  | ix (a i : E) | sl (a lo hi : E) | sl3 (a lo hi : E) (st : Int) | fld (c : Nat) (o : E) (f : Nat) | tup (as : E) | lst (as : E) | dict0 | dict (ks vs : E)
  | comp (k : IK) (src : E) (tg : Tg) (cond elt : E) | fstr (as : E) | fmt (e : E) | new (e : E)
  | nil | cons (a as : E) | emp | one (e : E) | val (e : E) | din (ng : Bool) (a b : E) | dix (a i : E) | lrng (k : IK) (as : E)
inductive T where
  | nil | asg (i : Nat) (e : E) (k : T) | asgT (is : List Nat) (e : E) (k : T) | exp (e : E) (k : T) | fldS (c : Nat) (o : E) (f : Nat) (e : E) (k : T) | setI (o i e : E) (k : T)
  | ret (e : E) | ifs (c : E) (a b k : T) | whl (c : E) (b k : T) | for_ (ik : IK) (src : E) (tg : Tg) (b k : T) | rais (c : Nat) | tr (b : T) (cs : List Nat) (h k : T) | tr2 (b : T) (c : Nat) (h : T) (c' : Nat) (h' k : T)

/-! ### values -/
def SZ : Nat := 16777216
mutual
def noRef : D → Bool
  | .tup xs => noRefs xs
  | .lst xs => noRefs xs
  | .dct kvs => noRefK kvs
  | .ref _ => false
  | _ => true
def noRefs : List D → Bool
  | [] => true
  | x :: xs => noRef x && noRefs xs
def noRefK : List (Ky × D) → Bool
  | [] => true
  | (_, x) :: xs => noRef x && noRefK xs
end
/-- a saying's truth, closed to the kernel -/
noncomputable def tst (p : Prop) : Bool := @decide p (Classical.propDecidable p)
theorem tst_iff {p : Prop} : tst p = true ↔ p := by unfold tst; exact @decide_eq_true_iff p (Classical.propDecidable p)
theorem tst_of {p : Prop} (h : p) : tst p = true := tst_iff.mpr h
noncomputable def small (i : Int) : Bool := tst (-(2 ^ 64) < i ∧ i < 2 ^ 64)
/-- the items of a list, frozen or in the store -/
def lstOf (d : D) (S : Store) : Option (List D) := match d with
  | .lst xs => some xs
  | .ref n => match S[n]? with
    | some (.lst xs) => some xs
    | _ => none
  | _ => none
def seqOf (d : D) (S : Store) : Option (List D) := match d with
  | .tup xs => some xs
  | .scr ns => some (ns.map .int)
  | d => lstOf d S
def dctOf (d : D) (S : Store) : Option (List (Ky × D)) := match d with
  | .dct xs => some xs
  | .ref n => match S[n]? with
    | some (.dct xs) => some xs
    | some (.lck xs) => some xs
    | _ => none
  | _ => none
def truthy (d : D) (S : Store) : Option Bool := match d with
  | .non => some false
  | .bl b => some b
  | .int i => some (i != 0)
  | .str x => if x.length ≤ SZ then some (x.length != 0) else none
  | .tup xs => some (!xs.isEmpty)
  | .lst xs => some (!xs.isEmpty)
  | .dct _ => none
  | .scr _ => none
  | .ref n => match S[n]? with
    | some (.lst xs) => some (!xs.isEmpty)
    | some (.dct xs) => some (!xs.isEmpty)
    | _ => none
def isNonD : D → Bool
  | .non => true
  | _ => false
def negD : D → Option D
  | .int i => some (.int (-i))
  | _ => none
def addD (x y : D) (S : Store) : Option D := match x, y with
  | .int i, .int j => some (.int (i + j))
  | .str a, .str b => if a.length + b.length ≤ SZ then some (.str (a ++ b)) else none
  | .tup a, .tup b => if a.length + b.length ≤ SZ then some (.tup (a ++ b)) else none
  | x, y => match lstOf x S, lstOf y S with
    | some a, some b => if a.length + b.length ≤ SZ then some (.lst (a ++ b)) else none
    | _, _ => none
def subD (x y : D) : Option D := match x, y with
  | .int i, .int j => some (.int (i - j))
  | _, _ => none
noncomputable def mulD (x y : D) (S : Store) : Option D := match x, y with
  | .int i, .int j => if small i || small j then some (.int (i * j)) else none
  | .tup a, .int k => if -1000 ≤ k ∧ k ≤ 1000 ∧ a.length ≤ 1000 ∧ a ≠ [] then some (.tup (List.replicate k.toNat a).flatten) else none
  | x, .int k => match lstOf x S with
    | some a => if 0 ≤ k ∧ k ≤ 1000 ∧ a.length ≤ 1000 then some (.lst (List.replicate k.toNat a).flatten) else none
    | none => none
  | _, _ => none
def modD (x y : D) : Option D := match x, y with
  | .int i, .int j => if 0 < j then some (.int (i % j)) else none
  | _, _ => none
def fdivD (x y : D) : Option D := match x, y with
  | .int i, .int j => if 0 < j ∧ j < 2 ^ 64 then some (.int (i / j)) else none
  | _, _ => none
noncomputable def bop (o : BOp) (x y : D) (S : Store) : Option D := match o with
  | .add => addD x y S
  | .sub => subD x y
  | .mul => mulD x y S
  | .mod => modD x y
  | .fdiv => fdivD x y
mutual
/-- plain data for the model's == -/
def pyT : D → PyData
  | .bl b => .bool b
  | .int i => .int i
  | .str x => .str x
  | .tup xs => .tuple (pyTs xs)
  | .lst xs => .list (pyTs xs)
  | _ => .none
def pyTs : List D → List PyData
  | [] => []
  | x :: xs => pyT x :: pyTs xs
end
mutual
/-- data at most n deep -/
def sh (n : Nat) : D → Bool
  | .non => true
  | .bl _ => true
  | .int _ => true
  | .str x => PyData.strOk x
  | .tup xs => match n with
    | 0 => false
    | m + 1 => shs m xs
  | .lst xs => match n with
    | 0 => false
    | m + 1 => shs m xs
  | _ => false
def shs (n : Nat) : List D → Bool
  | [] => true
  | x :: xs => sh n x && shs n xs
end
def eqv2 (x y : D) : Bool := PyData.eqv (pyT x) (pyT y)
/-- == of data: none where it isn't data -/
def eqD (x y : D) : Option Bool := match x, y with
  | .int i, .int j => some (decide (i = j))
  | .str i, .str j => some (decide (i = j))
  | .bl i, .bl j => some (decide (i = j))
  | x, y => if sh 8 x && sh 8 y then some (eqv2 x y) else none
/-- data for ==, lists of the store read -/
def frz1 (d : D) (S : Store) : D := match d with
  | .ref n => match S[n]? with
    | some (.lst xs) => .lst xs
    | _ => .ref n
  | d => d
def flatD : D → Bool
  | .non => true | .bl _ => true | .int _ => true | .str _ => true | _ => false
/-- x == y of flat things of one kind; of unlike kinds false; bools with ints aside -/
def flatEq (x y : D) : Option Bool := match x, y with
  | .int i, .int j => some (decide (i = j))
  | .str i, .str j => some (decide (i = j))
  | .bl i, .bl j => some (decide (i = j))
  | .non, .non => some true
  | .bl _, .int _ => none
  | .int _, .bl _ => none
  | .non, .int _ => some false | .non, .str _ => some false | .non, .bl _ => some false
  | .int _, .non => some false | .str _, .non => some false | .bl _, .non => some false
  | .int _, .str _ => some false | .str _, .int _ => some false | .bl _, .str _ => some false | .str _, .bl _ => some false
  | _, _ => none
def memF (x : D) : List D → Option Bool
  | [] => some false
  | y :: ys => match flatEq y x, memF x ys with
    | some a, some b => some (a || b)
    | _, _ => none
def keyOf : D → Option Ky
  | .int i => some (.inl i)
  | .str x => some (.inr x)
  | _ => none
def getK (kvs : List (Ky × D)) (k : Ky) : Option D := match kvs with
  | [] => none
  | (a, d) :: r => if a = k then some d else getK r k
def setK (kvs : List (Ky × D)) (k : Ky) (v : D) : List (Ky × D) := if (kvs.any fun e => decide (e.1 = k)) = true then kvs.map fun e => if e.1 = k then (e.1, v) else e else kvs ++ [(k, v)]
def delK (kvs : List (Ky × D)) (k : Ky) : List (Ky × D) := kvs.filter fun e => decide (e.1 ≠ k)
/-- sub in a text -/
def inS (a b : Str) : Bool := !(Builtin.Str.occurrences b a 0 b.length 1).isEmpty
def ordD (p : Int → Int → Bool) (x y : D) : Option Bool := match x, y with
  | .int i, .int j => some (p i j)
  | _, _ => none
def inD (x y : D) (S : Store) : Option Bool := match x, y with
  | .str a, .str b => some (inS a b)
  | x, y => match seqOf y S with
    | some xs => memF x xs
    | none => none
/-- k in d -/
def dinD (x y : D) (S : Store) : Option Bool := match dctOf y S with
  | some kvs => (keyOf x).map fun k => (getK kvs k).isSome
  | none => none
/-- d[k] -/
def dixD (y x : D) (S : Store) : Option D := match dctOf y S with
  | some kvs => (keyOf x).bind (getK kvs)
  | none => none
/-- a dict of the store -/
def dctR (d : D) (S : Store) : Option (List (Ky × D)) := match d with
  | .ref n => match S[n]? with
    | some (.dct xs) => some xs
    | _ => none
  | _ => none
/-- the same keys with the same plain data -/
noncomputable def dEq (a b : List (Ky × D)) : Bool := tst (a.length = b.length ∧ ∀ p ∈ a, getK b p.1 = some p.2 ∧ sh 8 p.2 = true)
noncomputable def cop (o : COp) (x y : D) (S : Store) : Option Bool := match o with
  | .lt => ordD (fun i j => decide (i < j)) x y
  | .le => ordD (fun i j => decide (i ≤ j)) x y
  | .gt => ordD (fun i j => decide (j < i)) x y
  | .ge => ordD (fun i j => decide (j ≤ i)) x y
  | .eq => match dctR x S, dctR y S with
    | some a, some b => if dEq a b then some true else none
    | _, _ => eqD (frz1 x S) (frz1 y S)
  | .ne => match dctR x S, dctR y S with
    | some a, some b => if dEq a b then some false else none
    | _, _ => (eqD (frz1 x S) (frz1 y S)).map not
  | .inn => if flatD x then inD x y S else none
  | .nin => if flatD x then (inD x y S).map not else none
  | .iss => match x, y with
    | .bl i, .bl j => some (decide (i = j))
    | _, _ => none
  | .nis => match x, y with
    | .bl i, .bl j => some (!decide (i = j))
    | _, _ => none
def isaD (t : Nat) (d : D) : Bool := match t, d with
  | 0, .int _ => true
  | 0, .bl _ => true
  | 1, .bl _ => true
  | 2, .str _ => true
  | 3, .tup _ => true
  | _, _ => false
def cutD {α : Type} (xs : List α) (lo hi : Option Int) : List α := (xs.drop (HT.sIx xs.length 0 lo)).take (HT.sIx xs.length xs.length hi - HT.sIx xs.length 0 lo)
def getD_ (x y : D) (S : Store) : Option D := match x, y with
  | .str z, .int i => if z.length ≤ SZ then (L2.atI z.cps.toList i).map fun c => .str ⟨#[c]⟩ else none
  | x, y => match seqOf x S with
    | some xs => match y with
      | .int i => L2.atI xs i
      | _ => none
    | none => none
def part : D → Option (Option Int)
  | .int i => some (some i)
  | _ => none
def slD (x : D) (lo hi : Option Int) (S : Store) : Option D := match x with
  | .str z => if z.length ≤ SZ then some (.str (L2.cutS z lo hi)) else none
  | .tup xs => some (.tup (cutD xs lo hi))
  | .scr ns => some (.lst (cutD (ns.map .int) lo hi))
  | x => match lstOf x S with
    | some xs => some (.lst (cutD xs lo hi))
    | none => none
def rngD (lo c : Int) (n : Nat) : List D := (List.range n).map fun (k : Nat) => .int (lo + k * c)
noncomputable def b62 (i : Int) : Bool := tst (-(2 ^ 62) ≤ i ∧ i < 2 ^ 62)
inductive Itr where
  | items (xs : List D) | live (n : Nat) (en : Bool) | lkd (n : Nat) (xs : List D) (kvs : List (Ky × D))
def chars (x : Str) : List D := x.cps.toList.map fun c => .str ⟨#[c]⟩
def kyD : Ky → D
  | .inl i => .int i
  | .inr x => .str x
def enumD (xs : List D) : List D := (List.range xs.length).zipWith (fun (k : Nat) x => .tup [.int k, x]) xs
noncomputable def mkIt (k : IK) (as : List D) (S : Store) : Option Itr := match k, as with
  | .plain, [.tup xs] => some (.items xs)
  | .plain, [.lst xs] => some (.items xs)
  | .plain, [.str x] => some (.items (chars x))
  | .keys, [.dct kvs] => some (.items (kvs.map fun p => kyD p.1))
  | .keysR, [.ref n] => match S[n]? with
    | some (.dct kvs) => some (.lkd n (kvs.map fun p => kyD p.1) kvs)
    | _ => none
  | .items, [.ref n] => match S[n]? with
    | some (.dct kvs) => some (.lkd n (kvs.map fun p => .tup [kyD p.1, p.2]) kvs)
    | _ => none
  | .plain, [.ref n] => match S[n]? with
    | some (.lst _) => some (.live n false)
    | _ => none
  | .rng1, [.int j] => if b62 j then some (.items (rngD 0 1 j.toNat)) else none
  | .rng2, [.int i, .int j] => if b62 i && b62 j then some (.items (rngD i 1 (j - i).toNat)) else none
  | .rng3, [.int i, .int j, .int c] => if b62 i && b62 j && tst (0 < c ∧ c < 1000000) then some (.items (rngD i c ((j - i + c - 1) / c).toNat)) else none
  | .enum, [.tup xs] => some (.items (enumD xs))
  | .enum, [.lst xs] => some (.items (enumD xs))
  | .enum, [.ref n] => match S[n]? with
    | some (.lst _) => some (.live n true)
    | _ => none
  | .zip, [.tup xs, .tup ys] => some (.items (xs.zipWith (fun x y => .tup [x, y]) ys))
  | .zip, [.lst xs, .lst ys] => some (.items (xs.zipWith (fun x y => .tup [x, y]) ys))
  | _, _ => none
def bindL (is : List Nat) (xs : List D) (env : Env) : Option Env := match is, xs with
  | [], [] => some env
  | i :: is, x :: xs => bindL is xs (env.set i (some x))
  | _, _ => none
def bindT (tg : Tg) (d : D) (env : Env) : Option Env := match tg, d with
  | .one i, d => some (env.set i (some d))
  | .many is, .tup xs => bindL is xs env
  | _, _ => none
end PL

set_option Elab.async false
set_option linter.all false
set_option maxRecDepth 100000
/-! PLB: the evaluator itself. -/
namespace PL
open PySem

/-! ### built-ins -/
def allB : List D → Option Bool
  | [] => some true
  | .bl b :: r => match allB r with
    | some c => some (b && c)
    | none => none
  | _ => none
def anyB : List D → Option Bool
  | [] => some false
  | .bl b :: r => match anyB r with
    | some c => some (b || c)
    | none => none
  | _ => none
def intsD : List D → Option (List Int)
  | [] => some []
  | .int i :: r => (intsD r).map (i :: ·)
  | _ => none
def strsD : List D → Option (List Str)
  | [] => some []
  | .str i :: r => (strsD r).map (i :: ·)
  | _ => none
def pairsD : List D → Option (List (Int × Int))
  | [] => some []
  | .tup [.int i, .int j] :: r => (pairsD r).map ((i, j) :: ·)
  | _ => none
def pairD (p : Int × Int) : D := .tup [.int p.1, .int p.2]
def leP (p q : Int × Int) : Bool := decide (p.1 < q.1) || (decide (p.1 = q.1) && decide (p.2 ≤ q.2))
def leS (x y : Str) : Bool := !PySem.Spec.ltCps y.cps.toList x.cps.toList
def insertBy {α : Type} (le : α → α → Bool) (x : α) : List α → List α
  | [] => [x]
  | y :: ys => if le x y then x :: y :: ys else y :: insertBy le x ys
/-- the stable sort -/
def sortBy {α : Type} (le : α → α → Bool) : List α → List α
  | [] => []
  | x :: xs => insertBy le x (sortBy le xs)
def sortD (xs : List D) : Option (List D) := match intsD xs with
  | some is => some ((sortBy (fun a b => decide (a ≤ b)) is).map .int)
  | none => match pairsD xs with
    | some ps => some ((sortBy leP ps).map pairD)
    | none => none
def keysI : List (Ky × D) → Option (List Int)
  | [] => some []
  | (.inl i, _) :: r => (keysI r).map (i :: ·)
  | _ => none
def keysS : List (Ky × D) → Option (List Str)
  | [] => some []
  | (.inr i, _) :: r => (keysS r).map (i :: ·)
  | _ => none
def lenD (d : D) (S : Store) : Option Nat := match d with
  | .str x => if x.length ≤ SZ then some x.length else none
  | d => match seqOf d S with
    | some xs => some xs.length
    | none => (dctOf d S).map (·.length)
def textOf : D → Option Str
  | .str x => some x
  | .int i => if i.natAbs.log2 < 1920 then some (toString i : String) else none
  | _ => none
def keysD (d : D) (S : Store) : Option (List D) := match dctOf d S with
  | some kvs => some (kvs.map fun p => kyD p.1)
  | none => none
def itemsOf (d : D) (S : Store) : Option (List D) := match seqOf d S with
  | some xs => some xs
  | none => keysD d S
def lenF (as : List D) (S : Store) : Option D := match as with
  | [d] => (lenD d S).map fun (n : Nat) => .int n
  | _ => none
def allF (as : List D) (S : Store) : Option D := match as with
  | [d] => ((lstOf d S).bind allB).map .bl
  | _ => none
def anyF (as : List D) (S : Store) : Option D := match as with
  | [d] => ((lstOf d S).bind anyB).map .bl
  | _ => none
def sumF (as : List D) (S : Store) : Option D := match as with
  | [.tup xs] => (intsD xs).map fun is => .int is.sum
  | [d] => ((lstOf d S).bind intsD).map fun is => .int is.sum
  | _ => none
def tupF (as : List D) (S : Store) : Option D := match as with
  | [d] => (seqOf d S).map .tup
  | _ => none
def listF (as : List D) (S : Store) : Option D := match as with
  | [d] => (itemsOf d S).map .lst
  | _ => none
def sortF (as : List D) (S : Store) : Option D := match as with
  | [d] => match seqOf d S with
    | some xs => (sortD xs).map .lst
    | none => match dctOf d S with
      | some kvs => match keysI kvs with
        | some is => if is.length ≤ SZ then some (.lst ((sortBy (fun a b => decide (a ≤ b)) is).map .int)) else none
        | none => match keysS kvs with
          | some ss => if ss.length < 64 then some (.lst ((sortBy leS ss).map .str)) else none
          | none => none
      | none => none
  | _ => none
def strF (as : List D) (S : Store) : Option D := match as with
  | [.int i] => (textOf (.int i)).map .str
  | _ => none
def intF (as : List D) (S : Store) : Option D := match as with
  | [.bl b] => some (.int (if b then 1 else 0))
  | [.str x] => if x.length ≤ 640 then (PySem.intText? x).map .int else none
  | _ => none
def maxF (as : List D) (S : Store) : Option D := match as with
  | [.int i, .int j] => some (.int (if j > i then j else i))
  | _ => none
def minF (as : List D) (S : Store) : Option D := match as with
  | [.int i, .int j] => some (.int (if j < i then j else i))
  | _ => none
def bfD (f : Bf) (as : List D) (S : Store) : Option D := match f with
  | .len => lenF as S
  | .all => allF as S
  | .any => anyF as S
  | .sum => sumF as S
  | .tuple => tupF as S
  | .list => listF as S
  | .sorted => sortF as S
  | .str => strF as S
  | .int => intF as S
  | .max => maxF as S
  | .min => minF as S

structure Fn where
  pure : Bool
  np : Nat
  nl : Nat
  body : T
def lookN {α : Type} : List (Nat × α) → Nat → Option α
  | [], _ => none
  | (a, x) :: r, i => if i = a then some x else lookN r i
theorem lookN_mem {α : Type} : ∀ {l : List (Nat × α)} {i : Nat} {x : α}, lookN l i = some x → (i, x) ∈ l
  | [], _, _, h => by cases h
  | (a, y) :: r, i, x, h => by
    simp only [lookN] at h
    split at h
    · rename_i e; cases h; subst e; exact List.mem_cons_self
    · exact List.mem_cons_of_mem _ (lookN_mem h)
structure Tab where
  fns : Nat → Option Fn
  consts : Nat → Option D
  meth : Nat → Nat → Option Nat
  init : Nat → Option Nat
  exs : List Nat

abbrev Calls := Nat → List D → Store → R D
def toTup : D → List D
  | .tup xs => xs
  | _ => []
def srcL (k : IK) (d : D) : List D := match k with
  | .plain => [d]
  | .keys => [d]
  | .keysR => [d]
  | .items => [d]
  | _ => toTup d
def fldOf (fs : List (Nat × D)) (f : Nat) : Option D := match fs with
  | [] => none
  | (g, d) :: r => if g = f then some d else fldOf r f
def fldPut (fs : List (Nat × D)) (f : Nat) (v : D) : List (Nat × D) := match fs with
  | [] => [(f, v)]
  | (g, d) :: r => if g = f then (g, v) :: r else (g, d) :: fldPut r f v
def notIns (d : D) (S : Store) : Bool := match d with
  | .ref n => match S[n]? with
    | some (.ins _ _) => false
    | some (.lck _) => false
    | some _ => true
    | none => false
  | _ => true
/-- what an instance's field holds -/
def fldD (d : D) (f : Nat) (S : Store) : Option D := match d with
  | .ref n => match S[n]? with
    | some (.ins _ fs) => fldOf fs f
    | _ => none
  | _ => none
def clsD (d : D) (S : Store) : Option Nat := match d with
  | .ref n => match S[n]? with
    | some (.ins c _) => some c
    | _ => none
  | _ => none
/-- within a text in f'..' -/
noncomputable def fmtD : D → Option Str
  | .str x => if x.length ≤ 1000000 then some x else none
  | .int i => if tst (0 ≤ i ∧ i < 10 ^ 100) then some (toString i : String) else none
  | _ => none
def catD : List D → Option Str
  | [] => some Str.empty
  | .str x :: r => (catD r).map (x ++ ·)
  | _ => none
def mkTup (xs : List D) : Option D := if xs.length ≤ SZ then some (.tup xs) else none
def mkLst (xs : List D) : Option D := if xs.length ≤ SZ then some (.lst xs) else none
/-- nothing is raised here -/
def R.quiet {α : Type} : R α → R α
  | .ex _ _ => .bad
  | r => r
@[simp] theorem R.quiet_ok {α : Type} (a : α) (S : Store) : (R.ok a S).quiet = .ok a S := rfl
/-- a turn of a comprehension -/
def goComp (body : D → Store → R (Option D)) : List D → List D → Store → R (List D)
  | [], acc, S => .ok acc S
  | x :: xs, acc, S => (body x S).bind fun o S' => match o with
    | some y => if acc.length < SZ then goComp body xs (acc ++ [y]) S' else .bad
    | none => goComp body xs acc S'
/-- within a walk over a dict's keys nothing is raised -/
def qk (k : IK) (b : D → Store → R (Option D)) : D → Store → R (Option D) := match k with
  | .keys => fun x S => (b x S).quiet
  | .keysR => fun x S => (b x S).quiet
  | _ => b
theorem qk_ok {k : IK} {b : D → Store → R (Option D)} {x : D} {S S' : Store} {o : Option D} (h : b x S = .ok o S') : qk k b x S = .ok o S' := by
  cases k <;> first | exact h | (show (b x S).quiet = _; rw [h]; rfl)
def itemAt (S : Store) (n : Nat) (en : Bool) (i : Nat) : Option (Option D) := match S[n]? with
  | some (.lst xs) => some (xs[i]?.map fun x => if en then .tup [.int i, x] else x)
  | _ => none
@[irreducible] def LOOP : Nat := 1000000000
theorem LOOP_eq : LOOP = 1000000000 := by unfold LOOP; rfl
def goCompL (n : Nat) (en : Bool) (body : D → Store → R (Option D)) : Nat → Nat → List D → Store → R (List D)
  | 0, _, _, _ => .bad
  | k + 1, i, acc, S => match itemAt S n en i with
    | none => .bad
    | some none => .ok acc S
    | some (some x) => (body x S).bind fun o S' => match o with
      | some y => if acc.length < SZ then goCompL n en body k (i + 1) (acc ++ [y]) S' else .bad
      | none => goCompL n en body k (i + 1) acc S'
/-- a dict that was walked is free again -/
def unlS (n : Nat) (S : Store) : Option Store := match S[n]? with
  | some (.lck k) => some (S.set n (.dct k))
  | _ => none
def unlL (n : Nat) (r : R (List D)) : R (List D) := match r with
  | .ok ys S => match unlS n S with
    | some S' => .ok ys S'
    | none => .bad
  | _ => .bad
def goIt (it : Itr) (body : D → Store → R (Option D)) (S : Store) : R (List D) := match it with
  | .items xs => goComp body xs [] S
  | .live n en => goCompL n en body LOOP 0 [] S
  | .lkd n xs kvs => unlL n (goComp body xs [] (S.set n (.lck kvs)))
def mapT (r : R D) : R Bool := r.bind fun d S => R.of (truthy d S) S
def isEmp : E → Bool
  | .emp => true
  | _ => false
def isStrD : D → Bool
  | .str _ => true
  | _ => false
def isLstR (d : D) (S : Store) : Bool := match d with
  | .ref n => match S[n]? with
    | some (.lst _) => true
    | _ => false
  | _ => false
def isDctR (d : D) (S : Store) : Bool := match d with
  | .ref n => match S[n]? with
    | some (.dct _) => true
    | _ => false
  | _ => false
def bmOk (m : Bm) (o : D) (S : Store) : Bool := match m with
  | .append => isLstR o S
  | .get => isDctR o S
  | .pop => isDctR o S
  | .setdefault => isDctR o S
  | .count => false
  | .popL => isLstR o S
  | _ => isStrD o
def bmStr (m : Bm) (a : Str) (as : List D) (S : Store) : Option D := match m, as with
  | .split, [.str b] => if b.length ≠ 0 ∧ a.length + 2 ≤ SZ then some (.lst ((Txt.split a b).map .str)) else none
  | .partition, [.str b] => if b.length ≠ 0 ∧ a.length ≤ SZ then some (.tup [.str (Txt.partition a b).1, .str (Txt.partition a b).2.1, .str (Txt.partition a b).2.2]) else none
  | .join, [x] => match seqOf x S with
    | some xs => match strsD xs with
      | some ys => if (ys.map (·.length)).sum + ys.length * a.length ≤ SZ then some (.str (Txt.join a ys)) else none
      | none => none
    | none => none
  | .find, [.str b] => some (.int (Txt.find a b))
  | .index, [.str b] => (Txt.index0 a b).map fun (k : Nat) => .int k
  | .startswith, [.str b] => some (.bl (Txt.startswith a b))
  | .upper, [] => if a.length ≤ 5592405 then some (.str (Txt.upper a)) else none
  | _, _ => none
def bmD (m : Bm) (o : D) (as : List D) (S : Store) : R D := match m, o, as with
  | .append, .ref n, [y] => match S[n]? with
    | some (.lst xs) => if xs.length < SZ then .ok .non (S.set n (.lst (xs ++ [y]))) else .bad
    | _ => .bad
  | .get, o, [k] => match dctOf o S, keyOf k with
    | some kvs, some k => .ok ((getK kvs k).getD .non) S
    | _, _ => .bad
  | .get, o, [k, x] => match dctOf o S, keyOf k with
    | some kvs, some k => .ok ((getK kvs k).getD x) S
    | _, _ => .bad
  | .pop, .ref n, [k] => match S[n]?, keyOf k with
    | some (.dct kvs), some k => match getK kvs k with
      | some v => .ok v (S.set n (.dct (delK kvs k)))
      | none => .bad
    | _, _ => .bad
  | .pop, .ref n, [k, x] => match S[n]?, keyOf k with
    | some (.dct kvs), some k => match getK kvs k with
      | some v => .ok v (S.set n (.dct (delK kvs k)))
      | none => .ok x S
    | _, _ => .bad
  | .popL, .ref n, [.int i] => match S[n]? with
    | some (.lst xs) => if 0 ≤ i ∧ xs.length < SZ then (match xs[i.toNat]? with
      | some v => .ok v (S.set n (.lst (xs.eraseIdx i.toNat)))
      | none => .bad) else .bad
    | _ => .bad
  | .setdefault, .ref n, [k, x] => match S[n]?, keyOf k with
    | some (.dct kvs), some k => if kvs.length < SZ then (match getK kvs k with
      | some v => .ok v S
      | none => .ok x (S.set n (.dct (setK kvs k x)))) else .bad
    | _, _ => .bad
  | m, .str a, as => R.of (bmStr m a as S) S
  | _, _, _ => .bad
/-- which places a slice with a step picks -/
def stepIx (n : Nat) (lo hi : Option Int) (st : Int) : List Nat :=
  (List.range (Builtin.Slice.slicePlaces (Builtin.Slice.sliceAdjust lo hi st n).1 (Builtin.Slice.sliceAdjust lo hi st n).2 st)).map fun (k : Nat) => ((Builtin.Slice.sliceAdjust lo hi st n).1 + (k : Int) * st).toNat
def stepD {α : Type} (xs : List α) (lo hi : Option Int) (st : Int) : List α := (stepIx xs.length lo hi st).filterMap (xs[·]?)
/-- t[lo:hi:step], of tuples and lists; the step no 0, no 1 -/
def sl3D (x : D) (lo hi : Option Int) (st : Int) (S : Store) : Option D := if st ≠ 0 ∧ st ≠ 1 then (match x with
  | .tup xs => some (.tup (stepD xs lo hi st))
  | .scr ns => some (.lst (stepD (ns.map .int) lo hi st))
  | x => match lstOf x S with
    | some xs => some (.lst (stepD xs lo hi st))
    | none => none) else none
/-- a display's keys -/
def keysE : E → Option (List Str)
  | .nil => some []
  | .cons (.con (.str x)) r => (keysE r).map (x :: ·)
  | _ => none
def mergeD (ds : List (Ky × D)) : List (Ky × D) := ds.foldl (fun acc kv => setK acc kv.1 kv.2) []
noncomputable def ev (G : Tab) (call : Calls) : E → Env → Store → R D
  | .var i, env, S => match env[i]? with
    | some (some d) => .ok d S
    | _ => .bad
  | .con d, _, S => .ok d S
  | .glb j, _, S => R.of (G.consts j) S
  | .bin o a b, env, S => (ev G call a env S).bind fun x S => (ev G call b env S).bind fun y S => R.of (bop o x y S) S
  | .cmp o a b, env, S => (ev G call a env S).bind fun x S => (ev G call b env S).bind fun y S => R.of ((cop o x y S).map .bl) S
  | .chain o o' a b c, env, S => (ev G call a env S).bind fun x S => (ev G call b env S).bind fun y S => (R.of (cop o x y S) S).bind fun k S =>
      if k then (ev G call c env S).bind fun z S => R.of ((cop o' y z S).map .bl) S else .ok (.bl false) S
  | .isn a, env, S => (ev G call a env S).bind fun x S => .ok (.bl (isNonD x)) S
  | .ntn a, env, S => (ev G call a env S).bind fun x S => .ok (.bl (!isNonD x)) S
  | .isb a k, env, S => (ev G call a env S).bind fun x S => match x with | .bl b => .ok (.bl (b == k)) S | _ => .bad
  | .nsb a k, env, S => (ev G call a env S).bind fun x S => match x with | .bl b => .ok (.bl (b != k)) S | _ => .bad
  | .neg a, env, S => (ev G call a env S).bind fun x S => R.of (negD x) S
  | .nt a, env, S => (mapT (ev G call a env S)).bind fun k S => .ok (.bl (!k)) S
  | .and a b, env, S => (ev G call a env S).bind fun x S => (R.of (truthy x S) S).bind fun k S => if k then ev G call b env S else .ok x S
  | .or a b, env, S => (ev G call a env S).bind fun x S => (R.of (truthy x S) S).bind fun k S => if k then .ok x S else ev G call b env S
  | .ite c a b, env, S => (mapT (ev G call c env S)).bind fun k S => if k then ev G call a env S else ev G call b env S
  | .isa a t, env, S => (ev G call a env S).bind fun x S => if notIns x S then .ok (.bl (isaD t x)) S else .bad
  | .call f as, env, S => (ev G call as env S).bind fun xs S => call f (toTup xs) S
  | .meth c o m as, env, S => (ev G call o env S).bind fun x S => match clsD x S, G.meth c m with
    | some c', some f => if c' = c then (ev G call as env S).bind fun xs S => call f (x :: toTup xs) S else .bad
    | _, _ => .bad
  | .mk c as, env, S => (ev G call as env S).bind fun xs S => match G.init c with
    | some f => (call f (.ref S.length :: toTup xs) (S ++ [.ins c []])).bind fun d S' => match d with
      | .non => .ok (.ref S.length) S'
      | _ => .bad
    | none => .bad
  | .bf f as, env, S => (ev G call as env S).bind fun xs S => R.of (bfD f (toTup xs) S) S
  | .bm m o as, env, S => (ev G call o env S).bind fun x S => if bmOk m x S then (ev G call as env S).bind fun xs S => bmD m x (toTup xs) S else .bad
  | .ix a i, env, S => (ev G call a env S).bind fun x S => (ev G call i env S).bind fun y S => R.of (getD_ x y S) S
  | .sl a lo hi, env, S => (ev G call a env S).bind fun x S => (if isEmp lo then .ok none S else (ev G call lo env S).bind fun d S => R.of (part d) S).bind fun l S => (if isEmp hi then .ok none S else (ev G call hi env S).bind fun d S => R.of (part d) S).bind fun h S => R.of (slD x l h S) S
  | .sl3 a lo hi st, env, S => (ev G call a env S).bind fun x S => (if isEmp lo then .ok none S else (ev G call lo env S).bind fun d S => R.of (part d) S).bind fun l S => (if isEmp hi then .ok none S else (ev G call hi env S).bind fun d S => R.of (part d) S).bind fun h S => R.of (sl3D x l h st S) S
  | .fld c o f, env, S => (ev G call o env S).bind fun x S => if clsD x S = some c then R.of (fldD x f S) S else .bad
  | .tup as, env, S => (ev G call as env S).bind fun xs S => R.of (mkTup (toTup xs)) S
  | .lst as, env, S => (ev G call as env S).bind fun xs S => R.of (mkLst (toTup xs)) S
  | .dict0, env, S => .ok (.ref S.length) (S ++ [.dct []])
  | .dict ks vs, env, S => (ev G call vs env S).bind fun d S => match keysE ks with
    | some xs => if (toTup d).length = xs.length then .ok (.ref S.length) (S ++ [.dct (mergeD ((xs.map Sum.inr).zip (toTup d)))]) else .bad
    | none => .bad
  | .lrng k as, env, S => (ev G call as env S).bind fun xs S => match mkIt k (toTup xs) S with
    | some (.items ys) => if ys.length ≤ SZ then .ok (.lst ys) S else .bad
    | _ => .bad
  | .comp k src tg c e, env, S => (ev G call src env S).bind fun xs S => match mkIt k (srcL k xs) S with
    | some it => (goIt it (qk k fun x S => match bindT tg x env with
      | some env' => (mapT (ev G call c env' S)).bind fun k S => if k then (ev G call e env' S).bind fun y S => .ok (some y) S else .ok none S
      | none => .bad) S).bind fun ys S => .ok (.lst ys) S
    | none => .bad
  | .fstr as, env, S => (ev G call as env S).bind fun xs S => R.of ((catD (toTup xs)).map .str) S
  | .fmt e, env, S => (ev G call e env S).bind fun x S => R.of ((fmtD x).map .str) S
  | .new e, env, S => (ev G call e env S).bind fun d S => match d with
    | .lst xs => .ok (.ref S.length) (S ++ [.lst xs])
    | _ => .bad
  | .nil, _, S => .ok (.tup []) S
  | .cons a as, env, S => (ev G call a env S).bind fun x S => (ev G call as env S).bind fun xs S => .ok (.tup (x :: toTup xs)) S
  | .one e, env, S => ev G call e env S
  | .val e, env, S => ev G call e env S
  | .din ng a b, env, S => (ev G call a env S).bind fun x S => (ev G call b env S).bind fun y S => R.of ((dinD x y S).map fun k => .bl (k != ng)) S
  | .dix a i, env, S => (ev G call a env S).bind fun x S => (ev G call i env S).bind fun y S => R.of (dixD x y S) S
  | .emp, _, S => .ok (.bl true) S

def goFor (body : D → Env → Store → RS) : List D → Env → Store → RS
  | [], env, S => .nx env S
  | x :: xs, env, S => (body x env S).andThen fun env S => goFor body xs env S
def goForL (n : Nat) (en : Bool) (body : D → Env → Store → RS) : Nat → Nat → Env → Store → RS
  | 0, _, _, _ => .bad
  | k + 1, i, env, S => match itemAt S n en i with
    | none => .bad
    | some none => .nx env S
    | some (some x) => (body x env S).andThen fun env S => goForL n en body k (i + 1) env S
def unlT (n : Nat) (r : RS) : RS := match r with
  | .nx env S => match unlS n S with
    | some S' => .nx env S'
    | none => .bad
  | .rt d S => match unlS n S with
    | some S' => .rt d S'
    | none => .bad
  | _ => .bad
def goForI (it : Itr) (body : D → Env → Store → RS) (env : Env) (S : Store) : RS := match it with
  | .items xs => goFor body xs env S
  | .live n en => if en then .bad else goForL n false body LOOP 0 env S
  | .lkd n xs kvs => unlT n (goFor body xs env (S.set n (.lck kvs)))
def goWhl (c : Env → Store → R Bool) (body : Env → Store → RS) : Nat → Env → Store → RS
  | 0, _, _ => .bad
  | k + 1, env, S => (c env S).stm env fun b S => if b then (body env S).andThen fun env S => goWhl c body k env S else .nx env S
def setIx (o i v : D) (S : Store) : Option Store := match o with
  | .ref n => match S[n]?, i with
    | some (.lst xs), .int k => (L2.ixN xs.length k).map fun j => S.set n (.lst (xs.set j v))
    | some (.dct kvs), i => if kvs.length < SZ then (keyOf i).map fun k => S.set n (.dct (setK kvs k v)) else none
    | _, _ => none
  | _ => none
def setFld (o : D) (f : Nat) (v : D) (S : Store) : Option Store := match o with
  | .ref n => match S[n]? with
    | some (.ins c fs) => if fs.length < 1000 then some (S.set n (.ins c (fldPut fs f v))) else none
    | _ => none
  | _ => none
noncomputable def exT (G : Tab) (call : Calls) : T → Env → Store → RS
  | .nil, env, S => .nx env S
  | .asg i e k, env, S => (ev G call e env S).stm env fun d S => exT G call k (env.set i (some d)) S
  | .asgT is e k, env, S => (ev G call e env S).stm env fun d S => match bindT (.many is) d env with
    | some env' => exT G call k env' S
    | none => .bad
  | .exp e k, env, S => (ev G call e env S).stm env fun _ S => exT G call k env S
  | .fldS c o f e k, env, S => (ev G call e env S).stm env fun v S => (ev G call o env S).stm env fun x S => if clsD x S = some c then match setFld x f v S with
    | some S' => exT G call k env S'
    | none => .bad else .bad
  | .setI o i e k, env, S => (ev G call e env S).stm env fun v S => (ev G call o env S).stm env fun x S => (ev G call i env S).stm env fun y S => match setIx x y v S with
    | some S' => exT G call k env S'
    | none => .bad
  | .ret e, env, S => (ev G call e env S).stm env fun d S => .rt d S
  | .ifs c a b k, env, S => (mapT (ev G call c env S)).stm env fun t S => (if t then exT G call a env S else exT G call b env S).andThen fun env S => exT G call k env S
  | .whl c b k, env, S => (goWhl (fun env S => mapT (ev G call c env S)) (fun env S => exT G call b env S) LOOP env S).andThen fun env S => exT G call k env S
  | .for_ ik src tg b k, env, S => (ev G call src env S).stm env fun xs S => match mkIt ik (srcL ik xs) S with
    | some it => (goForI it (fun x env S => match bindT tg x env with
      | some env' => exT G call b env' S
      | none => .bad) env S).andThen fun env S => exT G call k env S
    | none => .bad
  | .rais c, env, S => .ex c env S
  | .tr b cs h k, env, S => match exT G call b env S with
    | .ex c env' S' => if c ∈ G.exs then (if c ∈ cs then (exT G call h env' S').calm.andThen fun env S => exT G call k env S else .ex c env' S') else .bad
    | .nx env' S' => exT G call k env' S'
    | r => r
  | .tr2 b c h c' h' k, env, S => match exT G call b env S with
    | .ex d env' S' => if d ∈ G.exs then (if d = c then (exT G call h env' S').calm.andThen fun env S => exT G call k env S else if d = c' then (exT G call h' env' S').calm.andThen fun env S => exT G call k env S else .ex d env' S') else .bad
    | .nx env' S' => exT G call k env' S'
    | r => r

/-! ### calls -/
def frzA (S : Store) (d : D) : Option D := match d with
  | .ref n => match S[n]? with
    | some (.lst xs) => if noRefs xs then some (.lst xs) else none
    | some (.dct xs) => if noRefK xs then some (.dct xs) else none
    | _ => none
  | d => if noRef d then some d else none
def frzAs (S : Store) : List D → Option (List D)
  | [] => some []
  | d :: r => match frzA S d, frzAs S r with
    | some x, some xs => some (x :: xs)
    | _, _ => none
mutual
/-- no list, dict, reference within -/
def scl : D → Bool
  | .tup xs => scls xs
  | .lst _ => false
  | .dct _ => false
  | .ref _ => false
  | .scr _ => false
  | _ => true
def scls : List D → Bool
  | [] => true
  | x :: xs => scl x && scls xs
end
def sclK : List (Ky × D) → Bool
  | [] => true
  | (_, x) :: xs => scl x && sclK xs
/-- what a pure def hands back -/
def frzR (S : Store) (d : D) : Option D := match d with
  | .ref n => match S[n]? with
    | some (.lst xs) => if scls xs then some (.lst xs) else none
    | some (.dct xs) => if sclK xs then some (.dct xs) else none
    | _ => none
  | d => if scl d then some d else none
def startE (nl : Nat) (as : List D) : Env := as.map some ++ List.replicate (nl - as.length) none
noncomputable def run (G : Tab) : Nat → Calls
  | 0, _, _, _ => .bad
  | k + 1, f, as, S => match G.fns f with
    | none => .bad
    | some F => if as.length ≠ F.np then .bad else
      if F.pure then match frzAs S as with
        | none => .bad
        | some as' => match exT G (run G k) F.body (startE F.nl as') [] with
          | .nx _ _ => .ok .non S
          | .rt d S' => R.of (frzR S' d) S
          | .ex c _ _ => .ex c S
          | .bad => .bad
      else match exT G (run G k) F.body (startE F.nl as) S with
        | .nx _ S' => .ok .non S'
        | .rt d S' => .ok d S'
        | .ex c _ S' => .ex c S'
        | .bad => .bad
end PL

set_option Elab.async false
set_option linter.all false
set_option maxRecDepth 100000
/-! PLC: how plain data lies in the abstract heap. -/
namespace PL
open PySem L2

/-- the store's addresses, by index; addresses that are set aside -/
structure Wd where
  m : List Addr
  B : List Addr

/-- the script -/
def ScrAt (K : PySem.W.Frag) (H : Hp) (a : Addr) (ns : List Int) : Prop := (∃ o, H a = some (.frz o (.lst (ns.map V.int)))) ∨
  ∃ (o : Obj) (its : Array Value) (n : Nat), K.lookup a = some o ∧ o.cls = .type "list" ∧ o.dict = none ∧ o.data = .seq its n ∧ its.size ≤ sizeLine ∧ Vals (ns.map V.int) its.toList
theorem ScrAt.sq {K : PySem.W.Frag} {H : Hp} {a : Addr} {ns : List Int} (h : ScrAt K H a ns) : SqL K H a (ns.map V.int) := by
  rcases h with ⟨o, h⟩ | h
  · exact .inl (.inr ⟨o, h⟩)
  · exact .inr h
mutual
inductive Rep (K : PySem.W.Frag) (W : Wd) (H : Hp) : D → V → Prop
  | non : Rep K W H .non .non
  | bl (b : Bool) : Rep K W H (.bl b) (.bl b)
  | int (i : Int) : Rep K W H (.int i) (.int i)
  | str (x : Str) : Rep K W H (.str x) (.str x)
  | tup {xs : List D} {a : Addr} {vs : List V} : SqT K H a vs → Reps K W H xs vs → Rep K W H (.tup xs) (.ref a)
  | lst {xs : List D} {a : Addr} {vs : List V} : Rd H a (.lst vs) → a ∉ W.m → a ∉ W.B → Reps K W H xs vs → Rep K W H (.lst xs) (.ref a)
  | dct {xs : List (Ky × D)} {a : Addr} {vs : List (Key × V)} : Rd H a (.dK vs) → a ∉ W.m → a ∉ W.B → RepK K W H xs vs → Rep K W H (.dct xs) (.ref a)
  | ref {n : Nat} {a : Addr} : W.m[n]? = some a → Rep K W H (.ref n) (.ref a)
  | scr {ns : List Int} {a : Addr} : ScrAt K H a ns → Rep K W H (.scr ns) (.ref a)
inductive Reps (K : PySem.W.Frag) (W : Wd) (H : Hp) : List D → List V → Prop
  | nil : Reps K W H [] []
  | cons {d : D} {v : V} {ds : List D} {vs : List V} : Rep K W H d v → Reps K W H ds vs → Reps K W H (d :: ds) (v :: vs)
inductive RepK (K : PySem.W.Frag) (W : Wd) (H : Hp) : List (Ky × D) → List (Key × V) → Prop
  | nil : RepK K W H [] []
  | cons {k : Ky} {d : D} {v : V} {ds : List (Ky × D)} {vs : List (Key × V)} : Rep K W H d v → RepK K W H ds vs → RepK K W H ((k, d) :: ds) ((k, v) :: vs)
end
inductive RepF (K : PySem.W.Frag) (W : Wd) (H : Hp) (fn : Nat → Str) : List (Nat × D) → List (Str × V) → Prop
  | nil : RepF K W H fn [] []
  | cons {f : Nat} {d : D} {v : V} {ds : List (Nat × D)} {vs : List (Str × V)} : Rep K W H d v → RepF K W H fn ds vs → RepF K W H fn ((f, d) :: ds) ((fn f, v) :: vs)
inductive RepT (K : PySem.W.Frag) (W : Wd) (H : Hp) : List (List Ky × D) → List (List Key × V) → Prop
  | nil : RepT K W H [] []
  | cons {k : List Ky} {d : D} {v : V} {ds : List (List Ky × D)} {vs : List (List Key × V)} : Rep K W H d v → RepT K W H ds vs → RepT K W H ((k, d) :: ds) ((k, v) :: vs)

/-- addresses and names of the program's own things -/
structure Nm where
  C : Nat → Addr
  fn : Nat → Str
  X : Nat → Addr

def ObRep (K : PySem.W.Frag) (nm : Nm) (W : Wd) (H : Hp) (a : Addr) : Ob → Prop
  | .lst xs => ∃ vs, H a = some (.lst vs) ∧ Reps K W H xs vs
  | .dct xs => ∃ vs, H a = some (.dK vs) ∧ RepK K W H xs vs
  | .dtt xs => ∃ vs, H a = some (.dT vs) ∧ RepT K W H xs vs
  | .ins c fs => ∃ dx vs, H a = some (.ins (nm.C c) dx vs) ∧ RepF K W H nm.fn fs vs
  | .lck xs => ∃ od vs, H a = some (.frz od (.dK vs)) ∧ RepK K W H xs vs
structure Rel (K : PySem.W.Frag) (nm : Nm) (W : Wd) (S : Store) (H : Hp) : Prop where
  len : W.m.length = S.length
  nd : W.m.Nodup
  ob : ∀ (n : Nat) (a : Addr) (o : Ob), W.m[n]? = some a → S[n]? = some o → ObRep K nm W H a o
  bs : ∀ b ∈ W.B, b ∉ W.m ∧ ∃ o, H b = some o
def Mu : HO → Prop
  | .lst _ => True
  | .dK _ => True
  | .dT _ => True
  | .ins _ _ _ => True
  | .frz _ (.dK _) => True
  | _ => False
def Trk (W : Wd) (H : Hp) : Prop := ∀ a ∈ W.m, ∃ o, H a = some o ∧ Mu o
structure Ext (W : Wd) (H : Hp) (W' : Wd) (H' : Hp) : Prop where
  B : W'.B = W.B
  m : ∃ t, W'.m = W.m ++ t ∧ ∀ a ∈ t, H a = none
  keep : ∀ a o, H a = some o → a ∉ W.m → H' a = some o
  fz : ∀ a od u, H a = some (.frz od u) → H' a = some (.frz od u)
/-- what lies there is not frozen -/
def Unf (H : Hp) (a : Addr) : Prop := ∀ od u, H a ≠ some (.frz od u)

section
variable {K : PySem.W.Frag} {nm : Nm} {W W' W'' : Wd} {H H' H'' : Hp} {S S' : Store}
theorem Rel.trk (r : Rel K nm W S H) : Trk W H := fun a ha => by
  obtain ⟨n, hn⟩ := List.mem_iff_getElem?.mp ha
  have hl : n < S.length := by rw [← r.len]; exact (List.getElem?_eq_some_iff.mp hn).1
  have q := r.ob n a S[n] hn (by simp [hl])
  revert q
  generalize S[n] = o
  intro q
  cases o with
  | lst xs => obtain ⟨vs, e, _⟩ := q; exact ⟨_, e, trivial⟩
  | dct xs => obtain ⟨vs, e, _⟩ := q; exact ⟨_, e, trivial⟩
  | dtt xs => obtain ⟨vs, e, _⟩ := q; exact ⟨_, e, trivial⟩
  | ins c fs => obtain ⟨dx, vs, e, _⟩ := q; exact ⟨_, e, trivial⟩
  | lck xs => obtain ⟨od, vs, e, _⟩ := q; exact ⟨_, e, trivial⟩
theorem Ext.refl : Ext W H W H := ⟨rfl, ⟨[], by simp⟩, fun _ _ e _ => e, fun _ _ _ e => e⟩
theorem Ext.mem (e : Ext W H W' H') {a : Addr} {o : HO} (h : H a = some o) (n : a ∉ W.m) : a ∉ W'.m := by
  obtain ⟨t, e1, e2⟩ := e.m
  rw [e1, List.mem_append]
  rintro (z | z)
  · exact n z
  · rw [e2 a z] at h; cases h
theorem Ext.trans (t : Trk W' H') (a : Ext W H W' H') (b : Ext W' H' W'' H'') : Ext W H W'' H'' := by
  obtain ⟨t1, e1, f1⟩ := a.m
  obtain ⟨t2, e2, f2⟩ := b.m
  refine ⟨b.B.trans a.B, ⟨t1 ++ t2, by rw [e2, e1, List.append_assoc], fun x hx => ?_⟩, fun x o h n => b.keep x o (a.keep x o h n) (a.mem h n), fun x od u h => b.fz x od u (a.fz x od u h)⟩
  rcases List.mem_append.mp hx with hx | hx
  · exact f1 x hx
  · cases q : H x with
    | none => rfl
    | some o =>
      by_cases hm : x ∈ W.m
      · obtain ⟨o', h', _⟩ := t x (by rw [e1]; exact List.mem_append_left _ hm)
        rw [f2 x hx] at h'; cases h'
      · have := a.keep x o q hm
        rw [f2 x hx] at this; cases this
theorem Ext.sqT (t : Trk W H) (e : Ext W H W' H') {a : Addr} {vs : List V} (h : SqT K H a vs) : SqT K H' a vs := by
  rcases h with (h | ⟨o, h⟩) | h
  · refine .inl (.inl (e.keep a _ h fun z => ?_))
    obtain ⟨o, q, m⟩ := t a z
    rw [h] at q; cases q; exact m
  · refine .inl (.inr ⟨o, e.keep a _ h fun z => ?_⟩)
    obtain ⟨o, q, m⟩ := t a z
    rw [h] at q; cases q; exact m
  · exact .inr h
theorem Ext.rd (e : Ext W H W' H') {a : Addr} {u : HO} (h : Rd H a u) (n : a ∉ W.m) : Rd H' a u ∧ a ∉ W'.m := by
  rcases h with h | ⟨o, h⟩
  · exact ⟨.inl (e.keep a _ h n), e.mem h n⟩
  · exact ⟨.inr ⟨o, e.keep a _ h n⟩, e.mem h n⟩
theorem Ext.scr (t : Trk W H) (e : Ext W H W' H') {a : Addr} {ns : List Int} (h : ScrAt K H a ns) : ScrAt K H' a ns := by
  rcases h with ⟨o, h⟩ | h
  · refine .inl ⟨o, e.keep a _ h fun z => ?_⟩
    obtain ⟨o, q, m⟩ := t a z
    rw [h] at q; cases q; exact m
  · exact .inr h
mutual
theorem Rep.mono (t : Trk W H) (e : Ext W H W' H') : ∀ {d : D} {v : V}, Rep K W H d v → Rep K W' H' d v
  | _, _, .non => .non
  | _, _, .bl b => .bl b
  | _, _, .int i => .int i
  | _, _, .str x => .str x
  | _, _, .tup h r => .tup (e.sqT t h) (Reps.mono t e r)
  | _, _, .lst h n b r => .lst (e.rd h n).1 (e.rd h n).2 (by rw [e.B]; exact b) (Reps.mono t e r)
  | _, _, .dct h n b r => .dct (e.rd h n).1 (e.rd h n).2 (by rw [e.B]; exact b) (RepK.mono t e r)
  | _, _, .ref h => .ref (by
      obtain ⟨t, e1, _⟩ := e.m
      rw [e1]
      exact (List.getElem?_append_left (List.getElem?_eq_some_iff.mp h).1).trans h)
  | _, _, .scr h => .scr (e.scr t h)
theorem Reps.mono (t : Trk W H) (e : Ext W H W' H') : ∀ {d : List D} {v : List V}, Reps K W H d v → Reps K W' H' d v
  | _, _, .nil => .nil
  | _, _, .cons r rs => .cons (Rep.mono t e r) (Reps.mono t e rs)
theorem RepK.mono (t : Trk W H) (e : Ext W H W' H') : ∀ {d : List (Ky × D)} {v : List (Key × V)}, RepK K W H d v → RepK K W' H' d v
  | _, _, .nil => .nil
  | _, _, .cons r rs => .cons (Rep.mono t e r) (RepK.mono t e rs)
end
theorem RepF.mono {fn : Nat → Str} (t : Trk W H) (e : Ext W H W' H') {d : List (Nat × D)} {v : List (Str × V)} (r : RepF K W H fn d v) : RepF K W' H' fn d v := by
  induction r with
  | nil => exact .nil
  | cons r _ ih => exact .cons (r.mono t e) ih
theorem RepT.mono (t : Trk W H) (e : Ext W H W' H') {d : List (List Ky × D)} {v : List (List Key × V)} (r : RepT K W H d v) : RepT K W' H' d v := by
  induction r with
  | nil => exact .nil
  | cons r _ ih => exact .cons (r.mono t e) ih
/-- something new is laid -/
theorem Ext.alloc {p : Addr} {o : HO} (h : H p = none) : Ext W H W (upd H p o) := ⟨rfl, ⟨[], by simp⟩, fun a u e _ => by rw [upd_ne (ne_of_none e h)]; exact e, fun a od u e => by rw [upd_ne (ne_of_none e h)]; exact e⟩
/-- the heap grows, the store's objects stay -/
theorem Rel.grow (r : Rel K nm W S H) (e : Ext W H W H') (k : ∀ a o, H a = some o → H' a = some o) : Rel K nm W S H' := by
  have t := r.trk
  refine ⟨r.len, r.nd, fun n a o h1 h2 => ?_, fun b hb => ?_⟩
  · have q := r.ob n a o h1 h2
    cases o with
    | lst xs => obtain ⟨vs, e1, q⟩ := q; exact ⟨vs, k _ _ e1, q.mono t e⟩
    | dct xs => obtain ⟨vs, e1, q⟩ := q; exact ⟨vs, k _ _ e1, q.mono t e⟩
    | dtt xs => obtain ⟨vs, e1, q⟩ := q; exact ⟨vs, k _ _ e1, q.mono t e⟩
    | ins c fs => obtain ⟨dx, vs, e1, q⟩ := q; exact ⟨dx, vs, k _ _ e1, q.mono t e⟩
    | lck xs => obtain ⟨od, vs, e1, q⟩ := q; exact ⟨od, vs, k _ _ e1, q.mono t e⟩
  · obtain ⟨n, o, e1⟩ := r.bs b hb
    exact ⟨n, o, k _ _ e1⟩
theorem same_upd {p : Addr} {o : HO} (h : H p = none) : ∀ a u, H a = some u → upd H p o a = some u := fun a u e => by rw [upd_ne (ne_of_none e h)]; exact e
theorem Rel.alloc (r : Rel K nm W S H) {p : Addr} {o : HO} (h : H p = none) : Rel K nm W S (upd H p o) := r.grow (Ext.alloc h) (same_upd h)
theorem Rel.fresh (r : Rel K nm W S H) {p : Addr} (h : H p = none) : p ∉ W.m ∧ p ∉ W.B := by
  refine ⟨fun z => ?_, fun z => ?_⟩
  · obtain ⟨o, e, _⟩ := r.trk p z
    rw [h] at e; cases e
  · obtain ⟨_, o, e⟩ := r.bs p z
    rw [h] at e; cases e
theorem Reps.length {ds : List D} {vs : List V} (r : Reps K W H ds vs) : ds.length = vs.length := by
  induction ds generalizing vs with
  | nil => cases r; rfl
  | cons d ds ih => cases r with | cons a b => simp [ih b]
theorem RepK.length {ds : List (Ky × D)} {vs : List (Key × V)} (r : RepK K W H ds vs) : ds.length = vs.length := by
  induction ds generalizing vs with
  | nil => cases r; rfl
  | cons d ds ih => cases r with | cons a b => simp [ih b]
theorem Reps.append {ds es : List D} {vs us : List V} (r : Reps K W H ds vs) (q : Reps K W H es us) : Reps K W H (ds ++ es) (vs ++ us) := by
  induction ds generalizing vs with
  | nil => cases r; exact q
  | cons d ds ih => cases r with | cons a b => exact .cons a (ih b)
theorem Reps.drop {ds : List D} {vs : List V} (n : Nat) (r : Reps K W H ds vs) : Reps K W H (ds.drop n) (vs.drop n) := by
  induction ds generalizing vs n with
  | nil => cases r; simp; exact .nil
  | cons d ds ih => cases r with | cons a b => cases n with
    | zero => exact .cons a b
    | succ n => exact ih n b
theorem Reps.take {ds : List D} {vs : List V} (n : Nat) (r : Reps K W H ds vs) : Reps K W H (ds.take n) (vs.take n) := by
  induction ds generalizing vs n with
  | nil => cases r; simp; exact .nil
  | cons d ds ih => cases r with | cons a b => cases n with
    | zero => exact .nil
    | succ n => exact .cons a (ih n b)
theorem Reps.get {ds : List D} {vs : List V} (r : Reps K W H ds vs) {i : Nat} {d : D} (h : ds[i]? = some d) : ∃ v, vs[i]? = some v ∧ Rep K W H d v := by
  induction ds generalizing vs i with
  | nil => simp at h
  | cons x ds ih => cases r with | cons a b => cases i with
    | zero => simp at h; subst h; exact ⟨_, rfl, a⟩
    | succ i => simp at h; obtain ⟨v, e, q⟩ := ih b h; exact ⟨v, by simpa using e, q⟩
theorem Reps.set {ds : List D} {vs : List V} {d : D} {v : V} (i : Nat) (r : Reps K W H ds vs) (q : Rep K W H d v) : Reps K W H (ds.set i d) (vs.set i v) := by
  induction ds generalizing vs i with
  | nil => cases r; exact .nil
  | cons x ds ih => cases r with | cons a b => cases i with
    | zero => exact .cons q b
    | succ i => exact .cons a (ih i b)

/-! ### the readings -/
structure ERep (K : PySem.W.Frag) (W : Wd) (H : Hp) (env : Env) (σ : St) : Prop where
  len : env.length = σ.length
  get : ∀ (i : Nat) (d : D), env[i]? = some (some d) → ∃ v : V, σ[i]? = some (some v) ∧ Rep K W H d v
theorem ERep.mono {env : Env} {σ : St} (t : Trk W H) (e : Ext W H W' H') (r : ERep K W H env σ) : ERep K W' H' env σ :=
  ⟨r.len, fun i d h => let ⟨v, a, b⟩ := r.get i d h; ⟨v, a, b.mono t e⟩⟩
theorem ERep.set {env : Env} {σ : St} {d : D} {v : V} (i : Nat) (r : ERep K W H env σ) (q : Rep K W H d v) : ERep K W H (env.set i (some d)) (σ.set i (some v)) := by
  refine ⟨by simp [r.len], fun j d' h => ?_⟩
  by_cases e : i = j
  · subst e
    by_cases hl : i < env.length
    · rw [List.getElem?_set_self hl] at h
      cases h
      exact ⟨v, by rw [List.getElem?_set_self (by rw [← r.len]; exact hl)], q⟩
    · rw [List.getElem?_eq_none (by simpa using hl)] at h
      cases h
  · rw [List.getElem?_set_ne e] at h
    obtain ⟨v', a, b⟩ := r.get j d' h
    exact ⟨v', by rw [List.getElem?_set_ne e]; exact a, b⟩
end
theorem _root_.L2.PE.imp {X : Cx} {e : Expr} {t u : TE} (h : PE X e t) (i : ∀ σ H Q, u σ H Q → t σ H Q) : PE X e u := ⟨fun pins s σ H Q I w => h.run pins s σ H Q I (i σ H Q w)⟩
theorem _root_.L2.PT.imp {X : Cx} {e : Expr} {t u : TT} (h : PT X e t) (i : ∀ σ H Q, u σ H Q → t σ H Q) : PT X e u := ⟨fun pins s σ H Q I w => h.run pins s σ H Q I (i σ H Q w)⟩
theorem _root_.L2.PA.imp {X : Cx} {e : List Expr} {t u : TA} (h : PA X e t) (i : ∀ σ H Q, u σ H Q → t σ H Q) : PA X e u := ⟨fun p pins s σ H Q I w => h.run p pins s σ H Q I (i σ H Q w)⟩
theorem _root_.L2.PS.imp {X : Cx} {e : Stmt} {t u : TS} (h : PS X e t) (i : ∀ D σ H, u D σ H → t D σ H) : PS X e u := ⟨fun pins s σ H Q I w => h.run pins s σ H Q I (i Q σ H w)⟩
theorem _root_.L2.PSs.imp {X : Cx} {e : List Stmt} {t u : TS} (h : PSs X e t) (i : ∀ D σ H, u D σ H → t D σ H) : PSs X e u := ⟨fun pins s σ H Q I w => h.run pins s σ H Q I (i Q σ H w)⟩
end PL

set_option Elab.async false
set_option linter.all false
set_option maxRecDepth 100000
set_option maxHeartbeats 1000000
/-! PLD: the operations on values. -/
namespace PL
open PySem PySem.Spec PyProof.Rows L2
section
variable {K : PySem.W.Frag} {nm : Nm} {W W' W'' : Wd} {H H' H'' : Hp} {S S' : Store} {X : Cx}
/-- every way on from here with the value d -/
def Fin (K : PySem.W.Frag) (nm : Nm) (W : Wd) (S : Store) (H : Hp) (d : D) (Q : VK) : Prop := ∀ v W' H', Ext W H W' H' → Rel K nm W' S H' → Rep K W' H' d v → Q v H'
theorem Fin.here {d : D} {v : V} {Q : VK} (f : Fin K nm W S H d Q) (r : Rel K nm W S H) (p : Rep K W H d v) : Q v H := f v W H Ext.refl r p
theorem Fin.tup {xs : List D} {vs : List V} {Q : VK} (f : Fin K nm W S H (.tup xs) Q) (r : Rel K nm W S H) (p : Reps K W H xs vs) {a : Addr} (h : H a = none) : Q (.ref a) (upd H a (.tup vs)) :=
  f _ W _ (Ext.alloc h) (r.alloc h) (.tup (SqT.of upd_same) (p.mono r.trk (Ext.alloc h)))
theorem Fin.lst {xs : List D} {vs : List V} {Q : VK} (f : Fin K nm W S H (.lst xs) Q) (r : Rel K nm W S H) (p : Reps K W H xs vs) {a : Addr} (h : H a = none) : Q (.ref a) (upd H a (.lst vs)) :=
  f _ W _ (Ext.alloc h) (r.alloc h) (.lst (.inl upd_same) (r.fresh h).1 (r.fresh h).2 (p.mono r.trk (Ext.alloc h)))
theorem Reps.lens {xs : List D} {vs : List V} (p : Reps K W H xs vs) : vs.length = xs.length := p.length.symm
theorem Reps.nil_iff {xs : List D} {vs : List V} (p : Reps K W H xs vs) : vs = [] ↔ xs = [] := by cases p <;> simp
/-- a list as it may be read -/
theorem rep_lst {d : D} {v : V} {xs : List D} (r : Rel K nm W S H) (p : Rep K W H d v) (h : lstOf d S = some xs) : ∃ a vs, v = .ref a ∧ Rd H a (.lst vs) ∧ Reps K W H xs vs := by
  cases p with
  | lst h1 h2 h3 h4 => cases h; exact ⟨_, _, rfl, h1, h4⟩
  | @ref n a h1 =>
    simp only [lstOf] at h
    split at h
    · rename_i q
      cases h
      obtain ⟨vs, e, z⟩ := r.ob n a _ h1 q
      exact ⟨a, vs, rfl, .inl e, z⟩
    · cases h
  | _ => cases h
theorem reps_int : ∀ ns : List Int, Reps K W H (ns.map D.int) (ns.map V.int)
  | [] => .nil
  | n :: ns => .cons (.int n) (reps_int ns)
theorem rep_seq {d : D} {v : V} {xs : List D} (r : Rel K nm W S H) (p : Rep K W H d v) (h : seqOf d S = some xs) : ∃ a vs, v = .ref a ∧ (SqL K H a vs ∨ SqT K H a vs) ∧ Reps K W H xs vs := by
  cases p with
  | tup h1 h2 => cases h; exact ⟨_, _, rfl, .inr h1, h2⟩
  | lst h1 h2 h3 h4 => cases h; exact ⟨_, _, rfl, .inl (.inl h1), h4⟩
  | scr h1 => cases h; exact ⟨_, _, rfl, .inl h1.sq, reps_int _⟩
  | @ref n a h1 =>
    obtain ⟨a, vs, e, h2, h3⟩ := rep_lst r (.ref h1) h
    exact ⟨a, vs, e, .inl (.inl h2), h3⟩
  | _ => cases h
theorem rep_dct {d : D} {v : V} {xs : List (Ky × D)} (r : Rel K nm W S H) (p : Rep K W H d v) (h : dctOf d S = some xs) : ∃ a vs, v = .ref a ∧ Rd H a (.dK vs) ∧ RepK K W H xs vs := by
  cases p with
  | dct h1 h2 h3 h4 => cases h; exact ⟨_, _, rfl, h1, h4⟩
  | @ref n a h1 =>
    simp only [dctOf] at h
    split at h
    · rename_i q
      cases h
      obtain ⟨vs, e, z⟩ := r.ob n a _ h1 q
      exact ⟨a, vs, rfl, .inl e, z⟩
    · rename_i q
      cases h
      obtain ⟨od, vs, e, z⟩ := r.ob n a _ h1 q
      exact ⟨a, vs, rfl, .inr ⟨od, e⟩, z⟩
    · cases h
  | _ => cases h
theorem SZ_eq : SZ = sizeLine := by rw [sizeLine_eq]; rfl
theorem reps_ints {xs : List D} {is : List Int} {vs : List V} (p : Reps K W H xs vs) (h : intsD xs = some is) : vs = is.map V.int := by
  induction xs generalizing is vs with
  | nil => cases p; cases h; rfl
  | cons x xs ih =>
    cases p with
    | cons a b =>
      cases a with
      | int i =>
        simp only [intsD, Option.map_eq_some_iff] at h
        obtain ⟨js, h1, h2⟩ := h
        subst h2
        simp [ih b h1]
      | _ => cases h
theorem reps_bools {xs : List D} {c : Bool} {vs : List V} (p : Reps K W H xs vs) (h : allB xs = some c) : ∃ bs : List Bool, vs = bs.map V.bl ∧ bs.all id = c := by
  induction xs generalizing c vs with
  | nil => cases p; cases h; exact ⟨[], rfl, rfl⟩
  | cons x xs ih =>
    cases p with
    | cons a b =>
      cases a with
      | bl k =>
        simp only [allB] at h
        split at h
        · rename_i c' q
          cases h
          obtain ⟨bs, e, z⟩ := ih b q
          exact ⟨k :: bs, by simp [e], by simp [z]⟩
        · cases h
      | _ => cases h
theorem reps_boolsA {xs : List D} {c : Bool} {vs : List V} (p : Reps K W H xs vs) (h : anyB xs = some c) : ∃ bs : List Bool, vs = bs.map V.bl ∧ bs.any id = c := by
  induction xs generalizing c vs with
  | nil => cases p; cases h; exact ⟨[], rfl, rfl⟩
  | cons x xs ih =>
    cases p with
    | cons a b =>
      cases a with
      | bl k =>
        simp only [anyB] at h
        split at h
        · rename_i c' q
          cases h
          obtain ⟨bs, e, z⟩ := ih b q
          exact ⟨k :: bs, by simp [e], by simp [z]⟩
        · cases h
      | _ => cases h

/-! ### lists that may be locked -/
theorem Inv.lstR {X : Cx} {pins : List (Addr × Obj)} {σ : L2.St} {H : Hp} {s : Shared} {l : Addr} {xs : List V} (I : Inv X pins σ H s) (hH : Rd H l (.lst xs)) :
    xs.length ≤ sizeLine ∧ ∃ (its : List Value) (n : Nat), Vals xs its ∧ xs.length = its.length ∧ s.heap.get? l = some { cls := .type "list", data := .seq its.toArray n } := by
  obtain ⟨z, its, n, r, e⟩ := hH.ok I.hok
  exact ⟨z, its, n, r, r.length, e⟩
def rCatR : R2 := fun x y H Q => ∃ l b xs zs, x = .ref l ∧ y = .ref b ∧ Rd H l (.lst xs) ∧ Rd H b (.lst zs) ∧ xs.length + zs.length ≤ sizeLine ∧ ∀ p, H p = none → Q (.ref p) (upd H p (.lst (xs ++ zs)))
theorem op_catR {X : Cx} : OpR X (binaryOp .Add) rCatR := by
  intro pins s σ H x y v u Q I rx ry h
  obtain ⟨l, b, xs, zs, rfl, rfl, hH, hB, hz, q⟩ := h
  cases rx
  cases ry
  obtain ⟨z, its, n, r, hl, e⟩ := Inv.lstR I hH
  obtain ⟨z2, its2, n2, r2, hl2, e2⟩ := Inv.lstR I hB
  refine PySem.P.add_list e e2 ?_ (by rw [List.size_toArray, List.size_toArray]; omega)
  have ea : its.toArray ++ its2.toArray = (its ++ its2).toArray := by simp
  rw [ea]
  exact ⟨.ref _, _, I.lnew (t' := s.toks) (r.append r2) (by rw [List.length_append]; omega), rfl, q _ I.fresh⟩

/-! ### binary operators -/
def rAdd4 (K : PySem.W.Frag) : R2 := fun x y H Q =>
  ((((rI0 fun i j => .int (i + j)) x y H Q ∨ ∃ i j, x = .str i ∧ y = .str j ∧ i.length + j.length ≤ sizeLine ∧ Q (.str (i ++ j)) H) ∨ rCatA K x y H Q) ∨ rCatR x y H Q)
theorem op_add4 : OpR X (binaryOp .Add) (rAdd4 X.K) := ((op_add.or op_add_str).or op_catA).or op_catR
theorem cat_list {x y : D} {u v : V} {xs ys : List D} {Q : VK} (r : Rel K nm W S H) (p : Rep K W H x u) (q : Rep K W H y v) (hx : lstOf x S = some xs) (hy : lstOf y S = some ys) (hz : xs.length + ys.length ≤ SZ)
    (f : Fin K nm W S H (.lst (xs ++ ys)) Q) : rCatR u v H Q := by
  obtain ⟨a, vs, rfl, h1, p1⟩ := rep_lst r p hx
  obtain ⟨b, ws, rfl, h2, p2⟩ := rep_lst r q hy
  exact ⟨a, b, vs, ws, rfl, rfl, h1, h2, by rw [p1.lens, p2.lens, ← SZ_eq]; exact hz, fun p hp => f.lst r (p1.append p2) hp⟩
theorem cat_tup {xs ys : List D} {u v : V} {Q : VK} (r : Rel K nm W S H) (p : Rep K W H (.tup xs) u) (q : Rep K W H (.tup ys) v) (hz : xs.length + ys.length ≤ SZ) (f : Fin K nm W S H (.tup (xs ++ ys)) Q) : rCatA K u v H Q := by
  cases p with
  | @tup _ a vs h1 p1 =>
    cases q with
    | @tup _ b ws h2 p2 =>
      refine ⟨a, b, vs, ws, rfl, rfl, h1, h2, by rw [p1.lens, p2.lens, ← SZ_eq]; exact hz, fun e => ?_, fun e e' => ?_, fun e e' p hp => f.tup r (p1.append p2) hp⟩
      · rw [p1.nil_iff] at e; subst e
        exact f.here r (.tup h2 p2)
      · rw [p2.nil_iff] at e'; subst e'
        rw [List.append_nil] at f
        exact f.here r (.tup h1 p1)
theorem add_ok {x y d : D} {u v : V} {Q : VK} (r : Rel K nm W S H) (p : Rep K W H x u) (q : Rep K W H y v) (h : bop .add x y S = some d) (f : Fin K nm W S H d Q) : rAdd4 K u v H Q := by
  have lists : ∀ a b, lstOf x S = some a → lstOf y S = some b → (if a.length + b.length ≤ SZ then some (D.lst (a ++ b)) else none) = some d → rAdd4 K u v H Q := fun a b e1 e2 h => by
    split at h
    · cases h; exact .inr (cat_list r p q e1 e2 (by assumption) f)
    · cases h
  simp only [bop, addD] at h
  split at h
  · cases h; cases p; cases q; exact .inl (.inl (.inl ⟨_, _, rfl, rfl, f.here r (.int _)⟩))
  · split at h
    · rename_i hz
      cases h; cases p; cases q; exact .inl (.inl (.inr ⟨_, _, rfl, rfl, by rw [← SZ_eq]; exact hz, f.here r (.str _)⟩))
    · cases h
  · split at h
    · rename_i hz
      cases h; exact .inl (.inr (cat_tup r p q hz f))
    · cases h
  · split at h
    · exact lists _ _ (by assumption) (by assumption) h
    · cases h
theorem sub_ok {x y d : D} {u v : V} {Q : VK} (r : Rel K nm W S H) (p : Rep K W H x u) (q : Rep K W H y v) (h : bop .sub x y S = some d) (f : Fin K nm W S H d Q) : (rI0 fun i j => .int (i - j)) u v H Q := by
  simp only [bop, subD] at h
  split at h
  · cases h; cases p; cases q; exact ⟨_, _, rfl, rfl, f.here r (.int _)⟩
  · cases h
theorem mod_ok {x y d : D} {u v : V} {Q : VK} (r : Rel K nm W S H) (p : Rep K W H x u) (q : Rep K W H y v) (h : bop .mod x y S = some d) (f : Fin K nm W S H d Q) : (rI (fun _ j => 0 < j) fun i j => .int (i % j)) u v H Q := by
  simp only [bop, modD] at h
  split at h
  · split at h
    · rename_i z
      cases h; cases p; cases q; exact ⟨_, _, rfl, rfl, z, f.here r (.int _)⟩
    · cases h
  · cases h
theorem fdiv_ok {x y d : D} {u v : V} {Q : VK} (r : Rel K nm W S H) (p : Rep K W H x u) (q : Rep K W H y v) (h : bop .fdiv x y S = some d) (f : Fin K nm W S H d Q) : (rI CDivW fun i j => .int (i / j)) u v H Q := by
  simp only [bop, fdivD] at h
  split at h
  · split at h
    · rename_i z
      cases h; cases p; cases q; exact ⟨_, _, rfl, rfl, wide_div (b := 64) z.1 (by omega) (by decide) (by decide), f.here r (.int _)⟩
    · cases h
  · cases h
/-- t * k -/
def rRepR : R2 := fun x y H Q => ∃ l k xs, x = .ref l ∧ y = .int k ∧ Rd H l (.lst xs) ∧ -(2 ^ 63) ≤ k ∧ k < 2 ^ 63 ∧ xs.length * k.toNat ≤ sizeLine ∧
  ∀ p, H p = none → Q (.ref p) (upd H p (.lst (List.replicate k.toNat xs).flatten))
theorem op_repR : OpR X (binaryOp .Mult) rRepR := by
  intro pins s σ H x y v u Q I rx ry h
  obtain ⟨l, k, xs, rfl, rfl, hH, h1, h2, hz, q⟩ := h
  cases rx
  obtain ⟨t, rfl⟩ := ry
  obtain ⟨z, its, n, r, hl, e⟩ := Inv.lstR I hH
  have hlen : its.toArray.size * k.toNat ≤ sizeLine := by rw [List.size_toArray, ← hl]; exact hz
  have hcap : ¬ its.toArray.size * k.toNat > (2 ^ 63 - 1) / 8 := by
    have : (sizeLine : Nat) ≤ (2 ^ 63 - 1) / 8 := by decide
    omega
  have hfit : ¬ (!Builtin.List.listFitsIndex k) = true := by
    rw [fitsIndex_both h1 h2]
    exact Bool.false_ne_true
  have hlong : ¬ Builtin.List.listTooLong (its.toArray.size * k.toNat) = true := by
    rw [notLongL hlen]
    exact Bool.false_ne_true
  have hnew : List.foldl (fun x1 x2 => x1 ++ x2) #[] (List.replicate (if its.toArray.isEmpty = true then 0 else k.toNat) its.toArray) = (List.replicate k.toNat its).flatten.toArray := by
    have f0 : ∀ m : Nat, List.foldl (fun x1 x2 => x1 ++ x2) #[] (List.replicate m its.toArray) = (List.replicate m its).flatten.toArray := fun m => by
      have := foldl_rep its m []
      rw [List.nil_append] at this
      exact this
    rw [f0]
    cases its with
    | nil => simp
    | cons a r' => rw [if_neg (by simp)]
  refine wpAny_binaryOp_repeat_ref (T := "list") (U := "int") (by decide) ⟨_, e, rfl⟩ (fun s' => typeIs_int s' k t) noFill_list_mul F.fills_int_mul F.slot_int_rmul repeat_list F.slot_int_index.lookup
    (call_meets F.slot_int_rmul (typeIs_int s k t) F.entry_int_rmul (F.args_int_rmul_2 _ _) (int___rmul___int_list k t l its.toArray n)
      ⟨e, rfl, ⟨_, e, rfl⟩, call_meets F.slot_list_mul ⟨_, e, rfl⟩ F.entry_list_mul (F.args_list_mul_2 _ _) (AutoListH.list___mul___list_int_3 l its.toArray n k t hfit hcap hlong) ⟨e, ?_⟩⟩)
  rw [hnew]
  exact ⟨.ref _, _, I.lnew (t' := s.toks) (r.rep k.toNat) (by rw [PyProof.Rows.lm_len_rep_flat, Nat.mul_comm]; exact hz), rfl, q _ I.fresh⟩

def rMul3 (K : PySem.W.Frag) : R2 := fun x y H Q => ((rI CMul fun i j => .int (i * j)) x y H Q ∨ (rRepT K x y H Q ∨ rRep01 K x y H Q)) ∨ rRepR x y H Q
theorem op_mul3 : OpR X (binaryOp .Mult) (rMul3 X.K) := (op_mul.or (op_repT.or op_rep01)).or op_repR
theorem Reps.rep {xs : List D} {vs : List V} (p : Reps K W H xs vs) : ∀ k : Nat, Reps K W H (List.replicate k xs).flatten (List.replicate k vs).flatten
  | 0 => .nil
  | k + 1 => by
    rw [List.replicate_succ, List.replicate_succ, List.flatten_cons, List.flatten_cons]
    exact p.append (Reps.rep p k)
theorem small_ok {i : Int} (h : small i = true) : -(2 ^ 64) < i ∧ i < 2 ^ 64 := by
  exact tst_iff.mp h
theorem mul_ok {x y d : D} {u v : V} {Q : VK} (r : Rel K nm W S H) (p : Rep K W H x u) (q : Rep K W H y v) (h : bop .mul x y S = some d) (f : Fin K nm W S H d Q) : rMul3 K u v H Q := by
  simp only [bop, mulD] at h
  split at h
  · split at h
    · rename_i z
      cases h; cases p; cases q
      refine .inl (.inl ⟨_, _, rfl, rfl, ?_, f.here r (.int _)⟩)
      simp only [Bool.or_eq_true] at z
      rcases z with z | z
      · exact .inl (small_ok z)
      · exact .inr (small_ok z)
    · cases h
  · rename_i aa k
    split at h
    · rename_i z
      cases h
      cases p with
      | @tup _ a vs h1 p1 =>
        cases q
        have ne : vs ≠ [] := fun e => z.2.2.2 (p1.nil_iff.mp e)
        by_cases k2 : 2 ≤ k
        · exact .inl (.inr (.inl ⟨a, _, vs, rfl, rfl, h1, ne, k2, z.2.1, by rw [p1.lens]; exact z.2.2.1, fun p hp => f.tup r (p1.rep _) hp⟩))
        · by_cases k1 : k = 1
          · subst k1
            have e : (List.replicate (Int.toNat 1) aa).flatten = aa := by rw [show Int.toNat 1 = 1 from rfl, List.replicate_one, List.flatten_singleton]
            rw [e] at f
            exact .inl (.inr (.inr ⟨a, 1, vs, rfl, rfl, h1, ne, .inl ⟨rfl, f.here r (.tup h1 p1)⟩⟩))
          · have k0 : k.toNat = 0 := by omega
            rw [k0] at f
            exact .inl (.inr (.inr ⟨a, k, vs, rfl, rfl, h1, ne, .inr ⟨by omega, by omega, fun p hp => f.tup r .nil hp⟩⟩))
    · cases h
  · split at h
    · split at h
      · rename_i e1 z
        cases h
        cases q
        obtain ⟨a, vs, rfl, h1, p1⟩ := rep_lst r p e1
        refine .inr ⟨a, _, vs, rfl, rfl, h1, by omega, by omega, ?_, fun p hp => f.lst r (p1.rep _) hp⟩
        rw [p1.lens, sizeLine_eq]
        have := Nat.mul_le_mul z.2.2 (show (Int.toNat _) ≤ 1000 from Int.toNat_le.mpr z.2.1)
        omega
      · cases h
    · cases h
  · cases h

/-! ### comparisons -/
theorem ord_ok {p' : Int → Int → Bool} {x y : D} {b : Bool} {u v : V} {Q : VK} (r : Rel K nm W S H) (p : Rep K W H x u) (q : Rep K W H y v) (h : ordD p' x y = some b) (f : Fin K nm W S H (.bl b) Q) : (rI0 fun i j => .bl (p' i j)) u v H Q := by
  simp only [ordD] at h
  split at h
  · cases h; cases p; cases q; exact ⟨_, _, rfl, rfl, f.here r (.bl _)⟩
  · cases h
end
mutual
theorem sh_ok : ∀ (n : Nat) (d : D), sh n d = true → PyData.canLay0 (pyT d) = true ∧ PyData.depth (pyT d) ≤ n
  | _, .non, _ => ⟨rfl, Nat.zero_le _⟩
  | _, .bl _, _ => ⟨rfl, Nat.zero_le _⟩
  | _, .int _, _ => ⟨rfl, Nat.zero_le _⟩
  | _, .str x, h => ⟨h, Nat.zero_le _⟩
  | 0, .tup _, h => by simp [sh] at h
  | n + 1, .tup xs, h => by
    obtain ⟨a, b⟩ := shs_ok n xs (by simpa [sh] using h)
    exact ⟨a, Nat.succ_le_succ b⟩
  | 0, .lst _, h => by simp [sh] at h
  | n + 1, .lst xs, h => by
    obtain ⟨a, b⟩ := shs_ok n xs (by simpa [sh] using h)
    exact ⟨a, Nat.succ_le_succ b⟩
  | _, .dct _, h => by simp [sh] at h
  | _, .ref _, h => by simp [sh] at h
  | _, .scr _, h => by simp [sh] at h
theorem shs_ok : ∀ (n : Nat) (d : List D), shs n d = true → PyData.canLayAll0 (pyTs d) = true ∧ PyData.depthAll (pyTs d) ≤ n
  | _, [], _ => ⟨rfl, Nat.zero_le _⟩
  | n, x :: xs, h => by
    simp only [shs, Bool.and_eq_true] at h
    obtain ⟨a, b⟩ := sh_ok n x h.1
    obtain ⟨c, d⟩ := shs_ok n xs h.2
    exact ⟨by simp [pyTs, PyData.canLayAll0, a, c], by simp only [pyTs, PyData.depthAll]; omega⟩
end
theorem shaped_ok {d : D} (h : sh 8 d = true) : SeqAt.shaped (pyT d) = true := by
  obtain ⟨a, b⟩ := sh_ok 8 d h
  unfold SeqAt.shaped
  rw [a]
  simp; omega
section
variable {K : PySem.W.Frag} {nm : Nm} {W W' W'' : Wd} {H H' H'' : Hp} {S S' : Store} {X : Cx}
mutual
theorem rep_dp : ∀ {n : Nat} {d : D} {v : V}, Rep K W H d v → sh n d = true → Dp K H v (pyT d)
  | _, _, _, .non, _ => .non
  | _, _, _, .bl _, _ => .bl _
  | _, _, _, .int _, _ => .int _
  | _, _, _, .str _, _ => .str _
  | 0, _, _, .tup _ _, h => by simp [sh] at h
  | n + 1, _, _, .tup a r, h => .tup a (reps_dp (n := n) r (by simpa [sh] using h))
  | 0, _, _, .lst _ _ _ _, h => by simp [sh] at h
  | n + 1, _, _, .lst a _ _ r, h => .lst (.inl a) (reps_dp (n := n) r (by simpa [sh] using h))
  | _, _, _, .dct _ _ _ _, h => by simp [sh] at h
  | _, _, _, .ref _, h => by simp [sh] at h
  | _, _, _, .scr _, h => by simp [sh] at h
theorem reps_dp : ∀ {n : Nat} {d : List D} {v : List V}, Reps K W H d v → shs n d = true → DpAll K H v (pyTs d)
  | _, _, _, .nil, _ => .nil
  | _, _, _, .cons a b, h => by
    simp only [shs, Bool.and_eq_true] at h
    exact .cons (rep_dp a h.1) (reps_dp b h.2)
end
theorem rep_frz1 {d : D} {v : V} (r : Rel K nm W S H) (p : Rep K W H d v) {n : Nat} (h : sh n (frz1 d S) = true) : Dp K H v (pyT (frz1 d S)) := by
  cases p with
  | @ref k a h1 =>
    revert h
    simp only [frz1]
    split
    · rename_i xs q
      intro h
      obtain ⟨vs, e, z⟩ := r.ob k a _ h1 q
      cases n with
      | zero => simp [sh] at h
      | succ n => exact .lst (.inl (.inl e)) (reps_dp z (by simpa [sh] using h))
    · intro h; simp [sh] at h
  | non => exact .non
  | bl _ => exact .bl _
  | int _ => exact .int _
  | str _ => exact .str _
  | tup a b => exact rep_dp (.tup a b) h
  | lst a b c d => exact rep_dp (.lst a b c d) h
  | dct a b c d => exact rep_dp (.dct a b c d) h
  | scr a => exact rep_dp (W := W) (.scr a) h
def rEq2 (K : PySem.W.Frag) : R2 := fun x y H Q => rEq x y H Q ∨ rEqD K x y H Q
theorem op_eq2 (hu : X.A.units + 64 < cLine) : OpR X (compareOp .Eq) (rEq2 X.K) := op_eq.or (op_eqD hu)
def rNe2 (K : PySem.W.Frag) : R2 := fun x y H Q => rNe x y H Q ∨ rNeD K x y H Q
theorem op_ne2 (hu : X.A.units + 64 < cLine) : OpR X (compareOp .NotEq) (rNe2 X.K) := op_ne.or (op_neD hu)
theorem eq_core {x y : D} {b : Bool} {u v : V} (r : Rel K nm W S H) (p : Rep K W H x u) (q : Rep K W H y v) (h : eqD (frz1 x S) (frz1 y S) = some b) :
    (scal u v = true ∧ decide (u = v) = b) ∨ ∃ d e, Dp K H u d ∧ Dp K H v e ∧ SeqAt.shaped d = true ∧ SeqAt.shaped e = true ∧ PyData.eqv d e = b := by
  have deep : (if sh 8 (frz1 x S) && sh 8 (frz1 y S) then some (eqv2 (frz1 x S) (frz1 y S)) else none) = some b → ∃ d e, Dp K H u d ∧ Dp K H v e ∧ SeqAt.shaped d = true ∧ SeqAt.shaped e = true ∧ PyData.eqv d e = b := fun h => by
    split at h
    · rename_i z
      simp only [Bool.and_eq_true] at z
      cases h
      exact ⟨_, _, rep_frz1 r p z.1, rep_frz1 r q z.2, shaped_ok z.1, shaped_ok z.2, rfl⟩
    · cases h
  have fx : ∀ {d : D} {i : Nat}, (∀ n, d ≠ .ref n) → frz1 d S = d := fun {d _} hd => by
    cases d <;> first | rfl | exact absurd rfl (hd _)
  have sc : ∀ {d e : D}, frz1 d S = e → (∀ n, e ≠ .ref n) → (∀ l, e ≠ .lst l) → d = e := fun {d e} hd h1 h2 => by
    cases d with
    | ref n =>
      simp only [frz1] at hd
      split at hd
      · exact absurd hd.symm (h2 _)
      · exact absurd hd.symm (h1 _)
    | _ => exact hd
  simp only [eqD] at h
  split at h
  · rename_i e1 e2
    have e1 := sc e1 (by simp) (by simp); have e2 := sc e2 (by simp) (by simp)
    subst e1; subst e2
    cases h; cases p; cases q
    exact .inl ⟨rfl, by simp⟩
  · rename_i e1 e2
    have e1 := sc e1 (by simp) (by simp); have e2 := sc e2 (by simp) (by simp)
    subst e1; subst e2
    cases h; cases p; cases q
    exact .inl ⟨rfl, by simp⟩
  · rename_i e1 e2
    have e1 := sc e1 (by simp) (by simp); have e2 := sc e2 (by simp) (by simp)
    subst e1; subst e2
    cases h; cases p; cases q
    exact .inl ⟨rfl, by simp⟩
  · exact .inr (deep h)
theorem eq_ok {x y : D} {b : Bool} {u v : V} {Q : VK} (r : Rel K nm W S H) (p : Rep K W H x u) (q : Rep K W H y v) (h : eqD (frz1 x S) (frz1 y S) = some b) (f : Fin K nm W S H (.bl b) Q) : rEq2 K u v H Q := by
  rcases eq_core r p q h with ⟨h1, h2⟩ | ⟨d, e, h1, h2, h3, h4, h5⟩
  · exact .inl ⟨h1, by rw [h2]; exact f.here r (.bl _)⟩
  · exact .inr ⟨d, e, h1, h2, h3, h4, by rw [h5]; exact f.here r (.bl _)⟩
theorem ne_ok {x y : D} {b : Bool} {u v : V} {Q : VK} (r : Rel K nm W S H) (p : Rep K W H x u) (q : Rep K W H y v) (h : (eqD (frz1 x S) (frz1 y S)).map not = some b) (f : Fin K nm W S H (.bl b) Q) : rNe2 K u v H Q := by
  rw [Option.map_eq_some_iff] at h
  obtain ⟨c, h, e⟩ := h
  subst e
  rcases eq_core r p q h with ⟨h1, h2⟩ | ⟨d, e, h1, h2, h3, h4, h5⟩
  · exact .inl ⟨h1, by rw [h2]; exact f.here r (.bl _)⟩
  · exact .inr ⟨d, e, h1, h2, h3, h4, by rw [h5]; exact f.here r (.bl _)⟩
end
end PL

set_option Elab.async false
set_option linter.all false
set_option maxRecDepth 100000
set_option maxHeartbeats 1000000
/-! PLE: subscripts, slices, built-ins. -/
namespace PL
open PySem PySem.Spec PyProof.Rows L2
section
variable {K : PySem.W.Frag} {nm : Nm} {W W' W'' : Wd} {H H' H'' : Hp} {S S' : Store} {X : Cx}
theorem atI_some {α : Type} {xs : List α} {i : Int} {x : α} (h : atI xs i = some x) : ∃ j, ixN xs.length i = some j ∧ xs[j]? = some x := by
  unfold atI at h
  exact Option.bind_eq_some_iff.mp h
theorem reps_at {xs : List D} {vs : List V} {i : Int} {d : D} (p : Reps K W H xs vs) (h : atI xs i = some d) : ∃ v, atI vs i = some v ∧ Rep K W H d v := by
  obtain ⟨j, h1, h2⟩ := atI_some h
  obtain ⟨v, h3, h4⟩ := p.get h2
  exact ⟨v, by unfold atI; rw [p.lens, h1]; exact h3, h4⟩
theorem ix_ok {x y d : D} {u v : V} {Q : VK} (r : Rel K nm W S H) (p : Rep K W H x u) (q : Rep K W H y v) (h : getD_ x y S = some d) (f : Fin K nm W S H d Q) : rIx K u v H Q := by
  simp only [getD_] at h
  split at h
  · split at h
    · rename_i z
      cases p; cases q
      rw [Option.map_eq_some_iff] at h
      obtain ⟨c, h1, h2⟩ := h
      subst h2
      exact .inr (.inr ⟨_, _, c, rfl, rfl, by rw [← SZ_eq]; exact z, h1, f.here r (.str _)⟩)
    · cases h
  · split at h
    · rename_i e
      split at h
      · cases q
        obtain ⟨a, vs, rfl, h1, h2⟩ := rep_seq r p e
        obtain ⟨w, h3, h4⟩ := reps_at h2 h
        rcases h1 with h1 | h1
        · exact .inl ⟨a, vs, _, w, rfl, rfl, h1, h3, f.here r h4⟩
        · exact .inr (.inl ⟨a, vs, _, w, rfl, rfl, h1, h3, f.here r h4⟩)
      · cases h
    · cases h
/-! ### slices -/
def rSl3 (K : PySem.W.Frag) : V → Option Int → Option Int → Hp → VK → Prop := fun x lo hi H Q => (rSlA K x lo hi H Q ∨ rSlL K x lo hi H Q) ∨ rSlS x lo hi H Q
theorem sl_3 : SlR X (rSl3 X.K) := (sl_tupA.or sl_list).or sl_str
theorem reps_cut {xs : List D} {vs : List V} {lo hi : Option Int} (p : Reps K W H xs vs) : Reps K W H (cutD xs lo hi) (cutV vs lo hi) := by
  show Reps K W H ((xs.drop _).take _) ((vs.drop _).take _)
  rw [p.lens]
  exact (p.drop _).take _
theorem sl_ok {x d : D} {u : V} {lo hi : Option Int} {Q : VK} (r : Rel K nm W S H) (p : Rep K W H x u) (h : slD x lo hi S = some d) (f : Fin K nm W S H d Q) : rSl3 K u lo hi H Q := by
  simp only [slD] at h
  split at h
  · split at h
    · rename_i z
      cases h; cases p
      exact .inr ⟨_, rfl, by rw [← SZ_eq]; exact z, f.here r (.str _)⟩
    · cases h
  · cases h
    cases p with
    | @tup _ a vs h1 p1 =>
      refine .inl (.inl ⟨a, vs, rfl, h1, fun e => ?_, fun _ p hp => f.tup r (reps_cut p1) hp⟩)
      have e2 : cutV vs lo hi = vs := by
        show (vs.drop _).take _ = vs
        rw [e.1, e.2]
        simp
      refine f.here r (.tup h1 ?_)
      have := reps_cut (lo := lo) (hi := hi) p1
      rw [e2] at this
      exact this
  · cases h
    cases p with
    | @scr _ a h1 => exact .inl (.inr ⟨a, _, rfl, h1.sq, fun p hp => f.lst r (reps_cut (reps_int _)) hp⟩)
  · split at h
    · rename_i e
      cases h
      obtain ⟨a, vs, rfl, h1, p1⟩ := rep_lst r p e
      exact .inl (.inr ⟨a, vs, rfl, .inl h1, fun p hp => f.lst r (reps_cut p1) hp⟩)
    · cases h

/-! ### built-in functions -/
def CallK (X : Cx) (K : PySem.W.Frag) (nm : Nm) (g : List D → Store → Option D) (r : List V → Hp → VK → Prop) : Prop :=
  ∀ (W : Wd) (S : Store) (H : Hp) (as : List D) (vs : List V) (d : D) (Q : VK), Rel K nm W S H → Reps K W H as vs → g as S = some d → Fin K nm W S H d Q → r vs H Q
theorem CallR.or {X : Cx} {f : Value} {r r' : List V → Hp → VK → Prop} (h : CallR X f r) (h' : CallR X f r') : CallR X f (fun x H Q => r x H Q ∨ r' x H Q) := by
  intro pins s σ H xs us Q I rx q
  rcases q with q | q
  · exact h pins s σ H xs us Q I rx q
  · exact h' pins s σ H xs us Q I rx q
theorem call_lenR : CallR X (.builtin "len") (fun xs H Q => ∃ a kvs, xs = [V.ref a] ∧ Rd H a (.dK kvs) ∧ Q (.int kvs.length) H) := by
  intro pins s σ H xs us Q I r h
  obtain ⟨a, kvs, rfl, ha, q⟩ := h
  obtain ⟨u, rfl, ru⟩ := vals1 r
  cases ru
  exact d_len I ha fun t s' I' => ⟨.int kvs.length, H, I', ⟨t, rfl⟩, q⟩
def rLen3 (K : PySem.W.Frag) : List V → Hp → VK → Prop := fun vs H Q => ((∃ p ys, vs = [.ref p] ∧ (SqL K H p ys ∨ SqT K H p ys) ∧ Q (.int ys.length) H) ∨ (∃ z, vs = [.str z] ∧ z.length ≤ sizeLine ∧ Q (.int z.length) H)) ∨ (∃ p kvs, vs = [.ref p] ∧ Rd H p (.dK kvs) ∧ Q (.int kvs.length) H)
theorem call_len3 : CallR X (.builtin "len") (rLen3 X.K) := (CallR.or call_len_seq call_len_str).or call_lenR
theorem reps1 {d : D} {vs : List V} (p : Reps K W H [d] vs) : ∃ v, vs = [v] ∧ Rep K W H d v := by
  cases p with | cons a b => cases b; exact ⟨_, rfl, a⟩
theorem reps2 {d e : D} {vs : List V} (p : Reps K W H [d, e] vs) : ∃ v u, vs = [v, u] ∧ Rep K W H d v ∧ Rep K W H e u := by
  cases p with | cons a b => cases b with | cons b c => cases c; exact ⟨_, _, rfl, a, b⟩
theorem len_ok : CallK X K nm lenF (rLen3 K) := by
  intro W S H as vs d Q r p h f
  simp only [lenF] at h
  split at h <;> try (cases h; done)
  obtain ⟨v, e0, p1⟩ := reps1 p
  subst e0
  clear p
  have p := p1
  clear p1
  rw [Option.map_eq_some_iff] at h
  obtain ⟨n, h1, h2⟩ := h
  subst h2
  simp only [lenD] at h1
  split at h1
  · split at h1
    · rename_i z
      cases h1; cases p
      exact .inl (.inr ⟨_, rfl, by rw [← SZ_eq]; exact z, f.here r (.int _)⟩)
    · cases h1
  · split at h1
    · rename_i e
      cases h1
      obtain ⟨a, ws, rfl, h3, h4⟩ := rep_seq r p e
      exact .inl (.inl ⟨a, ws, rfl, h3, by rw [h4.lens]; exact f.here r (.int _)⟩)
    · rw [Option.map_eq_some_iff] at h1
      obtain ⟨kvs, h5, h6⟩ := h1
      subst h6
      obtain ⟨a, ws, rfl, h3, h4⟩ := rep_dct r p h5
      exact .inr ⟨a, ws, rfl, h3, by rw [← h4.length]; exact f.here r (.int _)⟩
theorem all_ok : CallK X K nm allF (rAll K) := by
  intro W S H as vs d Q r p h f
  simp only [allF] at h
  split at h <;> try (cases h; done)
  obtain ⟨v, e0, p1⟩ := reps1 p
  subst e0
  clear p
  have p := p1
  clear p1
  rw [Option.map_eq_some_iff] at h
  obtain ⟨b, h1, h2⟩ := h
  subst h2
  obtain ⟨xs, h3, h4⟩ := Option.bind_eq_some_iff.mp h1
  obtain ⟨a, ws, rfl, h5, h6⟩ := rep_lst r p h3
  obtain ⟨bs, rfl, h7⟩ := reps_bools h6 h4
  exact ⟨a, bs, rfl, .inl h5, by rw [h7]; exact f.here r (.bl _)⟩
theorem any_ok : CallK X K nm anyF (rAny K) := by
  intro W S H as vs d Q r p h f
  simp only [anyF] at h
  split at h <;> try (cases h; done)
  obtain ⟨v, e0, p1⟩ := reps1 p
  subst e0
  clear p
  have p := p1
  clear p1
  rw [Option.map_eq_some_iff] at h
  obtain ⟨b, h1, h2⟩ := h
  subst h2
  obtain ⟨xs, h3, h4⟩ := Option.bind_eq_some_iff.mp h1
  obtain ⟨a, ws, rfl, h5, h6⟩ := rep_lst r p h3
  obtain ⟨bs, rfl, h7⟩ := reps_boolsA h6 h4
  exact ⟨a, bs, rfl, .inl h5, by rw [h7]; exact f.here r (.bl _)⟩
theorem sum_ok : CallK X K nm sumF (fun xs H Q => rSum K xs H Q ∨ rSumT K xs H Q) := by
  intro W S H as vs d Q r p h f
  simp only [sumF] at h
  split at h <;> try (cases h; done)
  · obtain ⟨v, e0, p1⟩ := reps1 p
    subst e0
    rw [Option.map_eq_some_iff] at h
    obtain ⟨b, h1, h2⟩ := h
    subst h2
    cases p1 with
    | @tup _ a ws h5 h6 =>
      have h7 := reps_ints h6 h1
      subst h7
      exact .inr ⟨a, b, rfl, h5, f.here r (.int _)⟩
  refine .inl ?_
  obtain ⟨v, e0, p1⟩ := reps1 p
  subst e0
  clear p
  have p := p1
  clear p1
  rw [Option.map_eq_some_iff] at h
  obtain ⟨b, h1, h2⟩ := h
  subst h2
  obtain ⟨xs, h3, h4⟩ := Option.bind_eq_some_iff.mp h1
  obtain ⟨a, ws, rfl, h5, h6⟩ := rep_lst r p h3
  have h7 := reps_ints h6 h4
  subst h7
  exact ⟨a, b, rfl, .inl h5, f.here r (.int _)⟩
def rTup2 (K : PySem.W.Frag) : List V → Hp → VK → Prop := fun xs H Q => ∃ p ys, xs = [.ref p] ∧ ((SqL K H p ys ∧ ∀ l, H l = none → Q (.ref l) (upd H l (.tup ys))) ∨ (SqT K H p ys ∧ Q (.ref p) H))
theorem tuple_ok : CallK X K nm tupF (rTup2 K) := by
  intro W S H as vs d Q r p h f
  simp only [tupF] at h
  split at h <;> try (cases h; done)
  obtain ⟨v, e0, p1⟩ := reps1 p
  subst e0
  clear p
  have p := p1
  clear p1
  rw [Option.map_eq_some_iff] at h
  obtain ⟨xs, h1, h2⟩ := h
  subst h2
  obtain ⟨a, ws, rfl, h3, h4⟩ := rep_seq r p h1
  refine ⟨a, ws, rfl, ?_⟩
  rcases h3 with h3 | h3
  · exact .inl ⟨h3, fun l hl => f.tup r h4 hl⟩
  · exact .inr ⟨h3, f.here r (.tup h3 h4)⟩
def rLst2 (K : PySem.W.Frag) : List V → Hp → VK → Prop := fun xs H Q => ∃ p ys, xs = [.ref p] ∧ (SqL K H p ys ∨ SqT K H p ys) ∧ ∀ l, H l = none → Q (.ref l) (upd H l (.lst ys))
theorem items_rep {d : D} {v : V} {xs : List D} (r : Rel K nm W S H) (p : Rep K W H d v) (h : itemsOf d S = some xs) :
    (∃ a vs, v = .ref a ∧ (SqL K H a vs ∨ SqT K H a vs) ∧ Reps K W H xs vs) ∨ ∃ a ds vs, v = .ref a ∧ Rd H a (.dK vs) ∧ RepK K W H ds vs ∧ xs = ds.map fun p => kyD p.1 := by
  simp only [itemsOf] at h
  split at h
  · rename_i e
    cases h
    exact .inl (rep_seq r p e)
  · simp only [keysD] at h
    split at h
    · rename_i ds e
      cases h
      obtain ⟨a, ws, e1, e2, e3⟩ := rep_dct r p e
      exact .inr ⟨a, ds, ws, e1, e2, e3, rfl⟩
    · cases h
theorem reps_keys {ds : List (Ky × D)} {vs : List (Key × V)} (p : RepK K W H ds vs) : Reps K W H (ds.map fun p => kyD p.1) (vs.map fun kv => kV kv.1) := by
  induction ds generalizing vs with
  | nil => cases p; exact .nil
  | cons x ds ih =>
    cases p with
    | @cons k d v _ vs a b =>
      refine .cons ?_ (ih b)
      cases k with
      | inl i => exact .int i
      | inr x => exact .str x
theorem repK_keys {ds : List (Ky × D)} {vs : List (Key × V)} (p : RepK K W H ds vs) : vs.map (·.1) = ds.map (·.1) := by
  induction ds generalizing vs with
  | nil => cases p; rfl
  | cons x ds ih =>
    cases p with
    | cons a b => simp [ih b]
/-- a new list of these -/
def FinL (K : PySem.W.Frag) (W : Wd) (H : Hp) (xs : List D) (Q : VK) : Prop := ∀ vs a, Reps K W H xs vs → H a = none → Q (.ref a) (upd H a (.lst vs))
theorem Fin.finL {xs : List D} {Q : VK} (f : Fin K nm W S H (.lst xs) Q) (r : Rel K nm W S H) : FinL K W H xs Q := fun vs a p h => f.lst r p h
def rLst3 (K : PySem.W.Frag) : List V → Hp → VK → Prop := fun xs H Q => rLst2 K xs H Q ∨ ∃ (a : Addr) (kvs : List (Key × V)), xs = [.ref a] ∧ Rd H a (.dK kvs) ∧ ∀ p, H p = none → Q (.ref p) (upd H p (.lst (kvs.map fun kv => kV kv.1)))
theorem list_new {as : List D} {vs : List V} {xs : List D} {Q : VK} (r : Rel K nm W S H) (p : Reps K W H as vs) (h : listF as S = some (.lst xs)) (f : FinL K W H xs Q) : rLst3 K vs H Q := by
  simp only [listF] at h
  split at h <;> try (cases h; done)
  obtain ⟨v, e0, p1⟩ := reps1 p
  subst e0
  rw [Option.map_eq_some_iff] at h
  obtain ⟨xs', h1, h2⟩ := h
  cases h2
  rcases items_rep r p1 h1 with ⟨a, ws, rfl, h3, h4⟩ | ⟨a, ds, ws, rfl, h3, h4, rfl⟩
  · exact .inl ⟨a, ws, rfl, h3, fun l hl => f _ _ h4 hl⟩
  · exact .inr ⟨a, ws, rfl, h3, fun l hl => f _ _ (reps_keys h4) hl⟩
theorem list_ok : CallK X K nm listF (rLst3 K) := by
  intro W S H as vs d Q r p h f
  obtain ⟨xs, rfl⟩ : ∃ xs, d = .lst xs := by
    simp only [listF] at h
    split at h <;> try (cases h; done)
    rw [Option.map_eq_some_iff] at h
    obtain ⟨xs, _, h2⟩ := h
    exact ⟨xs, h2.symm⟩
  exact list_new r p h (f.finL r)
theorem max_ok : CallK X K nm maxF (fun xs H Q => ∃ i j, xs = [.int i, .int j] ∧ Q (.int (if j > i then j else i)) H) := by
  intro W S H as vs d Q r p h f
  simp only [maxF] at h
  split at h <;> try (cases h; done)
  obtain ⟨v, u, e0, p1, q⟩ := reps2 p
  subst e0
  clear p
  have p := p1
  clear p1
  cases p; cases q; cases h
  exact ⟨_, _, rfl, f.here r (.int _)⟩
theorem min_ok : CallK X K nm minF (fun xs H Q => ∃ i j, xs = [.int i, .int j] ∧ Q (.int (if j < i then j else i)) H) := by
  intro W S H as vs d Q r p h f
  simp only [minF] at h
  split at h <;> try (cases h; done)
  obtain ⟨v, u, e0, p1, q⟩ := reps2 p
  subst e0
  clear p
  have p := p1
  clear p1
  cases p; cases q; cases h
  exact ⟨_, _, rfl, f.here r (.int _)⟩

/-! ### isinstance, truth -/
def tyN : Nat → String
  | 0 => "int"
  | 1 => "bool"
  | 2 => "str"
  | 3 => "tuple"
  | _ => "frozenset"
theorem tyx_tup {a : Addr} {vs : List V} (h : SqT K H a vs) : TyX K H (.ref a) (.type "tuple") := by
  rcases h with (h | ⟨o, h⟩) | ⟨o, its, n, h1, h2, _⟩
  · exact .base (.tup h)
  · exact .fTuple h
  · exact .kTuple h1 h2
theorem tyx_lst {a : Addr} {vs : List V} (h : Rd H a (.lst vs)) : TyX K H (.ref a) (.type "list") := by
  rcases h with h | ⟨o, h⟩
  · exact .base (.lst h)
  · exact .base (.frz h)
theorem tyx_scr {a : Addr} {ns : List Int} (h : ScrAt K H a ns) : TyX K H (.ref a) (.type "list") := by
  rcases h with ⟨o, h⟩ | ⟨o, its, n, h1, h2, _⟩
  · exact .base (.frz h)
  · exact .kList h1 h2
theorem tyx_dct {a : Addr} {vs : List (Key × V)} (h : Rd H a (.dK vs)) : TyX K H (.ref a) (.type "dict") := by
  rcases h with h | ⟨o, h⟩
  · exact .base (.dK h)
  · exact .fDict h
theorem isa_ok {t : Nat} {d : D} {v : V} {Q : VK} (r : Rel K nm W S H) (p : Rep K W H d v) (hn : notIns d S = true) (f : Fin K nm W S H (.bl (isaD t d)) Q) : ∃ ty b, TyX K H v ty ∧ PySem.W.kitOne K ty (.type (tyN t)) = some b ∧ Q (.bl b) H := by
  have key : ∀ (s : String), TyX K H v (.type s) → PySem.W.kitOne K (.type s) (.type (tyN t)) = some (isaD t d) → ∃ ty b, TyX K H v ty ∧ PySem.W.kitOne K ty (.type (tyN t)) = some b ∧ Q (.bl b) H := fun s h1 h2 => ⟨_, _, h1, h2, f.here r (.bl _)⟩
  have ob : ∀ {a : Addr} {n : Nat}, W.m[n]? = some a → d = .ref n → v = .ref a → (TyX K H v (.type "list") ∨ TyX K H v (.type "dict")) := fun {a n} h1 h2 h3 => by
    subst h2 h3
    simp only [notIns] at hn
    have hl : n < S.length := by rw [← r.len]; exact (List.getElem?_eq_some_iff.mp h1).1
    have q := r.ob n a S[n] h1 (by simp [hl])
    have e : S[n]? = some S[n] := by simp [hl]
    rw [e] at hn
    revert q hn
    generalize S[n] = o
    intro hn q
    cases o with
    | lst xs => obtain ⟨vs, e, _⟩ := q; exact .inl (.base (.lst e))
    | dct xs => obtain ⟨vs, e, _⟩ := q; exact .inr (.base (.dK e))
    | dtt xs => obtain ⟨vs, e, _⟩ := q; exact .inr (.base (.dT e))
    | lck xs => cases hn
    | ins c fs => cases hn
  have t4 : t = 0 ∨ t = 1 ∨ t = 2 ∨ t = 3 ∨ ∃ k, t = k + 4 := by
    rcases t with _ | _ | _ | _ | k
    · exact .inl rfl
    · exact .inr (.inl rfl)
    · exact .inr (.inr (.inl rfl))
    · exact .inr (.inr (.inr (.inl rfl)))
    · exact .inr (.inr (.inr (.inr ⟨k, rfl⟩)))
  rcases t4 with rfl | rfl | rfl | rfl | ⟨k, rfl⟩
  all_goals
    cases p with
    | non => exact key "NoneType" (.base .non) (kit_ty (by simp only [isaD, tyN]; decide +kernel))
    | bl b => exact key "bool" (.base (.bl _)) (kit_ty (by simp only [isaD, tyN]; decide +kernel))
    | int b => exact key "int" (.base (.int _)) (kit_ty (by simp only [isaD, tyN]; decide +kernel))
    | str b => exact key "str" (.base (.str _)) (kit_ty (by simp only [isaD, tyN]; decide +kernel))
    | tup h1 h2 => exact key "tuple" (tyx_tup h1) (kit_ty (by simp only [isaD, tyN]; decide +kernel))
    | lst h1 h2 h3 h4 => exact key "list" (tyx_lst h1) (kit_ty (by simp only [isaD, tyN]; decide +kernel))
    | dct h1 h2 h3 h4 => exact key "dict" (tyx_dct h1) (kit_ty (by simp only [isaD, tyN]; decide +kernel))
    | scr h1 => exact key "list" (tyx_scr h1) (kit_ty (by simp only [isaD, tyN]; decide +kernel))
    | ref h1 =>
      rcases ob h1 rfl rfl with h2 | h2
      · exact key "list" h2 (kit_ty (by simp only [isaD, tyN]; decide +kernel))
      · exact key "dict" h2 (kit_ty (by simp only [isaD, tyN]; decide +kernel))

/-! ### in -/
theorem flat_ok {d : D} {v : V} {e : D} {u : V} {b : Bool} (p : Rep K W H d v) (q : Rep K W H e u) (h : flatEq d e = some b) : flatV v = true ∧ flatV u = true ∧ eqV v u = b := by
  cases p <;> cases q <;> simp only [flatEq] at h <;> first | (cases h; done) | (cases h; refine ⟨rfl, rfl, ?_⟩; simp [eqV, Bool.beq_eq_decide_eq]) 
theorem mem_ok {x : D} {u : V} (p : Rep K W H x u) : ∀ {xs : List D} {vs : List V} {b : Bool}, Reps K W H xs vs → memF x xs = some b → xs ≠ [] → flatV u = true ∧ vs.all flatV = true ∧ inV u vs = b := by
  intro xs
  induction xs with
  | nil => intro vs b q h hn; exact absurd rfl hn
  | cons y ys ih =>
    intro vs b q h _
    cases q with
    | @cons _ v _ vs' a c =>
      simp only [memF] at h
      split at h
      · rename_i k1 k2 e1 e2
        cases h
        obtain ⟨f1, f2, f3⟩ := flat_ok a p e1
        cases ys with
        | nil =>
          cases c
          cases e2
          exact ⟨f2, by simp [f1], by simp [inV, f3]⟩
        | cons z zs =>
          obtain ⟨g1, g2, g3⟩ := ih c e2 (by simp)
          exact ⟨f2, by simp only [List.all_cons, f1, g2, Bool.and_self], by
            unfold inV at g3 ⊢
            rw [List.any_cons, f3, g3]⟩
      · cases h
def rIn2 (K : PySem.W.Frag) (neg : Bool) : R2 := fun x y H Q => (∃ i j, x = .str i ∧ y = .str j ∧ Q (.bl (if neg then !(!(Builtin.Str.occurrences j i 0 j.length 1).isEmpty) else !(Builtin.Str.occurrences j i 0 j.length 1).isEmpty)) H) ∨ rIn K neg x y H Q
theorem in_core {x y : D} {b : Bool} {u v : V} (r : Rel K nm W S H) (p : Rep K W H x u) (q : Rep K W H y v) (h : inD x y S = some b) (hf : flatD x = true) :
    (∃ i j, u = .str i ∧ v = .str j ∧ inS i j = b) ∨ ∃ a vs, v = .ref a ∧ (SqL K H a vs ∨ SqT K H a vs) ∧ flatV u = true ∧ vs.all flatV = true ∧ inV u vs = b := by
  simp only [inD] at h
  split at h
  · cases h; cases p; cases q; exact .inl ⟨_, _, rfl, rfl, rfl⟩
  · split at h
    · rename_i xs e
      obtain ⟨a, vs, rfl, h1, h2⟩ := rep_seq r q e
      by_cases hn : xs = []
      · subst hn
        cases h2; cases h
        refine .inr ⟨a, [], rfl, h1, ?_, rfl, rfl⟩
        cases p <;> first | rfl | cases hf
      · obtain ⟨g1, g2, g3⟩ := mem_ok p h2 h hn
        exact .inr ⟨a, vs, rfl, h1, g1, g2, g3⟩
    · cases h
theorem op_in2 : OpR X (compareOp .In) (rIn2 X.K false) := op_in_str.or op_in_seq
theorem op_nin2 : OpR X (compareOp .NotIn) (rIn2 X.K true) := op_notin_str.or op_notIn_seq
theorem in_ok {x y : D} {b ng : Bool} {u v : V} {Q : VK} (r : Rel K nm W S H) (p : Rep K W H x u) (q : Rep K W H y v) (h : inD x y S = some b) (hf : flatD x = true) (f : Fin K nm W S H (.bl (if ng then !b else b)) Q) : rIn2 K ng u v H Q := by
  rcases in_core r p q h hf with ⟨i, j, rfl, rfl, e⟩ | ⟨a, vs, rfl, h1, h2, h3, e⟩
  · refine .inl ⟨i, j, rfl, rfl, ?_⟩
    unfold inS at e
    rw [e]
    exact f.here r (.bl _)
  · exact .inr ⟨a, vs, rfl, h1, h2, h3, by rw [e]; exact f.here r (.bl _)⟩
/-! ### equal dicts -/
theorem valV_get {ls : List (Key × V)} {ds : List (Ky × D)} (p : RepK K W H ds ls) {k : Ky} {d : D} (h : getK ds k = some d) : ∃ u, valV ls k = some u ∧ Rep K W H d u := by
  induction ds generalizing ls with
  | nil => cases h
  | cons x ds ih =>
    cases p with
    | @cons k0 d0 v0 _ vs a b =>
      simp only [getK] at h
      by_cases z : k0 = k
      · rw [if_pos z] at h
        cases h
        exact ⟨v0, by simp [valV, z], a⟩
      · rw [if_neg z] at h
        obtain ⟨u, h1, h2⟩ := ih b h
        refine ⟨u, ?_, h2⟩
        unfold valV at h1 ⊢
        rw [List.find?_cons_of_neg (by simpa using z)]
        exact h1
theorem repK_mem {ls : List (Key × V)} {ds : List (Ky × D)} (p : RepK K W H ds ls) {q : Key × V} (h : q ∈ ls) : ∃ d, (q.1, d) ∈ ds ∧ Rep K W H d q.2 := by
  induction ds generalizing ls with
  | nil => cases p; cases h
  | cons x ds ih =>
    cases p with
    | @cons k0 d0 v0 _ vs a b =>
      rcases List.mem_cons.mp h with rfl | h
      · exact ⟨d0, List.mem_cons_self, a⟩
      · obtain ⟨d, h1, h2⟩ := ih b h
        exact ⟨d, List.mem_cons_of_mem _ h1, h2⟩
theorem eqK_ok {x y : D} {a b : List (Ky × D)} {t : Bool} {u v : V} {Q : VK} (r : Rel K nm W S H) (p : Rep K W H x u) (q : Rep K W H y v) (ha : dctR x S = some a) (hb : dctR y S = some b) (h : dEq a b = true) (f : Fin K nm W S H (.bl t) Q) : rEqK K t u v H Q := by
  have at1 : ∀ {x : D} {a : List (Ky × D)} {u : V}, Rep K W H x u → dctR x S = some a → ∃ c ks, u = .ref c ∧ H c = some (.dK ks) ∧ RepK K W H a ks := fun {x a u} p ha => by
    cases p <;> simp only [dctR] at ha <;> first | (cases ha; done) | skip
    rename_i n c hm
    split at ha <;> cases ha
    rename_i hs
    obtain ⟨ks, e, z⟩ := r.ob n c _ hm hs
    exact ⟨c, ks, rfl, e, z⟩
  obtain ⟨c, ks, rfl, e1, z1⟩ := at1 p ha
  obtain ⟨c', ls, rfl, e2, z2⟩ := at1 q hb
  obtain ⟨hl, hp⟩ := tst_iff.mp h
  refine ⟨c, c', ks, ls, rfl, rfl, e1, e2, by rw [← z1.length, ← z2.length]; exact hl, fun w hw => ?_, f.here r (.bl _)⟩
  obtain ⟨d, hd, rd⟩ := repK_mem z1 hw
  obtain ⟨g1, g2⟩ := hp _ hd
  obtain ⟨u, g3, g4⟩ := valV_get z2 g1
  exact ⟨u, pyT d, g3, rep_dp rd g2, rep_dp g4 g2, shaped_ok g2⟩
end
end PL

set_option Elab.async false
set_option linter.all false
set_option maxRecDepth 100000
set_option maxHeartbeats 1000000
/-! PLS: sorted of lists, tuples, dicts; tuples turned, and each second item of them; t * 0, t * 1. -/
namespace SrtO
open PySem PyProof.Rows Srt
section
variable {prog : Program} {w : World} {A : Around} {E : Value → Shared → Prop} {s : Shared}
/-- sorted of what is collected as C says -/
theorem sorted_from {r : Value} {ltv : Value → Value → Bool} {Q : Value → Shared → Prop} (C : List Value → Prop) (O : Swo ltv) (few : ∀ vs, C vs → vs.length ≤ sizeLine)
    (col : ∀ R : List Value → Shared → Prop, (∀ (g : Heap) (tk : Nat) (vs : List Value), (∀ b o, s.heap.get? b = some o → g.get? b = some o) → C vs → R vs { s with heap := g, toks := tk }) → wpAny (model prog w) A.in1 (collect r) R E s)
    (sb : ∀ (vs : List Value) (g : Heap) (tk : Nat) (a : Addr), C vs → 2 ≤ vs.length → (∀ b o, s.heap.get? b = some o → b ≠ a ∧ g.get? b = some o) → g.get? a = some (seqObj "list" vs.toArray 0) → SortableO prog w A.in1.in1 { s with heap := g, toks := tk } a vs ltv)
    (out : ∀ (vs ys : List Value) (g g2 : Heap) (tk : Nat), C vs → Srtd ltv ys → Stb ltv ys vs → (∀ b o, s.heap.get? b = some o → g.get? b = some o) → (∀ b o, g.get? b = some o → g2.get? b = some o) → (∃ n, g2.get? g.objs.size = some (seqObj "list" ys.toArray n)) → Q (.ref g.objs.size) { s with heap := g2, toks := tk }) :
    wpAny (model prog w) A (call (.builtin "sorted") [r]) Q E s := by
  refine Calls.call_function_entry kind_sorted plain_sorted entry_sorted (args_sorted1 r) ?_
  show wpAny _ _ (Builtin.«sorted» ⟨[r], []⟩) _ _ _
  unfold Builtin.«sorted»
  refine wpAny_bind (m := checkCount "sorted" 1 1 _) (wpAny_pure (wpAny_bind (col _ fun g tk vs keep c => ?_)))
  refine wpAny_bind (wpAny_newList ?_ (few vs c))
  have at1 : (g.push (seqObj "list" vs.toArray 0)).get? g.objs.size = some (seqObj "list" vs.toArray 0) := Heap.get?_push_size _ rfl
  have big : ∀ b o, s.heap.get? b = some o → b < g.objs.size := fun b o e => Heap.lt_size (keep b o e)
  have keep2 : ∀ b o, s.heap.get? b = some o → b ≠ g.objs.size ∧ (g.push (seqObj "list" vs.toArray 0)).get? b = some o := fun b o e => ⟨Nat.ne_of_lt (big b o e), Heap.get?_push_of_some _ (keep b o e)⟩
  show wpAny _ _ _ _ _ { s with heap := g.push (seqObj "list" vs.toArray 0), toks := tk }
  refine wpAny_bind (wpAny_holding (wpAny_call_entry slot_list_sort ⟨_, at1, rfl⟩ entry_list_sort
    (list_sort_ord (s := { s with heap := g.push (seqObj "list" vs.toArray 0), toks := tk }) O at1 (few vs c) (fun h2 => sb vs _ tk _ c h2 keep2 at1) fun ys h1 h2 => ⟨_, rfl, ?_⟩) (args_list_sort _)))
  refine wpAny_pure ⟨_, rfl, out vs ys g _ tk c h1 h2 keep (fun b o e => ?_) (sortedHeap_at (vs := vs) (out := ys.toArray) at1)⟩
  have hb : b < g.objs.size := Heap.lt_size e
  rw [sortedHeap_old (Nat.ne_of_lt hb) (by rw [size_push']; exact Nat.lt_succ_of_lt hb)]
  exact Heap.get?_push_of_some _ e
end
end SrtO
namespace PL
open PySem PySem.Spec PyProof.Rows L2
section
variable {K : PySem.W.Frag} {nm : Nm} {W W' W'' : Wd} {H H' H'' : Hp} {S S' : Store} {X : Cx}
/-- a list or a tuple, as it lies -/
theorem seq_at {pins : List (Addr × Obj)} {σ : L2.St} {s : Shared} {a : Addr} {xs : List V} (I : Inv X pins σ H s) (h : SqL X.K H a xs ∨ SqT X.K H a xs) :
    ∃ (its : List Value) (T : String) (o : Obj) (n : Nat), Vals xs its ∧ (T = "list" ∨ T = "tuple") ∧ s.heap.get? a = some o ∧ o.cls = .type T ∧ o.data = .seq its.toArray n ∧ xs.length ≤ sizeLine := by
  rcases h with h | h
  · obtain ⟨its, rv, pl, hz⟩ := I.list h
    obtain ⟨o, h1, h2, n, h3⟩ := pl.isList
    exact ⟨its, "list", o, n, rv, .inl rfl, h1, h2, h3, hz⟩
  · obtain ⟨its, rv, ⟨o, h1, h2, n, h3⟩, hz⟩ := I.tuple h
    exact ⟨its, "tuple", o, n, rv, .inr rfl, h1, h2, h3, hz⟩
/-- sorted of ints -/
def rSrtI (K : PySem.W.Frag) : List V → Hp → VK → Prop := fun vs H Q => ∃ (a : Addr) (ns : List Int), vs = [V.ref a] ∧ (SqL K H a (ns.map V.int) ∨ SqT K H a (ns.map V.int)) ∧
  ∀ (ms : List Int) (p : Addr), ms.Perm ns → ms.Pairwise (· ≤ ·) → H p = none → Q (.ref p) (upd H p (.lst (ms.map V.int)))
theorem cr_srtI : CallR X (.builtin "sorted") (rSrtI X.K) := by
  intro pins s σ H vs us Q I r h
  obtain ⟨a, ns, rfl, hs, q⟩ := h
  obtain ⟨its, T, o, n, rv, hT, ho, hc, hd, hz⟩ := seq_at I hs
  rw [Vals.ref1 r]
  have hi := rv.ints
  refine SrtO.sorted_from (ltv := SrtO.ltIv) (fun vs => vs = its) SrtO.swo_int (fun vs e => by rw [e, ← rv.length]; exact hz) (fun R k => wpAny_collect_seq a hT ho hc hd (fun g keep => ?_) (by rw [List.size_toArray, ← rv.length]; exact hz)) (fun vs g tk a' e h2 keep _ => ?_) fun vs ys g g2 tk e h1 h2 keep keep2 hn => ?_
  · have := k g s.toks its keep rfl
    simpa using this
  · subst e; exact SrtO.ints_sortable hi h2
  · subst e
    obtain ⟨k1, k2, k3⟩ := SrtO.ints_out hi h1 h2
    obtain ⟨m, hn⟩ := hn
    have I1 : Inv X pins σ H { s with heap := g, toks := tk } := I.kept keep
    have hlen : ((ys.map SrtO.iv).map V.int).length ≤ sizeLine := by
      rw [List.length_map, k2.length_eq]
      rw [List.length_map] at hz
      exact hz
    exact ⟨.ref _, upd H g.objs.size (.lst ((ys.map SrtO.iv).map V.int)), I1.laid (t' := tk) keep2 (Nat.le_refl _) ⟨hlen, ys, m, vals_of_ints k1, hn⟩, rfl, q _ _ k2 k3 (I1.hok.fresh (Nat.le_refl _))⟩
/-- pairs of ints, one by one -/
inductive Prs (K : PySem.W.Frag) (H : Hp) : List V → List (Int × Int) → Prop
  | nil : Prs K H [] []
  | cons {t : Addr} {p : Int × Int} {vs : List V} {ps : List (Int × Int)} : SqT K H t [.int p.1, .int p.2] → Prs K H vs ps → Prs K H (.ref t :: vs) (p :: ps)
/-- sorted of pairs of ints -/
def rSrtP (K : PySem.W.Frag) : List V → Hp → VK → Prop := fun vs H Q => ∃ (a : Addr) (xs : List V) (ps : List (Int × Int)), vs = [V.ref a] ∧ (SqL K H a xs ∨ SqT K H a xs) ∧ Prs K H xs ps ∧
  ∀ (ys : List V) (qs : List (Int × Int)) (p : Addr), qs.Perm ps → qs.Pairwise (fun x y => SrtO.lexB y x = false) → Prs K H ys qs → H p = none → Q (.ref p) (upd H p (.lst ys))
open Srt in
open Classical in
noncomputable def kfO (h : Heap) (v : Value) : Int × Int := if z : ∃ p : Int × Int, IsPair h v p.1 p.2 then Classical.choose z else (0, 0)
open Srt in
theorem isPair_uniq {h : Heap} {v : Value} {a b c d : Int} (x : IsPair h v a b) (y : IsPair h v c d) : a = c ∧ b = d := by
  obtain ⟨t, o, t1, t2, n, e1, e2, e3, e4⟩ := x
  obtain ⟨t', o', t1', t2', n', f1, f2, f3, f4⟩ := y
  rw [e1] at f1
  cases f1
  rw [e2] at f2
  cases f2
  rw [e4] at f4
  cases f4
  exact ⟨rfl, rfl⟩
open Srt in
theorem kfO_at {h : Heap} {v : Value} {p : Int × Int} (x : IsPair h v p.1 p.2) : kfO h v = p := by
  have z : ∃ p : Int × Int, IsPair h v p.1 p.2 := ⟨p, x⟩
  unfold kfO
  rw [dif_pos z]
  obtain ⟨a, b⟩ := isPair_uniq (Classical.choose_spec z) x
  exact Prod.ext a b
open Srt in
/-- the pairs as they lie -/
theorem prs_at {pins : List (Addr × Obj)} {σ : L2.St} {s : Shared} (I : Inv X pins σ H s) : ∀ {xs : List V} {ps : List (Int × Int)} {its : List Value}, Prs X.K H xs ps → Vals xs its → (∀ v ∈ its, IsPair s.heap v (kfO s.heap v).1 (kfO s.heap v).2) ∧ its.map (kfO s.heap) = ps ∧
    ∀ v ∈ its, ∃ t, v = .ref t ∧ SqT X.K H t [.int (kfO s.heap v).1, .int (kfO s.heap v).2]
  | _, _, _, .nil, .nil => ⟨by simp, rfl, by simp⟩
  | _, _, _, .cons (t := t) (p := p) h r, .cons rv rr => by
    obtain ⟨q1, q2, q3⟩ := prs_at I r rr
    cases rv
    obtain ⟨its, r2, ⟨o, ho, hc, n, hd⟩, _⟩ := I.tuple h
    obtain ⟨u1, u2, rfl, ri, rj⟩ := vals2 r2
    obtain ⟨t1, rfl⟩ := ri
    obtain ⟨t2, rfl⟩ := rj
    have x : IsPair s.heap (.ref t) p.1 p.2 := ⟨t, o, t1, t2, n, rfl, ho, hc, hd⟩
    have e := kfO_at x
    refine ⟨fun v hv => ?_, by rw [List.map_cons, e, q2], fun v hv => ?_⟩
    · rcases List.mem_cons.mp hv with rfl | hv
      · rw [e]; exact x
      · exact q1 v hv
    · rcases List.mem_cons.mp hv with rfl | hv
      · rw [e]; exact ⟨t, rfl, h⟩
      · exact q3 v hv
theorem prs_back {h : Heap} : ∀ {ys : List Value}, (∀ v ∈ ys, ∃ t, v = .ref t ∧ SqT X.K H t [.int (kfO h v).1, .int (kfO h v).2]) → Prs X.K H (ys.map backV) (ys.map (kfO h)) ∧ Vals (ys.map backV) ys
  | [], _ => ⟨.nil, .nil⟩
  | v :: ys, hv => by
    obtain ⟨a, b⟩ := prs_back (ys := ys) fun u hu => hv u (List.mem_cons_of_mem _ hu)
    obtain ⟨t, rfl, q⟩ := hv v List.mem_cons_self
    exact ⟨.cons q a, .cons rfl b⟩
theorem cr_srtP : CallR X (.builtin "sorted") (rSrtP X.K) := by
  intro pins s σ H vs us Q I r h
  obtain ⟨a, xs, ps, rfl, hs, hp, q⟩ := h
  obtain ⟨its, T, o, n, rv, hT, ho, hc, hd, hz⟩ := seq_at I hs
  rw [Vals.ref1 r]
  obtain ⟨q1, q2, q3⟩ := prs_at I hp rv
  refine SrtO.sorted_from (ltv := fun v u => SrtO.lexB (kfO s.heap v) (kfO s.heap u)) (fun vs => vs = its) (SrtO.swo_lex (kfO s.heap)) (fun vs e => by rw [e, ← rv.length]; exact hz)
    (fun R k => wpAny_collect_seq a hT ho hc hd (fun g keep => ?_) (by rw [List.size_toArray, ← rv.length]; exact hz)) (fun vs g tk a' e h2 keep hg => ?_) fun vs ys g g2 tk e h1 h2 keep keep2 hn => ?_
  · have := k g s.toks its keep rfl
    simpa using this
  · subst e
    refine SrtO.pairs_sortableO (s := { s with heap := g, toks := tk }) (by omega) (fun v hm => (q1 v hm).keeps fun b o e _ => (keep b o e).2) fun o e c => ?_
    cases e.symm.trans hg
    exact absurd (Value.type.inj c) (by decide)
  · subst e
    obtain ⟨m, hn⟩ := hn
    have I1 : Inv X pins σ H { s with heap := g, toks := tk } := I.kept keep
    obtain ⟨b1, b2⟩ := prs_back (X := X) (H := H) (h := s.heap) (ys := ys) fun v hv => q3 v (h2.perm.mem_iff.mp hv)
    have hlen : (ys.map backV).length ≤ sizeLine := by
      rw [List.length_map, h2.perm.length_eq, ← rv.length]
      exact hz
    exact ⟨.ref _, upd H g.objs.size (.lst (ys.map backV)), I1.laid (t' := tk) keep2 (Nat.le_refl _) ⟨hlen, ys, m, b2, hn⟩, rfl, q _ _ _ (by rw [← q2]; exact h2.perm.map _) (SrtO.srtd_map h1) b1 (I1.hok.fresh (Nat.le_refl _))⟩
/-- sorted of a dict with int keys -/
def rSrtD : List V → Hp → VK → Prop := fun vs H Q => ∃ (a : Addr) (kvs : List (Key × V)) (ks : List Int), vs = [.ref a] ∧ Rd H a (.dK kvs) ∧ kvs.map (·.1) = ks.map Sum.inl ∧ ks.length ≤ sizeLine ∧
  ∀ (ys : List Int) (p : Addr), ys.Perm ks → ys.Pairwise (· ≤ ·) → H p = none → Q (.ref p) (upd H p (.lst (ys.map V.int)))
theorem cr_srtD (calm : X.calm = true) : CallR X (.builtin "sorted") rSrtD := by
  intro pins s σ H vs us Q I r h
  obtain ⟨a, kvs, ks, rfl, hr, hk, hz, q⟩ := h
  rw [Vals.ref1 r]
  obtain ⟨z, lo, es, rel, dd⟩ := dk_rd I.hok hr
  obtain ⟨ep, hat⟩ := dd.dictAt
  have ek : es.map (·.1) = ks.map Sum.inl := rel.keys.symm.trans hk
  have el : es.length = ks.length := by
    have e := congrArg List.length ek
    simpa using e
  refine SrtO.sorted_from (ltv := SrtO.ltIv) (fun vs => IntsAre vs ks) SrtO.swo_int (fun vs e => ?_) (fun R k => ?_) (fun vs g tk a' e h2 keep _ => SrtO.ints_sortable e h2) fun vs ys g g2 tk e h1 h2 keep keep2 hn => ?_
  · rw [e.length]; exact hz
  · refine PySem.W.kdu_collect (A := X.A.in1) (PySem.W.kdl_dict (knd := mixKind X.prog X.w) (kvs := es) (ep := ep) lo) (I.ok.hd calm) hat (by rw [el]; exact hz) fun g tk acc keep ha => k g tk _ keep ?_
    refine ints_each (by rw [Array.length_toList, ha.1, el]) fun j v e => ?_
    obtain ⟨k', x, e1, e2⟩ := ha.2 j v (by rw [← Array.getElem?_toList]; exact e)
    have e3 : (es.map (·.1))[j]? = some k' := by simp [e1]
    rw [ek, List.getElem?_map] at e3
    obtain ⟨y, e4, e5⟩ := Option.map_eq_some_iff.mp e3
    subst e5
    rcases keyIs_shape (show keyIs (Sum.inl y) v = true from e2) with ⟨i, t, c1, c2⟩ | ⟨x, t, c1, c2⟩
    · cases c1
      exact ⟨y, t, e4, c2⟩
    · cases c1
  · obtain ⟨k1, k2, k3⟩ := SrtO.ints_out e h1 h2
    obtain ⟨m, hn⟩ := hn
    have I1 : Inv X pins σ H { s with heap := g, toks := tk } := I.kept keep
    have hlen : ((ys.map SrtO.iv).map V.int).length ≤ sizeLine := by rw [List.length_map, k2.length_eq]; exact hz
    exact ⟨.ref _, upd H g.objs.size (.lst ((ys.map SrtO.iv).map V.int)), I1.laid (t' := tk) keep2 (Nat.le_refl _) ⟨hlen, ys, m, vals_of_ints k1, hn⟩, rfl, q _ _ k2 k3 (I1.hok.fresh (Nat.le_refl _))⟩

/-! ### the evaluator's sort -/
theorem insertBy_perm {α : Type} (le : α → α → Bool) (x : α) : ∀ ys : List α, (insertBy le x ys).Perm (x :: ys)
  | [] => .refl _
  | y :: ys => by
    unfold insertBy
    split
    · exact .refl _
    · exact ((insertBy_perm le x ys).cons y).trans (.swap x y ys)
theorem sortBy_perm {α : Type} (le : α → α → Bool) : ∀ xs : List α, (sortBy le xs).Perm xs
  | [] => .refl _
  | x :: xs => (insertBy_perm le x _).trans ((sortBy_perm le xs).cons x)
theorem insertBy_pw {α : Type} {le : α → α → Bool} (tot : ∀ a b, le a b = false → le b a = true) (tr : ∀ a b c, le a b = true → le b c = true → le a c = true) (x : α) : ∀ {ys : List α}, ys.Pairwise (fun a b => le a b = true) → (insertBy le x ys).Pairwise (fun a b => le a b = true)
  | [], _ => List.pairwise_singleton _ _
  | y :: ys, h => by
    unfold insertBy
    have h2 := List.pairwise_cons.mp h
    split
    · rename_i e
      refine List.pairwise_cons.mpr ⟨fun z hz => ?_, h⟩
      rcases List.mem_cons.mp hz with rfl | hz
      · exact e
      · exact tr _ _ _ e (h2.1 z hz)
    · rename_i e
      refine List.pairwise_cons.mpr ⟨fun z hz => ?_, insertBy_pw tot tr x h2.2⟩
      rcases List.mem_cons.mp ((insertBy_perm le x ys).mem_iff.mp hz) with rfl | hz
      · exact tot _ _ (by simpa using e)
      · exact h2.1 z hz
theorem sortBy_pw {α : Type} {le : α → α → Bool} (tot : ∀ a b, le a b = false → le b a = true) (tr : ∀ a b c, le a b = true → le b c = true → le a c = true) : ∀ xs : List α, (sortBy le xs).Pairwise (fun a b => le a b = true)
  | [] => .nil
  | x :: xs => insertBy_pw tot tr x (sortBy_pw tot tr xs)
/-- what is sorted is this -/
theorem sortBy_uniq {α : Type} {le : α → α → Bool} (tot : ∀ a b, le a b = false → le b a = true) (tr : ∀ a b c, le a b = true → le b c = true → le a c = true) (anti : ∀ a b, le a b = true → le b a = true → a = b) {xs ys : List α} (p : ys.Perm xs)
    (h : ys.Pairwise (fun a b => le a b = true)) : ys = sortBy le xs := List.Perm.eq_of_pairwise (fun a b _ _ => anti a b) h (sortBy_pw tot tr xs) (p.trans (sortBy_perm le xs).symm)
abbrev leI (a b : Int) : Bool := decide (a ≤ b)
theorem sortI_uniq {xs ys : List Int} (p : ys.Perm xs) (h : ys.Pairwise (· ≤ ·)) : ys = sortBy leI xs := by
  refine sortBy_uniq (fun a b h => ?_) (fun a b c h h' => ?_) (fun a b h h' => ?_) p (h.imp fun h => decide_eq_true h)
  · have := of_decide_eq_false h; exact decide_eq_true (by omega)
  · have := of_decide_eq_true h; have := of_decide_eq_true h'; exact decide_eq_true (by omega)
  · have := of_decide_eq_true h; have := of_decide_eq_true h'; omega
theorem leP_iff {p q : Int × Int} : leP p q = true ↔ p.1 < q.1 ∨ (p.1 = q.1 ∧ p.2 ≤ q.2) := by simp [leP]
theorem leP_not {p q : Int × Int} : leP p q = false ↔ ¬ (p.1 < q.1 ∨ (p.1 = q.1 ∧ p.2 ≤ q.2)) := by
  rw [← leP_iff]; cases leP p q <;> simp
theorem sortP_uniq {xs ys : List (Int × Int)} (p : ys.Perm xs) (h : ys.Pairwise (fun x y => SrtO.lexB y x = false)) : ys = sortBy leP xs := by
  refine sortBy_uniq (fun a b h => ?_) (fun a b c h h' => ?_) (fun a b h h' => ?_) p (h.imp fun h => ?_)
  · have := leP_not.mp h; exact leP_iff.mpr (by omega)
  · have := leP_iff.mp h; have := leP_iff.mp h'; exact leP_iff.mpr (by omega)
  · have := leP_iff.mp h; have := leP_iff.mp h'; exact Prod.ext (by omega) (by omega)
  · have := SrtO.lexB_no.mp h; exact leP_iff.mpr (by omega)
theorem reps_prs {xs : List D} {ps : List (Int × Int)} {vs : List V} (p : Reps K W H xs vs) (h : pairsD xs = some ps) : Prs K H vs ps := by
  induction xs generalizing ps vs with
  | nil => cases p; cases h; exact .nil
  | cons x xs ih =>
    cases p with
    | @cons _ v _ vs a b =>
      unfold pairsD at h
      split at h
      · rename_i e; cases e
      · rename_i e
        cases e
        rw [Option.map_eq_some_iff] at h
        obtain ⟨qs, h1, h2⟩ := h
        subst h2
        cases a with
        | tup h3 h4 =>
          cases h4 with
          | cons p1 r1 => cases r1 with
            | cons p2 r2 =>
              cases r2; cases p1; cases p2
              exact .cons h3 (ih b h1)
      · cases h
theorem prs_reps {ps : List (Int × Int)} {vs : List V} (p : Prs K H vs ps) : Reps K W H (ps.map pairD) vs := by
  induction p with
  | nil => exact .nil
  | cons h _ ih => exact .cons (.tup h (.cons (.int _) (.cons (.int _) .nil))) ih
def rSrtS : List V → Hp → VK → Prop := fun xs H Q => ∃ (a : Addr) (kvs : List (Key × V)) (ks : List Str), xs = [.ref a] ∧ Rd H a (.dK kvs) ∧ kvs.map (·.1) = ks.map Sum.inr ∧ ks.length < 64 ∧
    ∀ ys p, ys.Perm ks → PyProof.Rows.sortedS ys = true → H p = none → Q (.ref p) (upd H p (.lst (ys.map V.str)))
def rSrt (K : PySem.W.Frag) : List V → Hp → VK → Prop := fun vs H Q => ((rSrtI K vs H Q ∨ rSrtP K vs H Q) ∨ rSrtD vs H Q) ∨ rSrtS vs H Q
theorem cr_srt (calm : X.calm = true) : CallR X (.builtin "sorted") (rSrt X.K) := ((cr_srtI.or cr_srtP).or (cr_srtD calm)).or (call_sortedD calm)
/-- texts by their signs -/
theorem leS_iff {x y : Str} : leS x y = true ↔ x.cps.toList ≤ y.cps.toList := by
  unfold leS
  rw [PyProof.Rows.ltCps_eq]
  simp
theorem leS_tot (a b : Str) (h : leS a b = false) : leS b a = true := by
  rw [leS_iff]
  rcases List.le_total b.cps.toList a.cps.toList with q | q
  · exact q
  · rw [leS_iff.mpr q] at h; cases h
theorem leS_tr (a b c : Str) (h : leS a b = true) (h' : leS b c = true) : leS a c = true := leS_iff.mpr (List.le_trans (leS_iff.mp h) (leS_iff.mp h'))
theorem leS_anti (a b : Str) (h : leS a b = true) (h' : leS b a = true) : a = b := by
  have e := List.le_antisymm (leS_iff.mp h) (leS_iff.mp h')
  cases a; cases b
  simp only [Array.toList_inj] at e
  rw [e]
theorem rising_pw : ∀ (ys : List Str) (p : Str), PyProof.Rows.risingS p ys = true → (p :: ys).Pairwise (fun a b => leS a b = true)
  | [], p, _ => List.pairwise_singleton _ _
  | y :: ys, p, h => by
    unfold PyProof.Rows.risingS at h
    rw [Bool.and_eq_true] at h
    have q := rising_pw ys y h.2
    have h1 : leS p y = true := h.1
    refine List.pairwise_cons.mpr ⟨fun z hz => ?_, q⟩
    rcases List.mem_cons.mp hz with rfl | hz
    · exact h1
    · exact leS_tr _ _ _ h1 ((List.pairwise_cons.mp q).1 z hz)
theorem sortS_uniq {xs ys : List Str} (p : ys.Perm xs) (h : PyProof.Rows.sortedS ys = true) : ys = sortBy leS xs := by
  refine sortBy_uniq leS_tot leS_tr leS_anti p ?_
  cases ys with
  | nil => exact .nil
  | cons y ys => exact rising_pw ys y h
theorem keysI_eq {ds : List (Ky × D)} {is : List Int} (h : keysI ds = some is) : ds.map (·.1) = is.map Sum.inl := by
  induction ds generalizing is with
  | nil => cases h; rfl
  | cons x ds ih =>
    obtain ⟨k, d⟩ := x
    cases k with
    | inl i =>
      simp only [keysI, Option.map_eq_some_iff] at h
      obtain ⟨js, h1, h2⟩ := h
      subst h2
      simp [ih h1]
    | inr i => cases h
theorem keysS_eq {ds : List (Ky × D)} {is : List Str} (h : keysS ds = some is) : ds.map (·.1) = is.map Sum.inr := by
  induction ds generalizing is with
  | nil => cases h; rfl
  | cons x ds ih =>
    obtain ⟨k, d⟩ := x
    cases k with
    | inr i =>
      simp only [keysS, Option.map_eq_some_iff] at h
      obtain ⟨js, h1, h2⟩ := h
      subst h2
      simp [ih h1]
    | inl i => cases h
theorem reps_str : ∀ ns : List Str, Reps K W H (ns.map D.str) (ns.map V.str)
  | [] => .nil
  | n :: ns => .cons (.str n) (reps_str ns)
theorem sort_new {as : List D} {vs : List V} {xs : List D} {Q : VK} (r : Rel K nm W S H) (p : Reps K W H as vs) (h : sortF as S = some (.lst xs)) (f : FinL K W H xs Q) : rSrt K vs H Q := by
  simp only [sortF] at h
  split at h <;> try (cases h; done)
  obtain ⟨v, e0, p1⟩ := reps1 p
  subst e0
  split at h
  · rename_i ys e
    rw [Option.map_eq_some_iff] at h
    obtain ⟨zs, h1, h2⟩ := h
    cases h2
    obtain ⟨a, ws, rfl, h3, h4⟩ := rep_seq r p1 e
    simp only [sortD] at h1
    split at h1
    · rename_i is ei
      cases h1
      have h5 := reps_ints h4 ei
      subst h5
      refine .inl (.inl (.inl ⟨a, is, rfl, h3, fun ms p' q1 q2 hp => ?_⟩))
      have := sortI_uniq q1 q2
      subst this
      exact f _ _ (reps_int _) hp
    · split at h1
      · rename_i ps ep
        cases h1
        refine .inl (.inl (.inr ⟨a, ws, ps, rfl, h3, reps_prs h4 ep, fun ys qs p' q1 q2 q3 hp => ?_⟩))
        have := sortP_uniq q1 q2
        subst this
        exact f _ _ (prs_reps q3) hp
      · cases h1
  · split at h
    · rename_i kvs e
      obtain ⟨a, ws, rfl, h3, h4⟩ := rep_dct r p1 e
      split at h
      · rename_i is ei
        split at h
        · rename_i hz
          cases h
          refine .inl (.inr ⟨a, ws, is, rfl, h3, (repK_keys h4).trans (keysI_eq ei), by rw [← SZ_eq]; exact hz, fun ms p' q1 q2 hp => ?_⟩)
          have := sortI_uniq q1 q2
          subst this
          exact f _ _ (reps_int _) hp
        · cases h
      · split at h
        · rename_i ss es
          split at h
          · rename_i hz
            cases h
            refine .inr ⟨a, ws, ss, rfl, h3, (repK_keys h4).trans (keysS_eq es), hz, fun ys p' q1 q2 hp => ?_⟩
            have := sortS_uniq q1 q2
            subst this
            exact f _ _ (reps_str _) hp
          · cases h
        · cases h
    · cases h
theorem sortF_lst {as : List D} {d : D} (h : sortF as S = some d) : ∃ xs, d = .lst xs := by
  simp only [sortF] at h
  split at h <;> try (cases h; done)
  split at h
  · rw [Option.map_eq_some_iff] at h
    obtain ⟨xs, _, h2⟩ := h
    exact ⟨xs, h2.symm⟩
  · split at h <;> try (cases h; done)
    split at h
    · split at h <;> cases h
      exact ⟨_, rfl⟩
    · split at h <;> try (cases h; done)
      split at h <;> cases h
      exact ⟨_, rfl⟩
theorem sorted_ok : CallK X K nm sortF (rSrt K) := by
  intro W S H as vs d Q r p h f
  obtain ⟨xs, rfl⟩ := sortF_lst h
  exact sort_new r p h (f.finL r)
/-! ### str, int -/
def rStr : List V → Hp → VK → Prop := fun xs H Q => ∃ i, xs = [.int i] ∧ i.natAbs.log2 < 1920 ∧ Q (.str (toString i : String)) H
theorem str_ok : CallK X K nm strF rStr := by
  intro W S H as vs d Q r p h f
  simp only [strF] at h
  split at h <;> try (cases h; done)
  obtain ⟨v, e0, p1⟩ := reps1 p
  subst e0
  rw [Option.map_eq_some_iff] at h
  obtain ⟨x, h1, h2⟩ := h
  subst h2
  simp only [textOf] at h1
  split at h1
  · cases h1; cases p1
    exact ⟨_, rfl, by assumption, f.here r (.str _)⟩
  · cases h1
def rInt : List V → Hp → VK → Prop := fun xs H Q => ((∃ i, xs = [.int i] ∧ Q (.int i) H) ∨ ∃ b, xs = [.bl b] ∧ Q (.int (if b then 1 else 0)) H) ∨ ∃ a n, xs = [.str a] ∧ PySem.intText? a = some n ∧ a.length ≤ 640 ∧ Q (.int n) H
theorem int_ok : CallK X K nm intF rInt := by
  intro W S H as vs d Q r p h f
  simp only [intF] at h
  split at h <;> try (cases h; done)
  · obtain ⟨v, e0, p1⟩ := reps1 p
    subst e0
    cases h; cases p1
    exact .inl (.inr ⟨_, rfl, f.here r (.int _)⟩)
  · obtain ⟨v, e0, p1⟩ := reps1 p
    subst e0
    split at h
    · rename_i hz
      rw [Option.map_eq_some_iff] at h
      obtain ⟨x, h1, h2⟩ := h
      subst h2
      cases p1
      exact .inr ⟨_, _, rfl, h1, hz, f.here r (.int _)⟩
    · cases h
end
end PL

set_option Elab.async false
set_option linter.all false
set_option maxRecDepth 100000
set_option maxHeartbeats 1000000
/-! PLF: the evaluator against the model: expressions. -/
namespace PL
open PySem PySem.Spec PyProof.Rows L2

/-! ### readings of the evaluator's results -/
section
variable {K : PySem.W.Frag} {nm : Nm} {W W' W'' : Wd} {H H' H'' : Hp} {S S' : Store} {X : Cx} {Wi : WX}
/-- what must hold behind r, by kind of value -/
def Wq {α β : Type} (K : PySem.W.Frag) (nm : Nm) (rp : Wd → Hp → α → β → Prop) (W : Wd) (H : Hp) (r : R α) (Q : β → Hp → Prop) (Xc : Nat → Hp → Prop) : Prop := match r with
  | .ok d S' => ∀ v W' H', Ext W H W' H' → Rel K nm W' S' H' → rp W' H' d v → Q v H'
  | .ex c S' => ∀ W' H', Ext W H W' H' → Rel K nm W' S' H' → Xc c H'
  | .bad => False
theorem Wq.mono {α β : Type} {rp : Wd → Hp → α → β → Prop} {r : R α} {Q Q' : β → Hp → Prop} {Xc : Nat → Hp → Prop} (w : Wq K nm rp W H r Q Xc) (h : ∀ v H, Q v H → Q' v H) : Wq K nm rp W H r Q' Xc := by
  cases r with
  | ok d S => exact fun v W' H' e r p => h _ _ (w v W' H' e r p)
  | ex c S => exact w
  | bad => exact w
theorem Wq.ext {α β : Type} {rp : Wd → Hp → α → β → Prop} {r : R α} {Q : β → Hp → Prop} {Xc : Nat → Hp → Prop} (e : Ext W H W' H') (t : Trk W' H') (w : Wq K nm rp W H r Q Xc) : Wq K nm rp W' H' r Q Xc := by
  cases r with
  | ok d S => exact fun v W2 H2 e2 r p => w v W2 H2 (e.trans t e2) r p
  | ex c S => exact fun W2 H2 e2 r => w W2 H2 (e.trans t e2) r
  | bad => exact w
theorem Wq.bind {α β γ δ : Type} {rp : Wd → Hp → α → β → Prop} {rq : Wd → Hp → γ → δ → Prop} {r : R α} {f : α → Store → R γ} {Q : δ → Hp → Prop} {Xc : Nat → Hp → Prop} (w : Wq K nm rq W H (r.bind f) Q Xc) :
    Wq K nm rp W H r (fun v H1 => ∃ W1 S1 d, Ext W H W1 H1 ∧ Rel K nm W1 S1 H1 ∧ rp W1 H1 d v ∧ Wq K nm rq W1 H1 (f d S1) Q Xc) Xc := by
  cases r with
  | ok d S => exact fun v W1 H1 e r p => ⟨W1, S, d, e, r, p, Wq.ext e r.trk w⟩
  | ex c S => exact w
  | bad => exact w
/-- kinds of values -/
abbrev rpD (K : PySem.W.Frag) : Wd → Hp → D → V → Prop := Rep K
def rpB : Wd → Hp → Bool → Bool → Prop := fun _ _ a b => a = b
def rpA (K : PySem.W.Frag) : Wd → Hp → D → List V → Prop := fun W H d vs => ∃ xs, d = .tup xs ∧ Reps K W H xs vs
abbrev Xw (nm : Nm) (Wi : WX) (σ : L2.St) : Nat → Hp → Prop := fun c H' => Wi (.ref (nm.X c)) none σ H'
def tX {α β : Type} (K : PySem.W.Frag) (nm : Nm) (rp : Wd → Hp → α → β → Prop) (Wi : WX) (f : Env → Store → R α) : L2.St → Hp → (β → Hp → Prop) → Prop := fun σ H Q => ∃ W S env, ERep K W H env σ ∧ Rel K nm W S H ∧ Wq K nm rp W H (f env S) Q (Xw nm Wi σ)
abbrev tE (K : PySem.W.Frag) (nm : Nm) (Wi : WX) (f : Env → Store → R D) : TE := tX K nm (rpD K) Wi f
abbrev tT (K : PySem.W.Frag) (nm : Nm) (Wi : WX) (f : Env → Store → R Bool) : TT := tX K nm rpB Wi f
abbrev tA (K : PySem.W.Frag) (nm : Nm) (Wi : WX) (f : Env → Store → R D) : TA := tX K nm (rpA K) Wi f
theorem R.bind_assoc {α β γ : Type} (r : R α) (f : α → Store → R β) (g : β → Store → R γ) : (r.bind f).bind g = r.bind fun a S => (f a S).bind g := by cases r <;> rfl
/-- a value that is there at once -/
theorem Wq.of {α β : Type} {rp : Wd → Hp → α → β → Prop} {o : Option α} {Q : β → Hp → Prop} {Xc : Nat → Hp → Prop} (w : Wq K nm rp W H (R.of o S) Q Xc) : ∃ d, o = some d ∧ ∀ v W' H', Ext W H W' H' → Rel K nm W' S H' → rp W' H' d v → Q v H' := by
  cases o with
  | some d => exact ⟨d, rfl, w⟩
  | none => exact w.elim
theorem Wq.fin {o : Option D} {Q : VK} {Xc : Nat → Hp → Prop} (w : Wq K nm (rpD K) W H (R.of o S) Q Xc) : ∃ d, o = some d ∧ Fin K nm W S H d Q := w.of
section
variable {γ δ : Type} {rq : Wd → Hp → γ → δ → Prop}
theorem tX.one {fa : Env → Store → R D} {g : Env → D → Store → R γ} {σ : L2.St} {H : Hp} {Q : δ → Hp → Prop} (w : tX K nm rq Wi (fun env S => (fa env S).bind fun x S => g env x S) σ H Q) :
    tE K nm Wi fa σ H fun x H1 => ∃ W S dx env, ERep K W H1 env σ ∧ Rel K nm W S H1 ∧ Rep K W H1 dx x ∧ Wq K nm rq W H1 (g env dx S) Q (Xw nm Wi σ) := by
  obtain ⟨W, S, env, E, r, w⟩ := w
  refine ⟨W, S, env, E, r, (Wq.bind (rp := rpD K) w).mono fun x H1 ⟨W1, S1, dx, e1, r1, p1, w1⟩ => ⟨W1, S1, dx, env, E.mono r.trk e1, r1, p1, w1⟩⟩
theorem tX.test {fa : Env → Store → R Bool} {g : Env → Bool → Store → R γ} {σ : L2.St} {H : Hp} {Q : δ → Hp → Prop} (w : tX K nm rq Wi (fun env S => (fa env S).bind fun x S => g env x S) σ H Q) :
    tT K nm Wi fa σ H fun k H1 => tX K nm rq Wi (fun env S => g env k S) σ H1 Q := by
  obtain ⟨W, S, env, E, r, w⟩ := w
  refine ⟨W, S, env, E, r, (Wq.bind (rp := rpB) w).mono fun x H1 h => ?_⟩
  obtain ⟨W1, S1, dx, e1, r1, p1, w1⟩ := h
  cases (show dx = x from p1)
  exact ⟨W1, S1, env, E.mono r.trk e1, r1, w1⟩
theorem tX.args {fa : Env → Store → R D} {g : Env → D → Store → R γ} {σ : L2.St} {H : Hp} {Q : δ → Hp → Prop} (w : tX K nm rq Wi (fun env S => (fa env S).bind fun x S => g env x S) σ H Q) :
    tA K nm Wi fa σ H fun vs H1 => ∃ W S xs env, ERep K W H1 env σ ∧ Rel K nm W S H1 ∧ Reps K W H1 xs vs ∧ Wq K nm rq W H1 (g env (.tup xs) S) Q (Xw nm Wi σ) := by
  obtain ⟨W, S, env, E, r, w⟩ := w
  refine ⟨W, S, env, E, r, (Wq.bind (rp := rpA K) w).mono fun x H1 h => ?_⟩
  obtain ⟨W1, S1, dx, e1, r1, ⟨xs, e2, p1⟩, w1⟩ := h
  subst e2
  exact ⟨W1, S1, xs, env, E.mono r.trk e1, r1, p1, w1⟩
theorem tX.op {fa fb : Env → Store → R D} {g : D → D → Store → R γ} {rr : R2} {σ : L2.St} {H : Hp} {Q : δ → Hp → Prop} {Q' : VK}
    (w : tX K nm rq Wi (fun env S => (fa env S).bind fun x S => (fb env S).bind fun y S => g x y S) σ H Q)
    (hr : ∀ {W : Wd} {S : Store} {H : Hp} {dx dy : D} {x y : V}, Rel K nm W S H → Rep K W H dx x → Rep K W H dy y → Wq K nm rq W H (g dx dy S) Q (Xw nm Wi σ) → rr x y H Q') : tOp rr (tE K nm Wi fa) (tE K nm Wi fb) σ H Q' := by
  obtain ⟨W, S, env, E, r, z⟩ := w
  refine ⟨W, S, env, E, r, (Wq.bind (rp := rpD K) z).mono fun x H1 z => ?_⟩
  obtain ⟨W1, S1, dx, e1, r1, p1, z⟩ := z
  refine ⟨W1, S1, env, E.mono r.trk e1, r1, (Wq.bind (rp := rpD K) z).mono fun y H2 z => ?_⟩
  obtain ⟨W2, S2, dy, e2, r2, p2, z⟩ := z
  exact hr r2 (p1.mono r1.trk e2) p2 z
end
end

/-! ### the check: e is what the written expression says -/
structure Sx where
  fnN : Nat → Option Str
  coN : Nat → Option Str
  blN : List Str
  clN : Nat → Option Str
  meN : Nat → Nat → Option Str
  fdN : Nat → Option Str
  exN : Nat → Option Str
  hdl : Str → Option (List Nat)
def vis (sc : Scope) (x : Str) : Bool := match sc.names.lookup x with
  | some .local => true
  | some .cell => true
  | some .free => true
  | _ => false
def gl (sc : Scope) (x : Str) : Bool := decide (sc.names.lookup x = some .globalImplicit)
def dbg (x : Str) : Bool := x == ("__debug__" : Str)
def bOp : BOp → Operator
  | .add => .Add | .sub => .Sub | .mul => .Mult | .mod => .Mod | .fdiv => .FloorDiv
def cOp : COp → CmpOp
  | .eq => .Eq | .ne => .NotEq | .lt => .Lt | .le => .LtE | .gt => .Gt | .ge => .GtE | .inn => .In | .nin => .NotIn | .iss => .Is | .nis => .IsNot
def bfN : Bf → Str
  | .len => "len" | .all => "all" | .any => "any" | .sum => "sum" | .tuple => "tuple" | .list => "list" | .sorted => "sorted" | .str => "str" | .int => "int" | .max => "max" | .min => "min"
def bfOk : Bf → Bool
  | .len => true | .all => true | .any => true | .sum => true | .tuple => true | .list => true | .max => true | .min => true | .sorted => true | .str => true | .int => true
def bmN : Bm → Str
  | .append => "append" | .split => "split" | .join => "join" | .partition => "partition" | .find => "find" | .index => "index" | .startswith => "startswith" | .upper => "upper" | .pop => "pop" | .get => "get" | .setdefault => "setdefault" | .count => "count" | .popL => "pop"
/-- how many arguments -/
def bmA : Bm → Nat → Bool
  | .upper, 0 => true
  | .append, 1 => true | .split, 1 => true | .join, 1 => true | .partition, 1 => true | .find, 1 => true | .index, 1 => true | .startswith, 1 => true | .pop, 1 => true | .get, 1 => true | .popL, 1 => true
  | .pop, 2 => true | .get, 2 => true | .setdefault, 2 => true
  | _, _ => false
def noBase : Expr → Bool
  | .Call (.Name _ _) [] [] _ => false
  | _ => true
theorem base_ok {e : Expr} {n : Str} {env : PySem.Env} (h : noBase e = true) : attributeBase e n env (eval e env) = eval e env := by
  unfold attributeBase
  split
  · simp [noBase] at h
  · rfl
/-- what makes a new list -/
def isFresh : E → Bool
  | .lst _ => true | .bf .list _ => true | .bf .sorted _ => true | .bin .add _ _ => true | .bin .mul _ _ => true | .sl _ _ _ => true | .comp _ _ _ _ _ => true | .lrng _ _ => true
  | _ => false
/-- a variable, or an item of a variable -/
def srcV : E → Bool
  | .var _ => true
  | .dix (.var _) (.var _) => true
  | _ => false
def isVarE : E → Bool
  | .var _ => true
  | _ => false
def isSet : Expr → Bool
  | .Set _ _ _ => true
  | _ => false
def plainT : Expr → Bool
  | .Name _ _ => true | .Call _ _ _ _ => true | .Attribute _ _ _ => true | .Subscript _ _ _ => true | .Constant _ _ _ => true | .BinOp _ _ _ _ => true | .ListComp _ _ _ _ => true
  | _ => false
def notSlice : Expr → Bool
  | .Slice _ _ _ _ => false
  | _ => true
def notStar : Expr → Bool
  | .Starred _ _ => false
  | _ => true
def tyS : Nat → Str
  | 0 => "int" | 1 => "bool" | 2 => "str" | 3 => "tuple" | _ => "frozenset"
def slots : Tg → List Nat
  | .one i => [i]
  | .many is => is
/-- a name that is stored: fl: within a def's own frame, cells too -/
def tgN (N : List Str) (fl : Bool) (sc : Scope) (i : Nat) : Expr → Bool
  | .Name x _ => decide (N[i]? = some x) && (decide (sc.names.lookup x = some .local) || (fl && decide (sc.names.lookup x = some .cell)))
  | _ => false
def tgNs (N : List Str) (fl : Bool) (sc : Scope) : List Nat → List Expr → Bool
  | [], [] => true
  | i :: is, e :: es => tgN N fl sc i e && tgNs N fl sc is es
  | _, _ => false
def tgC (N : List Str) (fl : Bool) (sc : Scope) : Tg → Expr → Bool
  | .one i, e => tgN N fl sc i e
  | .many is, .Tuple es _ _ => tgNs N fl sc is es
  | _, _ => false
def tgNames : Expr → List Str
  | .Name x _ => [x]
  | .Tuple es _ _ => es.map fun e => match e with | .Name x _ => x | _ => ""
  | _ => []
def ownOf (tg : Tg) (t : Expr) : List (Str × Nat) := (tgNames t).zip (slots tg)
def isTup : Expr → Bool
  | .Tuple _ _ _ => true
  | _ => false
/-- the arguments of what is walked -/
def itArgs (blN : List Str) (k : IK) (sc : Scope) (t iter : Expr) : Option (List Expr) := match iter with
  | .Call (.Name g _) es [] _ => if gl sc g && decide (g ∈ blN) then (match k, es with
    | .rng1, [_] => if g = ("range" : Str) then some es else none
    | .rng2, [_, _] => if g = ("range" : Str) then some es else none
    | .rng3, [_, _, _] => if g = ("range" : Str) then some es else none
    | .enum, [_] => if g = ("enumerate" : Str) ∧ isTup t then some es else none
    | .zip, [_, _] => if g = ("zip" : Str) ∧ isTup t then some es else none
    | _, _ => none) else none
  | _ => none

/-- a slice's step, as it is written -/
def stepC (st : Int) : Expr → Bool
  | .Constant (.int c) _ _ => decide (st = c)
  | .UnaryOp .USub (.Constant (.int c) _ _) _ => decide (st = -c)
  | _ => false
/-- a written key -/
def keyStr : Option Expr → Option Str
  | some (.Constant (.str x) _ _) => some x
  | _ => none
section
variable (Y : Sx) (N : List Str)
mutual
def chk : E → Scope → Expr → Bool
  | .var i, sc, a => match a with
    | .Name x _ => decide (N[i]? = some x) && vis sc x && !dbg x && !(x == ("__classdict__" : Str))
    | _ => false
  | .con d, sc, a => match a, d with
    | .Constant (.int i) _ _, .int j => decide (i = j)
    | .Constant (.bool i) _ _, .bl j => decide (i = j)
    | .Constant .none _ _, .non => true
    | .Constant (.str i) _ _, .str j => decide (i = j)
    | _, _ => false
  | .glb j, sc, a => match a with
    | .Name x _ => decide (Y.coN j = some x) && gl sc x && !dbg x
    | _ => false
  | .bin o a b, sc, x => match x with
    | .BinOp p op q _ => decide (op = bOp o) && chk a sc p && chk b sc q
    | _ => false
  | .cmp o a b, sc, x => match x with
    | .Compare p [op] [q] _ => decide (op = cOp o) && !isSet q && chk a sc p && chk b sc q
    | _ => false
  | .chain o o' a b c, sc, x => match x with
    | .Compare p [op, op'] [q, r] _ => decide (op = cOp o) && decide (op' = cOp o') && !isSet q && !isSet r && chk a sc p && chk b sc q && chk c sc r
    | _ => false
  | .isn a, sc, x => match x with
    | .Compare p [.Is] [.Constant .none _ _] _ => chk a sc p
    | _ => false
  | .ntn a, sc, x => match x with
    | .Compare p [.IsNot] [.Constant .none _ _] _ => chk a sc p
    | _ => false
  | .neg a, sc, x => match x with
    | .UnaryOp .USub p _ => chk a sc p
    | _ => false
  | .nt a, sc, x => match x with
    | .UnaryOp .Not p _ => chk a sc p
    | _ => false
  | .one a, sc, x => match x with
    | .BoolOp _ [p] _ => chk a sc p
    | _ => false
  | .and a b, sc, x => match x with
    | .BoolOp .And (p :: q :: r) pos => chk a sc p && chk b sc (.BoolOp .And (q :: r) pos)
    | _ => false
  | .or a b, sc, x => match x with
    | .BoolOp .Or (p :: q :: r) pos => chk a sc p && chk b sc (.BoolOp .Or (q :: r) pos)
    | _ => false
  | .ite c a b, sc, x => match x with
    | .IfExp t p q _ => chkT c sc t && chk a sc p && chk b sc q
    | _ => false
  | .isa a t, sc, x => match x with
    | .Call (.Name f _) [p, .Name g _] [] _ => decide (f = ("isinstance" : Str)) && decide (g = tyS t) && decide (t < 4) && gl sc f && gl sc g && decide (f ∈ Y.blN) && decide (g ∈ Y.blN) && notStar p && chk a sc p
    | _ => false
  | .call f as, sc, x => match x with
    | .Call (.Name g _) (p :: ps) [] _ => decide (Y.fnN f = some g) && gl sc g && !dbg g && chkA as sc (p :: ps)
    | _ => false
  | .bf f as, sc, x => match x with
    | .Call (.Name g _) (p :: ps) [] _ => bfOk f && decide (g = bfN f) && gl sc g && decide (g ∈ Y.blN) && chkA as sc (p :: ps)
    | _ => false
  | .ix a i, sc, x => match x with
    | .Subscript p q _ => notSlice q && chk a sc p && chk i sc q
    | _ => false
  | .sl a lo hi, sc, x => match x with
    | .Subscript p (.Slice l h none _) _ => chk a sc p && (match l with | none => isEmp lo | some l => !isEmp lo && chk lo sc l) && (match h with | none => isEmp hi | some h => !isEmp hi && chk hi sc h)
    | _ => false
  | .sl3 a lo hi st, sc, x => match x with
    | .Subscript p (.Slice l h (some q) _) _ => chk a sc p && (match l with | none => isEmp lo | some l => !isEmp lo && chk lo sc l) && (match h with | none => isEmp hi | some h => !isEmp hi && chk hi sc h) && stepC st q
    | _ => false
  | .tup as, sc, x => match x with
    | .Tuple es _ _ => chkA as sc es
    | _ => false
  | .lst as, sc, x => match x with
    | .List es _ => chkA as sc es
    | _ => false
  | .new e, sc, x => isFresh e && chk e sc x
  | .dict0, _, x => match x with
    | .Dict [] [] _ => true
    | _ => false
  | .dict ks vs, sc, x => match x with
    | .Dict keys es _ => (match keysE ks with
      | some xs => decide (keys.map keyStr = xs.map some) && decide (1 ≤ keys.length ∧ keys.length ≤ 15) && decide (keys.length = es.length) && chkA vs sc es
      | none => false)
    | _ => false
  | .lrng k as, sc, x => match x with
    | .Call (.Name g _) [.Call (.Name r _) (p :: ps) [] _] [] _ => decide (g = ("list" : Str)) && decide (r = ("range" : Str)) && gl sc g && gl sc r && decide (g ∈ Y.blN) && decide (r ∈ Y.blN) && (match k with
      | .rng1 => decide (ps.length = 0) | .rng2 => decide (ps.length = 1) | .rng3 => decide (ps.length = 2) | _ => false) && chkA as sc (p :: ps)
    | _ => false
  | .din ng a b, sc, x => match x with
    | .Compare p [op] [q] _ => decide (op = (if ng then .NotIn else .In)) && !isSet q && chk a sc p && chk b sc q
    | _ => false
  | .dix a i, sc, x => match x with
    | .Subscript p q _ => notSlice q && chk a sc p && chk i sc q
    | _ => false
  | .bm m o as, sc, x => match x with
    | .Call (.Attribute e t ap) ps [] cp => decide (t = bmN m) && bmA m ps.length && (ap.endLine == cp.line) && noBase e && chk o sc e && chkA as sc ps
    | _ => false
  | .fld c o f, sc, x => match x with
    | .Attribute e n _ => (Y.clN c).isSome && decide (Y.fdN f = some n) && noBase e && chk o sc e
    | _ => false
  | .meth c o m as, sc, x => match x with
    | .Call (.Attribute e n ap) ps [] cp => decide (Y.meN c m = some n) && noBase e && (ap.endLine == cp.line) && decide (ps.length ≤ 20) && chk o sc e && chkA as sc ps
    | _ => false
  | .mk c as, sc, x => match x with
    | .Call (.Name g _) ps [] _ => decide (Y.clN c = some g) && gl sc g && !dbg g && chkA as sc ps
    | _ => false
  | .fstr as, sc, x => match x with
    | .JoinedStr (p :: q :: r) _ => decide ((p :: q :: r).length ≤ 12) && chkF as sc (p :: q :: r)
    | _ => false
  | .comp k src tg c e, sc, x => match x with
    | .ListComp elt [⟨t, iter, ifs, asy⟩] scope _ => decide (asy = 0) && !isSet iter && blkC N sc scope (ownOf tg t) && decide ((ownOf tg t).map (·.2) = slots tg) && tgC N false (relS scope sc) tg t &&
      (match k with
        | .plain => chk src sc iter
        | .keys => isVarE src && chk src sc iter
        | .keysR => srcV src && chk src sc iter
        | k => match itArgs Y.blN k sc t iter with
          | some es => chkA src sc es
          | none => false) &&
      (match ifs with
        | [] => isEmp c
        | [i] => chkT c (relS scope sc) i
        | _ => false) && chk e (relS scope sc) elt
    | _ => false
  | _, _, _ => false
def chkT : E → Scope → Expr → Bool
  | .nt a, sc, x => match x with
    | .UnaryOp .Not p _ => chkT a sc p
    | _ => false
  | .one a, sc, x => match x with
    | .BoolOp _ [p] _ => chkT a sc p
    | _ => false
  | .and a b, sc, x => match x with
    | .BoolOp .And (p :: q :: r) pos => chkT a sc p && chkT b sc (.BoolOp .And (q :: r) pos)
    | _ => false
  | .or a b, sc, x => match x with
    | .BoolOp .Or (p :: q :: r) pos => chkT a sc p && chkT b sc (.BoolOp .Or (q :: r) pos)
    | _ => false
  | .cmp o a b, sc, x => match x with
    | .Compare p [op] [q] _ => decide (op = cOp o) && !isSet q && chk a sc p && chk b sc q
    | _ => false
  | .chain o o' a b c, sc, x => match x with
    | .Compare p [op, op'] [q, r] _ => decide (op = cOp o) && decide (op' = cOp o') && !isSet q && !isSet r && chk a sc p && chk b sc q && chk c sc r
    | _ => false
  | .isn a, sc, x => match x with
    | .Compare p [.Is] [.Constant .none _ _] _ => chk a sc p
    | _ => false
  | .ntn a, sc, x => match x with
    | .Compare p [.IsNot] [.Constant .none _ _] _ => chk a sc p
    | _ => false
  | .din ng a b, sc, x => match x with
    | .Compare p [op] [q] _ => decide (op = (if ng then .NotIn else .In)) && !isSet q && chk a sc p && chk b sc q
    | _ => false
  | .val a, sc, x => plainT x && chk a sc x
  | _, _, _ => false
def chkM : E → Scope → Expr → Bool
  | .fmt a, sc, e => match e with
    | .FormattedValue p c s _ => decide (c = -1) && s.isNone && chk a sc p
    | _ => false
  | .con (.str y), sc, e => match e with
    | .Constant (.str z) _ _ => decide (y = z) && decide (y.length ≤ 1000000)
    | _ => false
  | _, _, _ => false
def chkF : E → Scope → List Expr → Bool
  | .nil, _, es => match es with
    | [] => true
    | _ => false
  | .cons a as, sc, es => match es with
    | e :: es => chkM a sc e && chkF as sc es
    | _ => false
  | _, _, _ => false
def chkA : E → Scope → List Expr → Bool
  | .nil, _, es => match es with
    | [] => true
    | _ => false
  | .cons a as, sc, es => match es with
    | e :: es => notStar e && chk a sc e && chkA as sc es
    | _ => false
  | _, _, _ => false
end
end
end PL

set_option Elab.async false
set_option linter.all false
set_option maxRecDepth 100000
set_option maxHeartbeats 1000000
/-! PLG: expressions are as the evaluator says. -/
namespace PL
open PySem PySem.Spec PyProof.Rows L2

structure GOk (K : PySem.W.Frag) (mg : Str → Option Value) (G : Tab) (Y : Sx) (nm : Nm) (fa : Nat → Addr) (fd : Nat → FuncData) (ps : Nat → List Str) : Prop where
  co : ∀ (j : Nat) (x : Str), Y.coN j = some x → ∃ d u v, G.consts j = some d ∧ mg x = some u ∧ RelV v u ∧ ∀ W H, Rep K W H d v
  fn : ∀ (f : Nat) (x : Str), Y.fnN f = some x → (G.fns f).isSome = true ∧ mg x = some (.ref (fa f)) ∧ PySem.W.keepIn K (.ref (fa f)) = true
  bi : ∀ f : Nat, (G.fns f).isSome = true → Binds K (fd f) (ps f) []
  bl : ∀ x ∈ Y.blN, mg x = none
  ex : ∀ (c : Nat) (x : Str), Y.exN c = some x → mg x = some (.ref (nm.X c)) ∧ PySem.W.keepIn K (.ref (nm.X c)) = true ∧ PySem.W.excIn K (nm.X c) [.type "ValueError", .type "Exception", .type "BaseException", .type "object"] "ValueError.__new__" = true ∧
    PySem.W.subIn K (.ref (nm.X c)) (.type "BaseException") = some true ∧ PySem.W.typeIn K (.ref (nm.X c)) = some (.type "type")
  hd : ∀ (x : Str) (cs : List Nat), Y.hdl x = some cs → ∃ a : Addr, mg x = some (.ref a) ∧ ∀ c ∈ G.exs, PySem.W.exmOne K (.ref (nm.X c)) (.ref a) = some (decide (c ∈ cs))
  cl : ∀ (c : Nat) (x : Str), Y.clN c = some x → Cls K (nm.C c) ∧ mg x = some (.ref (nm.C c)) ∧ ∀ (f : Nat) (n : Str), Y.fdN f = some n → NoAttr K (nm.C c) n ∧ n = nm.fn f
  me : ∀ (c m : Nat) (n : Str), Y.meN c m = some n → ∃ f, G.meth c m = some f ∧ (G.fns f).isSome = true ∧ Cls K (nm.C c) ∧ Meth K (nm.C c) n (fa f) ∧ ∀ g, nm.fn g ≠ n
  mke : ∀ (c : Nat) (x : Str), Y.clN c = some x → ∃ f, G.init c = some f ∧ (G.fns f).isSome = true ∧ Mk K (nm.C c) (fa f)
  inj : ∀ f g, nm.fn f = nm.fn g → f = g
structure COk (P : Program) (w : World) (K : PySem.W.Frag) (mg : Str → Option Value) (base : Heap) (kk : Nat) (N : List Str) (sc : Scope) (X : Cx) : Prop where
  hP : X.prog = P
  hw : X.w = w
  hK : X.K = K
  hm : X.mg = mg
  hb : X.base = base
  hN : X.N = N
  nd : N.Nodup
  sc : X.env.scope = sc
  room : Room (2 * kk + 1) X.A
  calm : X.calm = true
  fr : FrOk X
/-- a def's promise: it hands back what the evaluator says -/
def spF (K : PySem.W.Frag) (nm : Nm) (G : Tab) (kk f : Nat) : Sp := fun vs H Q E => ∃ W S as, Rel K nm W S H ∧ Reps K W H as vs ∧ Wq K nm (rpD K) W H (run G kk f as S) Q fun c H' => E (.ref (nm.X c)) none H'

section
variable {P : Program} {w : World} {K : PySem.W.Frag} {mg : Str → Option Value} {base : Heap} {G : Tab} {Y : Sx} {nm : Nm} {fa : Nat → Addr} {fd : Nat → FuncData} {ps : Nat → List Str} {kk : Nat} {N : List Str}
variable (P w K mg base G Y nm kk N) in
structure Snd (e : E) : Prop where
  v : ∀ (sc : Scope) (a : Expr) (X : Cx) (Wi : WX), chk Y N e sc a = true → COk P w K mg base kk N sc X → Tk X Wi → PE X a (tE K nm Wi (ev G (run G kk) e))
  t : ∀ (sc : Scope) (a : Expr) (X : Cx) (Wi : WX), chkT Y N e sc a = true → COk P w K mg base kk N sc X → Tk X Wi → PT X a (tT K nm Wi fun env S => mapT (ev G (run G kk) e env S))
  l : ∀ (sc : Scope) (a : List Expr) (X : Cx) (Wi : WX), chkA Y N e sc a = true → COk P w K mg base kk N sc X → Tk X Wi → PA X a (tA K nm Wi (ev G (run G kk) e))
variable {sc : Scope} {X : Cx} {Wi : WX}
theorem vis_ok (C : COk P w K mg base kk N sc X) {x : Str} (h : vis sc x = true) : Vis X.env.scope x := by
  rw [C.sc]
  unfold vis at h
  split at h
  · exact .inl (by assumption)
  · exact .inr (.inl (by assumption))
  · exact .inr (.inr (by assumption))
  · cases h
theorem gl_ok (C : COk P w K mg base kk N sc X) {x : Str} (h : gl sc x = true) : Gl X x := by
  have := of_decide_eq_true h
  show X.env.scope.names.lookup x = _
  rw [C.sc]; exact this
theorem dbg_ok {x : Str} (h : dbg x = false) : (x == ("__debug__" : Str)) = false := h
theorem star_ok {e : Expr} {es : List Expr} {env : PySem.Env} (h : notStar e = true) : starEach (e :: es) env = (false, eval e env) :: starEach es env := by
  cases e <;> first | rfl | cases h
theorem mark_ok {op : CmpOp} {e : Expr} (h : isSet e = false) : behindInMarks op e = false := by
  cases e <;> first | rfl | cases h
theorem stars_ok {e : E} {env : PySem.Env} {sc : Scope} : ∀ {as : E} {es : List Expr}, chkA Y N as sc es = true → ∀ {pos : Pos}, (backTo pos (starEach es env)).any (·.1) = false := by
  intro as
  induction as with
  | nil => intro es h pos; cases es <;> first | rfl | (simp [chkA] at h)
  | cons a as _ ih =>
    intro es h pos
    cases es with
    | nil => rfl
    | cons e es =>
      simp only [chkA, Bool.and_eq_true] at h
      rw [star_ok h.1.1]
      have := ih h.2 (pos := pos)
      simpa [backTo] using this
  | _ => intro es h pos; simp [chkA] at h

theorem stars_ok1 {env : PySem.Env} {sc : Scope} {as : E} {e : Expr} {es : List Expr} (h : chkA Y N as sc (e :: es) = true) {pos : Pos} : (backTo pos (starEach es env)).any (·.1) = false := by
  cases as <;> simp only [chkA, Bool.and_eq_true] at h <;> first | (cases h; done) | exact stars_ok (e := .emp) h.2
/-! ### names, constants -/
theorem s_var (i : Nat) : Snd P w K mg base G Y nm kk N (.var i) := by
  refine ⟨fun sc a X Wi h C tk => ?_, fun sc a X Wi h C tk => by simp [chkT] at h, fun sc a X Wi h C tk => by simp [chkA] at h⟩
  cases a <;> simp only [chk] at h <;> first | (cases h; done) | skip
  simp only [Bool.and_eq_true, Bool.not_eq_true', decide_eq_true_eq] at h
  obtain ⟨⟨⟨h1, h2⟩, h3⟩, h4⟩ := h
  refine (pe_var (i := i) (by rw [C.hN]; exact h1) (vis_ok C h2) h3 h4).imp fun σ H Q ⟨W, S, env, E, r, q⟩ => ?_
  simp only [ev] at q
  split at q
  · rename_i d e
    obtain ⟨v, e1, e2⟩ := E.get i d e
    exact ⟨v, e1, q v W H Ext.refl r e2⟩
  · exact q.elim
theorem s_con (d : D) : Snd P w K mg base G Y nm kk N (.con d) := by
  refine ⟨fun sc a X Wi h C tk => ?_, fun sc a X Wi h C tk => by simp [chkT] at h, fun sc a X Wi h C tk => by simp [chkA] at h⟩
  simp only [chk] at h
  have fin : ∀ {v : V} {σ : L2.St} {H : Hp} {Q : VK}, (∀ W, Rep K W H d v) → tE K nm Wi (ev G (run G kk) (.con d)) σ H Q → Q v H := fun {v σ H Q} p ⟨W, S, env, E, r, q⟩ => q v W H Ext.refl r (p W)
  split at h <;> first | (cases h; done) | (have h' := of_decide_eq_true h; subst h') | skip
  · exact pe_int.imp fun σ H Q q => fin (fun _ => .int _) q
  · exact pe_bl.imp fun σ H Q q => fin (fun _ => .bl _) q
  · exact pe_non.imp fun σ H Q q => fin (fun _ => .non) q
  · exact pe_str.imp fun σ H Q q => fin (fun _ => .str _) q
theorem s_glb (g : GOk K mg G Y nm fa fd ps) (j : Nat) : Snd P w K mg base G Y nm kk N (.glb j) := by
  refine ⟨fun sc a X Wi h C tk => ?_, fun sc a X Wi h C tk => by simp [chkT] at h, fun sc a X Wi h C tk => by simp [chkA] at h⟩
  cases a <;> simp only [chk] at h <;> first | (cases h; done) | skip
  simp only [Bool.and_eq_true, Bool.not_eq_true', decide_eq_true_eq] at h
  obtain ⟨⟨h1, h2⟩, h3⟩ := h
  obtain ⟨d, u, v, e1, e2, e3, e4⟩ := g.co j _ h1
  refine (pe_glob (gl_ok C h2) (by rw [C.hm]; exact e2) e3 h3).imp fun σ H Q ⟨W, S, env, E, r, q⟩ => ?_
  simp only [ev, e1, R.of_some] at q
  exact q v W H Ext.refl r (e4 _ _)

/-! ### operators -/
theorem s_bin (o : BOp) (a b : E) (ia : Snd P w K mg base G Y nm kk N a) (ib : Snd P w K mg base G Y nm kk N b) : Snd P w K mg base G Y nm kk N (.bin o a b) := by
  refine ⟨fun sc x X Wi h C tk => ?_, fun sc a X Wi h C tk => by simp [chkT] at h, fun sc a X Wi h C tk => by simp [chkA] at h⟩
  cases x <;> simp only [chk] at h <;> first | (cases h; done) | skip
  simp only [Bool.and_eq_true, decide_eq_true_eq] at h
  obtain ⟨⟨h1, h2⟩, h3⟩ := h
  have pa := ia.v _ _ X Wi h2 C tk
  have pb := ib.v _ _ X Wi h3 C tk
  subst h1
  have U := C.room.units
  cases o with
  | add => exact (pe_op op_add4 pa pb).imp fun σ H Q wq => tX.op wq fun r p q z => by obtain ⟨d, e, f⟩ := z.fin; have := C.hK; subst this; exact add_ok r p q e f
  | sub => exact (pe_op op_sub pa pb).imp fun σ H Q wq => tX.op wq fun r p q z => by obtain ⟨d, e, f⟩ := z.fin; exact sub_ok r p q e f
  | mul => exact (pe_op op_mul3 pa pb).imp fun σ H Q wq => tX.op wq fun r p q z => by obtain ⟨d, e, f⟩ := z.fin; have := C.hK; subst this; exact mul_ok r p q e f
  | mod => exact (pe_op op_mod pa pb).imp fun σ H Q wq => tX.op wq fun r p q z => by obtain ⟨d, e, f⟩ := z.fin; exact mod_ok r p q e f
  | fdiv => exact (pe_op op_fdivW pa pb).imp fun σ H Q wq => tX.op wq fun r p q z => by obtain ⟨d, e, f⟩ := z.fin; exact fdiv_ok r p q e f
theorem bool_beq (a b : Bool) : (Value.bool a == Value.bool b) = decide (a = b) := by cases a <;> cases b <;> rfl
theorem op_isTruth : OpR X (compareOp .Is) (fun x y H Q => ∃ a b, x = .bl a ∧ y = .bl b ∧ Q (.bl (decide (a = b))) H) := by
  intro pins s σ H x y v u Q I rx ry h
  obtain ⟨a, b, rfl, rfl, q⟩ := h
  cases (show v = Value.bool a from rx)
  cases (show u = Value.bool b from ry)
  exact PySem.wpAny_is_plain rfl (fin_bl I q (bool_beq a b).symm)
theorem op_notTruth : OpR X (compareOp .IsNot) (fun x y H Q => ∃ a b, x = .bl a ∧ y = .bl b ∧ Q (.bl (!decide (a = b))) H) := by
  intro pins s σ H x y v u Q I rx ry h
  obtain ⟨a, b, rfl, rfl, q⟩ := h
  cases (show v = Value.bool a from rx)
  cases (show u = Value.bool b from ry)
  exact PySem.wpAny_isNot_plain rfl (fin_bl I q (congrArg not (bool_beq a b).symm))
/-- the comparisons, by values -/
theorem cop_ok (o : COp) (hK : X.K = K) (hu : X.A.units + 64 < cLine) (hu1 : X.A.in1.units + 64 < cLine) : ∃ r : R2, OpR X (compareOp (cOp o)) r ∧
    ∀ {W : Wd} {S : Store} {H : Hp} {dx dy : D} {b : Bool} {x y : V} {Q : VK}, Rel K nm W S H → Rep K W H dx x → Rep K W H dy y → cop o dx dy S = some b → Fin K nm W S H (.bl b) Q → r x y H Q := by
  subst hK
  cases o with
  | eq => exact ⟨_, (op_eq2 hu).or (op_eqK hu1 (by omega)), fun {W S H dx dy b x y Q} r p q h f => by
      simp only [cop] at h
      split at h
      · rename_i a b' e1 e2
        split at h
        · cases h; exact .inr (eqK_ok r p q e1 e2 (by assumption) f)
        · cases h
      · exact .inl (eq_ok r p q h f)⟩
  | ne => exact ⟨_, (op_ne2 hu).or (op_neK hu1 (by omega)), fun {W S H dx dy b x y Q} r p q h f => by
      simp only [cop] at h
      split at h
      · rename_i a b' e1 e2
        split at h
        · cases h; exact .inr (eqK_ok r p q e1 e2 (by assumption) f)
        · cases h
      · exact .inl (ne_ok r p q h f)⟩
  | lt => exact ⟨_, op_lt, fun r p q h f => ord_ok r p q h f⟩
  | le => exact ⟨_, op_le, fun r p q h f => ord_ok r p q h f⟩
  | gt => exact ⟨_, op_gt, fun r p q h f => ord_ok r p q h f⟩
  | ge => exact ⟨_, op_ge, fun r p q h f => ord_ok r p q h f⟩
  | inn => exact ⟨_, op_in2, fun {W S H dx dy b x y Q} r p q h f => by
      simp only [cop] at h
      split at h
      · exact in_ok (ng := false) r p q h (by assumption) f
      · cases h⟩
  | nin => exact ⟨_, op_nin2, fun {W S H dx dy b x y Q} r p q h f => by
      simp only [cop] at h
      split at h
      · rw [Option.map_eq_some_iff] at h
        obtain ⟨c, h1, h2⟩ := h
        exact in_ok (ng := true) r p q h1 (by assumption) (by simpa [h2] using f)
      · cases h⟩
  | iss => exact ⟨_, op_isTruth, fun {W S H dx dy b x y Q} r p q h f => by
      simp only [cop] at h
      split at h
      · cases h; cases p; cases q
        exact ⟨_, _, rfl, rfl, f.here r (.bl _)⟩
      · cases h⟩
  | nis => exact ⟨_, op_notTruth, fun {W S H dx dy b x y Q} r p q h f => by
      simp only [cop] at h
      split at h
      · cases h; cases p; cases q
        exact ⟨_, _, rfl, rfl, f.here r (.bl _)⟩
      · cases h⟩
/-- a truth that is tested -/
theorem bl_of {W : Wd} {S : Store} {H : Hp} {o : Option Bool} {Q : Bool → Hp → Prop} {Xc : Nat → Hp → Prop} {A : Prop} (z : Wq K nm rpB W H ((R.of (o.map D.bl) S).bind fun d S => R.of (truthy d S) S) Q Xc)
    (h : ∀ c, o = some c → Fin K nm W S H (.bl c) (fun x H' => ∃ k, x = .bl k ∧ Q k H') → A) : A := by
  cases o with
  | none => exact z.elim
  | some c =>
    refine h c rfl fun v W' H' e r p => ?_
    cases p
    exact ⟨c, rfl, z c W' H' e r rfl⟩
theorem s_cmp (o : COp) (a b : E) (ia : Snd P w K mg base G Y nm kk N a) (ib : Snd P w K mg base G Y nm kk N b) : Snd P w K mg base G Y nm kk N (.cmp o a b) := by
  refine ⟨fun sc x X Wi h C tk => ?_, fun sc x X Wi h C tk => ?_, fun sc a X Wi h C tk => by simp [chkA] at h⟩
  · simp only [chk] at h
    split at h <;> try (cases h; done)
    simp only [Bool.and_eq_true, decide_eq_true_eq, Bool.not_eq_true'] at h
    obtain ⟨⟨⟨h1, h0⟩, h2⟩, h3⟩ := h
    have pa := ia.v _ _ X Wi h2 C tk
    have pb := ib.v _ _ X Wi h3 C tk
    subst h1
    obtain ⟨rr, ho, hr⟩ := cop_ok (nm := nm) o C.hK C.room.units C.room.in1.units
    refine (pe_cmpR ho pa pb (mark_ok h0)).imp fun σ H Q wq => tX.op wq fun r p q z => ?_
    obtain ⟨d, e, f⟩ := z.fin
    rw [Option.map_eq_some_iff] at e
    obtain ⟨c, e1, e2⟩ := e
    subst e2
    exact hr r p q e1 f
  · simp only [chkT] at h
    split at h <;> try (cases h; done)
    simp only [Bool.and_eq_true, decide_eq_true_eq, Bool.not_eq_true'] at h
    obtain ⟨⟨⟨h1, h0⟩, h2⟩, h3⟩ := h
    have pa := ia.v _ _ X Wi h2 C tk
    have pb := ib.v _ _ X Wi h3 C tk
    subst h1
    obtain ⟨rr, ho, hr⟩ := cop_ok (nm := nm) o C.hK C.room.units C.room.in1.units
    refine (pt_cmpR ho pa pb (mark_ok h0)).imp fun σ H Q wq => ?_
    simp only [ev, mapT, R.bind_assoc] at wq
    exact tX.op wq fun r p q z => bl_of z fun c e f => hr r p q e f
end
end PL

set_option Elab.async false
set_option linter.all false
set_option maxRecDepth 100000
set_option maxHeartbeats 1000000
/-! PLH: expressions, the rest without comprehensions. -/
namespace PL
open PySem PySem.Spec PyProof.Rows L2
section
variable {P : Program} {w : World} {K : PySem.W.Frag} {mg : Str → Option Value} {base : Heap} {G : Tab} {Y : Sx} {nm : Nm} {fa : Nat → Addr} {fd : Nat → FuncData} {ps : Nat → List Str} {kk : Nat} {N : List Str}
variable {sc : Scope} {X : Cx} {Wi : WX}
theorem marks2_ok {op op' : CmpOp} {b c : Expr} (h : isSet c = false) : lastMarks [op, op'] [b, c] = false := by
  show behindInMarks op' c = false
  exact mark_ok h
theorem s_chain (o o' : COp) (a b c : E) (ia : Snd P w K mg base G Y nm kk N a) (ib : Snd P w K mg base G Y nm kk N b) (ic : Snd P w K mg base G Y nm kk N c) : Snd P w K mg base G Y nm kk N (.chain o o' a b c) := by
  refine ⟨fun sc x X Wi h C tk => ?_, fun sc x X Wi h C tk => ?_, fun sc a X Wi h C tk => by simp [chkA] at h⟩
  · simp only [chk] at h
    split at h <;> try (cases h; done)
    simp only [Bool.and_eq_true, decide_eq_true_eq, Bool.not_eq_true'] at h
    obtain ⟨⟨⟨⟨⟨⟨h1, h2⟩, h3⟩, h4⟩, h5⟩, h6⟩, h7⟩ := h
    subst h1 h2
    have pa := ia.v _ _ X Wi h5 C tk
    have pb := ib.v _ _ X Wi h6 C tk
    have pc := ic.v _ _ X Wi h7 C tk
    obtain ⟨rr, ho, hr⟩ := cop_ok (nm := nm) o C.hK C.room.units C.room.in1.units
    obtain ⟨rr', ho', hr'⟩ := cop_ok (nm := nm) o' C.hK C.room.units C.room.in1.units
    refine (pe_chain ho ho' pa pb pc (marks2_ok h4)).imp fun σ H Q wq => ?_
    obtain ⟨W, S, env, E, r, z⟩ := wq
    simp only [ev] at z
    refine ⟨W, S, env, E, r, (Wq.bind (rp := rpD K) z).mono fun x H1 z => ?_⟩
    obtain ⟨W1, S1, dx, e1, r1, p1, z⟩ := z
    have E1 := E.mono r.trk e1
    refine ⟨W1, S1, env, E1, r1, (Wq.bind (rp := rpD K) z).mono fun y H2 z => ?_⟩
    obtain ⟨W2, S2, dy, e2, r2, p2, z⟩ := z
    have E2 := E1.mono r1.trk e2
    cases hk : cop o dx dy S2 with
    | none => rw [hk] at z; exact z.elim
    | some k =>
      rw [hk] at z
      refine hr r2 (p1.mono r1.trk e2) p2 hk fun v W3 H3 e3 r3 p3 => ?_
      cases p3
      refine ⟨k, rfl, ?_⟩
      have z := Wq.ext e3 r3.trk z
      simp only [R.of_some, R.bind_ok] at z
      cases k with
      | false => exact z _ W3 H3 Ext.refl r3 (.bl false)
      | true =>
        have E3 := E2.mono r2.trk e3
        refine ⟨W3, S2, env, E3, r3, (Wq.bind (rp := rpD K) z).mono fun t H4 z => ?_⟩
        obtain ⟨W4, S4, dz, e4, r4, p4, z⟩ := z
        obtain ⟨d, e, f⟩ := z.fin
        rw [Option.map_eq_some_iff] at e
        obtain ⟨c', e5, e6⟩ := e
        subst e6
        exact hr' r4 ((p2.mono r2.trk e3).mono r3.trk e4) p4 e5 f
  · simp only [chkT] at h
    split at h <;> try (cases h; done)
    simp only [Bool.and_eq_true, decide_eq_true_eq, Bool.not_eq_true'] at h
    obtain ⟨⟨⟨⟨⟨⟨h1, h2⟩, h3⟩, h4⟩, h5⟩, h6⟩, h7⟩ := h
    subst h1 h2
    have pa := ia.v _ _ X Wi h5 C tk
    have pb := ib.v _ _ X Wi h6 C tk
    have pc := ic.v _ _ X Wi h7 C tk
    obtain ⟨rr, ho, hr⟩ := cop_ok (nm := nm) o C.hK C.room.units C.room.in1.units
    obtain ⟨rr', ho', hr'⟩ := cop_ok (nm := nm) o' C.hK C.room.units C.room.in1.units
    refine (pt_chain ho ho' pa pb pc (marks2_ok h4)).imp fun σ H Q wq => ?_
    obtain ⟨W, S, env, E, r, z⟩ := wq
    simp only [ev, mapT, R.bind_assoc] at z
    refine ⟨W, S, env, E, r, (Wq.bind (rp := rpD K) z).mono fun x H1 z => ?_⟩
    obtain ⟨W1, S1, dx, e1, r1, p1, z⟩ := z
    have E1 := E.mono r.trk e1
    refine ⟨W1, S1, env, E1, r1, (Wq.bind (rp := rpD K) z).mono fun y H2 z => ?_⟩
    obtain ⟨W2, S2, dy, e2, r2, p2, z⟩ := z
    have E2 := E1.mono r1.trk e2
    cases hk : cop o dx dy S2 with
    | none => rw [hk] at z; exact z.elim
    | some k =>
      rw [hk] at z
      refine hr r2 (p1.mono r1.trk e2) p2 hk fun v W3 H3 e3 r3 p3 => ?_
      cases p3
      refine ⟨k, rfl, ?_⟩
      have z := Wq.ext e3 r3.trk z
      simp only [R.of_some, R.bind_ok] at z
      cases k with
      | false => exact ⟨false, rfl, z false W3 H3 Ext.refl r3 rfl⟩
      | true =>
        have E3 := E2.mono r2.trk e3
        simp only [if_true, R.bind_assoc] at z
        refine ⟨W3, S2, env, E3, r3, (Wq.bind (rp := rpD K) z).mono fun t H4 z => ?_⟩
        obtain ⟨W4, S4, dz, e4, r4, p4, z⟩ := z
        exact bl_of z fun c' e f => hr' r4 ((p2.mono r2.trk e3).mono r3.trk e4) p4 e f
theorem isNon (d : D) {v : V} {W : Wd} {H : Hp} (p : Rep K W H d v) : decide (v = V.non) = isNonD d := by
  cases p <;> simp [isNonD]
theorem s_isn (a : E) (ia : Snd P w K mg base G Y nm kk N a) : Snd P w K mg base G Y nm kk N (.isn a) := by
  refine ⟨fun sc x X Wi h C tk => ?_, fun sc x X Wi h C tk => ?_, fun sc a X Wi h C tk => by simp [chkA] at h⟩
  · simp only [chk] at h
    split at h <;> try (cases h; done)
    have pa := ia.v _ _ X Wi h C tk
    refine (pe_cmp (pc_isN pa) rfl).imp fun σ H Q wq => ?_
    simp only [ev] at wq
    obtain ⟨W, S, env, E, r, z⟩ := tX.one (g := fun _ x S => .ok (D.bl (isNonD x)) S) wq
    refine ⟨W, S, env, E, r, z.mono fun x H1 z => ?_⟩
    obtain ⟨W1, S1, dx, env1, E1, r1, p1, z⟩ := z
    rw [isNon dx p1]
    exact z _ W1 H1 Ext.refl r1 (.bl _)
  · simp only [chkT] at h
    split at h <;> try (cases h; done)
    have pa := ia.v _ _ X Wi h C tk
    refine (pt_cmp (pc_isN pa) rfl).imp fun σ H Q wq => ?_
    simp only [ev, mapT, R.bind_assoc] at wq
    obtain ⟨W, S, env, E, r, z⟩ := tX.one (g := fun _ x S => (R.ok (D.bl (isNonD x)) S).bind fun d S => R.of (truthy d S) S) wq
    refine ⟨W, S, env, E, r, z.mono fun x H1 z => ?_⟩
    obtain ⟨W1, S1, dx, env1, E1, r1, p1, z⟩ := z
    rw [isNon dx p1]
    exact ⟨_, rfl, z _ W1 H1 Ext.refl r1 rfl⟩
theorem s_ntn (a : E) (ia : Snd P w K mg base G Y nm kk N a) : Snd P w K mg base G Y nm kk N (.ntn a) := by
  have key : ∀ {d : D} {v : V} {W : Wd} {H : Hp}, Rep K W H d v → (!decide (v = V.non)) = !isNonD d := fun {d v W H} p => by rw [isNon d p]
  refine ⟨fun sc x X Wi h C tk => ?_, fun sc x X Wi h C tk => ?_, fun sc a X Wi h C tk => by simp [chkA] at h⟩
  · simp only [chk] at h
    split at h <;> try (cases h; done)
    have pa := ia.v _ _ X Wi h C tk
    refine (pe_cmp (pc_notN pa) rfl).imp fun σ H Q wq => ?_
    simp only [ev] at wq
    obtain ⟨W, S, env, E, r, z⟩ := tX.one (g := fun _ x S => .ok (D.bl (!isNonD x)) S) wq
    refine ⟨W, S, env, E, r, z.mono fun x H1 z => ?_⟩
    obtain ⟨W1, S1, dx, env1, E1, r1, p1, z⟩ := z
    rw [key p1]
    exact z _ W1 H1 Ext.refl r1 (.bl _)
  · simp only [chkT] at h
    split at h <;> try (cases h; done)
    have pa := ia.v _ _ X Wi h C tk
    refine (pt_cmp (pc_notN pa) rfl).imp fun σ H Q wq => ?_
    simp only [ev, mapT, R.bind_assoc] at wq
    obtain ⟨W, S, env, E, r, z⟩ := tX.one (g := fun _ x S => (R.ok (D.bl (!isNonD x)) S).bind fun d S => R.of (truthy d S) S) wq
    refine ⟨W, S, env, E, r, z.mono fun x H1 z => ?_⟩
    obtain ⟨W1, S1, dx, env1, E1, r1, p1, z⟩ := z
    rw [key p1]
    exact ⟨_, rfl, z _ W1 H1 Ext.refl r1 rfl⟩
theorem s_neg (a : E) (ia : Snd P w K mg base G Y nm kk N a) : Snd P w K mg base G Y nm kk N (.neg a) := by
  refine ⟨fun sc x X Wi h C tk => ?_, fun sc x X Wi h C tk => by simp [chkT] at h, fun sc a X Wi h C tk => by simp [chkA] at h⟩
  simp only [chk] at h
  split at h <;> try (cases h; done)
  have pa := ia.v _ _ X Wi h C tk
  refine (pe_un un_neg pa).imp fun σ H Q wq => ?_
  simp only [ev] at wq
  obtain ⟨W, S, env, E, r, z⟩ := tX.one (g := fun _ x S => R.of (negD x) S) wq
  refine ⟨W, S, env, E, r, z.mono fun x H1 z => ?_⟩
  obtain ⟨W1, S1, dx, env1, E1, r1, p1, z⟩ := z
  obtain ⟨d, e, f⟩ := z.fin
  cases p1 <;> simp only [negD] at e <;> first | (cases e; done) | skip
  cases e
  exact ⟨_, rfl, f.here r1 (.int _)⟩

/-! ### truth -/
theorem tru_rep {d : D} {v : V} {k : Bool} {W : Wd} {S : Store} {H : Hp} (r : Rel K nm W S H) (p : Rep K W H d v) (h : truthy d S = some k) : TruV K v H k := by
  cases p with
  | non => cases h; rfl
  | bl b => cases h; rfl
  | int i => cases h; rfl
  | str x =>
    simp only [truthy] at h
    split at h
    · rename_i z
      cases h
      refine ⟨by rw [← SZ_eq]; exact z, ?_⟩
      simp [bne, BEq.beq]
      try omega
    · cases h
  | tup h1 h2 => cases h; exact .inr (.inl ⟨_, h1, by cases h2 <;> rfl⟩)
  | lst h1 h2 h3 h4 => cases h; exact .inl ⟨_, .inl h1, by cases h4 <;> rfl⟩
  | dct h1 h2 h3 h4 => cases h
  | scr h1 => cases h
  | @ref n a h1 =>
    simp only [truthy] at h
    split at h
    · rename_i xs q
      cases h
      obtain ⟨vs, e, z⟩ := r.ob n a _ h1 q
      exact .inl ⟨vs, .inl (.inl e), by cases z <;> rfl⟩
    · rename_i xs q
      cases h
      obtain ⟨vs, e, z⟩ := r.ob n a _ h1 q
      exact .inr (.inr ⟨vs, e, by cases z <;> rfl⟩)
    · cases h
theorem s_val (a : E) (ia : Snd P w K mg base G Y nm kk N a) : Snd P w K mg base G Y nm kk N (.val a) := by
  refine ⟨fun sc x X Wi h C tk => by simp [chk] at h, fun sc x X Wi h C tk => ?_, fun sc a X Wi h C tk => by simp [chkA] at h⟩
  simp only [chkT, Bool.and_eq_true] at h
  have pa := ia.v _ _ X Wi h.2 C tk
  have he : ∀ whole, isTrue x X.env whole = (do let v ← whole; standAt x.pos; holding [v] (PySem.truthy v)) := by
    have h1 := h.1
    cases x <;> first | (intro _; rfl) | cases h1
  refine (pt_truth pa he).imp fun σ H Q wq => ?_
  simp only [ev, mapT] at wq
  obtain ⟨W, S, env, E, r, z⟩ := tX.one (g := fun _ d S => R.of (truthy d S) S) wq
  refine ⟨W, S, env, E, r, z.mono fun x H1 z => ?_⟩
  obtain ⟨W1, S1, dx, env1, E1, r1, p1, z⟩ := z
  obtain ⟨k, e, f⟩ := z.of
  have := C.hK
  subst this
  exact ⟨k, tru_rep r1 p1 e, f k W1 H1 Ext.refl r1 rfl⟩
end
end PL

set_option Elab.async false
set_option linter.all false
set_option maxRecDepth 100000
set_option maxHeartbeats 1000000
/-! PLI: and, or, not, calls, displays. -/
namespace PL
open PySem PySem.Spec PyProof.Rows L2
section
variable {P : Program} {w : World} {K : PySem.W.Frag} {mg : Str → Option Value} {base : Heap} {G : Tab} {Y : Sx} {nm : Nm} {fa : Nat → Addr} {fd : Nat → FuncData} {ps : Nat → List Str} {kk : Nat} {N : List Str}
variable {sc : Scope} {X : Cx} {Wi : WX}
theorem s_nt (a : E) (ia : Snd P w K mg base G Y nm kk N a) : Snd P w K mg base G Y nm kk N (.nt a) := by
  refine ⟨fun sc x X Wi h C tk => ?_, fun sc x X Wi h C tk => ?_, fun sc a X Wi h C tk => by simp [chkA] at h⟩
  · simp only [chk] at h
    split at h <;> try (cases h; done)
    have pa := ia.v _ _ X Wi h C tk
    refine (pe_notT pa).imp fun σ H Q wq => ?_
    simp only [ev, mapT, R.bind_assoc] at wq
    obtain ⟨W, S, env, E, r, z⟩ := tX.one (g := fun _ x S => (R.of (truthy x S) S).bind fun k S => .ok (D.bl (!k)) S) wq
    refine ⟨W, S, env, E, r, z.mono fun x H1 z => ?_⟩
    obtain ⟨W1, S1, dx, env1, E1, r1, p1, z⟩ := z
    have := C.hK
    subst this
    cases e : truthy dx S1 with
    | none => rw [e] at z; exact z.elim
    | some k =>
      rw [e] at z
      exact ⟨k, tru_rep r1 p1 e, z _ W1 H1 Ext.refl r1 (.bl _)⟩
  · simp only [chkT] at h
    split at h <;> try (cases h; done)
    have pa := ia.t _ _ X Wi h C tk
    refine (pt_not pa).imp fun σ H Q wq => ?_
    have wq : tX K nm rpB Wi (fun env S => (mapT (ev G (run G kk) a env S)).bind fun k S => .ok (!k) S) σ H Q := by
      refine (?_ : (fun env S => _) = (fun env S => mapT (ev G (run G kk) (.nt a) env S))) ▸ wq
      funext env S
      simp only [ev, mapT, R.bind_assoc]
      cases ev G (run G kk) a env S with
      | ok x S1 =>
        simp only [R.bind_ok]
        cases e : truthy x S1 <;> rfl
      | ex c S1 => rfl
      | bad => rfl
    obtain ⟨W, S, env, E, r, z⟩ := tX.test (g := fun _ k S => .ok (!k) S) wq
    refine ⟨W, S, env, E, r, z.mono fun k H1 z => ?_⟩
    obtain ⟨W1, S1, env1, E1, r1, z⟩ := z
    exact z _ W1 H1 Ext.refl r1 rfl
theorem s_one (a : E) (ia : Snd P w K mg base G Y nm kk N a) : Snd P w K mg base G Y nm kk N (.one a) := by
  refine ⟨fun sc x X Wi h C tk => ?_, fun sc x X Wi h C tk => ?_, fun sc a X Wi h C tk => by simp [chkA] at h⟩
  · simp only [chk] at h
    split at h <;> try (cases h; done)
    exact pe_one (ia.v _ _ X Wi h C tk)
  · simp only [chkT] at h
    split at h <;> try (cases h; done)
    rename_i o p pos
    cases o with
    | And => exact (pw_and1 (ia.t _ _ X Wi h C tk)).pt
    | Or => exact (pw_or1 (ia.t _ _ X Wi h C tk)).pt
/-- a block of and, or as a test stands whatever its whole is -/
theorem pw_of {o : BoolOp} {vs : List Expr} {pos : Pos} {t : TT} (h : PT X (.BoolOp o vs pos) t) : PW X (.BoolOp o vs pos) t := by
  refine ⟨fun wh pins s σ H Q I q => ?_⟩
  exact h.run pins s σ H Q I q
theorem s_and (a b : E) (ia : Snd P w K mg base G Y nm kk N a) (ib : Snd P w K mg base G Y nm kk N b) : Snd P w K mg base G Y nm kk N (.and a b) := by
  refine ⟨fun sc x X Wi h C tk => ?_, fun sc x X Wi h C tk => ?_, fun sc a X Wi h C tk => by simp [chkA] at h⟩
  · simp only [chk] at h
    split at h <;> try (cases h; done)
    simp only [Bool.and_eq_true] at h
    have pa := ia.v _ _ X Wi h.1 C tk
    have pb := ib.v _ _ X Wi h.2 C tk
    refine (pe_andT pa pb).imp fun σ H Q wq => ?_
    simp only [ev] at wq
    obtain ⟨W, S, env, E, r, z⟩ := tX.one (g := fun env x S => (R.of (truthy x S) S).bind fun k S => if k then ev G (run G kk) b env S else .ok x S) wq
    refine ⟨W, S, env, E, r, z.mono fun x H1 z => ?_⟩
    obtain ⟨W1, S1, dx, env1, E1, r1, p1, z⟩ := z
    have := C.hK
    subst this
    cases e : truthy dx S1 with
    | none => rw [e] at z; exact z.elim
    | some k =>
      rw [e] at z
      refine ⟨k, tru_rep r1 p1 e, ?_⟩
      cases k with
      | false => exact z _ W1 H1 Ext.refl r1 p1
      | true => exact ⟨W1, S1, env1, E1, r1, z⟩
  · simp only [chkT] at h
    split at h <;> try (cases h; done)
    simp only [Bool.and_eq_true] at h
    have pa := ia.t _ _ X Wi h.1 C tk
    have pb := ib.t _ _ X Wi h.2 C tk
    refine (pw_and pa (pw_of pb)).pt.imp fun σ H Q wq => ?_
    have wq : tX K nm rpB Wi (fun env S => (mapT (ev G (run G kk) a env S)).bind fun k S => if k then mapT (ev G (run G kk) b env S) else .ok false S) σ H Q := by
      refine (?_ : (fun env S => _) = (fun env S => mapT (ev G (run G kk) (.and a b) env S))) ▸ wq
      funext env S
      simp only [ev, mapT]
      cases ev G (run G kk) a env S with
      | ok x S1 =>
        simp only [R.bind_ok]
        cases e : truthy x S1 with
        | none => rfl
        | some k =>
          cases k with
          | true => rfl
          | false => simp [e]
      | ex c S1 => rfl
      | bad => rfl
    obtain ⟨W, S, env, E, r, z⟩ := tX.test (g := fun env k S => if k then mapT (ev G (run G kk) b env S) else .ok false S) wq
    refine ⟨W, S, env, E, r, z.mono fun k H1 z => ?_⟩
    obtain ⟨W1, S1, env1, E1, r1, z⟩ := z
    cases k with
    | false => exact z _ W1 H1 Ext.refl r1 rfl
    | true => exact ⟨W1, S1, env1, E1, r1, z⟩
theorem s_or (a b : E) (ia : Snd P w K mg base G Y nm kk N a) (ib : Snd P w K mg base G Y nm kk N b) : Snd P w K mg base G Y nm kk N (.or a b) := by
  refine ⟨fun sc x X Wi h C tk => ?_, fun sc x X Wi h C tk => ?_, fun sc a X Wi h C tk => by simp [chkA] at h⟩
  · simp only [chk] at h
    split at h <;> try (cases h; done)
    simp only [Bool.and_eq_true] at h
    have pa := ia.v _ _ X Wi h.1 C tk
    have pb := ib.v _ _ X Wi h.2 C tk
    refine (pe_orT pa pb).imp fun σ H Q wq => ?_
    simp only [ev] at wq
    obtain ⟨W, S, env, E, r, z⟩ := tX.one (g := fun env x S => (R.of (truthy x S) S).bind fun k S => if k then .ok x S else ev G (run G kk) b env S) wq
    refine ⟨W, S, env, E, r, z.mono fun x H1 z => ?_⟩
    obtain ⟨W1, S1, dx, env1, E1, r1, p1, z⟩ := z
    have := C.hK
    subst this
    cases e : truthy dx S1 with
    | none => rw [e] at z; exact z.elim
    | some k =>
      rw [e] at z
      refine ⟨k, tru_rep r1 p1 e, ?_⟩
      cases k with
      | true => exact z _ W1 H1 Ext.refl r1 p1
      | false => exact ⟨W1, S1, env1, E1, r1, z⟩
  · simp only [chkT] at h
    split at h <;> try (cases h; done)
    simp only [Bool.and_eq_true] at h
    have pa := ia.t _ _ X Wi h.1 C tk
    have pb := ib.t _ _ X Wi h.2 C tk
    refine (pw_or pa (pw_of pb)).pt.imp fun σ H Q wq => ?_
    have wq : tX K nm rpB Wi (fun env S => (mapT (ev G (run G kk) a env S)).bind fun k S => if k then .ok true S else mapT (ev G (run G kk) b env S)) σ H Q := by
      refine (?_ : (fun env S => _) = (fun env S => mapT (ev G (run G kk) (.or a b) env S))) ▸ wq
      funext env S
      simp only [ev, mapT]
      cases ev G (run G kk) a env S with
      | ok x S1 =>
        simp only [R.bind_ok]
        cases e : truthy x S1 with
        | none => rfl
        | some k =>
          cases k with
          | false => rfl
          | true => simp [e]
      | ex c S1 => rfl
      | bad => rfl
    obtain ⟨W, S, env, E, r, z⟩ := tX.test (g := fun env k S => if k then .ok true S else mapT (ev G (run G kk) b env S)) wq
    refine ⟨W, S, env, E, r, z.mono fun k H1 z => ?_⟩
    obtain ⟨W1, S1, env1, E1, r1, z⟩ := z
    cases k with
    | true => exact z _ W1 H1 Ext.refl r1 rfl
    | false => exact ⟨W1, S1, env1, E1, r1, z⟩
theorem s_ite (c a b : E) (ic : Snd P w K mg base G Y nm kk N c) (ia : Snd P w K mg base G Y nm kk N a) (ib : Snd P w K mg base G Y nm kk N b) : Snd P w K mg base G Y nm kk N (.ite c a b) := by
  refine ⟨fun sc x X Wi h C tk => ?_, fun sc x X Wi h C tk => by simp [chkT] at h, fun sc a X Wi h C tk => by simp [chkA] at h⟩
  simp only [chk] at h
  split at h <;> try (cases h; done)
  simp only [Bool.and_eq_true] at h
  obtain ⟨⟨h1, h2⟩, h3⟩ := h
  refine (pe_ifExp (ic.t _ _ X Wi h1 C tk) (ia.v _ _ X Wi h2 C tk) (ib.v _ _ X Wi h3 C tk)).imp fun σ H Q wq => ?_
  simp only [ev] at wq
  obtain ⟨W, S, env, E, r, z⟩ := tX.test (g := fun env k S => if k then ev G (run G kk) a env S else ev G (run G kk) b env S) wq
  refine ⟨W, S, env, E, r, z.mono fun k H1 z => ?_⟩
  obtain ⟨W1, S1, env1, E1, r1, z⟩ := z
  cases k with
  | true => exact ⟨W1, S1, env1, E1, r1, z⟩
  | false => exact ⟨W1, S1, env1, E1, r1, z⟩

/-! ### arguments, displays -/
theorem s_nil : Snd P w K mg base G Y nm kk N .nil := by
  refine ⟨fun sc x X Wi h C tk => by simp [chk] at h, fun sc x X Wi h C tk => by simp [chkT] at h, fun sc a X Wi h C tk => ?_⟩
  cases a with
  | nil => exact pa_nil.imp fun σ H Q ⟨W, S, env, E, r, q⟩ => q [] W H Ext.refl r ⟨[], rfl, .nil⟩
  | cons x y => simp [chkA] at h
theorem s_cons (a as : E) (ia : Snd P w K mg base G Y nm kk N a) (ib : Snd P w K mg base G Y nm kk N as) : Snd P w K mg base G Y nm kk N (.cons a as) := by
  refine ⟨fun sc x X Wi h C tk => by simp [chk] at h, fun sc x X Wi h C tk => by simp [chkT] at h, fun sc es X Wi h C tk => ?_⟩
  simp only [chkA] at h
  split at h <;> try (cases h; done)
  simp only [Bool.and_eq_true] at h
  obtain ⟨⟨h1, h2⟩, h3⟩ := h
  refine (pa_cons (ia.v _ _ X Wi h2 C tk) (ib.l _ _ X Wi h3 C tk) (star_ok h1)).imp fun σ H Q wq => ?_
  obtain ⟨W, S, env, E, r, z⟩ := wq
  simp only [ev] at z
  refine ⟨W, S, env, E, r, (Wq.bind (rp := rpD K) z).mono fun x H1 z => ?_⟩
  obtain ⟨W1, S1, dx, e1, r1, p1, z⟩ := z
  refine ⟨W1, S1, env, E.mono r.trk e1, r1, (Wq.bind (rp := rpA K) z).mono fun vs H2 z => ?_⟩
  obtain ⟨W2, S2, dy, e2, r2, ⟨xs, e3, p2⟩, z⟩ := z
  subst e3
  exact z _ W2 H2 Ext.refl r2 ⟨_, rfl, .cons (p1.mono r1.trk e2) p2⟩
theorem Reps.sz {W : Wd} {H : Hp} {xs : List D} {vs : List V} (p : Reps K W H xs vs) (h : xs.length ≤ SZ) : vs.length ≤ sizeLine := by rw [p.lens, ← SZ_eq]; exact h
theorem mkTup_some {xs : List D} {d : D} (h : mkTup xs = some d) : xs.length ≤ SZ ∧ d = .tup xs := by
  unfold mkTup at h
  split at h
  · cases h; exact ⟨by assumption, rfl⟩
  · cases h
theorem mkLst_some {xs : List D} {d : D} (h : mkLst xs = some d) : xs.length ≤ SZ ∧ d = .lst xs := by
  unfold mkLst at h
  split at h
  · cases h; exact ⟨by assumption, rfl⟩
  · cases h
theorem s_tup (as : E) (ia : Snd P w K mg base G Y nm kk N as) : Snd P w K mg base G Y nm kk N (.tup as) := by
  refine ⟨fun sc x X Wi h C tk => ?_, fun sc x X Wi h C tk => by simp [chkT] at h, fun sc a X Wi h C tk => by simp [chkA] at h⟩
  simp only [chk] at h
  split at h <;> try (cases h; done)
  refine (pe_tup (ia.l _ _ X Wi h C tk)).imp fun σ H Q wq => ?_
  simp only [ev] at wq
  obtain ⟨W, S, env, E, r, z⟩ := tX.args (g := fun _ xs S => R.of (mkTup (toTup xs)) S) wq
  refine ⟨W, S, env, E, r, z.mono fun vs H1 z => ?_⟩
  obtain ⟨W1, S1, xs, env1, E1, r1, p1, z⟩ := z
  obtain ⟨d, e, f⟩ := z.fin
  obtain ⟨hz, e2⟩ := mkTup_some (xs := xs) e
  subst e2
  exact ⟨p1.sz hz, fun p hp => f.tup r1 p1 hp⟩
theorem s_lst (as : E) (ia : Snd P w K mg base G Y nm kk N as) : Snd P w K mg base G Y nm kk N (.lst as) := by
  refine ⟨fun sc x X Wi h C tk => ?_, fun sc x X Wi h C tk => by simp [chkT] at h, fun sc a X Wi h C tk => by simp [chkA] at h⟩
  simp only [chk] at h
  split at h <;> try (cases h; done)
  refine (pe_lst (ia.l _ _ X Wi h C tk)).imp fun σ H Q wq => ?_
  simp only [ev] at wq
  obtain ⟨W, S, env, E, r, z⟩ := tX.args (g := fun _ xs S => R.of (mkLst (toTup xs)) S) wq
  refine ⟨W, S, env, E, r, z.mono fun vs H1 z => ?_⟩
  obtain ⟨W1, S1, xs, env1, E1, r1, p1, z⟩ := z
  obtain ⟨d, e, f⟩ := z.fin
  obtain ⟨hz, e2⟩ := mkLst_some (xs := xs) e
  subst e2
  exact ⟨p1.sz hz, fun p hp => f.lst r1 p1 hp⟩

/-! ### calls -/
theorem star1 {as : E} {e : Expr} {es : List Expr} (h : chkA Y N as sc (e :: es) = true) : notStar e = true := by
  cases as <;> simp only [chkA, Bool.and_eq_true] at h <;> first | (cases h; done) | exact h.1.1
theorem star2 {as : E} {e e' : Expr} {es : List Expr} (h : chkA Y N as sc (e :: e' :: es) = true) : notStar e' = true := by
  cases as <;> simp only [chkA, Bool.and_eq_true] at h <;> first | (cases h; done) | exact star1 h.2
theorem s_call (g : GOk K mg G Y nm fa fd ps) (hF : ∀ f : Nat, (G.fns f).isSome = true → FnOk P w K mg base (L2.CX P w) (2 * kk) (fa f) (fd f) (ps f) (spF K nm G kk f)) (f : Nat) (as : E) (ia : Snd P w K mg base G Y nm kk N as) :
    Snd P w K mg base G Y nm kk N (.call f as) := by
  refine ⟨fun sc x X Wi h C tk => ?_, fun sc x X Wi h C tk => by simp [chkT] at h, fun sc a X Wi h C tk => by simp [chkA] at h⟩
  simp only [chk] at h
  split at h <;> try (cases h; done)
  simp only [Bool.and_eq_true, decide_eq_true_eq, Bool.not_eq_true'] at h
  obtain ⟨⟨⟨h1, h2⟩, h3⟩, h4⟩ := h
  obtain ⟨hl, hmg, hkp⟩ := g.fn f _ h1
  have F := hF f hl
  have pa := ia.l _ _ X Wi h4 C tk
  have hs := star1 h4
  have bb := g.bi f hl
  obtain ⟨e1, e2, e3, e4, e5⟩ := And.intro C.hP (And.intro C.hw (And.intro C.hK (And.intro C.hm C.hb)))
  subst e1 e2 e3 e4 e5
  refine (pe_callS (E := WE Wi) F (C.room.mono (by omega)) (gl_ok C h2) hmg hkp bb (fun σ => tk_at tk σ) pa (dbg_ok h3) (star_ok hs) (stars_ok1 h4)).imp fun σ H Q wq => ?_
  simp only [ev] at wq
  obtain ⟨W, S, env, E, r, z⟩ := tX.args (g := fun _ xs S => run G kk f (toTup xs) S) wq
  refine ⟨W, S, env, E, r, z.mono fun vs H1 z => ?_⟩
  obtain ⟨W1, S1, xs, env1, E1, r1, p1, z⟩ := z
  exact ⟨W1, S1, xs, r1, p1, z⟩
end
end PL

set_option Elab.async false
set_option linter.all false
set_option maxRecDepth 100000
set_option maxHeartbeats 1000000
/-! PLJ: isinstance, built-ins by name, subscripts. -/
namespace PL
open PySem PySem.Spec PyProof.Rows L2
section
variable {P : Program} {w : World} {K : PySem.W.Frag} {mg : Str → Option Value} {base : Heap} {G : Tab} {Y : Sx} {nm : Nm} {fa : Nat → Addr} {fd : Nat → FuncData} {ps : Nat → List Str} {kk : Nat} {N : List Str}
variable {sc : Scope} {X : Cx} {Wi : WX}
theorem ty_boot (t : Nat) (h : t < 4) : bootBuiltins (tyS t) = some (.type (tyN t)) ∧ tyS t ≠ "__name__" ∧ (tyS t == ("__debug__" : Str)) = false := by
  match t, h with
  | 0, _ => exact ⟨by decide +kernel, by decide +kernel, by decide +kernel⟩
  | 1, _ => exact ⟨by decide +kernel, by decide +kernel, by decide +kernel⟩
  | 2, _ => exact ⟨by decide +kernel, by decide +kernel, by decide +kernel⟩
  | 3, _ => exact ⟨by decide +kernel, by decide +kernel, by decide +kernel⟩
theorem s_isa (g : GOk K mg G Y nm fa fd ps) (a : E) (t : Nat) (ia : Snd P w K mg base G Y nm kk N a) : Snd P w K mg base G Y nm kk N (.isa a t) := by
  refine ⟨fun sc x X Wi h C tk => ?_, fun sc x X Wi h C tk => by simp [chkT] at h, fun sc a X Wi h C tk => by simp [chkA] at h⟩
  simp only [chk] at h
  split at h <;> try (cases h; done)
  simp only [Bool.and_eq_true, decide_eq_true_eq] at h
  obtain ⟨⟨⟨⟨⟨⟨⟨⟨h1, h2⟩, h3⟩, h4⟩, h5⟩, h6⟩, h7⟩, h8⟩, h9⟩ := h
  subst h1 h2
  obtain ⟨b1, b2, b3⟩ := ty_boot t h3
  have pa := ia.v _ _ X Wi h9 C tk
  have m1 : X.mg ("isinstance" : Str) = none := by rw [C.hm]; exact g.bl _ h6
  have m2 : X.mg (tyS t) = none := by rw [C.hm]; exact g.bl _ h7
  have e1 := C.hK
  subst e1
  refine (pe_callB call_isi (gl_ok C h4) m1 (by decide +kernel) (pa_cons pa (pa_cons (pe_bltn (v := V.ty (tyN t)) (gl_ok C h5) m2 b1 rfl b2 b3) pa_nil) (star_ok h8)) (he := star_ok h8)).imp fun σ H Q wq => ?_
  simp only [ev] at wq
  obtain ⟨W, S, env, E, r, z⟩ := tX.one (g := fun _ x S => if notIns x S then .ok (D.bl (isaD t x)) S else .bad) wq
  refine ⟨W, S, env, E, r, z.mono fun x H1 z => ?_⟩
  obtain ⟨W1, S1, dx, env1, E1, r1, p1, z⟩ := z
  cases hn : notIns dx S1 with
  | false => rw [hn] at z; exact z.elim
  | true =>
    rw [hn] at z
    obtain ⟨ty, b, k1, k2, k3⟩ := isa_ok (t := t) r1 p1 hn (show Fin X.K nm W1 S1 H1 (.bl (isaD t dx)) Q from z)
    exact ⟨x, .ty (tyN t), ty, _, b, rfl, .ty _, k1, k2, k3⟩
/-- a built-in function or type, called by its name -/
theorem s_bf_of (g : GOk K mg G Y nm fa fd ps) (f : Bf) (as : E) (ia : Snd P w K mg base G Y nm kk N as)
    (hb : ∀ (X : Cx), X.K = K → X.calm = true → X.A.units + 64 < cLine → ∃ (id : String) (r : List V → Hp → VK → Prop), ((CallR X (.builtin id) r ∧ bootBuiltins (bfN f) = some (.builtin id)) ∨ (CallR X (.type id) r ∧ bootBuiltins (bfN f) = some (.type id))) ∧ CallK X K nm (bfD f) r)
    (hn : bfN f ≠ "__name__" := by decide +kernel) (hd : (bfN f == ("__debug__" : Str)) = false := by decide +kernel) : Snd P w K mg base G Y nm kk N (.bf f as) := by
  refine ⟨fun sc x X Wi h C tk => ?_, fun sc x X Wi h C tk => by simp [chkT] at h, fun sc a X Wi h C tk => by simp [chkA] at h⟩
  simp only [chk] at h
  split at h <;> try (cases h; done)
  simp only [Bool.and_eq_true, decide_eq_true_eq] at h
  obtain ⟨⟨⟨⟨h0, h1⟩, h2⟩, h3⟩, h4⟩ := h
  subst h1
  have pa := ia.l _ _ X Wi h4 C tk
  have m1 : X.mg (bfN f) = none := by rw [C.hm]; exact g.bl _ h3
  obtain ⟨id, r, hc, ad⟩ := hb X C.hK C.calm C.room.units
  have fin : ∀ {σ : L2.St} {H : Hp} {Q : VK}, tE K nm Wi (ev G (run G kk) (.bf f as)) σ H Q → tCB r (tA K nm Wi (ev G (run G kk) as)) σ H Q := fun {σ H Q} wq => by
    simp only [ev] at wq
    obtain ⟨W, S, env, E, r', z⟩ := tX.args (g := fun _ xs S => R.of (bfD f (toTup xs) S) S) wq
    refine ⟨W, S, env, E, r', z.mono fun vs H1 z => ?_⟩
    obtain ⟨W1, S1, xs, env1, E1, r1, p1, z⟩ := z
    obtain ⟨d, e, fi⟩ := z.fin
    exact ad W1 S1 H1 xs vs d Q r1 p1 e fi
  rcases hc with ⟨hc, hv⟩ | ⟨hc, hv⟩
  · exact (pe_callB hc (gl_ok C h2) m1 hv pa hn hd (star_ok (star1 h4)) (stars_ok1 h4)).imp fun σ H Q wq => fin wq
  · exact (pe_callTy hc (gl_ok C h2) m1 hv pa hn hd (star_ok (star1 h4)) (stars_ok1 h4)).imp fun σ H Q wq => fin wq
theorem s_bf (g : GOk K mg G Y nm fa fd ps) (f : Bf) (as : E) (ia : Snd P w K mg base G Y nm kk N as) : Snd P w K mg base G Y nm kk N (.bf f as) := by
  cases f with
  | len => exact s_bf_of g .len as ia fun X e c u => ⟨"len", _, .inl ⟨call_len3, PySem.boot_len⟩, e ▸ len_ok (X := X)⟩
  | all => exact s_bf_of g .all as ia fun X e c u => ⟨"all", _, .inl ⟨cr_all c, by decide +kernel⟩, e ▸ all_ok (X := X)⟩
  | any => exact s_bf_of g .any as ia fun X e c u => ⟨"any", _, .inl ⟨cr_any c, by decide +kernel⟩, e ▸ any_ok (X := X)⟩
  | sum => exact s_bf_of g .sum as ia fun X e c u => ⟨"sum", _, .inl ⟨CallR.or (cr_sum c) (cr_sumT c), by decide +kernel⟩, e ▸ sum_ok (X := X)⟩
  | tuple => exact s_bf_of g .tuple as ia fun X e c u => ⟨"tuple", _, .inr ⟨call_tuple_of, by decide +kernel⟩, e ▸ tuple_ok (X := X)⟩
  | list => exact s_bf_of g .list as ia fun X e c u => ⟨"list", _, .inr ⟨call_list_of.or (call_listD c), by decide +kernel⟩, e ▸ list_ok (X := X)⟩
  | max => exact s_bf_of g .max as ia fun X e c u => ⟨"max", _, .inl ⟨call_max2 c, by decide +kernel⟩, max_ok (X := X)⟩
  | min => exact s_bf_of g .min as ia fun X e c u => ⟨"min", _, .inl ⟨call_min2 c, by decide +kernel⟩, min_ok (X := X)⟩
  | sorted => exact s_bf_of g .sorted as ia fun X e c u => ⟨"sorted", _, .inl ⟨cr_srt c, by decide +kernel⟩, e ▸ sorted_ok (X := X)⟩
  | str => exact s_bf_of g .str as ia fun X e c u => ⟨"str", _, .inr ⟨call_str_int, by decide +kernel⟩, str_ok (X := X)⟩
  | int => exact s_bf_of g .int as ia fun X e c u => ⟨"int", _, .inr ⟨call_int1.or call_int_str, by decide +kernel⟩, int_ok (X := X)⟩
theorem plainIx_ok {e : Expr} (h : notSlice e = true) : PlainIx e := by
  intro o i
  cases e <;> first | rfl | cases h
theorem s_ix (a i : E) (ia : Snd P w K mg base G Y nm kk N a) (ib : Snd P w K mg base G Y nm kk N i) : Snd P w K mg base G Y nm kk N (.ix a i) := by
  refine ⟨fun sc x X Wi h C tk => ?_, fun sc x X Wi h C tk => by simp [chkT] at h, fun sc a X Wi h C tk => by simp [chkA] at h⟩
  simp only [chk] at h
  split at h <;> try (cases h; done)
  simp only [Bool.and_eq_true] at h
  obtain ⟨⟨h1, h2⟩, h3⟩ := h
  have pa := ia.v _ _ X Wi h2 C tk
  have pb := ib.v _ _ X Wi h3 C tk
  have e1 := C.hK
  subst e1
  refine (pe_ix ix_seq pa pb (plainIx_ok h1)).imp fun σ H Q wq => ?_
  simp only [ev] at wq
  exact tX.op wq fun r p q z => by
    obtain ⟨d, e, f⟩ := z.fin
    exact ix_ok r p q e f
theorem s_emp : Snd P w K mg base G Y nm kk N .emp :=
  ⟨fun sc x X Wi h C tk => by simp [chk] at h, fun sc x X Wi h C tk => by simp [chkT] at h, fun sc a X Wi h C tk => by simp [chkA] at h⟩
def rpO : Wd → Hp → Option Int → Option Int → Prop := fun _ _ a b => a = b
/-- a slice's part -/
noncomputable def evP (G : Tab) (call : Calls) (lo : E) (env : Env) (S : Store) : R (Option Int) := if isEmp lo then .ok none S else (ev G call lo env S).bind fun d S => R.of (part d) S
theorem part_ok {lo : E} {l : Option Expr} (il : Snd P w K mg base G Y nm kk N lo) (h : (match l with | none => isEmp lo | some l => !isEmp lo && chk Y N lo sc l) = true) (C : COk P w K mg base kk N sc X) (tk : Tk X Wi) :
    PO X l (tX K nm rpO Wi (evP G (run G kk) lo)) := by
  cases l with
  | none =>
    have h : isEmp lo = true := h
    refine ⟨fun pins s σ H Q I q => po_none.run pins s σ H Q I ?_⟩
    obtain ⟨W, S, env, E, r, z⟩ := q
    unfold evP at z
    rw [if_pos h] at z
    exact z none W H Ext.refl r rfl
  | some l =>
    simp only [Bool.and_eq_true, Bool.not_eq_true'] at h
    have pl := il.v _ _ X Wi h.2 C tk
    refine ⟨fun pins s σ H Q I q => (po_some pl).run pins s σ H Q I ?_⟩
    obtain ⟨W, S, env, E, r, z⟩ := q
    unfold evP at z
    rw [if_neg (by rw [h.1]; exact Bool.false_ne_true)] at z
    refine ⟨W, S, env, E, r, (Wq.bind (rp := rpD K) z).mono fun x H1 z => ?_⟩
    obtain ⟨W1, S1, dx, e1, r1, p1, z⟩ := z
    obtain ⟨o, e, f⟩ := z.of
    cases p1 <;> simp only [part] at e <;> first | (cases e; done) | skip
    cases e
    exact ⟨_, rfl, f _ W1 H1 Ext.refl r1 rfl⟩
theorem s_sl (a lo hi : E) (ia : Snd P w K mg base G Y nm kk N a) (il : Snd P w K mg base G Y nm kk N lo) (ih : Snd P w K mg base G Y nm kk N hi) : Snd P w K mg base G Y nm kk N (.sl a lo hi) := by
  refine ⟨fun sc x X Wi h C tk => ?_, fun sc x X Wi h C tk => by simp [chkT] at h, fun sc a X Wi h C tk => by simp [chkA] at h⟩
  simp only [chk] at h
  split at h <;> try (cases h; done)
  simp only [Bool.and_eq_true] at h
  obtain ⟨⟨h1, h2⟩, h3⟩ := h
  have pa := ia.v _ _ X Wi h1 C tk
  have pl := part_ok il h2 C tk
  have ph := part_ok ih h3 C tk
  have e1 := C.hK
  subst e1
  refine (pe_slice sl_3 pa pl ph).imp fun σ H Q wq => ?_
  obtain ⟨W, S, env, E, r, z⟩ := wq
  have z : Wq X.K nm (rpD X.K) W H ((ev G (run G kk) a env S).bind fun x S => (evP G (run G kk) lo env S).bind fun l S => (evP G (run G kk) hi env S).bind fun h S => R.of (slD x l h S) S) Q (Xw nm Wi σ) := z
  refine ⟨W, S, env, E, r, (Wq.bind (rp := rpD X.K) z).mono fun x H1 z => ?_⟩
  obtain ⟨W1, S1, dx, e1, r1, p1, z⟩ := z
  have E1 := E.mono r.trk e1
  refine ⟨W1, S1, env, E1, r1, (Wq.bind (rp := rpO) z).mono fun l H2 z => ?_⟩
  obtain ⟨W2, S2, dl, e2, r2, p2, z⟩ := z
  have E2 := E1.mono r1.trk e2
  cases (show dl = l from p2)
  refine ⟨W2, S2, env, E2, r2, (Wq.bind (rp := rpO) z).mono fun h H3 z => ?_⟩
  obtain ⟨W3, S3, dh, e3, r3, p3, z⟩ := z
  cases (show dh = h from p3)
  obtain ⟨d, e, f⟩ := z.fin
  exact sl_ok r3 ((p1.mono r1.trk e2).mono r2.trk e3) e f
end
end PL

set_option Elab.async false
set_option linter.all false
set_option maxRecDepth 100000
set_option maxHeartbeats 1000000
/-! PLV: slices with a step, of tuples and of lists. -/
namespace HT
open PySem PyProof.Rows
open PL (stepIx)
section
variable {prog : Program} {w : World} {A : Around} {E : Value → Shared → Prop} {s : Shared}
theorem ceil_places {d c : Int} (hc : 0 < c) : (d + c - 1) / c = (d - 1) / c + 1 := by
  rw [show d + c - 1 = d - 1 + 1 * c by omega, Int.add_mul_ediv_right _ _ (by omega)]
theorem bounds_adjust {lo hi : Option Int} {st : Int} {n : Nat} (h0 : st ≠ 0) : ((sliceBounds lo hi (some st) n).1, (sliceBounds lo hi (some st) n).2.1) = Builtin.Slice.sliceAdjust lo hi st n := by
  unfold sliceBounds Builtin.Slice.sliceAdjust
  by_cases hp : st > 0
  · have hn : ¬ st < 0 := by omega
    simp only [Option.getD_some, hp, hn, if_true, if_false]
    refine Prod.ext ?_ ?_
    · cases lo with
      | none => rfl
      | some i => simp only; split <;> omega
    · cases hi with
      | none => rfl
      | some i => simp only; split <;> omega
  · have hn : st < 0 := by omega
    simp only [Option.getD_some, hp, hn, if_true, if_false]
    refine Prod.ext ?_ ?_
    · cases lo with
      | none => rfl
      | some i => simp only; split <;> omega
    · cases hi with
      | none => rfl
      | some i => simp only; split <;> omega
theorem range_places {a b c : Int} (h0 : c ≠ 0) : sliceRange a b c = (List.range (Builtin.Slice.slicePlaces a b c)).map fun (k : Nat) => (a + (k : Int) * c).toNat := by
  unfold sliceRange Builtin.Slice.slicePlaces
  have e : (if c > 0 then if a < b then (b - a + c - 1) / c else 0 else if a > b then (a - b - c - 1) / -c else 0) = (if c > 0 then (if a < b then (b - a - 1) / c + 1 else 0) else (if a > b then (a - b - 1) / (-c) + 1 else 0)) := by
    by_cases hc : c > 0
    · simp only [hc, if_true]
      split
      · rw [ceil_places hc]
      · rfl
    · simp only [hc, if_false]
      split
      · rw [show a - b - c - 1 = (a - b) + (-c) - 1 by omega, ceil_places (by omega)]
      · rfl
  simp only [e]
  refine List.map_congr_left fun k _ => ?_
  rw [Int.mul_comm]
theorem pick_step {items : Array Value} {lo hi : Option Int} {st : Int} (h0 : st ≠ 0) : slicePick items lo hi (some st) = ((stepIx items.size lo hi st).filterMap (items[·]?)).toArray := by
  have e := bounds_adjust (lo := lo) (hi := hi) (n := items.size) h0
  unfold slicePick stepIx
  have e1 : (sliceBounds lo hi (some st) items.size).1 = (Builtin.Slice.sliceAdjust lo hi st items.size).1 := by rw [← e]
  have e2 : (sliceBounds lo hi (some st) items.size).2.1 = (Builtin.Slice.sliceAdjust lo hi st items.size).2 := by rw [← e]
  have e3 : (sliceBounds lo hi (some st) items.size).2.2 = st := rfl
  rw [e1, e2, e3, range_places h0]
theorem applied_step {sl : Addr} {vl vu vs : Value} {lo hi : Option Int} {st : Int} {n : Nat} {Q : Int × Int × Nat → Shared → Prop} (hs : s.heap.IsSliceOf sl vl vu vs) (pl : IsPart vl lo) (pu : IsPart vu hi) (pz : IsPart vs (some st)) (h0 : st ≠ 0)
    (h : Q ((Builtin.Slice.sliceAdjust lo hi st n).1, st, Builtin.Slice.slicePlaces (Builtin.Slice.sliceAdjust lo hi st n).1 (Builtin.Slice.sliceAdjust lo hi st n).2 st) s) : wpAny (model prog w) A (Builtin.Slice.sliceApplied (.ref sl) (pure (n : Int))) Q E s := by
  obtain ⟨oz, hoz, hcz, hdz⟩ := id hs
  unfold Builtin.Slice.sliceApplied Builtin.Slice.sliceFields
  refine wpAny_bind (wpAny_bind (wpAny_field hoz hdz (x := vl) rfl (wpAny_bind (wpAny_field hoz hdz (x := vu) rfl (wpAny_bind (wpAny_field hoz hdz (x := vs) rfl (wpAny_pure ?_)))))))
  refine wpAny_bind (slicePart_ pz ?_)
  show wpAny _ _ (if (st == 0) = true then _ else _) _ _ s
  rw [if_neg (by simpa using h0)]
  refine wpAny_bind (slicePart_ pl (wpAny_bind (slicePart_ pu (wpAny_bind (wpAny_pure ?_)))))
  exact wpAny_pure h
theorem item_tuple_step {t sl : Addr} {items : Array Value} {vl vu vs : Value} {lo hi : Option Int} {st : Int} {Q : Value → Shared → Prop} (ht : IsTup s.heap t items) (hs : s.heap.IsSliceOf sl vl vu vs) (pl : IsPart vl lo) (pu : IsPart vu hi) (pz : IsPart vs (some st)) (h0 : st ≠ 0) (h1 : st ≠ 1)
    (h : Q (.ref s.heap.objs.size) { s with heap := s.heap.push { cls := .type "tuple", data := .seq ((stepIx items.size lo hi st).filterMap (items[·]?)).toArray } })
    (hsz : items.size ≤ sizeLine) : wpAny (model prog w) A (getItem (.ref t) (.ref sl)) Q E s := by
  have hfit : sizeOk (.seq ((stepIx items.size lo hi st).filterMap (items[·]?)).toArray) := by
    have := slicePick_size_le items lo hi (some st)
    rw [pick_step h0] at this
    exact Nat.le_trans this hsz
  obtain ⟨oz, hoz, hcz, hdz⟩ := id hs
  have hTz : s.TypeIs (.ref sl) "slice" := ⟨oz, hoz, hcz⟩
  unfold getItem
  try with_reducible refine wpAny_holding ?_
  first | refine wpAny_bind (wpAny_pure ?_) | skip
  refine wpAny_bind (wpAny_sequenceKey ht.typeIs (by decide) ?_)
  refine wpAny_bind (wpAny_callSpecial?_slot (name := Str.ofString "__getitem__") ht.typeIs PyProof.Rows.slot_tuple_getitem
    (wpAny_call_entry PyProof.Rows.slot_tuple_getitem ht.typeIs entry_tuple_getitem ?_ (args_tuple_getitem _ _)))
  show wpAny _ _ (Builtin.Tuple.tupleItemsOf (.ref t) >>= _) _ _ s
  refine wpAny_bind (tupleItemsOf_ ht ?_)
  refine wpAny_bind (wpAny_typeOf hTz ?_)
  rw [if_pos (by decide)]
  refine wpAny_bind (applied_step hs pl pu pz h0 ?_)
  have hno : ¬ (((Builtin.Slice.sliceAdjust lo hi st items.size).1 == 0 && st == 1 && (Builtin.Slice.slicePlaces (Builtin.Slice.sliceAdjust lo hi st items.size).1 (Builtin.Slice.sliceAdjust lo hi st items.size).2 st) == items.size) = true) := by
    intro q
    rw [Bool.and_eq_true, Bool.and_eq_true] at q
    exact h1 (eq_of_beq q.1.2)
  show wpAny _ _ (if ((Builtin.Slice.sliceAdjust lo hi st items.size).1 == 0 && st == 1 && (Builtin.Slice.slicePlaces (Builtin.Slice.sliceAdjust lo hi st items.size).1 (Builtin.Slice.sliceAdjust lo hi st items.size).2 st) == items.size) = true then _ else _) _ _ s
  rw [if_neg hno]
  unfold stepIx at h hfit
  rw [List.filterMap_map] at h hfit
  first
    | exact wpAny_bind (m := Builtin.Tuple.tupleExact _) (wpAny_newObj_type (wpAny_pure ⟨_, rfl, wpAny_pure h⟩) hfit)
    | exact wpAny_bind (m := Builtin.Tuple.tupleExact _) (wpAny_newObj_type (wpAny_bind (wpAny_pure (wpAny_pure ⟨_, rfl, wpAny_pure h⟩))) hfit)
    | exact wpAny_bind (wpAny_bind (m := Builtin.Tuple.tupleExact _) (wpAny_newObj_type (wpAny_pure (wpAny_pure ⟨_, rfl, wpAny_pure h⟩)) hfit))
    | exact wpAny_bind (wpAny_bind (m := Builtin.Tuple.tupleExact _) (wpAny_newObj_type (wpAny_pure ⟨_, rfl, wpAny_pure h⟩) hfit))
end
end HT

namespace PL
open PySem PySem.Spec PyProof.Rows L2
section
variable {X : Cx} {K : PySem.W.Frag}
theorem vals_at {xs : List V} {its : List Value} (r : Vals xs its) (i : Nat) : (∃ x v, xs[i]? = some x ∧ its[i]? = some v ∧ RelV x v) ∨ (xs[i]? = none ∧ its[i]? = none) := by
  induction xs generalizing its i with
  | nil => cases r; exact .inr ⟨rfl, rfl⟩
  | cons x xs ih =>
    cases r with
    | cons a b =>
      cases i with
      | zero => exact .inl ⟨_, _, rfl, rfl, a⟩
      | succ i => simpa using ih b i
theorem vals_pick {xs : List V} {its : List Value} (r : Vals xs its) : ∀ js : List Nat, Vals (js.filterMap (xs[·]?)) (js.filterMap (its[·]?))
  | [] => .nil
  | j :: js => by
    rcases vals_at r j with ⟨x, v, e, e', q⟩ | ⟨e, e'⟩
    · rw [List.filterMap_cons, List.filterMap_cons, e, e']
      exact .cons q (vals_pick r js)
    · rw [List.filterMap_cons, List.filterMap_cons, e, e']
      exact vals_pick r js
theorem reps_none {W : Wd} {H : Hp} {ds : List D} {vs : List V} (r : Reps K W H ds vs) (i : Nat) : (∃ x v, ds[i]? = some x ∧ vs[i]? = some v ∧ Rep K W H x v) ∨ (ds[i]? = none ∧ vs[i]? = none) := by
  induction ds generalizing vs i with
  | nil => cases r; exact .inr ⟨rfl, rfl⟩
  | cons x xs ih =>
    cases r with
    | cons a b =>
      cases i with
      | zero => exact .inl ⟨_, _, rfl, rfl, a⟩
      | succ i => simpa using ih b i
theorem reps_pick {W : Wd} {H : Hp} {ds : List D} {vs : List V} (r : Reps K W H ds vs) : ∀ js : List Nat, Reps K W H (js.filterMap (ds[·]?)) (js.filterMap (vs[·]?))
  | [] => .nil
  | j :: js => by
    rcases reps_none r j with ⟨x, v, e, e', q⟩ | ⟨e, e'⟩
    · rw [List.filterMap_cons, List.filterMap_cons, e, e']
      exact .cons q (reps_pick r js)
    · rw [List.filterMap_cons, List.filterMap_cons, e, e']
      exact reps_pick r js
theorem reps_step {W : Wd} {H : Hp} {ds : List D} {vs : List V} {lo hi : Option Int} {st : Int} (r : Reps K W H ds vs) : Reps K W H (stepD ds lo hi st) (stepD vs lo hi st) := by
  unfold stepD
  rw [r.lens]
  exact reps_pick r _
/-- a slice with a step, by values -/
def StepR (X : Cx) (r : V → Option Int → Option Int → Int → Hp → VK → Prop) : Prop :=
  ∀ (pins : List (Addr × Obj)) (s : Shared) (σ : L2.St) (H : Hp) (x : V) (v vl vu vs : Value) (lo hi : Option Int) (st : Int) (sl : Addr) (Q : VK), Inv X pins σ H s → RelV x v → s.heap.IsSliceOf sl vl vu vs → IsPart vl lo → IsPart vu hi → IsPart vs (some st) → r x lo hi st H Q →
    ∃ T id, typeLookup (.type T) "__getitem__" = pure (some (.builtin id)) ∧ s.TypeIs v T ∧ wpAny (model X.prog X.w) X.A (getItem v (.ref sl)) (EP X pins σ Q) X.xe s
def tStep (r : V → Option Int → Option Int → Int → Hp → VK → Prop) (te : TE) (tl th : TO) (st : Int) : TE := fun σ H Q => te σ H fun x H1 => tl σ H1 fun l H2 => th σ H2 fun u H3 => r x l u st H3 Q
theorem pe_step {e se : Expr} {te : TE} {lo hi : Option Expr} {tl th : TO} {pos p2 : Pos} {st : Int} {r : V → Option Int → Option Int → Int → Hp → VK → Prop} (hr : StepR X r) (he : PE X e te) (hl : PO X lo tl) (hu : PO X hi th) (hz : PO X (some se) fun _ H Q => Q (some st) H) :
    PE X (.Subscript e (.Slice lo hi (some se) p2) pos) (tStep r te tl th st) := by
  refine ⟨fun pins s σ H Q I h => ?_⟩
  refine Subscript_ (thn (he.run pins s σ H _ I h) fun v s1 ⟨x, H1, I1, r1, q1⟩ => ?_)
  refine wpAny_Slice (thn (hl.run pins s1 σ H1 _ I1 q1) fun vl s2 ⟨l, H2, I2, pl, q2⟩ => thn (hu.run pins s2 σ H2 _ I2 q2) fun vu s3 ⟨u, H3, I3, pu, q3⟩ => thn (hz.run pins s3 σ H3 (fun o H' => o = some st ∧ H' = H3) I3 ⟨rfl, rfl⟩) fun vz s4 ⟨o, H4, I4, pz, eo, e4⟩ => ?_)
  subst eo e4
  have I5 : Inv X pins σ H4 { s4 with heap := s4.heap.push { cls := .type "slice", data := .fields #[vl, vu, vz] } } := I4.kept (t' := s4.toks) fun b ob q => Heap.get?_push_of_some _ q
  obtain ⟨T, id, hT, ht, hg⟩ := hr pins { s4 with heap := s4.heap.push { cls := .type "slice", data := .fields #[vl, vu, vz] } } σ H4 x v vl vu vz l u st s4.heap.objs.size Q I5 r1 (Heap.IsSliceOf.new ..) pl pu pz q3
  exact tail_any (value := e) (slice := .Slice lo hi (some se) p2) (ops := [v, .ref s4.heap.objs.size]) ht hT hg (by with_unfolding_all rfl)
def rStT (K : PySem.W.Frag) : V → Option Int → Option Int → Int → Hp → VK → Prop := fun x lo hi st H Q => st ≠ 0 ∧ st ≠ 1 ∧ ∃ a xs, x = .ref a ∧ SqT K H a xs ∧ ∀ p, H p = none → Q (.ref p) (upd H p (.tup (stepD xs lo hi st)))
def rStL (K : PySem.W.Frag) : V → Option Int → Option Int → Int → Hp → VK → Prop := fun x lo hi st H Q => st ≠ 0 ∧ st ≠ 1 ∧ ∃ a xs, x = .ref a ∧ SqL K H a xs ∧ ∀ p, H p = none → Q (.ref p) (upd H p (.lst (stepD xs lo hi st)))
theorem st_tup : StepR X (rStT X.K) := by
  intro pins s σ H x v vl vu vz lo hi st sl Q I rx hs pl pu pz h
  obtain ⟨h0, h1, a, xs, rfl, hx, q⟩ := h
  cases rx
  obtain ⟨its, r, ht, hz⟩ := I.tuple hx
  have hlen : its.toArray.size = xs.length := by rw [List.size_toArray]; exact r.length.symm
  have ep : (stepIx its.toArray.size lo hi st).filterMap (its.toArray[·]?) = stepD its lo hi st := by
    unfold stepD
    rw [List.size_toArray]
    simp only [List.getElem?_toArray]
  have rp : Vals (stepD xs lo hi st) (stepD its lo hi st) := by
    unfold stepD
    rw [← r.length]
    exact vals_pick r _
  refine ⟨"tuple", _, PyProof.Rows.slot_tuple_getitem.lookup, ht.typeIs, ?_⟩
  refine HT.item_tuple_step ht hs pl pu pz h0 h1 ?_ (by rw [hlen]; exact hz)
  rw [ep]
  refine ⟨.ref s.heap.objs.size, _, I.laid (t' := s.toks) (o := .tup (stepD xs lo hi st)) (fun b ob q => Heap.get?_push_of_some _ q) (Nat.le_refl _) ?_, rfl, q _ (I.hok.fresh (Nat.le_refl _))⟩
  have fit := slicePick_size_le its.toArray lo hi (some st)
  rw [HT.pick_step h0, ep, List.size_toArray, List.size_toArray] at fit
  exact ⟨by rw [rp.length]; exact Nat.le_trans fit (by rw [← r.length]; exact hz), _, rp, IsTup.new _ _⟩
theorem st_lst : StepR X (rStL X.K) := by
  intro pins s σ H x v vl vu vz lo hi st sl Q I rx hs pl pu pz h
  obtain ⟨h0, h1, a, xs, rfl, hx, q⟩ := h
  cases rx
  obtain ⟨its, r, ht, hz⟩ := I.list hx
  have ep : (stepIx its.toArray.size lo hi st).filterMap (its.toArray[·]?) = stepD its lo hi st := by
    unfold stepD
    rw [List.size_toArray]
    simp only [List.getElem?_toArray]
  have rp : Vals (stepD xs lo hi st) (stepD its lo hi st) := by
    unfold stepD
    rw [← r.length]
    exact vals_pick r _
  refine ⟨"list", _, slot_list_getitem.lookup, ht.isList.typeIs, ?_⟩
  refine wpAny_getItem_list_slice ht.isList hs pl pu pz (by simpa using h0) ?_ (by rw [List.size_toArray, ← r.length]; exact hz)
  have fit := slicePick_size_le its.toArray lo hi (some st)
  rw [HT.pick_step h0, ep] at fit ⊢
  rw [List.size_toArray, List.size_toArray] at fit
  refine ⟨.ref s.heap.objs.size, _, I.laid (t' := s.toks) (o := .lst (stepD xs lo hi st)) (fun b ob q => Heap.get?_push_of_some _ q) (Nat.le_refl _) ?_, rfl, q _ (I.hok.fresh (Nat.le_refl _))⟩
  exact ⟨by rw [rp.length]; exact Nat.le_trans fit (by rw [← r.length]; exact hz), _, 0, rp, Heap.get?_push_size _ rfl⟩
def rSt (K : PySem.W.Frag) : V → Option Int → Option Int → Int → Hp → VK → Prop := fun x lo hi st H Q => rStT K x lo hi st H Q ∨ rStL K x lo hi st H Q
theorem st_any : StepR X (rSt X.K) := by
  intro pins s σ H x v vl vu vz lo hi st sl Q I rx hs pl pu pz h
  rcases h with h | h
  · exact st_tup pins s σ H x v vl vu vz lo hi st sl Q I rx hs pl pu pz h
  · exact st_lst pins s σ H x v vl vu vz lo hi st sl Q I rx hs pl pu pz h
variable {nm : Nm} {W : Wd} {H : Hp} {S : Store}
theorem st_ok {x d : D} {u : V} {lo hi : Option Int} {st : Int} {Q : VK} (r : Rel K nm W S H) (p : Rep K W H x u) (h : sl3D x lo hi st S = some d) (f : Fin K nm W S H d Q) : rSt K u lo hi st H Q := by
  unfold sl3D at h
  split at h
  · rename_i hz
    split at h
    · cases h
      cases p with
      | @tup _ a vs h1 p1 => exact .inl ⟨hz.1, hz.2, a, vs, rfl, h1, fun p hp => f.tup r (reps_step p1) hp⟩
    · cases h
      cases p with
      | @scr _ a h1 => exact .inr ⟨hz.1, hz.2, a, _, rfl, h1.sq, fun p hp => f.lst r (reps_step (reps_int _)) hp⟩
    · split at h
      · rename_i e
        cases h
        obtain ⟨a, vs, rfl, h1, p1⟩ := rep_lst r p e
        exact .inr ⟨hz.1, hz.2, a, vs, rfl, .inl h1, fun p hp => f.lst r (reps_step p1) hp⟩
      · cases h
  · cases h
theorem po_step {st : Int} {q : Expr} (h : stepC st q = true) : PO X (some q) fun _ H Q => Q (some st) H := by
  unfold stepC at h
  split at h
  · rw [decide_eq_true_eq] at h
    subst h
    exact ⟨fun pins s σ H Q I z => (po_some pe_int).run pins s σ H Q I ⟨_, rfl, z⟩⟩
  · rw [decide_eq_true_eq] at h
    subst h
    exact ⟨fun pins s σ H Q I z => (po_some (pe_un un_neg pe_int)).run pins s σ H Q I ⟨_, rfl, _, rfl, z⟩⟩
  · cases h
end
section
variable {P : Program} {w : World} {K : PySem.W.Frag} {mg : Str → Option Value} {base : Heap} {G : Tab} {Y : Sx} {nm : Nm} {fa : Nat → Addr} {fd : Nat → FuncData} {ps : Nat → List Str} {kk : Nat} {N : List Str}
theorem s_sl3 (a lo hi : E) (st : Int) (ia : Snd P w K mg base G Y nm kk N a) (il : Snd P w K mg base G Y nm kk N lo) (ih : Snd P w K mg base G Y nm kk N hi) : Snd P w K mg base G Y nm kk N (.sl3 a lo hi st) := by
  refine ⟨fun sc x X Wi h C tk => ?_, fun sc x X Wi h C tk => by simp [chkT] at h, fun sc a X Wi h C tk => by simp [chkA] at h⟩
  simp only [chk] at h
  split at h <;> try (cases h; done)
  simp only [Bool.and_eq_true] at h
  obtain ⟨⟨⟨h1, h2⟩, h3⟩, h4⟩ := h
  have pa := ia.v _ _ X Wi h1 C tk
  have pl := part_ok il h2 C tk
  have ph := part_ok ih h3 C tk
  have e1 := C.hK
  subst e1
  refine (pe_step st_any pa pl ph (po_step h4)).imp fun σ H Q wq => ?_
  obtain ⟨W, S, env, E, r, z⟩ := wq
  have z : Wq X.K nm (rpD X.K) W H ((ev G (run G kk) a env S).bind fun x S => (evP G (run G kk) lo env S).bind fun l S => (evP G (run G kk) hi env S).bind fun h S => R.of (sl3D x l h st S) S) Q (Xw nm Wi σ) := z
  refine ⟨W, S, env, E, r, (Wq.bind (rp := rpD X.K) z).mono fun x H1 z => ?_⟩
  obtain ⟨W1, S1, dx, e1, r1, p1, z⟩ := z
  have E1 := E.mono r.trk e1
  refine ⟨W1, S1, env, E1, r1, (Wq.bind (rp := rpO) z).mono fun l H2 z => ?_⟩
  obtain ⟨W2, S2, dl, e2, r2, p2, z⟩ := z
  have E2 := E1.mono r1.trk e2
  cases (show dl = l from p2)
  refine ⟨W2, S2, env, E2, r2, (Wq.bind (rp := rpO) z).mono fun h H3 z => ?_⟩
  obtain ⟨W3, S3, dh, e3, r3, p3, z⟩ := z
  cases (show dh = h from p3)
  obtain ⟨d, e, f⟩ := z.fin
  exact st_ok r3 ((p1.mono r1.trk e2).mono r2.trk e3) e f
end
end PL

set_option Elab.async false
set_option linter.all false
set_option maxRecDepth 100000
set_option maxHeartbeats 1000000
/-! PLT: enumerate of a tuple. -/
namespace PySem
open Sem (wp)
open AutoSeq1 (wpAny_loadPart')
theorem enumT_new {v : Value} {ob : Obj} {Hs : Heap → Prop} (B : Begins v ob Hs) :
    Meets (Builtin.«enumerate.__new__» ⟨[.type "enumerate", v], []⟩) (fun _ R s => Hs s.heap ∧
      R (.ok (.ret (.ref (s.heap.push ob).objs.size))) { s with heap := (s.heap.push ob).push { cls := .type "enumerate", data := .fields #[.none, .bool false, .ref s.heap.objs.size, rawInt 0, .none, .none] } }) :=
  .of_wp fun prog w A R s ⟨h1, h2⟩ => by
    obtain ⟨hp, gl, dd, tk, os⟩ := s
    have hsub := sub_enumerate
    have it1 : ∀ {A' : Around} {E : Value → Shared → Prop} {Q : Value → Shared → Prop}, Q (.ref hp.objs.size) ⟨hp.push ob, gl, dd, tk, os⟩ → wpAny (model prog w) A' (pyIter v) Q E ⟨hp, gl, dd, tk, os⟩ :=
      fun q => B.iter prog w _ _ ⟨hp, gl, dd, tk, os⟩ _ h1 q
    wp_walk using it1
    refine wpAny_stack_any fun st => wpAny_pure ?_
    split
    · rename_i c _ _ _ _ _
      cases c == Value.type "enumerate" <;> (wp_walk using it1; exact ⟨_, rfl, h2⟩)
    · wp_walk using it1
      exact ⟨_, rfl, h2⟩
theorem enumT_call {prog : Program} {w : World} {A : Around} {E : Value → Shared → Prop} {s : Shared} {v : Value} {ob : Obj} {Hs : Heap → Prop} {Q : Value → Shared → Prop} (B : Begins v ob Hs) (h1 : Hs s.heap)
    (k : ∀ g : Heap, IsEnum g (s.heap.objs.size + 1) s.heap.objs.size 0 .none → g.get? s.heap.objs.size = some ob → (∀ b o, s.heap.get? b = some o → g.get? b = some o) → Q (.ref (s.heap.objs.size + 1)) { s with heap := g }) :
    wpAny (model prog w) A (call (.type "enumerate") [v]) Q E s := by
  refine callType_new F.called_enumerate (by decide) (F.typeCall_enumerate_1 v) (F.newCall_enumerate_1 v) (fun obj => F.args_object_init_2 obj v) F.entry_enumerate_new (enumT_new B) ⟨h1, ?_⟩
  have sz : (s.heap.push ob).objs.size = s.heap.objs.size + 1 := Heap.size_push s.heap ob
  show _ ∧ _
  rw [sz]
  have en : IsEnum ((s.heap.push ob).push { cls := .type "enumerate", data := .fields #[.none, .bool false, .ref s.heap.objs.size, rawInt 0, .none, .none] }) (s.heap.objs.size + 1) s.heap.objs.size 0 .none := by
    have z := Heap.get?_push_size (s.heap.push ob) (o := { cls := .type "enumerate", data := .fields #[.none, .bool false, .ref s.heap.objs.size, rawInt 0, .none, .none] }) rfl
    rw [sz] at z
    exact z
  exact ⟨⟨_, en, rfl⟩, k _ en (Heap.get?_push_of_some _ (Heap.get?_push_size s.heap B.free)) fun b o e => Heap.get?_push_of_some _ (Heap.get?_push_of_some _ e)⟩
end PySem
namespace PL
open PySem PySem.Spec PyProof.Rows L2
/-- the tuple at a, each item in a new pair -/
def IteT (K : PySem.W.Frag) (a : Addr) : It :=
  ⟨fun i H => ∃ (xs : List V) (x : V), SqT K H a xs ∧ xs[i]? = some x, fun i H v H' => ∃ T x, v = .ref T ∧ H T = none ∧ H' = upd H T (.tup [.int (i : Nat), x]) ∧ ∀ xs, SqT K H a xs → xs[i]? = some x, fun i H => ∃ xs : List V, SqT K H a xs ∧ xs.length ≤ i⟩
theorem enum_apart {h : Heap} {e it t : Addr} {c : Int} {old : Value} {items : Array Value} (he : IsEnum h e it c old) (ht : h.IsTuple t items) : e ≠ t := by
  intro q
  subst q
  obtain ⟨o, h1, h2, _⟩ := ht
  cases (show h.get? e = some _ from he).symm.trans h1
  exact absurd (Value.type.inj h2) (by decide)
theorem titer_apart {h : Heap} {it t u : Addr} {i : Nat} {items : Array Value} (hi : h.IsTupleIter it u i) (ht : h.IsTuple t items) : t ≠ it := by
  intro q
  subst q
  obtain ⟨o, h1, h2, _⟩ := ht
  obtain ⟨o', h1', h2', _⟩ := hi
  cases h1.symm.trans h1'
  rw [h2] at h2'
  exact absurd (Value.type.inj h2') (by decide)
theorem turn_enumT {P : Program} {w : World} {K : PySem.W.Frag} {elts : List Expr} {kk : Nat} {tpos : Pos} (a e it : Addr) :
    Turn P w K (.Tuple elts kk tpos) (IteT K a) [e, it] e (fun i h => (∃ old, IsEnum h e it ((i : Nat) : Int) old) ∧ h.IsTupleIter it a i ∧ e ≠ it) where
  mem := by simp
  obj := fun i h st b hb => by
    obtain ⟨⟨old, he⟩, ⟨o, ho, hc, hd⟩, _⟩ := st
    have e' : b = e ∨ b = it := by simpa using hb
    rcases e' with z | z
    · rw [z]; exact ⟨_, he, fun v q => nomatch q⟩
    · rw [z]; exact ⟨o, ho, fun v q => by rw [hd] at q; cases q⟩
  keep := fun i h h' ⟨⟨old, he⟩, hi, hne⟩ k => ⟨⟨old, k e (by simp) _ he⟩, hi.at fun o q => k it (by simp) o q, hne⟩
  item := by
    intro X hP hw hK hc i pins s σ H E I hf st hg
    subst hP hw hK
    obtain ⟨⟨old, he⟩, hit, hne⟩ := st
    obtain ⟨xs, x, hq, hx⟩ := hg
    obtain ⟨its, rv, p, hz⟩ := I.tuple hq
    obtain ⟨u, hu, ru⟩ := rv.get hx
    have p' : s.heap.IsTuple a its.toArray := p
    have hel : e < s.heap.objs.size := Heap.lt_size he
    have hil : it < s.heap.objs.size := by obtain ⟨_, q, _⟩ := hit; exact Heap.lt_size q
    have hea := enum_apart he p'
    refine wpAny_pyNext_enum_itemC (Draws.tuple (A := X.A.in1) (I.ok.hd hc) it a (titer_apart hit p') its.toArray) he ⟨hit, p'⟩ (by have := (List.getElem?_eq_some_iff.mp hu).1; simpa using this) hne (by simp [hne, hea]) fun y h' tk hy ho hst hT hsz hk => ?_
    obtain rfl : y = u := by
      have z : its.toArray[i]? = some u := by simpa using hu
      rw [z] at hy
      exact (Option.some.inj hy).symm
    refine ⟨_, rfl, wpAny_letOwnedTupleGo_enum (s := { s with heap := h', toks := tk + 1 }) ho fun h2 he' sb => ?_⟩
    have hT2 : h2.get? s.heap.objs.size = some { cls := .type "tuple", data := .seq #[.int (i : Nat) tk, y] } := (sb.2 _ (Nat.ne_of_gt hel)).trans hT
    have new : ObjOk X.prog X.w (upd H s.heap.objs.size (.tup [.int (i : Nat), x])) h2 s.heap.objs.size (.tup [.int (i : Nat), x]) :=
      ⟨by show 2 ≤ sizeLine; decide, [.int (i : Nat) tk, y], .cons ⟨_, rfl⟩ (.cons ru .nil), ⟨_, hT2, rfl, _, rfl⟩⟩
    have I1 : Inv X pins σ (upd H s.heap.objs.size (.tup [.int (i : Nat), x])) { s with heap := h2, toks := tk + 1 } :=
      I.turnedNew (ch := [e, it]) (fun b ob hb q => (sb.2 b (fun z => hb (by simp [z]))).trans (hk b ob (fun z => hb (by simp [z])) (fun z => hb (by simp [z])) q)) hf (Nat.le_refl _) new
    refine ⟨.ref s.heap.objs.size, _, I1, rfl, ⟨_, x, rfl, I.hok.fresh (Nat.le_refl _), rfl, fun ys hy => by rw [I.tuple_inj hy hq]; exact hx⟩, ⟨⟨y, ?_⟩, hst.1.at fun o q => (sb.2 it (Ne.symm hne)).trans q, hne⟩, fun b hb => ?_⟩
    · have e1 : ((i + 1 : Nat) : Int) = (i : Int) + 1 := by omega
      rw [e1]
      exact he'
    · have hb' : b < s.heap.objs.size := by
        rcases List.mem_cons.mp hb with z | z
        · rw [z]; exact hel
        · rw [List.mem_singleton.mp z]; exact hil
      rw [upd_ne (Nat.ne_of_lt hb')]
      exact (hf b hb).1
  done := by
    intro X hP hw hK hc i pins s σ H E I hf st hg
    subst hP hw hK
    obtain ⟨⟨old, he⟩, hit, hne⟩ := st
    obtain ⟨xs, hq, hx⟩ := hg
    obtain ⟨its, rv, p, hz⟩ := I.tuple hq
    have p' : s.heap.IsTuple a its.toArray := p
    obtain ⟨f0, f1, f2, f3, f4, f5⟩ := hf it (by simp)
    have hl := rv.length
    have D : Draws X.prog X.w X.A.in1 it [it, a] i (fun _ _ => True) (fun j h => j = i ∧ h.IsTupleIter it a i ∧ h.IsTuple a its.toArray) :=
      { live := fun _ _ st => let ⟨o, ho, _⟩ := st.2.1; ⟨o, ho⟩
        frame := fun _ _ _ st hk => ⟨st.1, st.2.1.at fun o e => hk it (by simp) o e, st.2.2.at fun o e => hk a (by simp) o e⟩
        item := fun j s Q E hj st hQ => absurd st.1 (Nat.ne_of_lt hj)
        done := fun s Q E st hE => wpAny_nextOf_tuple_end (I.ok.hd hc) st.2.1 st.2.2 (by simp; omega) hE }
    exact wpAny_pyNext_enum_endD D he ⟨rfl, hit, p'⟩ fun h' eb => ⟨rfl, I.turned (t' := s.toks) (fun b o hb q => eb b o hb q) f0 f1 f3 f4 f5⟩
  self := fun A i s Q E st h => let ⟨⟨_, he⟩, _⟩ := st; wpAny_pyIter_enum he h
def iEnumA (K : PySem.W.Frag) (ta : TA) : TI := fun σ H R => ta σ H fun vs H1 => ∃ a xs, vs = [.ref a] ∧ ((SqL K H1 a xs ∧ R (Ite K a) H1) ∨ (SqT K H1 a xs ∧ R (IteT K a) H1))
theorem pi_enumA {X : Cx} {e : Expr} {ta : TA} {p pos tpos : Pos} {elts : List Expr} {kk : Nat} (hg : Gl X "enumerate") (hm : X.mg "enumerate" = none) (ha : PA X [e] ta) (hs : starEach [e] X.env = [(false, eval e X.env)]) :
    PI X (.Tuple elts kk tpos) (.Call (.Name "enumerate" p) [e] [] pos) (iEnumA X.K ta) := by
  refine ⟨fun pins s σ H R I h => Call_ (ld_blt I hg hm boot_enumerate (PyProof.Rows.callWith_type1 (thn (ha.run pos pins s σ H _ I h) fun us s1 ⟨vs, H1, I1, r1, q1⟩ => ?_) hs rfl))⟩
  obtain ⟨a, xs, rfl, q1⟩ := q1
  obtain rfl := Vals.ref1 r1
  have le : ∀ b ∈ [s1.heap.objs.size + 1, s1.heap.objs.size], FpOk X pins H1 b := fun b hb => by
    have le : s1.heap.objs.size ≤ b := by
      rcases List.mem_cons.mp hb with z | z
      · rw [z]; exact Nat.le_succ _
      · rw [List.mem_singleton.mp z]; exact Nat.le_refl _
    exact I1.fpOk le (I1.hok.fresh le)
  rcases q1 with ⟨hq, q⟩ | ⟨hq, q⟩
  · obtain ⟨its, rv, p', hz⟩ := I1.list hq
    refine enumT_call (begins_list a its.toArray) p'.isList fun g he hit hk => wpAny_pyIter_enum he ?_
    have I2 : Inv X pins σ H1 { s1 with heap := g } := I1.kept (t' := s1.toks) hk
    exact ⟨s1.heap.objs.size + 1, [s1.heap.objs.size + 1, s1.heap.objs.size], _, _, H1, rfl, I2, turn_enum a (s1.heap.objs.size + 1) s1.heap.objs.size, ⟨⟨.none, he⟩, ⟨_, hit, rfl, rfl⟩, Nat.succ_ne_self _⟩, le, q⟩
  · obtain ⟨its, rv, p', hz⟩ := I1.tuple hq
    have p2 : s1.heap.IsTuple a its.toArray := p'
    refine enumT_call (begins_tuple a its.toArray) p2 fun g he hit hk => wpAny_pyIter_enum he ?_
    have I2 : Inv X pins σ H1 { s1 with heap := g } := I1.kept (t' := s1.toks) hk
    exact ⟨s1.heap.objs.size + 1, [s1.heap.objs.size + 1, s1.heap.objs.size], _, _, H1, rfl, I2, turn_enumT a (s1.heap.objs.size + 1) s1.heap.objs.size, ⟨⟨.none, he⟩, ⟨_, hit, rfl, rfl⟩, Nat.succ_ne_self _⟩, le, q⟩
end PL

set_option Elab.async false
set_option linter.all false
set_option maxRecDepth 100000
set_option maxHeartbeats 1000000
/-! PLK: what a loop walks. -/
namespace PL
open PySem PySem.Spec PyProof.Rows L2
section
variable {K : PySem.W.Frag} {nm : Nm} {W W' : Wd} {H H' : Hp} {S : Store}
/-- an address more is set aside -/
def Wd.add (W : Wd) (p : Addr) : Wd := ⟨W.m, p :: W.B⟩
mutual
theorem Rep.addB {p : Addr} {o : HO} (n : H p = none) : ∀ {d : D} {v : V}, Rep K W H d v → Rep K (W.add p) (upd H p o) d v
  | _, _, .non => .non
  | _, _, .bl b => .bl b
  | _, _, .int i => .int i
  | _, _, .str x => .str x
  | _, _, .tup h r => .tup (by
      rcases h with (h | ⟨u, h⟩) | h
      · exact .inl (.inl (same_upd n _ _ h))
      · exact .inl (.inr ⟨u, same_upd n _ _ h⟩)
      · exact .inr h) (Reps.addB n r)
  | _, _, .lst h a b r => .lst (by
      rcases h with h | ⟨u, h⟩
      · exact .inl (same_upd n _ _ h)
      · exact .inr ⟨u, same_upd n _ _ h⟩) a (by
      simp only [Wd.add, List.mem_cons, not_or]
      refine ⟨fun e => ?_, b⟩
      subst e
      rcases h with h | ⟨u, h⟩ <;> (rw [n] at h; cases h)) (Reps.addB n r)
  | _, _, .dct h a b r => .dct (by
      rcases h with h | ⟨u, h⟩
      · exact .inl (same_upd n _ _ h)
      · exact .inr ⟨u, same_upd n _ _ h⟩) a (by
      simp only [Wd.add, List.mem_cons, not_or]
      refine ⟨fun e => ?_, b⟩
      subst e
      rcases h with h | ⟨u, h⟩ <;> (rw [n] at h; cases h)) (RepK.addB n r)
  | _, _, .ref h => .ref h
  | _, _, .scr h => .scr (by
      rcases h with ⟨u, h⟩ | h
      · exact .inl ⟨u, same_upd n _ _ h⟩
      · exact .inr h)
theorem Reps.addB {p : Addr} {o : HO} (n : H p = none) : ∀ {d : List D} {v : List V}, Reps K W H d v → Reps K (W.add p) (upd H p o) d v
  | _, _, .nil => .nil
  | _, _, .cons r rs => .cons (Rep.addB n r) (Reps.addB n rs)
theorem RepK.addB {p : Addr} {o : HO} (n : H p = none) : ∀ {d : List (Ky × D)} {v : List (Key × V)}, RepK K W H d v → RepK K (W.add p) (upd H p o) d v
  | _, _, .nil => .nil
  | _, _, .cons r rs => .cons (Rep.addB n r) (RepK.addB n rs)
end
mutual
theorem Rep.delB {p : Addr} : ∀ {d : D} {v : V}, Rep K (W.add p) H d v → Rep K W H d v
  | _, _, .non => .non
  | _, _, .bl b => .bl b
  | _, _, .int i => .int i
  | _, _, .str x => .str x
  | _, _, .tup h r => .tup h (Reps.delB r)
  | _, _, .lst h a b r => .lst h a (fun z => b (List.mem_cons_of_mem _ z)) (Reps.delB r)
  | _, _, .dct h a b r => .dct h a (fun z => b (List.mem_cons_of_mem _ z)) (RepK.delB r)
  | _, _, .ref h => .ref h
  | _, _, .scr h => .scr h
theorem Reps.delB {p : Addr} : ∀ {d : List D} {v : List V}, Reps K (W.add p) H d v → Reps K W H d v
  | _, _, .nil => .nil
  | _, _, .cons r rs => .cons (Rep.delB r) (Reps.delB rs)
theorem RepK.delB {p : Addr} : ∀ {d : List (Ky × D)} {v : List (Key × V)}, RepK K (W.add p) H d v → RepK K W H d v
  | _, _, .nil => .nil
  | _, _, .cons r rs => .cons (Rep.delB r) (RepK.delB rs)
end
theorem ob_map {W W' : Wd} {H H' : Hp} {a : Addr} {o : Ob} (hm : ∀ d v, Rep K W H d v → Rep K W' H' d v) (hs : ∀ d v, Reps K W H d v → Reps K W' H' d v) (hk : ∀ d v, RepK K W H d v → RepK K W' H' d v) (ha : ∀ u, H a = some u → H' a = some u)
    (q : ObRep K nm W H a o) : ObRep K nm W' H' a o := by
  cases o with
  | lst xs => obtain ⟨vs, e, z⟩ := q; exact ⟨vs, ha _ e, hs _ _ z⟩
  | dct xs => obtain ⟨vs, e, z⟩ := q; exact ⟨vs, ha _ e, hk _ _ z⟩
  | dtt xs =>
    obtain ⟨vs, e, z⟩ := q
    refine ⟨vs, ha _ e, ?_⟩
    clear e
    induction z with
    | nil => exact .nil
    | cons r _ ih => exact .cons (hm _ _ r) ih
  | ins c fs =>
    obtain ⟨dx, vs, e, z⟩ := q
    refine ⟨dx, vs, ha _ e, ?_⟩
    clear e
    induction z with
    | nil => exact .nil
    | cons r _ ih => exact .cons (hm _ _ r) ih
  | lck xs => obtain ⟨od, vs, e, z⟩ := q; exact ⟨od, vs, ha _ e, hk _ _ z⟩
theorem Rel.addB {p : Addr} {o : HO} (r : Rel K nm W S H) (n : H p = none) : Rel K nm (W.add p) S (upd H p o) := by
  refine ⟨r.len, r.nd, fun k a ob h1 h2 => ob_map (fun d v q => q.addB n) (fun d v q => q.addB n) (fun d v q => q.addB n) (fun u e => same_upd n _ _ e) (r.ob k a ob h1 h2), fun b hb => ?_⟩
  rcases List.mem_cons.mp hb with rfl | hb
  · exact ⟨(r.fresh n).1, o, upd_same⟩
  · obtain ⟨h1, u, h2⟩ := r.bs b hb
    exact ⟨h1, u, same_upd n _ _ h2⟩
theorem Rel.delB {p : Addr} (r : Rel K nm (W.add p) S H) : Rel K nm W S H :=
  ⟨r.len, r.nd, fun k a ob h1 h2 => ob_map (fun d v q => q.delB) (fun d v q => q.delB) (fun d v q => q.delB) (fun u e => e) (r.ob k a ob h1 h2), fun b hb => r.bs b (List.mem_cons_of_mem _ hb)⟩
/-- the list that is set aside grows -/
theorem Rel.putB {p : Addr} {o : HO} (r : Rel K nm (W.add p) S H) (hB : ∀ d v, Rep K (W.add p) H d v → Rep K (W.add p) (upd H p o) d v) (hBs : ∀ d v, Reps K (W.add p) H d v → Reps K (W.add p) (upd H p o) d v) (hBk : ∀ d v, RepK K (W.add p) H d v → RepK K (W.add p) (upd H p o) d v) :
    Rel K nm (W.add p) S (upd H p o) := by
  refine ⟨r.len, r.nd, fun k a ob h1 h2 => ob_map hB hBs hBk (fun u e => ?_) (r.ob k a ob h1 h2), fun b hb => ?_⟩
  · have : a ≠ p := fun z => (r.bs p (List.mem_cons_self)).1 (z ▸ List.mem_of_getElem? h1)
    rw [upd_ne this]; exact e
  · by_cases e : b = p
    · subst e; exact ⟨(r.bs b hb).1, o, upd_same⟩
    · obtain ⟨h1, u, h2⟩ := r.bs b hb
      exact ⟨h1, u, by rw [upd_ne e]; exact h2⟩
mutual
theorem Rep.putB {p : Addr} {xs : List V} {o : HO} (hp : H p = some (.lst xs)) : ∀ {d : D} {v : V}, Rep K (W.add p) H d v → Rep K (W.add p) (upd H p o) d v
  | _, _, .non => .non
  | _, _, .bl b => .bl b
  | _, _, .int i => .int i
  | _, _, .str x => .str x
  | _, _, .tup (a := a) h r => .tup (by
      have ne : ∀ u, H a = some u → (∀ l, u ≠ .lst l) → upd H p o a = some u := fun u e hu => by
        have : a ≠ p := fun z => by subst z; rw [hp] at e; cases e; exact hu _ rfl
        rw [upd_ne this]; exact e
      rcases h with (h | ⟨u, h⟩) | h
      · exact .inl (.inl (ne _ h (by simp)))
      · exact .inl (.inr ⟨u, ne _ h (by simp)⟩)
      · exact .inr h) (Reps.putB hp r)
  | _, _, .lst h a b r => .lst (by
      have : _ ≠ p := fun z => b (z ▸ List.mem_cons_self)
      rcases h with h | ⟨u, h⟩
      · exact .inl (by rw [upd_ne this]; exact h)
      · exact .inr ⟨u, by rw [upd_ne this]; exact h⟩) a b (Reps.putB hp r)
  | _, _, .dct h a b r => .dct (by
      have : _ ≠ p := fun z => b (z ▸ List.mem_cons_self)
      rcases h with h | ⟨u, h⟩
      · exact .inl (by rw [upd_ne this]; exact h)
      · exact .inr ⟨u, by rw [upd_ne this]; exact h⟩) a b (RepK.putB hp r)
  | _, _, .ref h => .ref h
  | _, _, .scr (a := a) h => .scr (by
      rcases h with ⟨u, h⟩ | h
      · have : a ≠ p := fun z => by subst z; rw [hp] at h; cases h
        exact .inl ⟨u, by rw [upd_ne this]; exact h⟩
      · exact .inr h)
theorem Reps.putB {p : Addr} {xs : List V} {o : HO} (hp : H p = some (.lst xs)) : ∀ {d : List D} {v : List V}, Reps K (W.add p) H d v → Reps K (W.add p) (upd H p o) d v
  | _, _, .nil => .nil
  | _, _, .cons r rs => .cons (Rep.putB hp r) (Reps.putB hp rs)
theorem RepK.putB {p : Addr} {xs : List V} {o : HO} (hp : H p = some (.lst xs)) : ∀ {d : List (Ky × D)} {v : List (Key × V)}, RepK K (W.add p) H d v → RepK K (W.add p) (upd H p o) d v
  | _, _, .nil => .nil
  | _, _, .cons r rs => .cons (Rep.putB hp r) (RepK.putB hp rs)
end
theorem ERep.addB {env : Env} {σ : L2.St} {p : Addr} {o : HO} (E : ERep K W H env σ) (n : H p = none) : ERep K (W.add p) (upd H p o) env σ :=
  ⟨E.len, fun i d h => let ⟨v, a, b⟩ := E.get i d h; ⟨v, a, b.addB n⟩⟩
theorem ERep.delB {env : Env} {σ : L2.St} {p : Addr} (E : ERep K (W.add p) H env σ) : ERep K W H env σ :=
  ⟨E.len, fun i d h => let ⟨v, a, b⟩ := E.get i d h; ⟨v, a, b.delB⟩⟩

mutual
theorem Rep.monoB {p : Addr} (t : Trk W H) (e : Ext W H W' H') (n : H p = none) : ∀ {d : D} {v : V}, Rep K W H d v → Rep K (W'.add p) H' d v
  | _, _, .non => .non
  | _, _, .bl b => .bl b
  | _, _, .int i => .int i
  | _, _, .str x => .str x
  | _, _, .tup h r => .tup (e.sqT t h) (Reps.monoB t e n r)
  | _, _, .lst h a b r => .lst (e.rd h a).1 (e.rd h a).2 (by
      simp only [Wd.add, List.mem_cons, not_or]
      refine ⟨fun z => ?_, by rw [e.B]; exact b⟩
      subst z
      rcases h with h | ⟨u, h⟩ <;> (rw [n] at h; cases h)) (Reps.monoB t e n r)
  | _, _, .dct h a b r => .dct (e.rd h a).1 (e.rd h a).2 (by
      simp only [Wd.add, List.mem_cons, not_or]
      refine ⟨fun z => ?_, by rw [e.B]; exact b⟩
      subst z
      rcases h with h | ⟨u, h⟩ <;> (rw [n] at h; cases h)) (RepK.monoB t e n r)
  | _, _, .ref h => .ref (by
      obtain ⟨t, e1, _⟩ := e.m
      show W'.m[_]? = _
      rw [e1]
      exact (List.getElem?_append_left (List.getElem?_eq_some_iff.mp h).1).trans h)
  | _, _, .scr h => .scr (e.scr t h)
theorem Reps.monoB {p : Addr} (t : Trk W H) (e : Ext W H W' H') (n : H p = none) : ∀ {d : List D} {v : List V}, Reps K W H d v → Reps K (W'.add p) H' d v
  | _, _, .nil => .nil
  | _, _, .cons r rs => .cons (Rep.monoB t e n r) (Reps.monoB t e n rs)
theorem RepK.monoB {p : Addr} (t : Trk W H) (e : Ext W H W' H') (n : H p = none) : ∀ {d : List (Ky × D)} {v : List (Key × V)}, RepK K W H d v → RepK K (W'.add p) H' d v
  | _, _, .nil => .nil
  | _, _, .cons r rs => .cons (Rep.monoB t e n r) (RepK.monoB t e n rs)
end
theorem ERep.monoB {env : Env} {σ : L2.St} {p : Addr} (t : Trk W H) (e : Ext W H W' H') (n : H p = none) (E : ERep K W H env σ) : ERep K (W'.add p) H' env σ :=
  ⟨E.len, fun i d h => let ⟨v, a, b⟩ := E.get i d h; ⟨v, a, b.monoB t e n⟩⟩

/-! ### walks of items -/
/-- wherever Gr holds J gives the items xs -/
def Wlk (K : PySem.W.Frag) (nm : Nm) (Gr : Wd → Hp → Prop) (J : It) (xs : List D) : Prop := ∃ (Gd : Hp → Prop) (Yd : Nat → Hp → V → Hp → Prop), Walk J xs.length Gd Yd ∧ (∀ W H, Gr W H → Gd H) ∧
  ∀ (i : Nat) W S H x H', i < xs.length → Gr W H → Rel K nm W S H → Yd i H x H' → ∃ d, xs[i]? = some d ∧ Ext W H W H' ∧ (∀ a o, H a = some o → H' a = some o) ∧ Rep K W H' d x
def ExtB (W0 : Wd) (H0 : Hp) (p : Addr) : Wd → Hp → Prop := fun W H => ∃ W', W = W'.add p ∧ Ext W0 H0 W' H
/-- .. with an address set aside, too -/
def ItOk (K : PySem.W.Frag) (nm : Nm) (W : Wd) (H : Hp) (J : It) (xs : List D) : Prop := Wlk K nm (Ext W H) J xs ∧ ∀ p, H p = none → Wlk K nm (ExtB W H p) J xs
variable {Gr : Wd → Hp → Prop}
theorem wlk_list {a : Addr} {xs : List D} {vs : List V} (h : ∀ W H, Gr W H → Rd H a (.lst vs)) (p : ∀ W H, Gr W H → Reps K W H xs vs) (hl : xs.length = vs.length) : Wlk K nm Gr (Itl K a) xs := by
  refine ⟨_, _, hl ▸ walk_list (xs := vs), fun W' H' e => .inl (h _ _ e), fun i W' S H' x H2 hi e r y => ?_⟩
  obtain ⟨rfl, y⟩ := y
  have hl : i < xs.length := hi
  obtain ⟨v, h1, h2⟩ := (p _ _ e).get (i := i) (d := xs[i]) (by simp [hl])
  rw [h1] at y; cases y
  exact ⟨_, by simp [hl], Ext.refl, fun _ _ z => z, h2⟩
theorem wlk_tup {a : Addr} {xs : List D} {vs : List V} (h : ∀ W H, Gr W H → SqT K H a vs) (p : ∀ W H, Gr W H → Reps K W H xs vs) (hl : xs.length = vs.length) : Wlk K nm Gr (Itt K a) xs := by
  refine ⟨_, _, hl ▸ walk_tup (xs := vs), fun W' H' e => h _ _ e, fun i W' S H' x H2 hi e r y => ?_⟩
  obtain ⟨rfl, y⟩ := y
  have hl : i < xs.length := hi
  obtain ⟨v, h1, h2⟩ := (p _ _ e).get (i := i) (d := xs[i]) (by simp [hl])
  rw [h1] at y; cases y
  exact ⟨_, by simp [hl], Ext.refl, fun _ _ z => z, h2⟩
theorem rngD_get {lo c : Int} {n i : Nat} (h : i < n) : (rngD lo c n)[i]? = some (.int (lo + i * c)) := by
  simp [rngD, h]
theorem rngD_len {lo c : Int} {n : Nat} : (rngD lo c n).length = n := by simp [rngD]
theorem wlk_range {lo : Int} {n : Nat} : Wlk K nm Gr (L2.Itr lo n) (rngD lo 1 n) := by
  refine ⟨_, _, (by rw [rngD_len]; exact walk_range), fun _ _ _ => trivial, fun i W' S H' x H2 hi e r y => ?_⟩
  obtain ⟨rfl, rfl⟩ := y
  rw [rngD_len] at hi
  exact ⟨_, rngD_get hi, Ext.refl, fun _ _ z => z, by rw [Int.mul_one]; exact .int _⟩
theorem wlk_rangeC {lo c : Int} {n : Nat} : Wlk K nm Gr (Itc lo c n) (rngD lo c n) := by
  refine ⟨_, _, (by rw [rngD_len]; exact walk_rangeC), fun _ _ _ => trivial, fun i W' S H' x H2 hi e r y => ?_⟩
  obtain ⟨rfl, rfl⟩ := y
  rw [rngD_len] at hi
  exact ⟨_, rngD_get hi, Ext.refl, fun _ _ z => z, .int _⟩
theorem chars_len {x : Str} : (chars x).length = x.cps.size := by simp [chars]
theorem wlk_str {z : Str} : Wlk K nm Gr (Its z) (chars z) := by
  refine ⟨_, _, (by rw [chars_len]; exact walk_str), fun _ _ _ => trivial, fun i W' S H' x H2 hi e r y => ?_⟩
  obtain ⟨rfl, c, h1, rfl⟩ := y
  exact ⟨.str ⟨#[c]⟩, by simp [chars, h1], Ext.refl, fun _ _ z => z, .str _⟩
theorem pair_new {W : Wd} {H : Hp} {S : Store} {T : Addr} {x y : V} {d e : D} (r : Rel K nm W S H) (n : H T = none) (p : Rep K W H d x) (q : Rep K W H e y) : Ext W H W (upd H T (.tup [x, y])) ∧ (∀ a o, H a = some o → upd H T (.tup [x, y]) a = some o) ∧ Rep K W (upd H T (.tup [x, y])) (.tup [d, e]) (.ref T) :=
  ⟨Ext.alloc n, same_upd n, .tup (SqT.of upd_same) (.cons (p.mono r.trk (Ext.alloc n)) (.cons (q.mono r.trk (Ext.alloc n)) .nil))⟩
theorem zipD_get {xs ys : List D} {i : Nat} {d e : D} (h1 : xs[i]? = some d) (h2 : ys[i]? = some e) : (xs.zipWith (fun x y => D.tup [x, y]) ys)[i]? = some (.tup [d, e]) := by
  simp [List.getElem?_zipWith, h1, h2]
theorem walk_zipT {a b : Addr} {xs ys : List V} {n : Nat} (hn : n = min xs.length ys.length) : Walk (RZ.ItzT K a b) n (fun H => SqT K H a xs ∧ SqT K H b ys) (YPair (fun i => xs[i]?) (fun i => ys[i]?)) := by
  subst hn
  refine ⟨fun i _ hi q => ?_, fun _ q => ⟨xs, ys, q.1, q.2, by omega⟩, fun i H v H' _ q y => ?_⟩
  · have h1 : i < xs.length := by omega
    have h2 : i < ys.length := by omega
    exact ⟨xs, ys, xs[i], ys[i], q.1, q.2, by simp [h1], by simp [h2]⟩
  · obtain ⟨T, x, z, h1, h2, h3, h4, h5⟩ := y
    exact ⟨T, x, z, h1, h2, h3, h4 xs q.1, h5 ys q.2⟩
theorem wlk_zip {J : It} {xs ys : List D} {vs us : List V} {Gd : Hp → Prop} (w : Walk J (xs.zipWith (fun x y => D.tup [x, y]) ys).length Gd (YPair (fun i => vs[i]?) (fun i => us[i]?))) (h : ∀ W H, Gr W H → Gd H) (p : ∀ W H, Gr W H → Reps K W H xs vs) (p' : ∀ W H, Gr W H → Reps K W H ys us) :
    Wlk K nm Gr J (xs.zipWith (fun x y => .tup [x, y]) ys) := by
  refine ⟨_, _, w, h, fun i W' S H' x H2 hi e r y => ?_⟩
  rw [List.length_zipWith] at hi
  obtain ⟨T, x1, y1, rfl, hT, rfl, g1, g2⟩ := y
  obtain ⟨v, q1, q2⟩ := (p _ _ e).get (i := i) (d := xs[i]'(by omega)) (by simp [show i < xs.length by omega])
  obtain ⟨v', q3, q4⟩ := (p' _ _ e).get (i := i) (d := ys[i]'(by omega)) (by simp [show i < ys.length by omega])
  cases q1.symm.trans g1
  cases q3.symm.trans g2
  obtain ⟨z1, z2, z3⟩ := pair_new r hT q2 q4
  exact ⟨_, zipD_get (by simp [show i < xs.length by omega]) (by simp [show i < ys.length by omega]), z1, z2, z3⟩
theorem enumD_len {xs : List D} : (enumD xs).length = xs.length := by simp [enumD]
theorem enumD_get {xs : List D} {i : Nat} {d : D} (h : xs[i]? = some d) : (enumD xs)[i]? = some (.tup [.int i, d]) := by
  have hl := (List.getElem?_eq_some_iff.mp h).1
  obtain ⟨_, rfl⟩ := List.getElem?_eq_some_iff.mp h
  simp [enumD, List.getElem?_zipWith, hl, List.getElem?_range hl]
theorem wlk_enum {J : It} {xs : List D} {vs : List V} {Gd : Hp → Prop} (w : Walk J (enumD xs).length Gd (YPair (fun i => some (.int (i : Nat))) (fun i => vs[i]?))) (h : ∀ W H, Gr W H → Gd H) (p : ∀ W H, Gr W H → Reps K W H xs vs) : Wlk K nm Gr J (enumD xs) := by
  refine ⟨_, _, w, h, fun i W' S H' x H2 hi e r y => ?_⟩
  rw [enumD_len] at hi
  obtain ⟨T, x1, y1, rfl, hT, rfl, g1, g2⟩ := y
  obtain ⟨v, q1, q2⟩ := (p _ _ e).get (i := i) (d := xs[i]) (by simp [hi])
  cases q1.symm.trans g2
  cases g1
  obtain ⟨z1, z2, z3⟩ := pair_new r hT (.int _) q2
  exact ⟨_, enumD_get (by simp [hi]), z1, z2, z3⟩
theorem ItOk.of {J : It} {xs : List D} (h : ∀ Gr : Wd → Hp → Prop, (∀ W' H', Gr W' H' → ∃ W2, Ext W H W2 H' ∧ (W' = W2 ∨ ∃ p, H p = none ∧ W' = W2.add p)) → Wlk K nm Gr J xs) : ItOk K nm W H J xs :=
  ⟨h _ fun W' H' e => ⟨W', e, .inl rfl⟩, fun p hp => h _ fun W' H' ⟨W2, e1, e2⟩ => ⟨W2, e2, .inr ⟨p, hp, e1⟩⟩⟩
theorem reps_gr {xs : List D} {vs : List V} (t : Trk W H) (p : Reps K W H xs vs) {W' W2 : Wd} {H' : Hp} (e : Ext W H W2 H') (h : W' = W2 ∨ ∃ p, H p = none ∧ W' = W2.add p) : Reps K W' H' xs vs := by
  rcases h with rfl | ⟨q, hq, rfl⟩
  · exact p.mono t e
  · exact p.monoB t e hq
theorem ItOk.list {a : Addr} {xs : List D} {vs : List V} (t : Trk W H) (h : Rd H a (.lst vs)) (n : a ∉ W.m) (p : Reps K W H xs vs) : ItOk K nm W H (Itl K a) xs :=
  .of fun Gr g => wlk_list (fun W' H' e => let ⟨_, e1, _⟩ := g _ _ e; (e1.rd h n).1) (fun W' H' e => let ⟨_, e1, e2⟩ := g _ _ e; reps_gr t p e1 e2) p.length
theorem ItOk.tup {a : Addr} {xs : List D} {vs : List V} (t : Trk W H) (h : SqT K H a vs) (p : Reps K W H xs vs) : ItOk K nm W H (Itt K a) xs :=
  .of fun Gr g => wlk_tup (fun W' H' e => let ⟨_, e1, _⟩ := g _ _ e; e1.sqT t h) (fun W' H' e => let ⟨_, e1, e2⟩ := g _ _ e; reps_gr t p e1 e2) p.length
theorem ItOk.enumL {a : Addr} {xs : List D} {vs : List V} (t : Trk W H) (h : Rd H a (.lst vs)) (n : a ∉ W.m) (p : Reps K W H xs vs) : ItOk K nm W H (Ite K a) (enumD xs) :=
  .of fun Gr g => wlk_enum (by rw [enumD_len, p.length]; exact walk_enum (xs := vs)) (fun W' H' e => let ⟨_, e1, _⟩ := g _ _ e; Or.inl (e1.rd h n).1) (fun W' H' e => let ⟨_, e1, e2⟩ := g _ _ e; reps_gr t p e1 e2)
theorem walk_enumT {a : Addr} {xs : List V} : Walk (IteT K a) xs.length (fun H => SqT K H a xs) (YPair (fun i => some (.int (i : Nat))) (fun i => xs[i]?)) := by
  refine ⟨fun i _ hi q => ⟨xs, xs[i], q, by simp [hi]⟩, fun _ q => ⟨xs, q, Nat.le_refl _⟩, fun i H v H' _ q y => ?_⟩
  obtain ⟨T, x, h1, h2, h3, h4⟩ := y
  exact ⟨T, .int (i : Nat), x, h1, h2, h3, rfl, h4 xs q⟩
theorem ItOk.enumT {a : Addr} {xs : List D} {vs : List V} (t : Trk W H) (h : SqT K H a vs) (p : Reps K W H xs vs) : ItOk K nm W H (IteT K a) (enumD xs) :=
  .of fun Gr g => wlk_enum (by rw [enumD_len, p.length]; exact walk_enumT (xs := vs)) (fun W' H' e => let ⟨_, e1, _⟩ := g _ _ e; e1.sqT t h) (fun W' H' e => let ⟨_, e1, e2⟩ := g _ _ e; reps_gr t p e1 e2)
theorem wlk_keys {d : Addr} {o : Obj} {ds : List (Ky × D)} {kvs : List (Key × V)} (h : ∀ W H, Gr W H → H d = some (.frz o (.dK kvs))) (p : kvs.map (·.1) = ds.map (·.1)) : Wlk K nm Gr (Itk d o kvs) (ds.map fun p => kyD p.1) := by
  have hl : kvs.length = (ds.map fun p => kyD p.1).length := by
    have := congrArg List.length p
    simpa using this
  refine ⟨_, _, hl ▸ walk_keys, fun W' H' e => h _ _ e, fun i W' S H' x H2 hi e r y => ?_⟩
  obtain ⟨rfl, k, v, hk, rfl⟩ := y
  have hi' : i < ds.length := by simpa using hi
  have e1 : (kvs.map (·.1))[i]? = some k := by simp [hk]
  rw [p, List.getElem?_map] at e1
  obtain ⟨q, e2, e3⟩ := Option.map_eq_some_iff.mp e1
  subst e3
  refine ⟨kyD q.1, by simp [e2], Ext.refl, fun _ _ z => z, ?_⟩
  cases q.1 with
  | inl i => exact .int i
  | inr x => exact .str x
theorem ItOk.keys {d : Addr} {o : Obj} {ds : List (Ky × D)} {kvs : List (Key × V)} (h : H d = some (.frz o (.dK kvs))) (n : d ∉ W.m) (p : RepK K W H ds kvs) : ItOk K nm W H (Itk d o kvs) (ds.map fun p => kyD p.1) :=
  .of fun Gr g => wlk_keys (fun W' H' e => let ⟨_, e1, _⟩ := g _ _ e; e1.keep _ _ h n) (repK_keys p)
theorem ItOk.keysF {d : Addr} {o : Obj} {ds : List (Ky × D)} {kvs : List (Key × V)} (h : H d = some (.frz o (.dK kvs))) (p : RepK K W H ds kvs) : ItOk K nm W H (Itk d o kvs) (ds.map fun p => kyD p.1) :=
  .of fun Gr g => wlk_keys (fun W' H' e => let ⟨_, e1, _⟩ := g _ _ e; e1.fz _ _ _ h) (repK_keys p)
theorem repK_gr {xs : List (Ky × D)} {vs : List (Key × V)} (t : Trk W H) (p : RepK K W H xs vs) {W' W2 : Wd} {H' : Hp} (e : Ext W H W2 H') (h : W' = W2 ∨ ∃ p, H p = none ∧ W' = W2.add p) : RepK K W' H' xs vs := by
  rcases h with rfl | ⟨q, hq, rfl⟩
  · exact p.mono t e
  · exact p.monoB t e hq
theorem repK_at {ds : List (Ky × D)} {kvs : List (Key × V)} (p : RepK K W H ds kvs) {i : Nat} {q : Ky × D} (h : ds[i]? = some q) : ∃ v, kvs[i]? = some (q.1, v) ∧ Rep K W H q.2 v := by
  induction ds generalizing kvs i with
  | nil => simp at h
  | cons x ds ih => cases p with | cons a b => cases i with
    | zero => simp at h; subst h; exact ⟨_, rfl, a⟩
    | succ i => simp at h; obtain ⟨v, e, q⟩ := ih b h; exact ⟨v, by simpa using e, q⟩
theorem wlk_itemsK {Gr : Wd → Hp → Prop} {d : Addr} {o : Obj} {ds : List (Ky × D)} {kvs : List (Key × V)} (h : ∀ W H, Gr W H → H d = some (.frz o (.dK kvs))) (p : ∀ W H, Gr W H → RepK K W H ds kvs) (hl : kvs.length = ds.length) : Wlk K nm Gr (Iti d o kvs) (ds.map fun p => .tup [kyD p.1, p.2]) := by
  refine ⟨_, _, (by rw [List.length_map, ← hl]; exact walk_items), fun W' H' e => h _ _ e, fun i W' S H' x H2 hi e r y => ?_⟩
  rw [List.length_map] at hi
  obtain ⟨T, x1, y1, rfl, hT, rfl, g1, g2⟩ := y
  have hx : ds[i]? = some ds[i] := List.getElem?_eq_getElem hi
  obtain ⟨v, q1, q2⟩ := repK_at (p _ _ e) hx
  simp only [q1, Option.map_some, Option.some.injEq] at g1 g2
  subst g1 g2
  have q0 : Rep K W' H' (kyD ds[i].1) (kV ds[i].1) := by
    cases ds[i].1 with
    | inl i => exact .int i
    | inr x => exact .str x
  obtain ⟨z1, z2, z3⟩ := pair_new r hT q0 q2
  exact ⟨.tup [kyD ds[i].1, ds[i].2], by rw [List.getElem?_map, hx]; rfl, z1, z2, z3⟩
theorem ItOk.itemsF {d : Addr} {o : Obj} {ds : List (Ky × D)} {kvs : List (Key × V)} (t : Trk W H) (h : H d = some (.frz o (.dK kvs))) (p : RepK K W H ds kvs) : ItOk K nm W H (Iti d o kvs) (ds.map fun p => .tup [kyD p.1, p.2]) :=
  .of fun Gr g => wlk_itemsK (fun W' H' e => let ⟨_, e1, _⟩ := g _ _ e; e1.fz _ _ _ h) (fun W' H' e => let ⟨_, e1, e2⟩ := g _ _ e; repK_gr t p e1 e2) p.length.symm
theorem ItOk.zipL {a b : Addr} {xs ys : List D} {vs us : List V} (t : Trk W H) (h : Rd H a (.lst vs)) (n : a ∉ W.m) (p : Reps K W H xs vs) (h' : Rd H b (.lst us)) (n' : b ∉ W.m) (p' : Reps K W H ys us) : ItOk K nm W H (Itz K a b) (xs.zipWith (fun x y => .tup [x, y]) ys) :=
  .of fun Gr g => wlk_zip (walk_zip (xs := vs) (ys := us) (by rw [List.length_zipWith, p.length, p'.length])) (fun W' H' e => let ⟨_, e1, _⟩ := g _ _ e; ⟨Or.inl (e1.rd h n).1, Or.inl (e1.rd h' n').1⟩) (fun W' H' e => let ⟨_, e1, e2⟩ := g _ _ e; reps_gr t p e1 e2) (fun W' H' e => let ⟨_, e1, e2⟩ := g _ _ e; reps_gr t p' e1 e2)
theorem ItOk.zipT {a b : Addr} {xs ys : List D} {vs us : List V} (t : Trk W H) (h : SqT K H a vs) (p : Reps K W H xs vs) (h' : SqT K H b us) (p' : Reps K W H ys us) : ItOk K nm W H (RZ.ItzT K a b) (xs.zipWith (fun x y => .tup [x, y]) ys) :=
  .of fun Gr g => wlk_zip (walk_zipT (xs := vs) (ys := us) (by rw [List.length_zipWith, p.length, p'.length])) (fun W' H' e => let ⟨_, e1, _⟩ := g _ _ e; ⟨e1.sqT t h, e1.sqT t h'⟩) (fun W' H' e => let ⟨_, e1, e2⟩ := g _ _ e; reps_gr t p e1 e2) (fun W' H' e => let ⟨_, e1, e2⟩ := g _ _ e; reps_gr t p' e1 e2)
/-- what is walked -/
def ItFor (K : PySem.W.Frag) (nm : Nm) (W : Wd) (H : Hp) (it : PL.Itr) (J : It) : Prop := match it with
  | .items xs => ItOk K nm W H J xs
  | .live n en => ∃ a, W.m[n]? = some a ∧ J = (if en then Ite K a else Itl K a)
  | .lkd _ _ _ => False
end
section
variable {P : Program} {w : World} {K : PySem.W.Frag} {mg : Str → Option Value} {base : Heap} {G : Tab} {Y : Sx} {nm : Nm} {fa : Nat → Addr} {fd : Nat → FuncData} {ps : Nat → List Str} {kk : Nat} {N : List Str}
variable {sc : Scope} {X : Cx} {Wi : WX}
theorem _root_.L2.PI.or {tg e : Expr} {w1 w2 : TI} (h1 : PI X tg e w1) (h2 : PI X tg e w2) : PI X tg e (fun σ H R => w1 σ H R ∨ w2 σ H R) :=
  ⟨fun pins s σ H R I w => w.elim (h1.run pins s σ H R I) (h2.run pins s σ H R I)⟩
theorem _root_.L2.PI.imp {tg e : Expr} {w1 w2 : TI} (h1 : PI X tg e w1) (h : ∀ σ H R, w2 σ H R → w1 σ H R) : PI X tg e w2 := ⟨fun pins s σ H R I w => h1.run pins s σ H R I (h σ H R w)⟩
def tI (K : PySem.W.Frag) (nm : Nm) (Wi : WX) (k : IK) (f : Env → Store → R D) : TI := tX K nm (ItFor K nm) Wi fun env S => (f env S).bind fun d S => R.of (mkIt k (srcL k d) S) S
theorem pi_plain {tg e : Expr} {f : Env → Store → R D} (hK : X.K = K) (he : PE X e (tE K nm Wi f)) : PI X tg e (tI K nm Wi .plain f) := by
  subst hK
  refine (((pi_list he).or (pi_tup he)).or (pi_str he)).imp fun σ H R q => ?_
  obtain ⟨W, S, env, E, r, z⟩ := q
  dsimp only at z
  cases hd : f env S with
  | bad => rw [hd] at z; exact z.elim
  | ex c S1 => rw [hd] at z; exact .inl (.inl ⟨W, S, env, E, r, by rw [hd]; exact z⟩)
  | ok d S1 =>
    rw [hd] at z
    cases d with
    | tup xs =>
      refine .inl (.inr ⟨W, S, env, E, r, ?_⟩)
      rw [hd]
      intro v W' H' e' r' p
      cases p with
      | @tup _ a vs h1 h2 => exact ⟨a, rfl, ⟨vs, h1⟩, z _ W' H' e' r' (.tup r'.trk h1 h2)⟩
    | lst xs =>
      refine .inl (.inl ⟨W, S, env, E, r, ?_⟩)
      rw [hd]
      intro v W' H' e' r' p
      cases p with
      | @lst _ a vs h1 h2 h3 h4 => exact ⟨a, rfl, ⟨vs, .inl h1⟩, z _ W' H' e' r' (.list r'.trk h1 h2 h4)⟩
    | str x =>
      refine .inr ⟨W, S, env, E, r, ?_⟩
      rw [hd]
      intro v W' H' e' r' p
      cases p
      exact ⟨x, rfl, z _ W' H' e' r' ⟨wlk_str, fun _ _ => wlk_str⟩⟩
    | ref n =>
      refine .inl (.inl ⟨W, S, env, E, r, ?_⟩)
      rw [hd]
      intro v W' H' e' r' p
      simp only [PL.R.bind_ok, srcL, mkIt] at z
      cases p with
      | @ref _ a h1 =>
        split at z
        · rename_i xs q
          obtain ⟨vs, h2, h3⟩ := r'.ob n a _ h1 q
          exact ⟨a, rfl, ⟨vs, .inl (.inl h2)⟩, z _ W' H' e' r' ⟨a, h1, rfl⟩⟩
        · exact z.elim
    | _ => exact z.elim
theorem b62_ok {i : Int} (h : b62 i = true) : -(2 ^ 62) ≤ i ∧ i < 2 ^ 62 := tst_iff.mp h
theorem star_one {a : Expr} {env : PySem.Env} (h : notStar a = true) : starEach [a] env = [(false, eval a env)] := star_ok h
theorem pi_args {tg iter : Expr} {es : List Expr} {ik : IK} {f : Env → Store → R D} {wi : TA → TI} (hne : ∀ d, srcL ik d = toTup d) (hi : PI X tg iter (wi (tA K nm Wi f)))
    (hw : ∀ {σ : L2.St} {H : Hp} {R : It → Hp → Prop} {Q : List V → Hp → Prop}, tA K nm Wi f σ H Q → (∀ vs H1, Q vs H1 → wi (fun _ H Q => Q vs H) σ H1 R) → wi (tA K nm Wi f) σ H R)
    (h : ∀ {W : Wd} {S : Store} {H1 : Hp} {xs : List D} {vs : List V} {it : PL.Itr} {σ : L2.St} {R : It → Hp → Prop}, Rel K nm W S H1 → Reps K W H1 xs vs → mkIt ik xs S = some it → (∀ J, ItFor K nm W H1 it J → R J H1) → wi (fun _ H Q => Q vs H) σ H1 R) : PI X tg iter (tI K nm Wi ik f) := by
  refine hi.imp fun σ H R q => ?_
  obtain ⟨W, S, env, E, r, z⟩ := tX.args (g := fun _ d S => PL.R.of (mkIt ik (srcL ik d) S) S) q
  refine hw (Q := _) ⟨W, S, env, E, r, z⟩ fun vs H1 z => ?_
  obtain ⟨W1, S1, xs, env1, E1, r1, p1, z⟩ := z
  obtain ⟨it, e, z⟩ := z.of
  rw [hne] at e
  have e : mkIt ik xs S1 = some it := e
  exact h r1 p1 e fun J hJ => z J W1 H1 Ext.refl r1 hJ
theorem tA.mono {f : Env → Store → R D} {σ : L2.St} {H : Hp} {Q Q' : List V → Hp → Prop} (w : tA K nm Wi f σ H Q) (h : ∀ v H, Q v H → Q' v H) : tA K nm Wi f σ H Q' := by
  obtain ⟨W, S, env, E, r, z⟩ := w
  exact ⟨W, S, env, E, r, z.mono h⟩
theorem pi_rng1 {tg a : Expr} {f : Env → Store → R D} {p pos : Pos} (hg : Gl X "range") (hm : X.mg "range" = none) (hs : notStar a = true) (ha : PA X [a] (tA K nm Wi f)) : PI X tg (.Call (.Name "range" p) [a] [] pos) (tI K nm Wi .rng1 f) := by
  refine pi_args (es := [a]) (wi := iRng1) (fun _ => rfl) (pi_range1 hg hm ha (star_one hs)) (fun q h => tA.mono q fun v H z => h v H z) fun r p1 e z => ?_
  cases p1 with
  | nil => cases e
  | cons p1 p2 => cases p2 with
    | nil =>
      cases p1 <;> simp only [mkIt] at e <;> first | (cases e; done) | skip
      split at e
      · rename_i h
        cases e
        exact ⟨_, rfl, (b62_ok h).1, (b62_ok h).2, z _ ⟨wlk_range, fun _ _ => wlk_range⟩⟩
      · cases e
    | cons p2 p3 => cases p1 <;> cases e
theorem pi_rng2 {tg a b : Expr} {f : Env → Store → R D} {p pos : Pos} (hg : Gl X "range") (hm : X.mg "range" = none) (hs : notStar a = true) (hs2 : notStar b = true) (ha : PA X [a, b] (tA K nm Wi f)) : PI X tg (.Call (.Name "range" p) [a, b] [] pos) (tI K nm Wi .rng2 f) := by
  refine pi_args (es := [a, b]) (wi := iRng2) (fun _ => rfl) (pi_range2 hg hm ha (by rw [star_ok hs, star_ok hs2]; rfl) (star_one hs2)) (fun q h => tA.mono q fun v H z => h v H z) fun r p1 e z => ?_
  simp only [mkIt] at e
  split at e <;> try (rename_i h; cases h; done)
  all_goals first | (cases e; done) | skip
  rename_i i j h
  split at e
  · rename_i hb
    cases e
    simp only [Bool.and_eq_true] at hb
    obtain ⟨v, u, rfl, q1, q2⟩ := reps2 p1
    cases q1; cases q2
    exact ⟨_, _, rfl, ⟨(b62_ok hb.1).1, (b62_ok hb.1).2, (b62_ok hb.2).1, (b62_ok hb.2).2⟩, z _ ⟨wlk_range, fun _ _ => wlk_range⟩⟩
  · cases e
theorem pi_zipR {a b : Expr} {f : Env → Store → R D} {p pos tpos : Pos} {elts : List Expr} {q : Nat} (hK : X.K = K) (hg : Gl X "zip") (hm : X.mg "zip" = none) (hs : notStar a = true) (hs2 : notStar b = true) (ha : PA X [a, b] (tA K nm Wi f)) :
    PI X (.Tuple elts q tpos) (.Call (.Name "zip" p) [a, b] [] pos) (tI K nm Wi .zip f) := by
  subst hK
  refine pi_args (es := [a, b]) (wi := RZ.iZipA X.K) (fun _ => rfl) (RZ.pi_zipA hg hm ha (star_ok hs) (by rw [star_ok hs2]; rfl)) (fun q h => tA.mono q fun v H z => h v H z) fun r p1 e z => ?_
  simp only [mkIt] at e
  split at e <;> try (rename_i h; cases h; done)
  all_goals first | (cases e; done) | skip
  · cases e
    obtain ⟨v, u, rfl, q1, q2⟩ := reps2 p1
    cases q1 with | tup h1 h2 => cases q2 with | tup h3 h4 => exact ⟨_, _, _, _, rfl, .inr ⟨h1, h3, z _ (.zipT r.trk h1 h2 h3 h4)⟩⟩
  · cases e
    obtain ⟨v, u, rfl, q1, q2⟩ := reps2 p1
    cases q1 with | lst h1 n1 b1 h2 => cases q2 with | lst h3 n3 b3 h4 => exact ⟨_, _, _, _, rfl, .inl ⟨.inl h1, .inl h3, z _ (.zipL r.trk h1 n1 h2 h3 n3 h4)⟩⟩

theorem rangeC_ok {i j c : Int} (hi : b62 i = true) (hj : b62 j = true) (hc : 0 < c ∧ c < 1000000) : RgC i j c ((j - i + c - 1) / c).toNat := by
  have a := b62_ok hi
  have b := b62_ok hj
  have key : Builtin.Range.rangeSize i j c = (((j - i + c - 1) / c).toNat : Int) := by
    unfold Builtin.Range.rangeSize
    rw [if_pos hc.1]
    split
    · have e : j - i + c - 1 = (j - i - 1) + c * 1 := by omega
      rw [e, Int.add_mul_ediv_left _ _ (by omega)]
      have := Int.ediv_nonneg (a := j - i - 1) (b := c) (by omega) (by omega)
      omega
    · have : (j - i + c - 1) / c ≤ 0 := by
        by_cases z : j - i + c - 1 < 0
        · have := Int.ediv_neg_of_neg_of_pos z hc.1; omega
        · rw [Int.ediv_eq_zero_of_lt (by omega) (by omega)]; omega
      omega
  have hz : Builtin.Range.rangeSize i j c ≤ 2 ^ 63 - 1 := by
    unfold Builtin.Range.rangeSize
    rw [if_pos hc.1]
    split
    · have := Int.ediv_le_self c (show (0 : Int) ≤ j - i - 1 by omega); omega
    · omega
  refine ⟨by omega, by omega, ?_, key⟩
  unfold Builtin.Range.small
  simp only [Builtin.Range.rangeFitsLong, Bool.and_eq_true, Bool.or_eq_true, decide_eq_true_eq, beq_iff_eq]
  refine ⟨⟨⟨⟨⟨by omega, by omega⟩, by omega, by omega⟩, by omega, by omega⟩, by rw [key]; omega, by omega⟩, .inr ?_⟩
  rw [if_pos hc.1, Bool.and_eq_true, decide_eq_true_eq, decide_eq_true_eq]
  omega
theorem pi_rng3 {tg a b c : Expr} {f : Env → Store → R D} {p pos : Pos} (hg : Gl X "range") (hm : X.mg "range" = none) (hs : notStar a = true) (hs2 : notStar b = true) (hs3 : notStar c = true) (ha : PA X [a, b, c] (tA K nm Wi f)) : PI X tg (.Call (.Name "range" p) [a, b, c] [] pos) (tI K nm Wi .rng3 f) := by
  refine pi_args (es := [a, b, c]) (wi := iRng3) (fun _ => rfl) (pi_range3 hg hm ha (star_ok hs) (by rw [star_ok hs2, star_ok hs3]; rfl)) (fun q h => tA.mono q fun v H z => h v H z) fun r p1 e z => ?_
  simp only [mkIt] at e
  split at e <;> try (rename_i h; cases h; done)
  all_goals first | (cases e; done) | skip
  rename_i i j c h
  split at e
  · rename_i hb
    cases e
    simp only [Bool.and_eq_true] at hb
    cases p1 with | cons q1 p1 => cases p1 with | cons q2 p1 => cases p1 with | cons q3 p1 =>
    cases p1; cases q1; cases q2; cases q3
    exact ⟨_, _, _, _, rfl, rangeC_ok hb.1.1 hb.1.2 (tst_iff.mp hb.2), z _ ⟨wlk_rangeC, fun _ _ => wlk_rangeC⟩⟩
  · cases e
theorem pi_enumR {a : Expr} {f : Env → Store → R D} {p pos tpos : Pos} {elts : List Expr} {q : Nat} (hK : X.K = K) (hg : Gl X "enumerate") (hm : X.mg "enumerate" = none) (hs : notStar a = true) (ha : PA X [a] (tA K nm Wi f)) :
    PI X (.Tuple elts q tpos) (.Call (.Name "enumerate" p) [a] [] pos) (tI K nm Wi .enum f) := by
  subst hK
  refine pi_args (es := [a]) (wi := iEnumA X.K) (fun _ => rfl) (pi_enumA hg hm ha (star_one hs)) (fun q h => tA.mono q fun v H z => h v H z) fun r p1 e z => ?_
  simp only [mkIt] at e
  split at e <;> try (rename_i h; cases h; done)
  all_goals first | (cases e; done) | skip
  · cases e
    obtain ⟨v, rfl, q1⟩ := reps1 p1
    cases q1 with | tup h1 h2 => exact ⟨_, _, rfl, .inr ⟨h1, z _ (.enumT r.trk h1 h2)⟩⟩
  · cases e
    obtain ⟨v, rfl, q1⟩ := reps1 p1
    cases q1 with | lst h1 n1 b1 h2 => exact ⟨_, _, rfl, .inl ⟨.inl h1, z _ (.enumL r.trk h1 n1 h2)⟩⟩
  · split at e
    · rename_i hs'
      cases e
      obtain ⟨v, rfl, q1⟩ := reps1 p1
      cases q1 with | ref h1 =>
      obtain ⟨vs, h2, h3⟩ := r.ob _ _ _ h1 hs'
      exact ⟨_, vs, rfl, .inl ⟨.inl (.inl h2), z _ ⟨_, h1, rfl⟩⟩⟩
    · cases e
/-! ### targets -/
structure ERepO (K : PySem.W.Frag) (W : Wd) (H : Hp) (env : Env) (σ : L2.St) (sl : List Nat) : Prop where
  len : env.length = σ.length
  get : ∀ (i : Nat) (d : D), i ∉ sl → env[i]? = some (some d) → ∃ v : V, σ[i]? = some (some v) ∧ Rep K W H d v
theorem ERep.o {W : Wd} {H : Hp} {env : Env} {σ : L2.St} (E : ERep K W H env σ) (sl : List Nat) : ERepO K W H env σ sl := ⟨E.len, fun i d _ h => E.get i d h⟩
theorem ERepO.set {W : Wd} {H : Hp} {env : Env} {σ : L2.St} {i : Nat} {sl : List Nat} {d : D} {v : V} (E : ERepO K W H env σ (i :: sl)) (p : Rep K W H d v) : ERepO K W H (env.set i (some d)) (σ.set i (some v)) sl := by
  refine ⟨by simp [E.len], fun j d' hj h => ?_⟩
  by_cases e : i = j
  · subst e
    by_cases hl : i < env.length
    · rw [List.getElem?_set_self hl] at h
      cases h
      exact ⟨v, by rw [List.getElem?_set_self (by rw [← E.len]; exact hl)], p⟩
    · rw [List.getElem?_eq_none (by simpa using hl)] at h
      cases h
  · rw [List.getElem?_set_ne e] at h
    obtain ⟨v', a, b⟩ := E.get j d' (by simp only [List.mem_cons, not_or]; exact ⟨fun z => e z.symm, hj⟩) h
    exact ⟨v', by rw [List.getElem?_set_ne e]; exact a, b⟩
theorem ERepO.nil {W : Wd} {H : Hp} {env : Env} {σ : L2.St} (E : ERepO K W H env σ []) : ERep K W H env σ := ⟨E.len, fun i d h => E.get i d (by simp) h⟩
theorem wipe_comm {σ : L2.St} {v : Nat} {x : Option V} : ∀ {vs : List Nat}, wipe (σ.set v x) (v :: vs) = wipe σ (v :: vs) := by
  have key : ∀ (vs : List Nat) (σ : L2.St), (wipe (σ.set v x) vs).set v none = (wipe σ vs).set v none := by
    intro vs
    induction vs with
    | nil => intro σ; show (σ.set v x).set v none = σ.set v none; rw [List.set_set]
    | cons u us ih =>
      intro σ
      show ((wipe (σ.set v x) us).set u none).set v none = ((wipe σ us).set u none).set v none
      by_cases e : u = v
      · subst e; rw [List.set_set, List.set_set, ih]
      · rw [List.set_comm _ _ e, ih, List.set_comm _ _ (Ne.symm e)]
  exact fun {vs} => key vs σ
theorem wipe_same {σ σ' : L2.St} {v : Nat} {vs : List Nat} (h : wipe σ vs = wipe σ' vs) : wipe σ (v :: vs) = wipe σ' (v :: vs) := by
  show (wipe σ vs).set v none = (wipe σ' vs).set v none
  rw [h]
def gTg (K : PySem.W.Frag) (tg : Tg) : TG := fun v σ H Q => ∃ W d env env', ERepO K W H env σ (slots tg) ∧ Rep K W H d v ∧ bindT tg d env = some env' ∧ ∀ σ', ERep K W H env' σ' → wipe σ' (slots tg) = wipe σ (slots tg) → Q σ' H
theorem pg_one {fl : Bool} (hN : X.N = N) (nd : N.Nodup) (hs : X.env.scope = sc) (hf : fl = true → ∀ x, X.fn x = true) {i : Nat} {e : Expr} (h : tgN N fl sc i e = true) : PG X e (gName i) ∧ ∀ es env, starEach (e :: es) env = (false, eval e env) :: starEach es env ∧ assignEach (e :: es) env = (false, assign e env) :: assignEach es env := by
  cases e <;> simp only [tgN] at h <;> first | (cases h; done) | skip
  simp only [Bool.and_eq_true, Bool.or_eq_true, decide_eq_true_eq] at h
  obtain ⟨h1, h2⟩ := h
  subst hN hs
  refine ⟨?_, fun es env => ⟨rfl, rfl⟩⟩
  rcases h2 with h2 | ⟨h3, h2⟩
  · exact pg_name nd h1 (.inl h2) (.inr h2)
  · exact pg_name nd h1 (.inr h2) (.inl (hf h3 _))
def gNames : List Nat → TGs
  | [] => gNil
  | i :: is => gCons (gName i) (gNames is)
theorem pgs_ok {fl : Bool} (hN : X.N = N) (nd : N.Nodup) (hs : X.env.scope = sc) (hf : fl = true → ∀ x, X.fn x = true) : ∀ {is : List Nat} {es : List Expr}, tgNs N fl sc is es = true →
    PGs X es (gNames is) ∧ (∀ env, (assignEach es env).length = is.length) ∧ ∀ env, (assignEach es env).findIdx? (·.1) = none
  | [], [], _ => ⟨pgs_nil, fun _ => rfl, fun _ => rfl⟩
  | [], _ :: _, h => by cases h
  | _ :: _, [], h => by cases h
  | i :: is, e :: es, h => by
    simp only [tgNs, Bool.and_eq_true] at h
    obtain ⟨a, b⟩ := pg_one hN nd hs hf h.1
    obtain ⟨c, d, f⟩ := pgs_ok hN nd hs hf h.2
    exact ⟨pgs_cons a c (by rw [(b es _).2]; rfl), fun env => by rw [(b es _).2]; simp [d], fun env => by rw [(b es _).2]; simp [List.findIdx?_cons, f]⟩
theorem gNames_ok {W : Wd} {H : Hp} : ∀ {is : List Nat} {xs : List D} {vs : List V} {env env' : Env} {σ : L2.St} {Q : L2.St → Hp → Prop}, ERepO K W H env σ is → Reps K W H xs vs → bindL is xs env = some env' →
    (∀ σ', ERep K W H env' σ' → wipe σ' is = wipe σ is → Q σ' H) → gNames is vs σ H Q
  | [], [], _, env, env', σ, Q, E, .nil, h, q => by
    cases h
    exact ⟨rfl, q _ E.nil rfl⟩
  | [], _ :: _, _, env, env', σ, Q, E, _, h, q => by cases h
  | _ :: _, [], _, env, env', σ, Q, E, _, h, q => by cases h
  | i :: is, x :: xs, _, env, env', σ, Q, E, .cons a b, h, q => by
    refine ⟨_, _, rfl, ?_⟩
    refine gNames_ok (E.set a) b h fun σ' E' hw => q σ' E' ?_
    rw [wipe_same hw, wipe_comm]
theorem pg_ok {fl : Bool} {tg : Tg} {t : Expr} (hK : X.K = K) (hN : X.N = N) (nd : N.Nodup) (hs : X.env.scope = sc) (hc : X.calm = true) (hf : fl = true → ∀ x, X.fn x = true) (h : tgC N fl sc tg t = true) : PG X t (gTg K tg) := by
  subst hK
  cases tg with
  | one i =>
    obtain ⟨a, _⟩ := pg_one hN nd hs hf h
    refine ⟨fun pins s σ H v u Q I r q => a.run pins s σ H v u Q I r ?_⟩
    obtain ⟨W, d, env, env', E, p, hb, q⟩ := q
    cases hb
    exact q _ (E.set p).nil (wipe_comm (vs := []))
  | many is =>
    cases t <;> simp only [tgC] at h <;> first | (cases h; done) | skip
    obtain ⟨a, b, c⟩ := pgs_ok hN nd hs hf h
    refine ⟨fun pins s σ H v u Q I r q => (pg_tup hc a (b _) (c _)).run pins s σ H v u Q I r ?_⟩
    obtain ⟨W, d, env, env', E, p, hb, q⟩ := q
    cases p <;> simp only [bindT] at hb <;> first | (cases hb; done) | skip
    rename_i xs a' vs h1 h2
    refine ⟨a', vs, rfl, h1, ?_, gNames_ok E h2 hb q⟩
    have key : ∀ {is : List Nat} {xs : List D} {env env' : Env}, bindL is xs env = some env' → xs.length = is.length := by
      intro is
      induction is with
      | nil => intro xs env env' h; cases xs <;> first | rfl | cases h
      | cons i is ih => intro xs env env' h; cases xs with
        | nil => cases h
        | cons x xs => simp [ih h]
    rw [h2.lens]; exact key hb
end
end PL

set_option Elab.async false
set_option linter.all false
set_option maxRecDepth 100000
set_option maxHeartbeats 2000000
/-! PLL: list comprehensions. -/
namespace PL
open PySem PySem.Spec PyProof.Rows L2
section
variable {P : Program} {w : World} {K : PySem.W.Frag} {mg : Str → Option Value} {base : Heap} {G : Tab} {Y : Sx} {nm : Nm} {fa : Nat → Addr} {fd : Nat → FuncData} {ps : Nat → List Str} {kk : Nat} {N : List Str}
variable {sc : Scope} {X : Cx} {Wi : WX}
theorem fold_ok {e : Expr} (h : isSet e = false) (env : PySem.Env) (x : Value) : foldedSetIterable e env x = pure x := by
  cases e <;> first | rfl | cases h
theorem blk_ok {s : Shared} {H : Hp} {scope : Scope} {cl : List (Str × Addr)} {Ca : Addr} {fp : List Addr} {σ0 : L2.St} (C : COk P w K mg base kk N sc X) : COk P w K mg base kk N (relS scope sc) (blkX X Wi σ0 s H scope (compEnvC scope cl Ca X.env) fp) :=
  ⟨C.hP, C.hw, C.hK, C.hm, C.hb, C.hN, C.nd, by rw [← C.sc]; rfl, C.room, C.calm, let ⟨e0, o0, L, h1, h2, h3⟩ := C.fr; ⟨e0, o0, L, h1, h2, h3⟩⟩
abbrev noX : WX := fun _ _ _ _ => False
theorem ext_loop {W1 W2 W4 : Wd} {H1 H H4 : Hp} {Dl : Addr} {o : HO} (e : Ext W1 H1 W2 H) (t : Trk W2 H) (e4 : Ext (W2.add Dl) H W4 H4) (n : H1 Dl = none) : Ext W1 H1 ⟨W4.m, W1.B⟩ (upd H4 Dl o) := by
  have e5 : Ext W2 H ⟨W4.m, W2.B⟩ H4 := ⟨rfl, e4.m, e4.keep, e4.fz⟩
  have e6 := e.trans t e5
  refine ⟨rfl, e6.m, fun a u h na => ?_, fun a od u h => ?_⟩
  · rw [upd_ne (ne_of_none h n)]
    exact e6.keep a u h na
  · rw [upd_ne (ne_of_none h n)]
    exact e6.fz a od u h
theorem wd_eta {W2 W4 : Wd} {Dl : Addr} (h : W4.B = (W2.add Dl).B) : W4 = (⟨W4.m, W2.B⟩ : Wd).add Dl := by
  cases W4; cases h; rfl
theorem wipe_set {v : Nat} : ∀ (us : List Nat) (σ : L2.St), wipe (σ.set v none) us = (wipe σ us).set v none
  | [], _ => rfl
  | u :: us, σ => by
    show (wipe (σ.set v none) us).set u none = ((wipe σ us).set u none).set v none
    rw [wipe_set us]
    by_cases e : v = u
    · subst e; rfl
    · rw [List.set_comm _ _ e]
theorem wipe_idem (σ : L2.St) : ∀ vs : List Nat, wipe (wipe σ vs) vs = wipe σ vs
  | [] => rfl
  | v :: vs => by
    show (wipe ((wipe σ vs).set v none) vs).set v none = (wipe σ vs).set v none
    rw [wipe_set, wipe_idem σ vs, List.set_set]
/-- the target, the test, the element, of a turn -/
noncomputable def cBody (G : Tab) (call : Calls) (tg : Tg) (c e : E) (env : Env) : D → Store → R (Option D) := fun x S => match bindT tg x env with
  | some env' => (mapT (ev G call c env' S)).bind fun k S => if k then (ev G call e env' S).bind fun y S => .ok (some y) S else .ok none S
  | none => .bad
theorem ext_back {W1 W2 W4 : Wd} {H1 H H4 : Hp} {Dl : Addr} (e : Ext W1 H1 W2 H) (t : Trk W2 H) (e4 : Ext (W2.add Dl) H W4 H4) : Ext W1 H1 ⟨W4.m, W1.B⟩ H4 := by
  have e5 : Ext W2 H ⟨W4.m, W2.B⟩ H4 := ⟨rfl, e4.m, e4.keep, e4.fz⟩
  have e6 := e.trans t e5
  exact ⟨rfl, e6.m, e6.keep, e6.fz⟩
/-- b is a, perhaps quiet -/
def Quk (a b : D → Store → R (Option D)) : Prop := ∀ x S, (∀ o S', a x S = .ok o S' → b x S = .ok o S') ∧ (a x S = .bad → b x S = .bad) ∧ ∀ c S', a x S = .ex c S' → b x S = .bad ∨ b x S = .ex c S'
theorem quk (k : IK) (a : D → Store → R (Option D)) : Quk a (qk k a) := by
  intro x S
  cases k <;> first | (refine ⟨fun o S' h => ?_, fun h => ?_, fun c S' h => .inl ?_⟩ <;> (show (a x S).quiet = _; rw [h]; rfl)) | exact ⟨fun o S' h => h, fun h => h, fun c S' h => .inr h⟩
/-- a turn: its target, test and element -/
theorem comp_turn {call : Calls} {tg : Tg} {c e : E} {env : Env} {σ : L2.St} {W1 : Wd} {H1 : Hp} {S1 S2 : Store} {Dl : Addr} {m2 : List Addr} {acc : List D} {av : List V} {H H' : Hp} {d : D} {x : V} {bd : D → Store → R (Option D)} {kn : List D → Store → R (List D)} {res : R (List D)} {Nx : Hp → Prop}
    (E : ERep K W1 H1 env σ) (r1 : Rel K nm W1 S1 H1) (hD : H1 Dl = none) (hbd : Quk (cBody G call tg c e env) bd) (e1 : Ext W1 H1 ⟨m2, W1.B⟩ H) (r2 : Rel K nm ((⟨m2, W1.B⟩ : Wd).add Dl) S2 H) (hd : H Dl = some (.lst av)) (p2 : Reps K ((⟨m2, W1.B⟩ : Wd).add Dl) H acc av)
    (ex : Ext ((⟨m2, W1.B⟩ : Wd).add Dl) H ((⟨m2, W1.B⟩ : Wd).add Dl) H') (keep : ∀ a o, H a = some o → H' a = some o) (rep : Rep K ((⟨m2, W1.B⟩ : Wd).add Dl) H' d x)
    (eq : res = (bd d S2).bind fun o S' => match o with
      | some y => if acc.length < SZ then kn (acc ++ [y]) S' else .bad
      | none => kn acc S')
    (nb : res ≠ .bad) (exc : ∀ c' Sf m3 H3, res = .ex c' Sf → Ext W1 H1 ⟨m3, W1.B⟩ H3 → Rel K nm ⟨m3, W1.B⟩ Sf H3 → Wi (.ref (nm.X c')) none σ H3)
    (hNx : ∀ m3 S3 acc' av' H3, Ext W1 H1 ⟨m3, W1.B⟩ H3 → Rel K nm ((⟨m3, W1.B⟩ : Wd).add Dl) S3 H3 → H3 Dl = some (.lst av') → Reps K ((⟨m3, W1.B⟩ : Wd).add Dl) H3 acc' av' → res = kn acc' S3 → Nx H3) :
    gTg K tg x (wipe σ (slots tg)) H' fun σ2 H2 => wipe σ2 (slots tg) = wipe σ (slots tg) ∧ tT K nm (WB Wi σ) (fun env S => mapT (ev G call c env S)) σ2 H2 fun b H3 =>
        if b = true then tE K nm (WB Wi σ) (ev G call e) σ2 H3 fun y H4 => ∃ acc, H4 Dl = some (.lst acc) ∧ acc.length < sizeLine ∧ Nx (upd H4 Dl (.lst (acc ++ [y]))) else Nx H3 := by
  have r2' := r2.grow ex keep
  have t2 : Trk ((⟨m2, W1.B⟩ : Wd).add Dl) H := r2.trk
  have hDm : Dl ∉ m2 := (r2.bs Dl (List.mem_cons_self)).1
  obtain ⟨q1, q2, q3⟩ := hbd d S2
  cases hb : bindT tg d env with
  | none =>
    rw [q2 (by simp only [cBody, hb])] at eq
    exact absurd eq nb
  | some env' =>
    have EB : ERep K ((⟨m2, W1.B⟩ : Wd).add Dl) H' env σ := (E.monoB r1.trk e1 hD).mono t2 ex
    refine ⟨(⟨m2, W1.B⟩ : Wd).add Dl, d, env, env', ⟨by rw [EB.len, wipe_length], fun j d' hj h => ?_⟩, rep, hb, fun σ' E' hw => ⟨hw.trans (wipe_idem _ _), ?_⟩⟩
    · obtain ⟨v, a, b⟩ := EB.get j d' h
      exact ⟨v, by rw [wipe_out hj]; exact a, b⟩
    · refine ⟨(⟨m2, W1.B⟩ : Wd).add Dl, S2, env', E', r2', ?_⟩
      have cb : cBody G call tg c e env d S2 = (mapT (ev G call c env' S2)).bind fun k S => if k then (ev G call e env' S).bind fun y S => .ok (some y) S else .ok none S := by simp only [cBody, hb]
      cases hc : mapT (ev G call c env' S2) with
      | bad =>
        rw [hc] at cb
        rw [q2 cb] at eq
        exact absurd eq nb
      | ex c' S3 =>
        rw [hc] at cb
        rcases q3 c' S3 cb with h | h
        · rw [h] at eq; exact absurd eq nb
        · rw [h] at eq
          dsimp only
          rw [hc]
          intro W3 H3 e3 r3
          have w3 := wd_eta e3.B
          exact exc c' S3 W3.m H3 eq (ext_back e1 (fun a ha => t2 a ha) (ex.trans r2'.trk e3)) (w3 ▸ r3 : Rel K nm ((⟨W3.m, W1.B⟩ : Wd).add Dl) S3 H3).delB
      | ok b S3 =>
        rw [hc] at cb
        simp only [R.bind_ok] at cb
        dsimp only
        rw [hc]
        intro b' W3 H3 e3 r3 pb
        cases (show b = b' from pb)
        have hd3 : H3 Dl = some (.lst av) := e3.keep _ _ (keep _ _ hd) hDm
        have w3 := wd_eta e3.B
        have e13 := ext_back e1 (fun a ha => t2 a ha) (ex.trans r2'.trk e3)
        cases b with
        | false =>
          simp only [Bool.false_eq_true, if_false] at cb ⊢
          rw [q1 _ _ cb] at eq
          exact hNx W3.m S3 acc av H3 e13 (w3 ▸ r3) hd3 (w3 ▸ ((p2.mono t2 ex).mono r2'.trk e3)) eq
        | true =>
          simp only [if_true] at cb ⊢
          refine ⟨W3, S3, env', E'.mono r2'.trk e3, r3, ?_⟩
          cases he : ev G call e env' S3 with
          | bad =>
            rw [he] at cb
            rw [q2 cb] at eq
            exact absurd eq nb
          | ex c' S4 =>
            rw [he] at cb
            rcases q3 c' S4 cb with h | h
            · rw [h] at eq; exact absurd eq nb
            · rw [h] at eq
              intro W4 H4 e4 r4
              have w4 := wd_eta (e4.B.trans e3.B)
              exact exc c' S4 W4.m H4 eq (ext_back e1 (fun a ha => t2 a ha) ((ex.trans r2'.trk e3).trans r3.trk e4)) (w4 ▸ r4 : Rel K nm ((⟨W4.m, W1.B⟩ : Wd).add Dl) S4 H4).delB
          | ok y S4 =>
            rw [he] at cb
            simp only [R.bind_ok] at cb
            rw [q1 _ _ cb] at eq
            simp only [R.bind_ok] at eq
            intro v W4 H4 e4 r4 p4
            have hDm3 : Dl ∉ W3.m := (r3.bs Dl (by rw [e3.B]; exact List.mem_cons_self)).1
            have hd4 : H4 Dl = some (.lst av) := e4.keep _ _ hd3 hDm3
            have w4 := wd_eta (e4.B.trans e3.B)
            have p2' := (((p2.mono t2 ex).mono r2'.trk e3).mono r3.trk e4)
            by_cases hz : acc.length < SZ
            · rw [if_pos hz] at eq
              refine ⟨av, hd4, by rw [p2.lens, ← SZ_eq]; exact hz, hNx W4.m S4 (acc ++ [y]) (av ++ [v]) _ (ext_loop e1 (fun a ha => t2 a ha) ((ex.trans r2'.trk e3).trans r3.trk e4) hD) ?_ upd_same ?_ eq⟩
              · rw [w4] at r4
                exact r4.putB (fun _ _ q => q.putB hd4) (fun _ _ q => q.putB hd4) (fun _ _ q => q.putB hd4)
              · rw [w4] at p2' p4
                exact (p2'.putB hd4).append (.cons (p4.putB hd4) .nil)
            · rw [if_neg hz] at eq
              exact absurd eq nb
/-- the reading of a comprehension's loop -/
abbrev CLoop (K : PySem.W.Frag) (nm : Nm) (G : Tab) (Wi : WX) (call : Calls) (tg : Tg) (c e : E) (σ : L2.St) (H1 : Hp) (J : It) (Q : VK) : Prop := ∀ Dl, H1 Dl = none → ∃ Wm : Nat → Nat → Hp → Prop, (∃ m, Wm 0 m (upd H1 Dl (.lst []))) ∧ ∀ i m H, Wm i m H →
      (J.stop i H ∧ Q (.ref Dl) H) ∨ (J.go i H ∧ ∃ Nx : Hp → Prop, (∀ H', Nx H' → ∃ m', m' < m ∧ Wm (i + 1) m' H') ∧ ∀ x H', J.yld i H x H' → gTg K tg x (wipe σ (slots tg)) H' fun σ2 H2 => wipe σ2 (slots tg) = wipe σ (slots tg) ∧ tT K nm (WB Wi σ) (fun env S => mapT (ev G call c env S)) σ2 H2 fun b H3 =>
        if b = true then tE K nm (WB Wi σ) (ev G call e) σ2 H3 fun y H4 => ∃ acc, H4 Dl = some (.lst acc) ∧ acc.length < sizeLine ∧ Nx (upd H4 Dl (.lst (acc ++ [y]))) else Nx H3)
/-- over items -/
theorem comp_items {call : Calls} {tg : Tg} {c e : E} {env : Env} {σ : L2.St} {W1 : Wd} {H1 : Hp} {S1 : Store} {J : It} {xs : List D} {Q : VK} {bd : D → Store → R (Option D)}
    (E : ERep K W1 H1 env σ) (r1 : Rel K nm W1 S1 H1) (hJ : ItOk K nm W1 H1 J xs) (hbd : Quk (cBody G call tg c e env) bd) (nb : goComp bd xs [] S1 ≠ .bad)
    (exc : ∀ c' Sf m3 H3, goComp bd xs [] S1 = .ex c' Sf → Ext W1 H1 ⟨m3, W1.B⟩ H3 → Rel K nm ⟨m3, W1.B⟩ Sf H3 → Wi (.ref (nm.X c')) none σ H3)
    (fin : ∀ ys Sf, goComp bd xs [] S1 = .ok ys Sf → ∀ (Dl : Addr) (m2 : List Addr) (av : List V) (H : Hp), H1 Dl = none → Ext W1 H1 ⟨m2, W1.B⟩ H → Rel K nm ((⟨m2, W1.B⟩ : Wd).add Dl) Sf H → H Dl = some (.lst av) → Reps K ((⟨m2, W1.B⟩ : Wd).add Dl) H ys av → Q (.ref Dl) H) :
    CLoop K nm G Wi call tg c e σ H1 J Q := by
  intro Dl hD
  obtain ⟨Gd, Yd, wk, st, yl⟩ := hJ.2 Dl hD
  refine lc_it wk (fun i H => ∃ (m2 : List Addr) (S2 : Store) (acc : List D) (av : List V), Ext W1 H1 ⟨m2, W1.B⟩ H ∧ Rel K nm ((⟨m2, W1.B⟩ : Wd).add Dl) S2 H ∧ H Dl = some (.lst av) ∧ Reps K ((⟨m2, W1.B⟩ : Wd).add Dl) H acc av ∧
    goComp bd xs [] S1 = goComp bd (xs.drop i) acc S2) ?_ ?_ ?_ ?_
  · exact ⟨W1.m, S1, [], [], Ext.alloc hD, r1.addB hD, upd_same, .nil, rfl⟩
  · rintro i H hi ⟨m2, S2, acc, av, e1, r2, hd, p2, eq⟩
    exact st _ _ ⟨_, rfl, e1⟩
  · rintro i x H H' hi ⟨m2, S2, acc, av, e1, r2, hd, p2, eq⟩ y
    obtain ⟨d, hx, ex, keep, rep⟩ := yl i _ S2 H x H' hi ⟨_, rfl, e1⟩ r2 y
    have hdrop : xs.drop i = d :: xs.drop (i + 1) := by
      obtain ⟨hl, hv⟩ := List.getElem?_eq_some_iff.mp hx
      rw [List.drop_eq_getElem_cons hl, hv]
    rw [hdrop] at eq
    exact comp_turn (kn := goComp bd (xs.drop (i + 1))) E r1 hD hbd e1 r2 hd p2 ex keep rep eq nb exc fun m3 S3 acc' av' H3 g1 g2 g3 g4 g5 => ⟨m3, S3, acc', av', g1, g2, g3, g4, g5⟩
  · rintro H ⟨m2, S2, acc, av, e1, r2, hd, p2, eq⟩
    rw [List.drop_eq_nil_of_le (Nat.le_refl _)] at eq
    simp only [goComp] at eq
    exact fin _ _ eq Dl m2 av H hD e1 r2 hd p2
/-- over a list of the store -/
theorem comp_live {call : Calls} {tg : Tg} {c e : E} {env : Env} {σ : L2.St} {W1 : Wd} {H1 : Hp} {S1 : Store} {n : Nat} {en : Bool} {a : Addr} {Q : VK} {bd : D → Store → R (Option D)}
    (E : ERep K W1 H1 env σ) (r1 : Rel K nm W1 S1 H1) (ha : W1.m[n]? = some a) (hbd : Quk (cBody G call tg c e env) bd) (nb : goCompL n en bd LOOP 0 [] S1 ≠ .bad)
    (exc : ∀ c' Sf m3 H3, goCompL n en bd LOOP 0 [] S1 = .ex c' Sf → Ext W1 H1 ⟨m3, W1.B⟩ H3 → Rel K nm ⟨m3, W1.B⟩ Sf H3 → Wi (.ref (nm.X c')) none σ H3)
    (fin : ∀ ys Sf, goCompL n en bd LOOP 0 [] S1 = .ok ys Sf → ∀ (Dl : Addr) (m2 : List Addr) (av : List V) (H : Hp), H1 Dl = none → Ext W1 H1 ⟨m2, W1.B⟩ H → Rel K nm ((⟨m2, W1.B⟩ : Wd).add Dl) Sf H → H Dl = some (.lst av) → Reps K ((⟨m2, W1.B⟩ : Wd).add Dl) H ys av → Q (.ref Dl) H) :
    CLoop K nm G Wi call tg c e σ H1 (if en then Ite K a else Itl K a) Q := by
  intro Dl hD
  refine ⟨fun i m H => ∃ (m2 : List Addr) (S2 : Store) (acc : List D) (av : List V), Ext W1 H1 ⟨m2, W1.B⟩ H ∧ Rel K nm ((⟨m2, W1.B⟩ : Wd).add Dl) S2 H ∧ H Dl = some (.lst av) ∧ Reps K ((⟨m2, W1.B⟩ : Wd).add Dl) H acc av ∧
    goCompL n en bd LOOP 0 [] S1 = goCompL n en bd m i acc S2, ⟨LOOP, W1.m, S1, [], [], Ext.alloc hD, r1.addB hD, upd_same, .nil, rfl⟩, ?_⟩
  rintro i m H ⟨m2, S2, acc, av, e1, r2, hd, p2, eq⟩
  cases m with
  | zero => exact absurd eq nb
  | succ m =>
    have ha2 : ((⟨m2, W1.B⟩ : Wd).add Dl).m[n]? = some a := by
      obtain ⟨t, h, _⟩ := e1.m
      show m2[n]? = some a
      rw [show m2 = W1.m ++ t from h]
      exact (List.getElem?_append_left (List.getElem?_eq_some_iff.mp ha).1).trans ha
    simp only [goCompL, itemAt] at eq
    cases hs : S2[n]? with
    | none => rw [hs] at eq; exact absurd eq nb
    | some o =>
      rw [hs] at eq
      cases o with
      | lst ys =>
        obtain ⟨vs, h1, h2⟩ := r2.ob n a _ ha2 hs
        dsimp only at eq
        cases hy : ys[i]? with
        | none =>
          rw [hy] at eq
          have stop : vs.length ≤ i := by rw [h2.lens]; exact List.getElem?_eq_none_iff.mp hy
          refine .inl ⟨?_, fin _ _ eq Dl m2 av H hD e1 r2 hd p2⟩
          cases en with
          | true => exact ⟨vs, SqL.of h1, stop⟩
          | false => exact ⟨vs, SqL.of h1, stop⟩
        | some d =>
          rw [hy] at eq
          obtain ⟨v, h3, h4⟩ := h2.get hy
          refine .inr ⟨?_, fun H => ∃ (m2 : List Addr) (S2 : Store) (acc : List D) (av : List V), Ext W1 H1 ⟨m2, W1.B⟩ H ∧ Rel K nm ((⟨m2, W1.B⟩ : Wd).add Dl) S2 H ∧ H Dl = some (.lst av) ∧ Reps K ((⟨m2, W1.B⟩ : Wd).add Dl) H acc av ∧
            goCompL n en bd LOOP 0 [] S1 = goCompL n en bd m (i + 1) acc S2, fun H' q => ⟨m, Nat.lt_succ_self _, q⟩, ?_⟩
          · cases en with
            | true => exact ⟨vs, v, SqL.of h1, h3⟩
            | false => exact ⟨vs, v, SqL.of h1, h3⟩
          · intro x H' yl
            cases en with
            | false =>
              obtain ⟨rfl, hx⟩ := yl
              have := hx vs (SqL.of h1)
              rw [h3] at this
              cases this
              exact comp_turn (kn := goCompL n false bd m (i + 1)) E r1 hD hbd e1 r2 hd p2 Ext.refl (fun _ _ z => z) h4 eq nb exc fun m3 S3 acc' av' H3 g1 g2 g3 g4 g5 => ⟨m3, S3, acc', av', g1, g2, g3, g4, g5⟩
            | true =>
              obtain ⟨T, x1, rfl, hT, rfl, hx⟩ := yl
              have := hx vs (SqL.of h1)
              rw [h3] at this
              cases this
              obtain ⟨z1, z2, z3⟩ := pair_new r2 hT (.int (i : Nat)) h4
              exact comp_turn (kn := goCompL n true bd m (i + 1)) E r1 hD hbd e1 r2 hd p2 z1 z2 z3 eq nb exc fun m3 S3 acc' av' H3 g1 g2 g3 g4 g5 => ⟨m3, S3, acc', av', g1, g2, g3, g4, g5⟩
      | _ => exact absurd eq nb
theorem itArgs_no {b : List Str} {t iter : Expr} {k : IK} (h : k = .items ∨ k = .keys) : itArgs b k sc t iter = none := by
  unfold itArgs
  split
  · split
    · rcases h with rfl | rfl <;> rfl
    · rfl
  · rfl
theorem star3 {as : E} {e e' e'' : Expr} {es : List Expr} (h : chkA Y N as sc (e :: e' :: e'' :: es) = true) : notStar e'' = true := by
  cases as <;> simp only [chkA, Bool.and_eq_true] at h <;> first | (cases h; done) | exact star2 h.2
theorem pi_src (g : GOk K mg G Y nm fa fd ps) {k : IK} {src : E} (is : Snd P w K mg base G Y nm kk N src) (C : COk P w K mg base kk N sc X) (tk : Tk X Wi) {t iter : Expr}
    (h : (match k with
        | .plain => chk Y N src sc iter
        | .keys => isVarE src && chk Y N src sc iter
        | .keysR => srcV src && chk Y N src sc iter
        | k => match itArgs Y.blN k sc t iter with
          | some es => chkA Y N src sc es
          | none => false) = true) (hk : k ≠ .keys ∧ k ≠ .keysR) : PI X t iter (tI K nm Wi k (ev G (run G kk) src)) := by
  cases k with
  | plain => exact pi_plain C.hK (is.v _ _ X Wi h C tk)
  | rng1 =>
    simp only [itArgs] at h
    split at h <;> try (cases h; done)
    rename_i es hes
    split at hes <;> try (cases hes; done)
    split at hes <;> try (cases hes; done)
    rename_i hg
    simp only [Bool.and_eq_true, decide_eq_true_eq] at hg
    split at hes <;> try (cases hes; done)
    all_goals try (rename_i hk; cases hk; done)
    split at hes <;> try (cases hes; done)
    rename_i hr
    cases hes
    subst hr
    exact pi_rng1 (gl_ok C hg.1) (by rw [C.hm]; exact g.bl _ hg.2) (star1 h) (is.l _ _ X Wi h C tk)
  | rng2 =>
    simp only [itArgs] at h
    split at h <;> try (cases h; done)
    rename_i es hes
    split at hes <;> try (cases hes; done)
    split at hes <;> try (cases hes; done)
    rename_i hg
    simp only [Bool.and_eq_true, decide_eq_true_eq] at hg
    split at hes <;> try (cases hes; done)
    all_goals try (rename_i hk; cases hk; done)
    split at hes <;> try (cases hes; done)
    rename_i hr
    cases hes
    subst hr
    have h2 : notStar _ = true := star2 h
    exact pi_rng2 (gl_ok C hg.1) (by rw [C.hm]; exact g.bl _ hg.2) (star1 h) h2 (is.l _ _ X Wi h C tk)
  | zip =>
    simp only [itArgs] at h
    split at h <;> try (cases h; done)
    rename_i es hes
    split at hes <;> try (cases hes; done)
    split at hes <;> try (cases hes; done)
    rename_i hg
    simp only [Bool.and_eq_true, decide_eq_true_eq] at hg
    split at hes <;> try (cases hes; done)
    all_goals try (rename_i hk; cases hk; done)
    split at hes <;> try (cases hes; done)
    rename_i hr
    cases hes
    obtain ⟨hr, ht⟩ := hr
    subst hr
    have h2 : notStar _ = true := star2 h
    cases t <;> simp only [isTup] at ht <;> first | (cases ht; done) | skip
    exact pi_zipR C.hK (gl_ok C hg.1) (by rw [C.hm]; exact g.bl _ hg.2) (star1 h) h2 (is.l _ _ X Wi h C tk)
  | keys => exact absurd rfl hk.1
  | rng3 =>
    simp only [itArgs] at h
    split at h <;> try (cases h; done)
    rename_i es hes
    split at hes <;> try (cases hes; done)
    split at hes <;> try (cases hes; done)
    rename_i hg
    simp only [Bool.and_eq_true, decide_eq_true_eq] at hg
    split at hes <;> try (cases hes; done)
    all_goals try (rename_i hk; cases hk; done)
    split at hes <;> try (cases hes; done)
    rename_i hr
    cases hes
    subst hr
    have h2 : notStar _ = true := star2 h
    have h3 : notStar _ = true := star3 h
    exact pi_rng3 (gl_ok C hg.1) (by rw [C.hm]; exact g.bl _ hg.2) (star1 h) h2 h3 (is.l _ _ X Wi h C tk)
  | enum =>
    simp only [itArgs] at h
    split at h <;> try (cases h; done)
    rename_i es hes
    split at hes <;> try (cases hes; done)
    split at hes <;> try (cases hes; done)
    rename_i hg
    simp only [Bool.and_eq_true, decide_eq_true_eq] at hg
    split at hes <;> try (cases hes; done)
    all_goals try (rename_i hk; cases hk; done)
    split at hes <;> try (cases hes; done)
    rename_i hr
    cases hes
    obtain ⟨hr, ht⟩ := hr
    subst hr
    cases t <;> simp only [isTup] at ht <;> first | (cases ht; done) | skip
    exact pi_enumR C.hK (gl_ok C hg.1) (by rw [C.hm]; exact g.bl _ hg.2) (star1 h) (is.l _ _ X Wi h C tk)
  | items =>
    dsimp only at h
    rw [itArgs_no (k := .items) (by simp)] at h
    cases h
  | keysR => exact absurd rfl hk.2
/-! ### a dict is locked while its keys are walked -/
/-- the heaps differ at a alone, a dict, locked or not -/
structure Swp (a : Addr) (vs : List (Key × V)) (H H' : Hp) : Prop where
  ne : ∀ b, b ≠ a → H' b = H b
  at1 : Rd H a (.dK vs)
  at2 : Rd H' a (.dK vs)
theorem Rd.uniq {H : Hp} {a : Addr} {us vs : List (Key × V)} (h : Rd H a (.dK us)) (h' : Rd H a (.dK vs)) : us = vs := by
  rcases h with h | ⟨o, h⟩ <;> rcases h' with h' | ⟨o', h'⟩ <;> (rw [h] at h'; cases h'; try rfl)
theorem Swp.tup {a b : Addr} {vs : List (Key × V)} {us : List V} {H H' : Hp} (q : Swp a vs H H') (h : SqT K H b us) : SqT K H' b us := by
  by_cases e : b = a
  · subst e
    rcases h with (h | ⟨o, h⟩) | h
    · rcases q.at1 with z | ⟨_, z⟩ <;> (rw [h] at z; cases z)
    · rcases q.at1 with z | ⟨_, z⟩ <;> (rw [h] at z; cases z)
    · exact .inr h
  · rcases h with (h | ⟨o, h⟩) | h
    · exact .inl (.inl (by rw [q.ne b e]; exact h))
    · exact .inl (.inr ⟨o, by rw [q.ne b e]; exact h⟩)
    · exact .inr h
theorem Swp.lst {a b : Addr} {vs : List (Key × V)} {us : List V} {H H' : Hp} (q : Swp a vs H H') (h : Rd H b (.lst us)) : Rd H' b (.lst us) := by
  by_cases e : b = a
  · subst e
    rcases h with h | ⟨o, h⟩
    · rcases q.at1 with z | ⟨_, z⟩ <;> (rw [h] at z; cases z)
    · rcases q.at1 with z | ⟨_, z⟩ <;> (rw [h] at z; cases z)
  · rcases h with h | ⟨o, h⟩
    · exact .inl (by rw [q.ne b e]; exact h)
    · exact .inr ⟨o, by rw [q.ne b e]; exact h⟩
theorem Swp.dct {a b : Addr} {vs us : List (Key × V)} {H H' : Hp} (q : Swp a vs H H') (h : Rd H b (.dK us)) : Rd H' b (.dK us) := by
  by_cases e : b = a
  · subst e
    rw [Rd.uniq h q.at1]
    exact q.at2
  · rcases h with h | ⟨o, h⟩
    · exact .inl (by rw [q.ne b e]; exact h)
    · exact .inr ⟨o, by rw [q.ne b e]; exact h⟩
theorem Swp.scr {a b : Addr} {vs : List (Key × V)} {ns : List Int} {H H' : Hp} (q : Swp a vs H H') (h : ScrAt K H b ns) : ScrAt K H' b ns := by
  by_cases e : b = a
  · subst e
    rcases h with ⟨o, h⟩ | h
    · rcases q.at1 with z | ⟨_, z⟩ <;> (rw [h] at z; cases z)
    · exact .inr h
  · rcases h with ⟨o, h⟩ | h
    · exact .inl ⟨o, by rw [q.ne b e]; exact h⟩
    · exact .inr h
mutual
theorem Rep.swp {W : Wd} {a : Addr} {us : List (Key × V)} {H H' : Hp} (q : Swp a us H H') : ∀ {d : D} {v : V}, Rep K W H d v → Rep K W H' d v
  | _, _, .non => .non
  | _, _, .bl b => .bl b
  | _, _, .int i => .int i
  | _, _, .str x => .str x
  | _, _, .tup h r => .tup (q.tup h) (Reps.swp q r)
  | _, _, .lst h n b r => .lst (q.lst h) n b (Reps.swp q r)
  | _, _, .dct h n b r => .dct (q.dct h) n b (RepK.swp q r)
  | _, _, .ref h => .ref h
  | _, _, .scr h => .scr (q.scr h)
theorem Reps.swp {W : Wd} {a : Addr} {us : List (Key × V)} {H H' : Hp} (q : Swp a us H H') : ∀ {d : List D} {v : List V}, Reps K W H d v → Reps K W H' d v
  | _, _, .nil => .nil
  | _, _, .cons r rs => .cons (Rep.swp q r) (Reps.swp q rs)
theorem RepK.swp {W : Wd} {a : Addr} {us : List (Key × V)} {H H' : Hp} (q : Swp a us H H') : ∀ {d : List (Ky × D)} {v : List (Key × V)}, RepK K W H d v → RepK K W H' d v
  | _, _, .nil => .nil
  | _, _, .cons r rs => .cons (Rep.swp q r) (RepK.swp q rs)
end
theorem Rel.swp {W : Wd} {S : Store} {a : Addr} {us : List (Key × V)} {H H' : Hp} (q : Swp a us H H') (n : a ∉ W.m) (nb : a ∉ W.B) (r : Rel K nm W S H) : Rel K nm W S H' := by
  refine ⟨r.len, r.nd, fun k b ob h1 h2 => ob_map (fun d v p => p.swp q) (fun d v p => p.swp q) (fun d v p => p.swp q) (fun u e => ?_) (r.ob k b ob h1 h2), fun b hb => ?_⟩
  · rw [q.ne b (fun z => n (z ▸ List.mem_of_getElem? h1))]; exact e
  · obtain ⟨h1, u, h2⟩ := r.bs b hb
    exact ⟨h1, u, by rw [q.ne b (fun z => nb (z ▸ hb))]; exact h2⟩
theorem ERep.swp {W : Wd} {env : Env} {σ : L2.St} {a : Addr} {us : List (Key × V)} {H H' : Hp} (q : Swp a us H H') (E : ERep K W H env σ) : ERep K W H' env σ :=
  ⟨E.len, fun i d h => let ⟨v, a, b⟩ := E.get i d h; ⟨v, a, b.swp q⟩⟩
theorem swp_lock {a : Addr} {vs : List (Key × V)} {H : Hp} {od : Obj} (h : H a = some (.dK vs)) : Swp a vs H (upd H a (.frz od (.dK vs))) := ⟨fun b e => upd_ne e, .inl h, .inr ⟨od, upd_same⟩⟩
theorem swp_unlock {a : Addr} {vs : List (Key × V)} {H : Hp} {od : Obj} (h : H a = some (.frz od (.dK vs))) : Swp a vs H (upd H a (.dK vs)) := ⟨fun b e => upd_ne e, .inr ⟨od, h⟩, .inl upd_same⟩
theorem _root_.L2.PE.or {X : Cx} {e : Expr} {t u : TE} (h : PE X e t) (h' : PE X e u) : PE X e fun σ H Q => t σ H Q ∨ u σ H Q := ⟨fun pins s σ H Q I w => w.elim (h.run pins s σ H Q I) (h'.run pins s σ H Q I)⟩

/-- a dict of the store is locked, unlocked -/
theorem Rel.swpS {W : Wd} {S : Store} {a : Addr} {us : List (Key × V)} {H H' : Hp} {n : Nat} {o' : Ob} (q : Swp a us H H') (r : Rel K nm W S H) (hn : W.m[n]? = some a) (ho : ObRep K nm W H' a o') : Rel K nm W (S.set n o') H' := by
  have ha : a ∈ W.m := List.mem_of_getElem? hn
  refine ⟨by simp [r.len], r.nd, fun k b ob h1 h2 => ?_, fun b hb => ?_⟩
  · by_cases hk : k = n
    · subst hk
      rw [hn] at h1; cases h1
      rw [List.getElem?_set_self (by rw [← r.len]; exact (List.getElem?_eq_some_iff.mp hn).1)] at h2
      cases h2
      exact ho
    · rw [List.getElem?_set_ne (fun z => hk z.symm)] at h2
      have hne : b ≠ a := by
        intro z
        subst z
        obtain ⟨l1, e1⟩ := List.getElem?_eq_some_iff.mp h1
        obtain ⟨l2, e2⟩ := List.getElem?_eq_some_iff.mp hn
        exact hk ((List.getElem_inj r.nd).mp (e1.trans e2.symm))
      exact ob_map (fun d v p => p.swp q) (fun d v p => p.swp q) (fun d v p => p.swp q) (fun u e => by rw [q.ne b hne]; exact e) (r.ob k b ob h1 h2)
  · obtain ⟨h1, u, h2⟩ := r.bs b hb
    exact ⟨h1, u, by rw [q.ne b (fun z => h1 (z ▸ ha))]; exact h2⟩
theorem dctOf_lck {S : Store} {n : Nat} {kvs : List (Ky × D)} (h : S[n]? = some (.dct kvs)) (d : D) : dctOf d (S.set n (.lck kvs)) = dctOf d S := by
  cases d with
  | ref m =>
    by_cases e : n = m
    · subst e
      simp only [dctOf, h, List.getElem?_set_self (List.getElem?_eq_some_iff.mp h).1]
    · simp only [dctOf, List.getElem?_set_ne e]
  | _ => rfl
theorem src_ok {call : Calls} {env : Env} {S : Store} {src : E} (h : srcV src = true) : (∃ d, ev G call src env S = .ok d S) ∨ ev G call src env S = .bad := by
  cases src <;> simp only [srcV] at h <;> first | (cases h; done) | skip
  · rename_i i
    simp only [ev]
    split
    · exact .inl ⟨_, rfl⟩
    · exact .inr rfl
  · rename_i a b
    cases a <;> try (first | (simp only [srcV] at h; done) | (simp only [srcV] at h; cases h; done) | (cases h; done))
    cases b <;> try (first | (simp only [srcV] at h; done) | (simp only [srcV] at h; cases h; done) | (cases h; done))
    simp only [ev]
    split
    · rename_i x _
      simp only [R.bind_ok]
      split
      · rename_i y _
        simp only [R.bind_ok]
        cases dixD x y S with
        | none => exact .inr rfl
        | some d => exact .inl ⟨d, rfl⟩
      · exact .inr rfl
    · exact .inr rfl
theorem src_lck {call : Calls} {env : Env} {S : Store} {src : E} {n : Nat} {kvs : List (Ky × D)} {d : D} (h : srcV src = true) (hn : S[n]? = some (.dct kvs)) (he : ev G call src env S = .ok d S) : ev G call src env (S.set n (.lck kvs)) = .ok d (S.set n (.lck kvs)) := by
  cases src <;> simp only [srcV] at h <;> first | (cases h; done) | skip
  · rename_i i
    simp only [ev] at he ⊢
    split at he
    · cases he; rfl
    · cases he
  · rename_i a b
    cases a <;> try (first | (simp only [srcV] at h; done) | (simp only [srcV] at h; cases h; done) | (cases h; done))
    cases b <;> try (first | (simp only [srcV] at h; done) | (simp only [srcV] at h; cases h; done) | (cases h; done))
    simp only [ev] at he ⊢
    split at he
    · rename_i x _
      simp only [R.bind_ok] at he ⊢
      split at he
      · rename_i y _
        simp only [R.bind_ok] at he ⊢
        have e : dixD x y (S.set n (.lck kvs)) = dixD x y S := by unfold dixD; rw [dctOf_lck hn]
        rw [e]
        cases hd : dixD x y S with
        | none => rw [hd] at he; cases he
        | some d' => rw [hd] at he; cases he; rfl
      · cases he
    · cases he
theorem unlS_some {n : Nat} {S S' : Store} (h : unlS n S = some S') : ∃ k, S[n]? = some (.lck k) ∧ S' = S.set n (.dct k) := by
  unfold unlS at h
  split at h
  · rename_i k e; cases h; exact ⟨k, e, rfl⟩
  · cases h
/-- the walk ends, the dict is free again -/
theorem unlock_ok {W W1 : Wd} {S Sf S' : Store} {H H2 : Hp} {n : Nat} {a : Addr} {od : Obj} {vs : List (Key × V)} (r : Rel K nm W S H) (ha : W.m[n]? = some a) (h1 : H a = some (.dK vs)) (e : Ext W (upd H a (.frz od (.dK vs))) W1 H2) {B : List Addr} (r2 : Rel K nm ⟨W1.m, B⟩ Sf H2) (hu : unlS n Sf = some S') :
    H2 a = some (.frz od (.dK vs)) ∧ Ext W H W1 (upd H2 a (.dK vs)) ∧ Rel K nm ⟨W1.m, B⟩ S' (upd H2 a (.dK vs)) ∧ Swp a vs H2 (upd H2 a (.dK vs)) := by
  have ha2 : H2 a = some (.frz od (.dK vs)) := e.fz _ _ _ upd_same
  obtain ⟨k, hk, rfl⟩ := unlS_some hu
  have q2 := swp_unlock ha2
  obtain ⟨tt, et, ft⟩ := e.m
  have hm : W1.m[n]? = some a := by rw [et]; exact (List.getElem?_append_left (List.getElem?_eq_some_iff.mp ha).1).trans ha
  obtain ⟨od', vs', e5, pk⟩ := r2.ob n a _ hm hk
  rw [ha2] at e5
  cases e5
  have na : ∀ b, b ∉ W.m → b ≠ a := fun b hb z => hb (z ▸ List.mem_of_getElem? ha)
  refine ⟨ha2, ⟨e.B, ⟨tt, et, fun b hb => ?_⟩, fun b o hb nb => ?_, fun b od' u hb => ?_⟩, r2.swpS q2 hm ⟨vs, upd_same, pk.swp q2⟩, q2⟩
  · have := ft b hb
    by_cases z : b = a
    · subst z; rw [upd_same] at this; cases this
    · rw [upd_ne z] at this; exact this
  · rw [upd_ne (na b nb)]
    exact e.keep b o (by rw [upd_ne (na b nb)]; exact hb) nb
  · have z : b ≠ a := fun z => by subst z; rw [h1] at hb; cases hb
    rw [upd_ne z]
    exact e.fz b od' u (by rw [upd_ne z]; exact hb)

/-! ### a comprehension; fr: what its list is taken as -/
def CompFr (K : PySem.W.Frag) (nm : Nm) (fr : List D → Store → R D) : Prop := ∀ (W1 : Wd) (H1 : Hp) (S1 Sf : Store) (ys : List D) (Dl : Addr) (m2 : List Addr) (av : List V) (H : Hp) (Q : VK) (Xc : Nat → Hp → Prop), Rel K nm W1 S1 H1 → H1 Dl = none → Ext W1 H1 ⟨m2, W1.B⟩ H →
  Rel K nm ((⟨m2, W1.B⟩ : Wd).add Dl) Sf H → H Dl = some (.lst av) → Reps K ((⟨m2, W1.B⟩ : Wd).add Dl) H ys av → Wq K nm (rpD K) W1 H1 (fr ys Sf) Q Xc → Q (.ref Dl) H
theorem fr_lst : CompFr K nm fun ys S => .ok (.lst ys) S := by
  intro W1 H1 S1 Sf ys Dl m2 av H Q Xc r1 hD e1 r2 hd p2 z
  refine z _ ⟨m2, W1.B⟩ H e1 r2.delB (.lst (.inl hd) (r2.bs Dl (List.mem_cons_self)).1 (fun hm => ?_) p2.delB)
  obtain ⟨_, o, ho⟩ := r1.bs Dl hm
  rw [hD] at ho; cases ho
noncomputable def evC (G : Tab) (call : Calls) (k : IK) (src : E) (tg : Tg) (c e : E) (fr : List D → Store → R D) (env : Env) (S : Store) : R D := (ev G call src env S).bind fun xs S => match mkIt k (srcL k xs) S with
  | some it => (goIt it (qk k (cBody G call tg c e env)) S).bind fr
  | none => .bad
theorem comp_gen (g : GOk K mg G Y nm fa fd ps) (k : IK) (src : E) (tg : Tg) (c e : E) (is : Snd P w K mg base G Y nm kk N src) (ic : Snd P w K mg base G Y nm kk N c) (ie : Snd P w K mg base G Y nm kk N e) {fr : List D → Store → R D} (hfr : CompFr K nm fr) {x : Expr}
    (h : chk Y N (.comp k src tg c e) sc x = true) (C : COk P w K mg base kk N sc X) (tk : Tk X Wi) (hk : k ≠ .keys ∧ k ≠ .keysR) (F : TE → Prop) (himp : ∀ t u : TE, F t → (∀ σ H Q, u σ H Q → t σ H Q) → F u)
    (hF : ∀ (elt tg iter : Expr) (ifs : List Expr) (scope : Scope) (own : List (Str × Nat)) (pos : Pos) (wi : TI) (g : TG) (tt : L2.St → TT) (te : L2.St → TE), x = .ListComp elt [⟨tg, iter, ifs, 0⟩] scope pos → PI X tg iter wi → BlkOk X.N X.env.scope scope own →
      (∀ (s : Shared) (H : Hp) (C : Addr) (cl : List (Str × Addr)) (fp : List Addr), PG (X.blk s H scope (compEnvC scope cl C X.env) fp) tg g) →
      (∀ (σ : L2.St) (s : Shared) (H : Hp) (C : Addr) (cl : List (Str × Addr)) (fp : List Addr), PTs (blkX X Wi σ s H scope (compEnvC scope cl C X.env) fp) ifs (tt σ)) →
      (∀ (σ : L2.St) (s : Shared) (H : Hp) (C : Addr) (cl : List (Str × Addr)) (fp : List Addr), PE (blkX X Wi σ s H scope (compEnvC scope cl C X.env) fp) elt (te σ)) → (∀ x, foldedSetIterable iter X.env x = pure x) →
      F (fun σ H Q => tLc wi g (tt σ) (te σ) (own.map (·.2)) σ H Q)) : F (tE K nm Wi (evC G (run G kk) k src tg c e fr)) := by
  simp only [chk] at h
  split at h <;> try (cases h; done)
  rename_i elt t iter ifs asy scope pos
  simp only [Bool.and_eq_true, decide_eq_true_eq, Bool.not_eq_true'] at h
  obtain ⟨⟨⟨⟨⟨⟨⟨h1, h2⟩, h3⟩, h4⟩, h5⟩, h6⟩, h7⟩, h8⟩ := h
  subst h1
  have ok : BlkOk X.N X.env.scope scope (ownOf tg t) := by
    rw [C.hN, C.sc]
    exact blkOk_by h3
  have pcs : ∀ (σ0 : L2.St) (s : Shared) (H : Hp) (Ca : Addr) (cl : List (Str × Addr)) (fp : List Addr), PTs (blkX X Wi σ0 s H scope (compEnvC scope cl Ca X.env) fp) ifs (tT K nm (WB Wi σ0) (fun env S => mapT (ev G (run G kk) c env S))) := fun σ0 s H Ca cl fp => by
    have C' := blk_ok (s := s) (H := H) (scope := scope) (cl := cl) (Ca := Ca) (fp := fp) (σ0 := σ0) (Wi := Wi) C
    cases ifs with
    | nil =>
      have h7 : isEmp c = true := h7
      cases c <;> simp only [isEmp] at h7 <;> first | (cases h7; done) | skip
      refine ⟨fun pins s σ H Q I q => pts_nil.run pins s σ H Q I ?_⟩
      obtain ⟨W, S, env, E, r, z⟩ := q
      exact z true W H Ext.refl r rfl
    | cons i is =>
      cases is with
      | nil => exact pts_one (ic.t _ _ _ _ h7 C' blkX_tk)
      | cons _ _ => cases h7
  have pgs : ∀ (s : Shared) (H : Hp) (Ca : Addr) (cl : List (Str × Addr)) (fp : List Addr), PG (X.blk s H scope (compEnvC scope cl Ca X.env) fp) t (gTg K tg) := fun s H Ca cl fp =>
    pg_ok (X := X.blk s H scope (compEnvC scope cl Ca X.env) fp) (sc := relS scope sc) C.hK C.hN C.nd (by rw [← C.sc]; rfl) C.calm (fl := false) (by simp) h5
  have pes : ∀ (σ0 : L2.St) (s : Shared) (H : Hp) (Ca : Addr) (cl : List (Str × Addr)) (fp : List Addr), PE (blkX X Wi σ0 s H scope (compEnvC scope cl Ca X.env) fp) elt (tE K nm (WB Wi σ0) (ev G (run G kk) e)) := fun σ0 s H Ca cl fp =>
    ie.v _ _ _ _ h8 (blk_ok (s := s) (H := H) (scope := scope) (cl := cl) (Ca := Ca) (fp := fp) (σ0 := σ0) (Wi := Wi) C) blkX_tk
  have ndN : X.N.Nodup := by rw [C.hN]; exact C.nd
  refine himp _ _ (hF _ _ _ _ _ (ownOf tg t) _ _ (gTg K tg) _ (fun σ0 => tE K nm (WB Wi σ0) (ev G (run G kk) e)) rfl (pi_src g is C tk h6 hk) ok pgs pcs pes (fold_ok h2 X.env)) fun σ H Q wq => ?_
  obtain ⟨W, S, env, E, r, z⟩ := wq
  refine ⟨W, S, env, E, r, ?_⟩
  simp only [evC] at z
  cases hsrc : ev G (run G kk) src env S with
  | bad => rw [hsrc] at z; exact z.elim
  | ex _ _ => rw [hsrc] at z; dsimp only; rw [hsrc]; exact z
  | ok d S1 =>
    rw [hsrc] at z
    dsimp only
    rw [hsrc]
    simp only [R.bind_ok] at z ⊢
    cases hit : mkIt k (srcL k d) S1 with
    | none => rw [hit] at z; exact z.elim
    | some it =>
      rw [hit] at z
      dsimp only at z
      intro J W1 H1 e1 r1 hJ
      have z := Wq.ext e1 r1.trk z
      have hq : Quk (cBody G (run G kk) tg c e env) (qk k (cBody G (run G kk) tg c e env)) := quk _ _
      generalize hbd : qk k (cBody G (run G kk) tg c e env) = bd at z hq
      have bk : ∀ {m3 : List Addr} {H3 : Hp}, (⟨m3, W1.B⟩ : Wd) = ⟨m3, W1.B⟩ := fun {_ _} => rfl
      cases it with
      | items xs =>
        simp only [goIt] at z
        rw [h4]
        exact comp_items (E.mono r.trk e1) r1 hJ hq (fun h => by rw [h] at z; exact z.elim) (fun c' Sf m3 H3 h g1 g2 => by rw [h] at z; exact z _ H3 g1 g2) fun ys Sf hg Dl m2 av H2 hD ex r2 hd2 p2 => hfr W1 H1 S1 Sf ys Dl m2 av H2 Q (Xw nm Wi σ) r1 hD ex r2 hd2 p2 (by rw [hg] at z; exact z)
      | lkd _ _ _ => exact hJ.elim
      | live n en =>
        simp only [goIt] at z
        rw [h4]
        obtain ⟨a, ha, rfl⟩ := hJ
        exact comp_live (E.mono r.trk e1) r1 ha hq (fun h => by rw [h] at z; exact z.elim) (fun c' Sf m3 H3 h g1 g2 => by rw [h] at z; exact z _ H3 g1 g2) fun ys Sf hg Dl m2 av H2 hD ex r2 hd2 p2 => hfr W1 H1 S1 Sf ys Dl m2 av H2 Q (Xw nm Wi σ) r1 hD ex r2 hd2 p2 (by rw [hg] at z; exact z)
theorem comp_of (g : GOk K mg G Y nm fa fd ps) (k : IK) (src : E) (tg : Tg) (c e : E) (is : Snd P w K mg base G Y nm kk N src) (ic : Snd P w K mg base G Y nm kk N c) (ie : Snd P w K mg base G Y nm kk N e) {fr : List D → Store → R D} (hfr : CompFr K nm fr) {x : Expr}
    (h : chk Y N (.comp k src tg c e) sc x = true) (C : COk P w K mg base kk N sc X) (tk : Tk X Wi) : PE X x (tE K nm Wi (evC G (run G kk) k src tg c e fr)) := by
  by_cases hkR : k = .keysR
  · simp only [chk] at h
    split at h <;> try (cases h; done)
    rename_i elt t iter ifs asy scope pos
    simp only [Bool.and_eq_true, decide_eq_true_eq, Bool.not_eq_true'] at h
    obtain ⟨⟨⟨⟨⟨⟨⟨h1, h2⟩, h3⟩, h4⟩, h5⟩, h6⟩, h7⟩, h8⟩ := h
    subst h1
    have ok : BlkOk X.N X.env.scope scope (ownOf tg t) := by
      rw [C.hN, C.sc]
      exact blkOk_by h3
    have pcs : ∀ (σ0 : L2.St) (s : Shared) (H : Hp) (Ca : Addr) (cl : List (Str × Addr)) (fp : List Addr), PTs (blkX X Wi σ0 s H scope (compEnvC scope cl Ca X.env) fp) ifs (tT K nm (WB Wi σ0) (fun env S => mapT (ev G (run G kk) c env S))) := fun σ0 s H Ca cl fp => by
      have C' := blk_ok (s := s) (H := H) (scope := scope) (cl := cl) (Ca := Ca) (fp := fp) (σ0 := σ0) (Wi := Wi) C
      cases ifs with
      | nil =>
        have h7 : isEmp c = true := h7
        cases c <;> simp only [isEmp] at h7 <;> first | (cases h7; done) | skip
        refine ⟨fun pins s σ H Q I q => pts_nil.run pins s σ H Q I ?_⟩
        obtain ⟨W, S, env, E, r, z⟩ := q
        exact z true W H Ext.refl r rfl
      | cons i is =>
        cases is with
        | nil => exact pts_one (ic.t _ _ _ _ h7 C' blkX_tk)
        | cons _ _ => cases h7
    have pgs : ∀ (s : Shared) (H : Hp) (Ca : Addr) (cl : List (Str × Addr)) (fp : List Addr), PG (X.blk s H scope (compEnvC scope cl Ca X.env) fp) t (gTg K tg) := fun s H Ca cl fp =>
      pg_ok (X := X.blk s H scope (compEnvC scope cl Ca X.env) fp) (sc := relS scope sc) C.hK C.hN C.nd (by rw [← C.sc]; rfl) C.calm (fl := false) (by simp) h5
    have pes : ∀ (σ0 : L2.St) (s : Shared) (H : Hp) (Ca : Addr) (cl : List (Str × Addr)) (fp : List Addr), PE (blkX X Wi σ0 s H scope (compEnvC scope cl Ca X.env) fp) elt (tE K nm (WB Wi σ0) (ev G (run G kk) e)) := fun σ0 s H Ca cl fp =>
      ie.v _ _ _ _ h8 (blk_ok (s := s) (H := H) (scope := scope) (cl := cl) (Ca := Ca) (fp := fp) (σ0 := σ0) (Wi := Wi) C) blkX_tk
    have ndN : X.N.Nodup := by rw [C.hN]; exact C.nd
    subst hkR
    simp only [Bool.and_eq_true] at h6
    obtain ⟨h60, h6⟩ := h6
    have pv := is.v _ _ X Wi h6 C tk
    have pe1 := pe_lcX (pos := pos) (own := ownOf tg t) (g := gTg K tg) (te := fun σ0 => tE K nm (WB Wi σ0) (ev G (run G kk) e)) C.calm ndN tk C.fr (pi_keys pv) ok pgs pcs pes (fold_ok h2 X.env)
    refine (pe_lock pe1).imp fun σ H Q wq => ?_
    obtain ⟨W, S, env, E, r, z⟩ := wq
    simp only [evC] at z
    rcases src_ok (G := G) (call := run G kk) (env := env) (S := S) h60 with ⟨d, hd⟩ | hd
    rotate_left
    · rw [hd] at z; exact z.elim
    rw [hd] at z
    simp only [R.bind_ok, srcL] at z
    cases d <;> simp only [mkIt] at z <;> first | exact z.elim | skip
    rename_i n
    split at z
    rotate_left
    · rename_i hno
      split at hno <;> first | exact z.elim | (cases hno; done)
    rename_i it hit
    split at hit <;> first | (cases hit; done) | skip
    rename_i kvs hS
    cases hit
    have hl : n < W.m.length := by rw [r.len]; exact (List.getElem?_eq_some_iff.mp hS).1
    obtain ⟨a, ha⟩ : ∃ a, W.m[n]? = some a := ⟨_, List.getElem?_eq_getElem hl⟩
    obtain ⟨vs, h1, h4'⟩ := r.ob n a _ ha hS
    have hq : Quk (cBody G (run G kk) tg c e env) (qk .keysR (cBody G (run G kk) tg c e env)) := quk _ _
    have noex : ∀ c' Sf xs acc S, goComp (qk .keysR (cBody G (run G kk) tg c e env)) xs acc S ≠ .ex c' Sf := by
      intro c' Sf xs
      induction xs with
      | nil => intro acc S h; cases h
      | cons x xs ih =>
        intro acc S
        simp only [goComp, qk]
        cases cBody G (run G kk) tg c e env x S with
        | bad => intro h; cases h
        | ex _ _ => intro h; cases h
        | ok o S' =>
          cases o with
          | none => exact ih acc S'
          | some y =>
            simp only [R.quiet_ok, R.bind_ok]
            split
            · exact ih _ S'
            · intro h; cases h
    generalize hbd : qk .keysR (cBody G (run G kk) tg c e env) = bd at z hq noex
    simp only [goIt] at z
    refine ⟨a, .dK vs, h1, trivial, fun od => ?_⟩
    have q := swp_lock (od := od) h1
    have rL : Rel K nm W (S.set n (.lck kvs)) (upd H a (.frz od (.dK vs))) := r.swpS q ha ⟨od, vs, upd_same, h4'.swp q⟩
    have evL := src_lck h60 hS hd
    refine ⟨W, S.set n (.lck kvs), env, E.swp q, rL, ?_⟩
    rw [evL]
    intro v W1 H1 e1 r1 p1
    have nb : goComp bd (kvs.map fun p => kyD p.1) [] (S.set n (.lck kvs)) ≠ .bad := fun h => by rw [h] at z; exact z.elim
    cases p1 with
    | @ref _ a1 hv =>
    obtain ⟨tt, et, ft⟩ := e1.m
    have ea : a1 = a := by
      rw [et, List.getElem?_append_left hl, ha] at hv
      exact (Option.some.inj hv).symm
    subst ea
    have fz1 : H1 a1 = some (.frz od (.dK vs)) := e1.fz _ _ _ upd_same
    refine ⟨a1, od, rfl, .inl ⟨vs, fz1, ?_⟩⟩
    rw [h4]
    refine comp_items (Q := fun v H' => H' a1 = some (.frz od (.dK vs)) ∧ Q v (upd H' a1 (.dK vs))) ((E.swp q).mono rL.trk e1) r1 (.keysF fz1 ((h4'.swp q).mono rL.trk e1)) hq nb (fun c' Sf m3 H3 h => absurd h (noex _ _ _ _ _)) fun ys Sf hg Dl m2 av H2 hD ex r2 hd2 p2 => ?_
    rw [hg] at z
    simp only [unlL] at z
    cases hu : unlS n Sf with
    | none => rw [hu] at z; exact z.elim
    | some S' =>
    rw [hu] at z
    simp only [R.bind_ok] at z
    have eB := e1.B
    have rB := r2.bs Dl (List.mem_cons_self)
    have eT := e1.trans r1.trk ex
    have hDa : Dl ≠ a1 := fun z => by subst z; rw [fz1] at hD; cases hD
    have hD0 : H Dl = none := by
      cases hx : H Dl with
      | none => rfl
      | some o =>
        exfalso
        by_cases hm : Dl ∈ W.m
        · obtain ⟨o', ho, _⟩ := r1.trk Dl (by rw [et]; exact List.mem_append_left _ hm)
          rw [hD] at ho; cases ho
        · have := e1.keep Dl o (by rw [upd_ne hDa]; exact hx) hm
          rw [hD] at this; cases this
    obtain ⟨u1, u2, u3, u4⟩ := unlock_ok (W1 := ⟨m2, W1.B⟩) r ha h1 eT (B := ((⟨m2, W1.B⟩ : Wd).add Dl).B) r2 hu
    rw [eB] at u2 u3 p2
    exact ⟨u1, hfr W H S S' ys Dl m2 av _ Q (Xw nm Wi σ) r hD0 u2 u3 (by rw [upd_ne hDa]; exact hd2) (p2.swp u4) z⟩
  by_cases hk : k = .keys
  · simp only [chk] at h
    split at h <;> try (cases h; done)
    rename_i elt t iter ifs asy scope pos
    simp only [Bool.and_eq_true, decide_eq_true_eq, Bool.not_eq_true'] at h
    obtain ⟨⟨⟨⟨⟨⟨⟨h1, h2⟩, h3⟩, h4⟩, h5⟩, h6⟩, h7⟩, h8⟩ := h
    subst h1
    have ok : BlkOk X.N X.env.scope scope (ownOf tg t) := by
      rw [C.hN, C.sc]
      exact blkOk_by h3
    have pcs : ∀ (σ0 : L2.St) (s : Shared) (H : Hp) (Ca : Addr) (cl : List (Str × Addr)) (fp : List Addr), PTs (blkX X Wi σ0 s H scope (compEnvC scope cl Ca X.env) fp) ifs (tT K nm (WB Wi σ0) (fun env S => mapT (ev G (run G kk) c env S))) := fun σ0 s H Ca cl fp => by
      have C' := blk_ok (s := s) (H := H) (scope := scope) (cl := cl) (Ca := Ca) (fp := fp) (σ0 := σ0) (Wi := Wi) C
      cases ifs with
      | nil =>
        have h7 : isEmp c = true := h7
        cases c <;> simp only [isEmp] at h7 <;> first | (cases h7; done) | skip
        refine ⟨fun pins s σ H Q I q => pts_nil.run pins s σ H Q I ?_⟩
        obtain ⟨W, S, env, E, r, z⟩ := q
        exact z true W H Ext.refl r rfl
      | cons i is =>
        cases is with
        | nil => exact pts_one (ic.t _ _ _ _ h7 C' blkX_tk)
        | cons _ _ => cases h7
    have pgs : ∀ (s : Shared) (H : Hp) (Ca : Addr) (cl : List (Str × Addr)) (fp : List Addr), PG (X.blk s H scope (compEnvC scope cl Ca X.env) fp) t (gTg K tg) := fun s H Ca cl fp =>
      pg_ok (X := X.blk s H scope (compEnvC scope cl Ca X.env) fp) (sc := relS scope sc) C.hK C.hN C.nd (by rw [← C.sc]; rfl) C.calm (fl := false) (by simp) h5
    have pes : ∀ (σ0 : L2.St) (s : Shared) (H : Hp) (Ca : Addr) (cl : List (Str × Addr)) (fp : List Addr), PE (blkX X Wi σ0 s H scope (compEnvC scope cl Ca X.env) fp) elt (tE K nm (WB Wi σ0) (ev G (run G kk) e)) := fun σ0 s H Ca cl fp =>
      ie.v _ _ _ _ h8 (blk_ok (s := s) (H := H) (scope := scope) (cl := cl) (Ca := Ca) (fp := fp) (σ0 := σ0) (Wi := Wi) C) blkX_tk
    have ndN : X.N.Nodup := by rw [C.hN]; exact C.nd
    subst hk
    simp only [Bool.and_eq_true] at h6
    obtain ⟨h60, h6⟩ := h6
    cases src <;> simp only [isVarE] at h60 <;> first | (cases h60; done) | skip
    rename_i vi
    cases iter <;> simp only [chk] at h6 <;> first | (cases h6; done) | skip
    rename_i vx vp
    simp only [Bool.and_eq_true, Bool.not_eq_true', decide_eq_true_eq] at h6
    obtain ⟨⟨⟨g1, g2⟩, g3⟩, g4⟩ := h6
    have pv := pe_var (i := vi) (X := X) (pos := vp) (by rw [C.hN]; exact g1) (vis_ok C g2) g3 g4
    have pe1 := pe_lcX (pos := pos) (own := ownOf tg t) (g := gTg K tg) (te := fun σ0 => tE K nm (WB Wi σ0) (ev G (run G kk) e)) C.calm ndN tk C.fr (pi_keys pv) ok pgs pcs pes (fold_ok h2 X.env)
    refine (pe1.or (pe_lock pe1)).imp fun σ H Q wq => ?_
    obtain ⟨W, S, env, E, r, z⟩ := wq
    simp only [evC, ev] at z
    split at z
    · rename_i d hd
      simp only [R.bind_ok, srcL] at z
      obtain ⟨v, e1, e2⟩ := E.get vi d hd
      cases d <;> simp only [mkIt] at z <;> first | exact z.elim | skip
      rename_i kvs
      have hq : Quk (cBody G (run G kk) tg c e env) (qk .keys (cBody G (run G kk) tg c e env)) := quk _ _
      have noex : ∀ c' Sf xs acc S, goComp (qk .keys (cBody G (run G kk) tg c e env)) xs acc S ≠ .ex c' Sf := by
        intro c' Sf xs
        induction xs with
        | nil => intro acc S h; cases h
        | cons x xs ih =>
          intro acc S
          simp only [goComp, qk]
          cases cBody G (run G kk) tg c e env x S with
          | bad => intro h; cases h
          | ex _ _ => intro h; cases h
          | ok o S' =>
            cases o with
            | none => exact ih acc S'
            | some y =>
              simp only [R.quiet_ok, R.bind_ok]
              split
              · exact ih _ S'
              · intro h; cases h
      generalize hbd : qk .keys (cBody G (run G kk) tg c e env) = bd at z hq noex
      cases e2 with
      | @dct _ a vs h1 h2' h3' h4' =>
      simp only [goIt] at z
      have nb : goComp bd (kvs.map fun p => kyD p.1) [] S ≠ .bad := fun h => by rw [h] at z; exact z.elim
      rcases h1 with h1 | ⟨o, h1⟩
      · refine .inr ⟨a, .dK vs, h1, trivial, fun od => ?_⟩
        have q := swp_lock (od := od) h1
        have rL := r.swp q h2' h3'
        refine ⟨_, e1, a, od, rfl, .inl ⟨vs, upd_same, ?_⟩⟩
        rw [h4]
        refine comp_items (Q := fun v H' => H' a = some (.frz od (.dK vs)) ∧ Q v (upd H' a (.dK vs))) (E.swp q) rL (.keys upd_same h2' (h4'.swp q)) hq nb (fun c' Sf m3 H3 h => absurd h (noex _ _ _ _ _)) fun ys Sf hg Dl m2 av H2 hD ex r2 hd2 p2 => ?_
        have z : Wq K nm (rpD K) W H (fr ys Sf) Q (Xw nm Wi σ) := by rw [hg] at z; exact z
        have ha : H2 a = some (.frz od (.dK vs)) := ex.keep _ _ upd_same h2'
        have hDa : Dl ≠ a := fun z => by subst z; rw [upd_same] at hD; cases hD
        have q2 := swp_unlock ha
        have na : a ∉ m2 := ex.mem (W := W) upd_same h2'
        have nB : a ∉ ((⟨m2, W.B⟩ : Wd).add Dl).B := by
          simp only [Wd.add, List.mem_cons, not_or]
          exact ⟨Ne.symm hDa, h3'⟩
        have hD0 : H Dl = none := by rw [← upd_ne (H := H) (o := .frz od (.dK vs)) hDa]; exact hD
        refine ⟨ha, hfr W H S Sf ys Dl m2 av _ Q (Xw nm Wi σ) r hD0 ⟨rfl, ?_, fun b o hb nb => ?_, fun b od' u hb => ?_⟩ (r2.swp q2 na nB) (by rw [upd_ne hDa]; exact hd2) (p2.swp q2) z⟩
        · obtain ⟨tt, et, ft⟩ := ex.m
          refine ⟨tt, et, fun b hb => ?_⟩
          have := ft b hb
          by_cases z : b = a
          · subst z; rw [upd_same] at this; cases this
          · rw [upd_ne z] at this; exact this
        · by_cases z : b = a
          · subst z
            rw [upd_same]
            rw [h1] at hb
            exact hb
          · rw [upd_ne z]
            exact ex.keep b o (by rw [upd_ne z]; exact hb) nb
        · have z : b ≠ a := fun z => by subst z; rw [h1] at hb; cases hb
          rw [upd_ne z]
          exact ex.fz b od' u (by rw [upd_ne z]; exact hb)
      · refine .inl ⟨_, e1, a, o, rfl, .inl ⟨vs, h1, ?_⟩⟩
        rw [h4]
        exact comp_items E r (.keys h1 h2' h4') hq nb (fun c' Sf m3 H3 h => absurd h (noex _ _ _ _ _)) fun ys Sf hg Dl m2 av H2 hD ex r2 hd2 p2 => hfr W H S Sf ys Dl m2 av H2 Q (Xw nm Wi σ) r hD ex r2 hd2 p2 (by rw [hg] at z; exact z)
    · exact z.elim
  · refine comp_gen g k src tg c e is ic ie hfr h C tk ⟨hk, hkR⟩ (PE X x) (fun t u pt i => pt.imp i) fun elt tg iter ifs scope own pos wi g tt te hx hi ok hg ht he hs => ?_
    subst hx
    have ndN : X.N.Nodup := by rw [C.hN]; exact C.nd
    exact pe_lcX C.calm ndN tk C.fr hi ok hg ht he hs
/-- name = [..] -/
theorem comp_asg (g : GOk K mg G Y nm fa fd ps) (k : IK) (src : E) (tg : Tg) (c e : E) (is : Snd P w K mg base G Y nm kk N src) (ic : Snd P w K mg base G Y nm kk N c) (ie : Snd P w K mg base G Y nm kk N e) {fr : List D → Store → R D} (hfr : CompFr K nm fr) {x : Expr}
    (h : chk Y N (.comp k src tg c e) sc x = true) (C : COk P w K mg base kk N sc X) (tk : Tk X Wi) (hk : k ≠ .keys ∧ k ≠ .keysR) {i : Nat} {y : Str} {py spos : Pos} (hy : X.N[i]? = some y) (hyl : X.env.scope.names.lookup y = some .local)
    (hsw : swapsWith x (some (.Name y py)) spos.line X.env = pure true) : PS X (.Assign [.Name y py] x spos) (tAsg (tE K nm Wi (evC G (run G kk) k src tg c e fr)) (gName i)) := by
  refine comp_gen g k src tg c e is ic ie hfr h C tk hk (fun t => PS X (.Assign [.Name y py] x spos) (tAsg t (gName i))) (fun t u pt im => pt.imp fun D σ H q => im _ _ _ q) fun elt tg iter ifs scope own pos wi g tt te hx hi ok hg ht he hs => ?_
  subst hx
  have ndN : X.N.Nodup := by rw [C.hN]; exact C.nd
  exact ps_setLcX C.calm ndN tk C.fr hy hyl hsw hi ok hg ht he hs
theorem s_comp (g : GOk K mg G Y nm fa fd ps) (k : IK) (src : E) (tg : Tg) (c e : E) (is : Snd P w K mg base G Y nm kk N src) (ic : Snd P w K mg base G Y nm kk N c) (ie : Snd P w K mg base G Y nm kk N e) : Snd P w K mg base G Y nm kk N (.comp k src tg c e) :=
  ⟨fun sc x X Wi h C tk => comp_of g k src tg c e is ic ie fr_lst h C tk, fun sc x X Wi h C tk => by simp [chkT] at h, fun sc a X Wi h C tk => by simp [chkA] at h⟩
end
end PL

set_option Elab.async false
set_option linter.all false
set_option maxRecDepth 100000
set_option maxHeartbeats 2000000
/-! PLX: objects of the store: a new list, append. -/
namespace PL
open PySem PySem.Spec PyProof.Rows L2
section
variable {P : Program} {w : World} {K : PySem.W.Frag} {mg : Str → Option Value} {base : Heap} {G : Tab} {Y : Sx} {nm : Nm} {fa : Nat → Addr} {fd : Nat → FuncData} {ps : Nat → List Str} {kk : Nat} {N : List Str}
variable {sc : Scope} {X : Cx} {Wi : WX} {W W' : Wd} {H H' : Hp} {S S' : Store}
theorem ObRep.mono {a : Addr} {o : Ob} (t : Trk W H) (e : Ext W H W' H') (h : ∀ u, H a = some u → H' a = some u) (q : ObRep K nm W H a o) : ObRep K nm W' H' a o := by
  cases o with
  | lst xs => obtain ⟨vs, e1, q⟩ := q; exact ⟨vs, h _ e1, q.mono t e⟩
  | dct xs => obtain ⟨vs, e1, q⟩ := q; exact ⟨vs, h _ e1, q.mono t e⟩
  | dtt xs => obtain ⟨vs, e1, q⟩ := q; exact ⟨vs, h _ e1, q.mono t e⟩
  | ins c fs => obtain ⟨dx, vs, e1, q⟩ := q; exact ⟨dx, vs, h _ e1, q.mono t e⟩
  | lck xs => obtain ⟨od, vs, e1, q⟩ := q; exact ⟨od, vs, h _ e1, q.mono t e⟩
/-- a new object joins the store -/
theorem Ext.join {p : Addr} {o : HO} (h : H p = none) : Ext W H ⟨W.m ++ [p], W.B⟩ (upd H p o) := ⟨rfl, ⟨[p], rfl, by intro a ha; simp only [List.mem_singleton] at ha; rw [ha]; exact h⟩, fun a u e _ => by rw [upd_ne (ne_of_none e h)]; exact e, fun a od u e => by rw [upd_ne (ne_of_none e h)]; exact e⟩
theorem Rel.join (r : Rel K nm W S H) {p : Addr} {o : HO} {ob : Ob} (h : H p = none) (q : ObRep K nm ⟨W.m ++ [p], W.B⟩ (upd H p o) p ob) : Rel K nm ⟨W.m ++ [p], W.B⟩ (S ++ [ob]) (upd H p o) := by
  have t := r.trk
  have e : Ext W H ⟨W.m ++ [p], W.B⟩ (upd H p o) := Ext.join h
  have hp := (r.fresh h).1
  refine ⟨by simp [r.len], ?_, fun n a ob' h1 h2 => ?_, fun b hb => ?_⟩
  · refine List.nodup_append.mpr ⟨r.nd, by simp, fun a ha b hb => ?_⟩
    simp only [List.mem_singleton] at hb
    intro e; rw [e, hb] at ha; exact hp ha
  · by_cases hn : n < W.m.length
    · have h1' : W.m[n]? = some a := by
        have : (W.m ++ [p])[n]? = some a := h1
        rwa [List.getElem?_append_left hn] at this
      rw [List.getElem?_append_left (by rw [← r.len]; exact hn)] at h2
      exact (r.ob n a ob' h1' h2).mono t e (same_upd h a)
    · have h1' : (W.m ++ [p])[n]? = some a := h1
      rw [List.getElem?_append_right (by omega)] at h1'
      rw [List.getElem?_append_right (by rw [← r.len]; omega)] at h2
      rw [r.len] at h1'
      cases hk : n - S.length with
      | zero =>
        rw [hk] at h1' h2
        simp at h1' h2
        subst h1' h2
        exact q
      | succ k => rw [hk] at h2; simp at h2
  · obtain ⟨z, o', e1⟩ := r.bs b hb
    refine ⟨fun z' => ?_, o', same_upd h _ _ e1⟩
    rcases List.mem_append.mp z' with z' | z'
    · exact z z'
    · simp only [List.mem_singleton] at z'
      rw [z', h] at e1; cases e1
/-- an object of the store is written -/
theorem Ext.put {a : Addr} {o : HO} (h : a ∈ W.m) (hu : Unf H a) : Ext W H W (upd H a o) := ⟨rfl, ⟨[], by simp⟩, fun b u e hb => by rw [upd_ne (show b ≠ a from fun z => hb (by rw [z]; exact h))]; exact e, fun b od u e => by rw [upd_ne (show b ≠ a from fun z => hu od u (z ▸ e))]; exact e⟩
theorem unf_of {a : Addr} {o : HO} (h : H a = some o) (ho : ∀ od u, o ≠ .frz od u) : Unf H a := fun od u z => by rw [h] at z; exact ho od u (Option.some.inj z)
theorem Rel.put (r : Rel K nm W S H) {n : Nat} {a : Addr} {o : HO} {ob : Ob} (h : W.m[n]? = some a) (hu : Unf H a) (q : ObRep K nm W (upd H a o) a ob) : Rel K nm W (S.set n ob) (upd H a o) := by
  have t := r.trk
  have ha : a ∈ W.m := List.mem_of_getElem? h
  have e : Ext W H W (upd H a o) := Ext.put ha hu
  refine ⟨by simp [r.len], r.nd, fun m b ob' h1 h2 => ?_, fun b hb => ?_⟩
  · by_cases hm : m = n
    · subst hm
      rw [h] at h1; cases h1
      rw [List.getElem?_set_self (by rw [← r.len]; exact (List.getElem?_eq_some_iff.mp h).1)] at h2
      cases h2
      exact q
    · rw [List.getElem?_set_ne (fun z => hm z.symm)] at h2
      have hne : b ≠ a := by
        intro z
        subst z
        obtain ⟨l1, e1⟩ := List.getElem?_eq_some_iff.mp h1
        obtain ⟨l2, e2⟩ := List.getElem?_eq_some_iff.mp h
        exact hm ((List.getElem_inj r.nd).mp (e1.trans e2.symm))
      exact (r.ob m b ob' h1 h2).mono t e fun u hu => by rw [upd_ne hne]; exact hu
  · obtain ⟨z, o', e1⟩ := r.bs b hb
    exact ⟨z, o', by rw [upd_ne (show b ≠ a from fun y => z (by rw [y]; exact ha))]; exact e1⟩
/-- the new list joins the store -/
theorem adopt {xs : List D} {vs : List V} {p : Addr} {Q : VK} {Xc : Nat → Hp → Prop} (r : Rel K nm W S H) (pr : Reps K W H xs vs) (hp : H p = none) (z : Wq K nm (rpD K) W H (R.ok (.ref S.length) (S ++ [.lst xs])) Q Xc) : Q (.ref p) (upd H p (.lst vs)) := by
  have e : Ext W H ⟨W.m ++ [p], W.B⟩ (upd H p (.lst vs)) := Ext.join hp
  refine z (.ref p) ⟨W.m ++ [p], W.B⟩ _ e (r.join hp ⟨vs, upd_same, pr.mono r.trk e⟩) (.ref ?_)
  show (W.m ++ [p])[S.length]? = some p
  rw [← r.len, List.getElem?_append_right (Nat.le_refl _), Nat.sub_self]
  rfl
theorem adoptL {xs : List D} {Q : VK} {Xc : Nat → Hp → Prop} (r : Rel K nm W S H) (z : Wq K nm (rpD K) W H (R.ok (.ref S.length) (S ++ [.lst xs])) Q Xc) : FinL K W H xs Q := fun _ _ pr hp => adopt r pr hp z
/-- what .new makes of a value -/
def nw (d : D) (S : Store) : R D := match d with
  | .lst xs => .ok (.ref S.length) (S ++ [.lst xs])
  | _ => .bad
theorem ev_new {call : Calls} {e : E} {env : Env} {S : Store} : ev G call (.new e) env S = (ev G call e env S).bind nw := rfl
theorem nw_of {o : Option D} {Q : VK} {Xc : Nat → Hp → Prop} (z : Wq K nm (rpD K) W H ((R.of o S).bind nw) Q Xc) : ∃ xs, o = some (.lst xs) ∧ Wq K nm (rpD K) W H (R.ok (.ref S.length) (S ++ [.lst xs])) Q Xc := by
  cases o with
  | none => exact z.elim
  | some d => cases d <;> first | exact z.elim | exact ⟨_, rfl, z⟩
variable (P w K mg base G Y nm kk N) in
/-- a new list of this expression -/
structure SndN (e : E) : Prop where
  v : ∀ (sc : Scope) (a : Expr) (X : Cx) (Wi : WX), isFresh e = true → chk Y N e sc a = true → COk P w K mg base kk N sc X → Tk X Wi → PE X a (tE K nm Wi (ev G (run G kk) (.new e)))
theorem SndN.no {e : E} (h : isFresh e = false) : SndN P w K mg base G Y nm kk N e := ⟨fun sc a X Wi q => by rw [h] at q; cases q⟩
theorem s_new (e : E) (ie : SndN P w K mg base G Y nm kk N e) : Snd P w K mg base G Y nm kk N (.new e) := by
  refine ⟨fun sc x X Wi h C tk => ?_, fun sc x X Wi h C tk => by simp [chkT] at h, fun sc a X Wi h C tk => by simp [chkA] at h⟩
  simp only [chk, Bool.and_eq_true] at h
  exact ie.v _ _ _ _ h.1 h.2 C tk
theorem n_lst (as : E) (ia : Snd P w K mg base G Y nm kk N as) : SndN P w K mg base G Y nm kk N (.lst as) := by
  refine ⟨fun sc x X Wi _ h C tk => ?_⟩
  simp only [chk] at h
  split at h <;> try (cases h; done)
  refine (pe_lst (ia.l _ _ X Wi h C tk)).imp fun σ H Q wq => ?_
  have wq : tE K nm Wi (fun env S => (ev G (run G kk) as env S).bind fun xs S => (R.of (mkLst (toTup xs)) S).bind nw) σ H Q := by
    refine (?_ : (fun env S => _) = (fun env S => ev G (run G kk) (.new (.lst as)) env S)) ▸ wq
    funext env S
    rw [ev_new]
    simp only [ev, R.bind_assoc]
  obtain ⟨W, S, env, E, r, z⟩ := tX.args (g := fun _ xs S => (R.of (mkLst (toTup xs)) S).bind nw) wq
  refine ⟨W, S, env, E, r, z.mono fun vs H1 z => ?_⟩
  obtain ⟨W1, S1, xs, env1, E1, r1, p1, z⟩ := z
  obtain ⟨ys, e, z⟩ := nw_of z
  obtain ⟨hz, e2⟩ := mkLst_some (xs := xs) e
  cases e2
  exact ⟨p1.sz hz, fun p hp => adopt r1 p1 hp z⟩
theorem n_bf_of (g : GOk K mg G Y nm fa fd ps) (f : Bf) (as : E) (ia : Snd P w K mg base G Y nm kk N as)
    (hb : ∀ (X : Cx), X.K = K → X.calm = true → ∃ (id : String) (r : List V → Hp → VK → Prop), ((CallR X (.builtin id) r ∧ bootBuiltins (bfN f) = some (.builtin id)) ∨ (CallR X (.type id) r ∧ bootBuiltins (bfN f) = some (.type id))) ∧
      ∀ (W : Wd) (S : Store) (H : Hp) (as : List D) (vs : List V) (xs : List D) (Q : VK), Rel K nm W S H → Reps K W H as vs → bfD f as S = some (.lst xs) → FinL K W H xs Q → r vs H Q)
    (hn : bfN f ≠ "__name__" := by decide +kernel) (hd : (bfN f == ("__debug__" : Str)) = false := by decide +kernel) : SndN P w K mg base G Y nm kk N (.bf f as) := by
  refine ⟨fun sc x X Wi _ h C tk => ?_⟩
  simp only [chk] at h
  split at h <;> try (cases h; done)
  simp only [Bool.and_eq_true, decide_eq_true_eq] at h
  obtain ⟨⟨⟨⟨h0, h1⟩, h2⟩, h3⟩, h4⟩ := h
  subst h1
  have pa := ia.l _ _ X Wi h4 C tk
  have m1 : X.mg (bfN f) = none := by rw [C.hm]; exact g.bl _ h3
  obtain ⟨id, r, hc, ad⟩ := hb X C.hK C.calm
  have fin : ∀ {σ : L2.St} {H : Hp} {Q : VK}, tE K nm Wi (ev G (run G kk) (.new (.bf f as))) σ H Q → tCB r (tA K nm Wi (ev G (run G kk) as)) σ H Q := fun {σ H Q} wq => by
    have wq : tE K nm Wi (fun env S => (ev G (run G kk) as env S).bind fun xs S => (R.of (bfD f (toTup xs) S) S).bind nw) σ H Q := by
      refine (?_ : (fun env S => _) = (fun env S => ev G (run G kk) (.new (.bf f as)) env S)) ▸ wq
      funext env S
      rw [ev_new]
      simp only [ev, R.bind_assoc]
    obtain ⟨W, S, env, E, r', z⟩ := tX.args (g := fun _ xs S => (R.of (bfD f (toTup xs) S) S).bind nw) wq
    refine ⟨W, S, env, E, r', z.mono fun vs H1 z => ?_⟩
    obtain ⟨W1, S1, xs, env1, E1, r1, p1, z⟩ := z
    obtain ⟨ys, e, z⟩ := nw_of z
    exact ad W1 S1 H1 xs vs ys Q r1 p1 e (adoptL r1 z)
  rcases hc with ⟨hc, hv⟩ | ⟨hc, hv⟩
  · exact (pe_callB hc (gl_ok C h2) m1 hv pa hn hd (star_ok (star1 h4)) (stars_ok1 h4)).imp fun σ H Q wq => fin wq
  · exact (pe_callTy hc (gl_ok C h2) m1 hv pa hn hd (star_ok (star1 h4)) (stars_ok1 h4)).imp fun σ H Q wq => fin wq
theorem n_bf (g : GOk K mg G Y nm fa fd ps) (f : Bf) (as : E) (ia : Snd P w K mg base G Y nm kk N as) : SndN P w K mg base G Y nm kk N (.bf f as) := by
  cases f with
  | list => exact n_bf_of g .list as ia fun X e c => ⟨"list", _, .inr ⟨call_list_of.or (call_listD c), by decide +kernel⟩, fun W S H as vs xs Q r p h f => e ▸ list_new r p h f⟩
  | sorted => exact n_bf_of g .sorted as ia fun X e c => ⟨"sorted", _, .inl ⟨cr_srt c, by decide +kernel⟩, fun W S H as vs xs Q r p h f => e ▸ sort_new r p h f⟩
  | _ => exact SndN.no rfl
theorem cat_new {x y : D} {u v : V} {zs : List D} {Q : VK} (r : Rel K nm W S H) (p : Rep K W H x u) (q : Rep K W H y v) (h : bop .add x y S = some (.lst zs)) (f : FinL K W H zs Q) : rAdd4 K u v H Q := by
  simp only [bop, addD] at h
  split at h
  · cases h
  · split at h <;> cases h
  · split at h <;> cases h
  · split at h
    · rename_i a b e1 e2
      split at h
      · rename_i hz
        cases h
        obtain ⟨a, vs, rfl, h1, p1⟩ := rep_lst r p e1
        obtain ⟨b, ws, rfl, h2, p2⟩ := rep_lst r q e2
        exact .inr ⟨a, b, vs, ws, rfl, rfl, h1, h2, by rw [p1.lens, p2.lens, ← SZ_eq]; exact hz, fun p hp => f _ _ (p1.append p2) hp⟩
      · cases h
    · cases h
theorem rep_new {x y : D} {u v : V} {zs : List D} {Q : VK} (r : Rel K nm W S H) (p : Rep K W H x u) (q : Rep K W H y v) (h : bop .mul x y S = some (.lst zs)) (f : FinL K W H zs Q) : rMul3 K u v H Q := by
  simp only [bop, mulD] at h
  split at h
  · split at h <;> cases h
  · split at h <;> cases h
  · split at h
    · split at h
      · rename_i e1 z
        cases h
        cases q
        obtain ⟨a, vs, rfl, h1, p1⟩ := rep_lst r p e1
        refine .inr ⟨a, _, vs, rfl, rfl, h1, by omega, by omega, ?_, fun p hp => f _ _ (p1.rep _) hp⟩
        rw [p1.lens, sizeLine_eq]
        have := Nat.mul_le_mul z.2.2 (show (Int.toNat _) ≤ 1000 from Int.toNat_le.mpr z.2.1)
        omega
      · cases h
    · cases h
  · cases h
theorem n_bin (o : BOp) (a b : E) (ia : Snd P w K mg base G Y nm kk N a) (ib : Snd P w K mg base G Y nm kk N b) : SndN P w K mg base G Y nm kk N (.bin o a b) := by
  refine ⟨fun sc x X Wi fr h C tk => ?_⟩
  cases x <;> simp only [chk] at h <;> first | (cases h; done) | skip
  simp only [Bool.and_eq_true, decide_eq_true_eq] at h
  obtain ⟨⟨h1, h2⟩, h3⟩ := h
  have pa := ia.v _ _ X Wi h2 C tk
  have pb := ib.v _ _ X Wi h3 C tk
  subst h1
  have eq : (fun env S => ev G (run G kk) (.new (.bin o a b)) env S) = fun env S => (ev G (run G kk) a env S).bind fun x S => (ev G (run G kk) b env S).bind fun y S => (R.of (bop o x y S) S).bind nw := by
    funext env S
    rw [ev_new]
    simp only [ev, R.bind_assoc]
  rw [show ev G (run G kk) (.new (.bin o a b)) = _ from eq]
  have e1 := C.hK
  subst e1
  cases o with
  | add => exact (pe_op op_add4 pa pb).imp fun σ H Q wq => tX.op wq fun r p q z => by obtain ⟨zs, e, z⟩ := nw_of z; exact cat_new r p q e (adoptL r z)
  | mul => exact (pe_op op_mul3 pa pb).imp fun σ H Q wq => tX.op wq fun r p q z => by obtain ⟨zs, e, z⟩ := nw_of z; exact rep_new r p q e (adoptL r z)
  | _ => cases fr
theorem sl_new {x : D} {u : V} {lo hi : Option Int} {zs : List D} {Q : VK} (r : Rel K nm W S H) (p : Rep K W H x u) (h : slD x lo hi S = some (.lst zs)) (f : FinL K W H zs Q) : rSl3 K u lo hi H Q := by
  simp only [slD] at h
  split at h
  · split at h <;> cases h
  · cases h
  · cases h
    cases p with
    | @scr _ a h1 => exact .inl (.inr ⟨a, _, rfl, h1.sq, fun p hp => f _ _ (reps_cut (reps_int _)) hp⟩)
  · split at h
    · rename_i e
      cases h
      obtain ⟨a, vs, rfl, h1, p1⟩ := rep_lst r p e
      exact .inl (.inr ⟨a, vs, rfl, .inl h1, fun p hp => f _ _ (reps_cut p1) hp⟩)
    · cases h
theorem n_sl (a lo hi : E) (ia : Snd P w K mg base G Y nm kk N a) (il : Snd P w K mg base G Y nm kk N lo) (ih : Snd P w K mg base G Y nm kk N hi) : SndN P w K mg base G Y nm kk N (.sl a lo hi) := by
  refine ⟨fun sc x X Wi _ h C tk => ?_⟩
  simp only [chk] at h
  split at h <;> try (cases h; done)
  simp only [Bool.and_eq_true] at h
  obtain ⟨⟨h1, h2⟩, h3⟩ := h
  have pa := ia.v _ _ X Wi h1 C tk
  have pl := part_ok il h2 C tk
  have ph := part_ok ih h3 C tk
  have e1 := C.hK
  subst e1
  refine (pe_slice sl_3 pa pl ph).imp fun σ H Q wq => ?_
  obtain ⟨W, S, env, E, r, z⟩ := wq
  have z : Wq X.K nm (rpD X.K) W H ((ev G (run G kk) a env S).bind fun x S => (evP G (run G kk) lo env S).bind fun l S => (evP G (run G kk) hi env S).bind fun h S => (R.of (slD x l h S) S).bind nw) Q (Xw nm Wi σ) := by
    rw [ev_new] at z
    simp only [ev, R.bind_assoc] at z
    exact z
  refine ⟨W, S, env, E, r, (Wq.bind (rp := rpD X.K) z).mono fun x H1 z => ?_⟩
  obtain ⟨W1, S1, dx, e1, r1, p1, z⟩ := z
  have E1 := E.mono r.trk e1
  refine ⟨W1, S1, env, E1, r1, (Wq.bind (rp := rpO) z).mono fun l H2 z => ?_⟩
  obtain ⟨W2, S2, dl, e2, r2, p2, z⟩ := z
  have E2 := E1.mono r1.trk e2
  cases (show dl = l from p2)
  refine ⟨W2, S2, env, E2, r2, (Wq.bind (rp := rpO) z).mono fun h H3 z => ?_⟩
  obtain ⟨W3, S3, dh, e3, r3, p3, z⟩ := z
  cases (show dh = h from p3)
  obtain ⟨zs, e, z⟩ := nw_of z
  exact sl_new r3 ((p1.mono r1.trk e2).mono r2.trk e3) e (adoptL r3 z)
mutual
theorem Rep.moveB {p : Addr} : ∀ {d : D} {v : V}, Rep K (W.add p) H d v → Rep K ⟨W.m ++ [p], W.B⟩ H d v
  | _, _, .non => .non
  | _, _, .bl b => .bl b
  | _, _, .int i => .int i
  | _, _, .str x => .str x
  | _, _, .tup h r => .tup h (Reps.moveB r)
  | _, _, .lst h a b r => .lst h (by
      simp only [Wd.add, List.mem_cons, not_or] at a b
      simp only [List.mem_append, List.mem_singleton, not_or]
      exact ⟨a, b.1⟩) (fun z => b (List.mem_cons_of_mem _ z)) (Reps.moveB r)
  | _, _, .dct h a b r => .dct h (by
      simp only [Wd.add, List.mem_cons, not_or] at a b
      simp only [List.mem_append, List.mem_singleton, not_or]
      exact ⟨a, b.1⟩) (fun z => b (List.mem_cons_of_mem _ z)) (RepK.moveB r)
  | _, _, .ref h => .ref ((List.getElem?_append_left (List.getElem?_eq_some_iff.mp h).1).trans h)
  | _, _, .scr h => .scr h
theorem Reps.moveB {p : Addr} : ∀ {d : List D} {v : List V}, Reps K (W.add p) H d v → Reps K ⟨W.m ++ [p], W.B⟩ H d v
  | _, _, .nil => .nil
  | _, _, .cons r rs => .cons (Rep.moveB r) (Reps.moveB rs)
theorem RepK.moveB {p : Addr} : ∀ {d : List (Ky × D)} {v : List (Key × V)}, RepK K (W.add p) H d v → RepK K ⟨W.m ++ [p], W.B⟩ H d v
  | _, _, .nil => .nil
  | _, _, .cons r rs => .cons (Rep.moveB r) (RepK.moveB rs)
end
theorem Rel.moveB {p : Addr} {xs : List D} {vs : List V} (r : Rel K nm (W.add p) S H) (hp : H p = some (.lst vs)) (pr : Reps K (W.add p) H xs vs) (nb : p ∉ W.B) : Rel K nm ⟨W.m ++ [p], W.B⟩ (S ++ [.lst xs]) H := by
  have hn := (r.bs p List.mem_cons_self).1
  refine ⟨?_, ?_, fun n a ob h1 h2 => ?_, fun b hb => ?_⟩
  · have := r.len
    simp only [Wd.add] at this
    simp [this]
  · exact List.nodup_append.mpr ⟨r.nd, by simp, fun a ha b hb => by
      simp only [List.mem_singleton] at hb
      intro e; rw [e, hb] at ha; exact hn ha⟩
  · have hl : W.m.length = S.length := r.len
    by_cases hlt : n < W.m.length
    · have h1' : W.m[n]? = some a := by
        have : (W.m ++ [p])[n]? = some a := h1
        rwa [List.getElem?_append_left hlt] at this
      rw [List.getElem?_append_left (by rw [← hl]; exact hlt)] at h2
      exact ob_map (fun d v q => q.moveB) (fun d v q => q.moveB) (fun d v q => q.moveB) (fun u e => e) (r.ob n a ob h1' h2)
    · have h1' : (W.m ++ [p])[n]? = some a := h1
      rw [List.getElem?_append_right (by omega)] at h1'
      rw [List.getElem?_append_right (by omega)] at h2
      rw [hl] at h1'
      cases hk : n - S.length with
      | zero =>
        rw [hk] at h1' h2
        simp at h1' h2
        subst h1' h2
        exact ⟨vs, hp, pr.moveB⟩
      | succ k => rw [hk] at h2; simp at h2
  · have hb' : b ∈ (W.add p).B := List.mem_cons_of_mem _ hb
    obtain ⟨z, o, e⟩ := r.bs b hb'
    refine ⟨fun q => ?_, o, e⟩
    rcases List.mem_append.mp q with q | q
    · exact z q
    · rw [List.mem_singleton.mp q] at hb; exact nb hb
theorem Rel.moveO {p : Addr} {ob : Ob} (r : Rel K nm (W.add p) S H) (hp : ObRep K nm ⟨W.m ++ [p], W.B⟩ H p ob) (nb : p ∉ W.B) : Rel K nm ⟨W.m ++ [p], W.B⟩ (S ++ [ob]) H := by
  have hn := (r.bs p List.mem_cons_self).1
  refine ⟨?_, ?_, fun n a o h1 h2 => ?_, fun b hb => ?_⟩
  · have := r.len
    simp only [Wd.add] at this
    simp [this]
  · exact List.nodup_append.mpr ⟨r.nd, by simp, fun a ha b hb => by
      simp only [List.mem_singleton] at hb
      intro e; rw [e, hb] at ha; exact hn ha⟩
  · have hl : W.m.length = S.length := r.len
    by_cases hlt : n < W.m.length
    · have h1' : W.m[n]? = some a := by
        have : (W.m ++ [p])[n]? = some a := h1
        rwa [List.getElem?_append_left hlt] at this
      rw [List.getElem?_append_left (by rw [← hl]; exact hlt)] at h2
      exact ob_map (fun d v q => q.moveB) (fun d v q => q.moveB) (fun d v q => q.moveB) (fun u e => e) (r.ob n a o h1' h2)
    · have h1' : (W.m ++ [p])[n]? = some a := h1
      rw [List.getElem?_append_right (by omega)] at h1'
      rw [List.getElem?_append_right (by omega)] at h2
      rw [hl] at h1'
      cases hk : n - S.length with
      | zero =>
        rw [hk] at h1' h2
        simp at h1' h2
        subst h1' h2
        exact hp
      | succ k => rw [hk] at h2; simp at h2
  · have hb' : b ∈ (W.add p).B := List.mem_cons_of_mem _ hb
    obtain ⟨z, o, e⟩ := r.bs b hb'
    refine ⟨fun q => ?_, o, e⟩
    rcases List.mem_append.mp q with q | q
    · exact z q
    · rw [List.mem_singleton.mp q] at hb; exact nb hb
/-! ### list(range(..)) -/
/-- the range of these arguments -/
theorem rng_of {k : IK} {xs ys : List D} {vs : List V} (p : Reps K W H xs vs) (h : mkIt k xs S = some (.items ys)) (hk : k = .rng1 ∨ k = .rng2 ∨ k = .rng3) :
    ∃ lo hi c n, RgA vs lo hi c ∧ Builtin.Range.small lo hi c = true ∧ Builtin.Range.rangeSize lo hi c = ((n : Nat) : Int) ∧ ys = rngD lo c n := by
  rcases hk with rfl | rfl | rfl
  · simp only [mkIt] at h
    split at h <;> try (cases h; done)
    all_goals first | (rename_i hc; cases hc; done) | skip
    rename_i j hk
    split at h <;> cases h
    rename_i hj
    obtain ⟨v, rfl, q⟩ := reps1 p
    cases q
    refine ⟨0, j, 1, j.toNat, .inl ⟨rfl, rfl, rfl⟩, small_one (by omega) (by omega) (b62_ok hj).1 (b62_ok hj).2, ?_, rfl⟩
    rw [rangeSize_one]
    split <;> omega
  · simp only [mkIt] at h
    split at h <;> try (cases h; done)
    all_goals first | (rename_i hc; cases hc; done) | skip
    rename_i i j hk
    split at h <;> cases h
    rename_i hb
    simp only [Bool.and_eq_true] at hb
    obtain ⟨v, u, rfl, q1, q2⟩ := reps2 p
    cases q1; cases q2
    refine ⟨i, j, 1, (j - i).toNat, .inr (.inl ⟨rfl, rfl⟩), small_one (b62_ok hb.1).1 (b62_ok hb.1).2 (b62_ok hb.2).1 (b62_ok hb.2).2, ?_, rfl⟩
    rw [rangeSize_one]
    split <;> omega
  · simp only [mkIt] at h
    split at h <;> try (cases h; done)
    all_goals first | (rename_i hc; cases hc; done) | skip
    rename_i i j c hk
    split at h <;> cases h
    rename_i hb
    simp only [Bool.and_eq_true] at hb
    have hc := tst_iff.mp hb.2
    obtain ⟨c0, c1, c2, c3⟩ := rangeC_ok hb.1.1 hb.1.2 hc
    cases p with | cons q1 p => cases p with | cons q2 p => cases p with | cons q3 p =>
    cases p; cases q1; cases q2; cases q3
    exact ⟨i, j, c, _, .inr (.inr ⟨rfl, by omega, by omega⟩), c2, c3, rfl⟩
theorem reps_rng {lo c : Int} {n : Nat} : Reps K W H (rngD lo c n) ((List.range n).map fun (i : Nat) => V.int (lo + i * c)) := by
  unfold rngD
  induction List.range n with
  | nil => exact .nil
  | cons k l ih => exact .cons (.int _) ih
theorem lrng_of (g : GOk K mg G Y nm fa fd ps) (k : IK) (as : E) (ia : Snd P w K mg base G Y nm kk N as) {fr : List D → Store → R D} (hfr : ∀ {W : Wd} {S : Store} {H : Hp} {ys : List D} {Q : VK} {Xc : Nat → Hp → Prop}, Rel K nm W S H → Wq K nm (rpD K) W H (fr ys S) Q Xc → FinL K W H ys Q) {x : Expr}
    (h : chk Y N (.lrng k as) sc x = true) (C : COk P w K mg base kk N sc X) (tk : Tk X Wi) : PE X x (tE K nm Wi fun env S => (ev G (run G kk) as env S).bind fun xs S => match mkIt k (toTup xs) S with
    | some (.items ys) => if ys.length ≤ SZ then fr ys S else .bad
    | _ => .bad) := by
  simp only [chk] at h
  split at h <;> try (cases h; done)
  rename_i g1 p1 r1 p2 q qs pos1 pos2
  simp only [Bool.and_eq_true, decide_eq_true_eq] at h
  obtain ⟨⟨⟨⟨⟨⟨⟨h1, h2⟩, h3⟩, h4⟩, h5⟩, h6⟩, h7⟩, h8⟩ := h
  subst h1 h2
  have hk : k = .rng1 ∨ k = .rng2 ∨ k = .rng3 := by
    cases k <;> first | exact .inl rfl | exact .inr (.inl rfl) | exact .inr (.inr rfl) | cases h7
  refine (pe_listRc C.calm (gl_ok C h3) (by rw [C.hm]; exact g.bl _ h5) (prc (gl_ok C h4) (by rw [C.hm]; exact g.bl _ h6) (ia.l _ _ X Wi h8 C tk) (star_ok (star1 h8)) (stars_ok1 h8)) rfl).imp fun σ H Q wq => ?_
  obtain ⟨W, S, env, E, r, z⟩ := tX.args (g := fun _ xs S => match mkIt k (toTup xs) S with
    | some (.items ys) => if ys.length ≤ SZ then fr ys S else .bad
    | _ => .bad) wq
  refine ⟨W, S, env, E, r, z.mono fun vs H1 z => ?_⟩
  obtain ⟨W1, S1, xs, env1, E1, r1, p1, z⟩ := z
  cases hm : mkIt k (toTup (.tup xs)) S1 with
  | none => rw [hm] at z; exact z.elim
  | some it =>
    rw [hm] at z
    cases it with
    | live _ _ => exact z.elim
    | lkd _ _ _ => exact z.elim
    | items ys =>
      dsimp only at z
      split at z <;> try exact z.elim
      rename_i hz
      obtain ⟨lo, hi, c, n, e1, e2, e3, rfl⟩ := rng_of p1 hm hk
      refine ⟨lo, hi, c, e1, n, e2, e3, ?_, fun q hq => hfr r1 z _ _ reps_rng hq⟩
      rw [rngD_len] at hz
      exact hz
theorem s_lrng (g : GOk K mg G Y nm fa fd ps) (k : IK) (as : E) (ia : Snd P w K mg base G Y nm kk N as) : Snd P w K mg base G Y nm kk N (.lrng k as) :=
  ⟨fun sc x X Wi h C tk => lrng_of g k as ia (fr := fun ys S => .ok (.lst ys) S) (fun r z => by
    have f : Fin K nm _ _ _ _ _ := fun v W' H' e r' p => z v W' H' e r' p
    exact f.finL r) h C tk, fun sc x X Wi h C tk => by simp [chkT] at h, fun sc a X Wi h C tk => by simp [chkA] at h⟩
theorem n_lrng (g : GOk K mg G Y nm fa fd ps) (k : IK) (as : E) (ia : Snd P w K mg base G Y nm kk N as) : SndN P w K mg base G Y nm kk N (.lrng k as) := by
  refine ⟨fun sc x X Wi _ h C tk => ?_⟩
  have eq : ev G (run G kk) (.new (.lrng k as)) = fun env S => (ev G (run G kk) as env S).bind fun xs S => match mkIt k (toTup xs) S with
      | some (.items ys) => if ys.length ≤ SZ then R.ok (.ref S.length) (S ++ [.lst ys]) else .bad
      | _ => .bad := by
    funext env S
    rw [ev_new]
    simp only [ev, R.bind_assoc]
    congr 1
    funext xs S
    cases mkIt k (toTup xs) S with
    | none => rfl
    | some it =>
      cases it with
      | live _ _ => rfl
      | lkd _ _ _ => rfl
      | items ys =>
        dsimp only
        split <;> rfl
  rw [eq]
  exact lrng_of g k as ia (fr := fun ys S => .ok (.ref S.length) (S ++ [.lst ys])) (fun r z => adoptL r z) h C tk
theorem fr_new : CompFr K nm fun ys S => .ok (.ref S.length) (S ++ [.lst ys]) := by
  intro W1 H1 S1 Sf ys Dl m2 av H Q Xc r1 hD e1 r2 hd p2 z
  obtain ⟨t, et, ft⟩ := e1.m
  have et : m2 = W1.m ++ t := et
  refine z (.ref Dl) ⟨m2 ++ [Dl], W1.B⟩ H ⟨rfl, ⟨t ++ [Dl], by rw [et, List.append_assoc], fun a ha => ?_⟩, e1.keep, e1.fz⟩ (r2.moveB hd p2 fun hm => ?_) (.ref ?_)
  · rcases List.mem_append.mp ha with ha | ha
    · exact ft a ha
    · rw [List.mem_singleton.mp ha]; exact hD
  · obtain ⟨_, o, ho⟩ := r1.bs Dl hm
    rw [hD] at ho; cases ho
  · have hl : m2.length = Sf.length := r2.len
    show (m2 ++ [Dl])[Sf.length]? = some Dl
    rw [← hl, List.getElem?_append_right (Nat.le_refl _), Nat.sub_self]
    rfl
theorem new_comp_eq {k : IK} {src : E} {tg : Tg} {c e : E} : ev G (run G kk) (.new (.comp k src tg c e)) = evC G (run G kk) k src tg c e fun ys S => .ok (.ref S.length) (S ++ [.lst ys]) := by
  funext env S
  rw [ev_new]
  simp only [ev, evC, R.bind_assoc]
  congr 1
  funext xs S
  cases mkIt k (srcL k xs) S with
  | none => rfl
  | some it =>
    show ((goIt it (qk k (cBody G (run G kk) tg c e env)) S).bind fun ys S => R.ok (D.lst ys) S).bind nw = _
    rw [R.bind_assoc]
    rfl
theorem n_comp (g : GOk K mg G Y nm fa fd ps) (k : IK) (src : E) (tg : Tg) (c e : E) (is : Snd P w K mg base G Y nm kk N src) (ic : Snd P w K mg base G Y nm kk N c) (ie : Snd P w K mg base G Y nm kk N e) : SndN P w K mg base G Y nm kk N (.comp k src tg c e) := by
  refine ⟨fun sc x X Wi _ h C tk => ?_⟩
  rw [new_comp_eq]
  exact comp_of g k src tg c e is ic ie fr_new h C tk
end
end PL

set_option Elab.async false
set_option linter.all false
set_option maxRecDepth 100000
set_option maxHeartbeats 2000000
/-! PLY: dicts, methods of built-ins, f-strings. -/
namespace PL
open PySem PySem.Spec PyProof.Rows L2
section
variable {P : Program} {w : World} {K : PySem.W.Frag} {mg : Str → Option Value} {base : Heap} {G : Tab} {Y : Sx} {nm : Nm} {fa : Nat → Addr} {fd : Nat → FuncData} {ps : Nat → List Str} {kk : Nat} {N : List Str}
variable {sc : Scope} {X : Cx} {Wi : WX} {W W' : Wd} {H H' : Hp} {S S' : Store}
/-! ### dicts, by values -/
theorem key_ok {d : D} {v : V} {k : Ky} (p : Rep K W H d v) (h : keyOf d = some k) : v = kV k := by
  cases p <;> simp only [keyOf] at h <;> first | (cases h; done) | (cases h; rfl)
theorem val_ok {ds : List (Ky × D)} {vs : List (Key × V)} (p : RepK K W H ds vs) (k : Ky) : (∀ d, getK ds k = some d → ∃ v, valV vs k = some v ∧ Rep K W H d v) ∧ (getK ds k = none → valV vs k = none) := by
  induction ds generalizing vs with
  | nil => cases p; exact ⟨fun d h => (by cases h), fun _ => rfl⟩
  | cons x ds ih =>
    cases p with
    | @cons k' d v _ vs a b =>
      obtain ⟨i1, i2⟩ := ih b
      by_cases e : k' = k
      · subst e
        rw [valV_pos (p := (k', v)) rfl]
        simp only [getK, if_true]
        exact ⟨fun d' h => (by cases h; exact ⟨v, rfl, a⟩), fun h => (by cases h)⟩
      · rw [valV_neg (p := (k', v)) e]
        simp only [getK, if_neg e]
        exact ⟨i1, i2⟩
theorem any_keys {ds : List (Ky × D)} {vs : List (Key × V)} (p : RepK K W H ds vs) (k : Ky) : (vs.any fun kv => decide (kv.1 = k)) = ds.any fun e => decide (e.1 = k) := by
  induction ds generalizing vs with
  | nil => cases p; rfl
  | cons x ds ih =>
    cases p with
    | cons a b => simp [ih b]
theorem repK_append {ds es : List (Ky × D)} {vs us : List (Key × V)} (p : RepK K W H ds vs) (q : RepK K W H es us) : RepK K W H (ds ++ es) (vs ++ us) := by
  induction ds generalizing vs with
  | nil => cases p; exact q
  | cons x ds ih =>
    cases p with
    | cons a b => exact .cons a (ih b)
theorem put_map {ds : List (Ky × D)} {vs : List (Key × V)} {k : Ky} {d : D} {v : V} (p : RepK K W H ds vs) (q : Rep K W H d v) : RepK K W H (ds.map fun e => if e.1 = k then (e.1, d) else e) (vs.map fun kv => if kv.1 = k then (kv.1, v) else kv) := by
  induction ds generalizing vs with
  | nil => cases p; exact .nil
  | cons x ds ih =>
    cases p with
    | @cons k' d' v' _ vs a b =>
      simp only [List.map_cons]
      by_cases e : k' = k
      · subst e
        simp only [if_true]
        exact .cons q (ih b)
      · simp only [if_neg e]
        exact .cons a (ih b)
theorem put_ok {ds : List (Ky × D)} {vs : List (Key × V)} {k : Ky} {d : D} {v : V} (p : RepK K W H ds vs) (q : Rep K W H d v) : RepK K W H (setK ds k d) (putK vs k v) := by
  unfold setK putK
  rw [any_keys p k]
  split
  · exact put_map p q
  · exact repK_append p (.cons q .nil)
theorem drop_ok {ds : List (Ky × D)} {vs : List (Key × V)} {k : Ky} (p : RepK K W H ds vs) : RepK K W H (delK ds k) (dropK vs k) := by
  unfold delK dropK
  induction ds generalizing vs with
  | nil => cases p; exact .nil
  | cons x ds ih =>
    cases p with
    | @cons k' d' v' _ vs a b =>
      simp only [List.filter_cons]
      by_cases e : k' = k
      · subst e; simpa using ih b
      · simp only [ne_eq, e, not_false_eq_true, decide_true, if_true]
        exact .cons a (ih b)
/-- a dict of the store is written -/
theorem Rel.putD (r : Rel K nm W S H) {n : Nat} {a : Addr} {ds : List (Ky × D)} {vs : List (Key × V)} (h : W.m[n]? = some a) (hu : Unf H a) (q : RepK K W H ds vs) : Ext W H W (upd H a (.dK vs)) ∧ Rel K nm W (S.set n (.dct ds)) (upd H a (.dK vs)) := by
  have e : Ext W H W (upd H a (.dK vs)) := Ext.put (List.mem_of_getElem? h) hu
  exact ⟨e, r.put h hu ⟨vs, upd_same, q.mono r.trk e⟩⟩
theorem Rel.putL (r : Rel K nm W S H) {n : Nat} {a : Addr} {ds : List D} {vs : List V} (h : W.m[n]? = some a) (hu : Unf H a) (q : Reps K W H ds vs) : Ext W H W (upd H a (.lst vs)) ∧ Rel K nm W (S.set n (.lst ds)) (upd H a (.lst vs)) := by
  have e : Ext W H W (upd H a (.lst vs)) := Ext.put (List.mem_of_getElem? h) hu
  exact ⟨e, r.put h hu ⟨vs, upd_same, q.mono r.trk e⟩⟩
theorem s_dict0 : Snd P w K mg base G Y nm kk N .dict0 := by
  refine ⟨fun sc x X Wi h C tk => ?_, fun sc x X Wi h C tk => by simp [chkT] at h, fun sc a X Wi h C tk => by simp [chkA] at h⟩
  simp only [chk] at h
  split at h <;> try (cases h; done)
  refine pe_dnewK.imp fun σ H Q wq p hp => ?_
  obtain ⟨W, S, env, E, r, z⟩ := wq
  simp only [ev] at z
  have e : Ext W H ⟨W.m ++ [p], W.B⟩ (upd H p (.dK [])) := Ext.join hp
  refine z (.ref p) ⟨W.m ++ [p], W.B⟩ _ e (r.join hp ⟨[], upd_same, .nil⟩) (.ref ?_)
  show (W.m ++ [p])[S.length]? = some p
  rw [← r.len, List.getElem?_append_right (Nat.le_refl _), Nat.sub_self]
  rfl
theorem din_ok {x y : D} {b : Bool} {u v : V} (r : Rel K nm W S H) (p : Rep K W H x u) (q : Rep K W H y v) (h : dinD x y S = some b) : ∃ a o, v = .ref a ∧ DGet H a u o ∧ o.isSome = b := by
  simp only [dinD] at h
  split at h
  · rename_i kvs e
    rw [Option.map_eq_some_iff] at h
    obtain ⟨k, h1, h2⟩ := h
    obtain ⟨a, vs, rfl, h3, h4⟩ := rep_dct r q e
    refine ⟨a, valV vs k, rfl, .inl ⟨vs, k, h3, key_ok p h1, rfl⟩, ?_⟩
    obtain ⟨g1, g2⟩ := val_ok h4 k
    cases hg : getK kvs k with
    | none => rw [hg] at h2; rw [g2 hg]; exact h2
    | some d => rw [hg] at h2; obtain ⟨v, e1, _⟩ := g1 d hg; rw [e1]; exact h2
  · cases h
def ngB : Bool → Bool → Bool
  | true, b => !b
  | false, b => b
theorem din_core {ng : Bool} {a b : E} {σ : L2.St} {Q : VK} (wq : tE K nm Wi (ev G (run G kk) (.din ng a b)) σ H Q) : (tE K nm Wi (ev G (run G kk) a)) σ H fun y H1 => (tE K nm Wi (ev G (run G kk) b)) σ H1 fun x H2 => ∃ a o, x = .ref a ∧ DGet H2 a y o ∧ Q (.bl (ngB ng o.isSome)) H2 := by
  simp only [ev] at wq
  refine tX.op (rr := fun y x H2 Q => ∃ a o, x = .ref a ∧ DGet H2 a y o ∧ Q (.bl (ngB ng o.isSome)) H2) wq fun r p q z => ?_
  obtain ⟨d, e, f⟩ := z.fin
  rw [Option.map_eq_some_iff] at e
  obtain ⟨c, e1, e2⟩ := e
  subst e2
  obtain ⟨a, o, e3, e4, e5⟩ := din_ok r p q e1
  refine ⟨a, o, e3, e4, ?_⟩
  rw [e5, show ngB ng c = (c != ng) by cases ng <;> cases c <;> rfl]
  exact f.here r (.bl _)
theorem s_din (ng : Bool) (a b : E) (ia : Snd P w K mg base G Y nm kk N a) (ib : Snd P w K mg base G Y nm kk N b) : Snd P w K mg base G Y nm kk N (.din ng a b) := by
  refine ⟨fun sc x X Wi h C tk => ?_, fun sc x X Wi h C tk => ?_, fun sc a X Wi h C tk => by simp [chkA] at h⟩
  · simp only [chk] at h
    split at h <;> try (cases h; done)
    simp only [Bool.and_eq_true, decide_eq_true_eq, Bool.not_eq_true'] at h
    obtain ⟨⟨⟨h1, h0⟩, h2⟩, h3⟩ := h
    have pa := ia.v _ _ X Wi h2 C tk
    have pb := ib.v _ _ X Wi h3 C tk
    subst h1
    have hu : X.A.units + 1 < cLine := by have := C.room.units; omega
    cases ng with
    | false => exact (pe_cmp (pc_din hu pa pb) (mark_ok h0)).imp fun σ H Q wq => din_core wq
    | true => exact (pe_cmp (pc_dnotin hu pa pb) (mark_ok h0)).imp fun σ H Q wq => din_core wq
  · simp only [chkT] at h
    split at h <;> try (cases h; done)
    simp only [Bool.and_eq_true, decide_eq_true_eq, Bool.not_eq_true'] at h
    obtain ⟨⟨⟨h1, h0⟩, h2⟩, h3⟩ := h
    have pa := ia.v _ _ X Wi h2 C tk
    have pb := ib.v _ _ X Wi h3 C tk
    subst h1
    have hu : X.A.units + 1 < cLine := by have := C.room.units; omega
    have cv : ∀ {σ : L2.St} {H : Hp} {Q : Bool → Hp → Prop}, tT K nm Wi (fun env S => mapT (ev G (run G kk) (.din ng a b) env S)) σ H Q → tE K nm Wi (ev G (run G kk) (.din ng a b)) σ H fun x H' => ∃ k, x = .bl k ∧ Q k H' := fun {σ H Q} wq => by
      obtain ⟨W, S, env, E, r, z⟩ := wq
      refine ⟨W, S, env, E, r, ?_⟩
      revert z
      simp only [mapT]
      cases hd : ev G (run G kk) (.din ng a b) env S with
      | bad => exact fun z => z
      | ex c S1 => exact fun z => z
      | ok d S1 =>
        obtain ⟨c, rfl⟩ : ∃ c, d = .bl c := by
          simp only [ev] at hd
          cases h1 : ev G (run G kk) a env S with
          | ok x S2 =>
            rw [h1] at hd
            simp only [R.bind_ok] at hd
            cases h2 : ev G (run G kk) b env S2 with
            | ok y S3 =>
              rw [h2] at hd
              simp only [R.bind_ok] at hd
              cases h3 : dinD x y S3 with
              | none => rw [h3] at hd; cases hd
              | some c => rw [h3] at hd; cases hd; exact ⟨_, rfl⟩
            | ex _ _ => rw [h2] at hd; cases hd
            | bad => rw [h2] at hd; cases hd
          | ex _ _ => rw [h1] at hd; cases hd
          | bad => rw [h1] at hd; cases hd
        intro z v W' H' e r' p
        cases p
        exact ⟨c, rfl, z c W' H' e r' rfl⟩
    cases ng with
    | false => exact (pt_cmp (pc_din hu pa pb) (mark_ok h0)).imp fun σ H Q wq => din_core (cv wq)
    | true => exact (pt_cmp (pc_dnotin hu pa pb) (mark_ok h0)).imp fun σ H Q wq => din_core (cv wq)
theorem s_dix (a i : E) (ia : Snd P w K mg base G Y nm kk N a) (ib : Snd P w K mg base G Y nm kk N i) : Snd P w K mg base G Y nm kk N (.dix a i) := by
  refine ⟨fun sc x X Wi h C tk => ?_, fun sc x X Wi h C tk => by simp [chkT] at h, fun sc a X Wi h C tk => by simp [chkA] at h⟩
  simp only [chk] at h
  split at h <;> try (cases h; done)
  simp only [Bool.and_eq_true] at h
  obtain ⟨⟨h1, h2⟩, h3⟩ := h
  have hu : X.A.units + 1 < cLine := by have := C.room.units; omega
  have pa := ia.v _ _ X Wi h2 C tk
  have pb := ib.v _ _ X Wi h3 C tk
  refine (pe_dget hu pa pb (plainIx_ok h1)).imp fun σ H Q wq => ?_
  simp only [ev] at wq
  refine tX.op (rr := fun x y H2 Q => ∃ a v, x = .ref a ∧ DGet H2 a y (some v) ∧ Q v H2) wq fun r p q z => ?_
  obtain ⟨d, e, f⟩ := z.fin
  simp only [dixD] at e
  split at e
  · rename_i kvs e1
    obtain ⟨k, e2, e3⟩ := Option.bind_eq_some_iff.mp e
    obtain ⟨a, vs, rfl, h3, h4⟩ := rep_dct r p e1
    obtain ⟨v, g1, g2⟩ := (val_ok h4 k).1 d e3
    exact ⟨a, v, rfl, .inl ⟨vs, k, h3, key_ok q e2, g1.symm⟩, f.here r g2⟩
  · cases e

/-! ### methods of built-ins -/
theorem mt_dget (hu : X.A.units + 1 < cLine) : MtR X "dict.get" (fun x xs H Q => ∃ a kvs k, x = .ref a ∧ Rd H a (.dK kvs) ∧ ((xs = [kV k] ∧ Q ((valV kvs k).getD .non) H) ∨ ∃ d, xs = [kV k, d] ∧ Q ((valV kvs k).getD d) H)) := by
  intro pins s σ H x xs v us Q I rx rs h
  obtain ⟨a, kvs, k, rfl, hr, h⟩ := h
  cases rx
  rcases h with ⟨rfl, q⟩ | ⟨d, rfl, q⟩
  · obtain ⟨u, rfl, ru⟩ := vals1 rs
    exact d_get1 hu I (.inl ⟨kvs, k, hr, rfl, rfl⟩) ru fun w' s3 I3 rw' => ⟨_, H, I3, rw', q⟩
  · obtain ⟨u, u', rfl, ru, ru'⟩ := vals2 rs
    exact d_get2 hu I (.inl ⟨kvs, k, hr, rfl, rfl⟩) ru ru' fun w' s3 I3 rw' => ⟨_, H, I3, rw', q⟩
theorem mt_dpop : MtR X "dict.pop" (fun x xs H Q => ∃ a kvs k, x = .ref a ∧ H a = some (.dK kvs) ∧ ((∃ v, xs = [kV k] ∧ valV kvs k = some v ∧ Q v (upd H a (.dK (dropK kvs k)))) ∨
    ∃ d, xs = [kV k, d] ∧ (∀ v, valV kvs k = some v → Q v (upd H a (.dK (dropK kvs k)))) ∧ (valV kvs k = none → Q d H))) := by
  intro pins s σ H x xs v us Q I rx rs h
  obtain ⟨a, kvs, k, rfl, hr, h⟩ := h
  cases rx
  rcases h with ⟨v, rfl, l, q⟩ | ⟨d, rfl, q1, q2⟩
  · obtain ⟨u, rfl, ru⟩ := vals1 rs
    exact d_pop I hr ru l (.inl rfl) fun w' s3 I3 rw' => ⟨v, _, I3, rw', q⟩
  · obtain ⟨u, u', rfl, ru, ru'⟩ := vals2 rs
    cases l : valV kvs k with
    | some v => exact d_pop I hr ru l (.inr ⟨u', rfl⟩) fun w' s4 I4 rw' => ⟨v, _, I4, rw', q1 v l⟩
    | none => exact d_popD I hr ru l fun s4 I4 => ⟨d, H, I4, ru', q2 l⟩
theorem mt_dsetd : MtR X "dict.setdefault" (fun x xs H Q => ∃ a kvs k d, x = .ref a ∧ H a = some (.dK kvs) ∧ kvs.length < sizeLine ∧ xs = [kV k, d] ∧ (∀ v, valV kvs k = some v → Q v H) ∧ (valV kvs k = none → Q d (upd H a (.dK (putK kvs k d))))) := by
  intro pins s σ H x xs v us Q I rx rs h
  obtain ⟨a, kvs, k, d, rfl, hr, hl, rfl, q1, q2⟩ := h
  cases rx
  obtain ⟨u, u', rfl, ru, ru'⟩ := vals2 rs
  exact d_setd I hr ru ru' hl (fun v hv w' s4 I4 rw' => ⟨v, _, I4, rw', q1 v hv⟩) fun hn w' s4 I4 rw' => ⟨d, _, I4, rw', q2 hn⟩
/-- a method with arguments -/
theorem Reps.erase {ds : List D} {vs : List V} (i : Nat) (r : Reps K W H ds vs) : Reps K W H (ds.eraseIdx i) (vs.eraseIdx i) := by
  induction ds generalizing vs i with
  | nil => cases r; exact .nil
  | cons x ds ih => cases r with | cons a b => cases i with
    | zero => exact b
    | succ i => exact .cons a (ih i b)
theorem mt_index0 {X : Cx} (hc : X.calm = true) : MtS X "str.index" (rIndexX noX) := fun pins s σ H x xs v us Q I rx rs h =>
  wpAny_mono (mt_indexX (X := X.nox) (W := noX) hc takes0 pins s σ H x xs v us Q (I.wish _) rx rs h) (fun _ _ ⟨v, H', I', r, q⟩ => ⟨v, H', I'.unwish, r, q⟩) fun _ _ z => False.elim z
theorem s_bm_of (m : Bm) (o as : E) (io : Snd P w K mg base G Y nm kk N o) (ia : Snd P w K mg base G Y nm kk N as) (hne : bmA m 0 = false)
    (hb : ∀ (X : Cx) (Wi : WX), X.K = K → X.calm = true → X.A.units + 64 < cLine → Tk X Wi → ∃ (T id : String) (r : L2.St → V → List V → Hp → VK → Prop), PlainAttrs T ∧ Slot T (bmN m) id ∧ typeOf (.builtin id) = pure (.type "method_descriptor") ∧ MtS X id r ∧
      (∀ (W : Wd) (S : Store) (H : Hp) (d : D) (x : V), Rel K nm W S H → Rep K W H d x → bmOk m d S = true → tyV K T x H) ∧
      ∀ (W : Wd) (S : Store) (H : Hp) (d : D) (x : V) (as : List D) (vs : List V) (Q : VK) (σ : L2.St), Rel K nm W S H → Rep K W H d x → Reps K W H as vs → Wq K nm (rpD K) W H (bmD m d as S) Q (Xw nm Wi σ) → r σ x vs H Q) : Snd P w K mg base G Y nm kk N (.bm m o as) := by
  refine ⟨fun sc x X Wi h C tk => ?_, fun sc x X Wi h C tk => by simp [chkT] at h, fun sc a X Wi h C tk => by simp [chkA] at h⟩
  simp only [chk] at h
  split at h <;> try (cases h; done)
  rename_i e t ap ps cp
  simp only [Bool.and_eq_true, decide_eq_true_eq] at h
  obtain ⟨⟨⟨⟨⟨h0, h1⟩, h2⟩, h3⟩, h4⟩, h5⟩ := h
  subst h0
  obtain ⟨T, id, r, pA, sl, ty, mt, ok1, ok2⟩ := hb X Wi C.hK C.calm C.room.units tk
  have base : ∀ n : Str, attributeBase e n X.env (eval e X.env) = eval e X.env := fun n => base_ok h3
  have go : ∀ {σ : L2.St} {H : Hp} {Q : VK}, tE K nm Wi (ev G (run G kk) (.bm m o as)) σ H Q → tBMS K T r (tE K nm Wi (ev G (run G kk) o)) (tA K nm Wi (ev G (run G kk) as)) σ H Q := fun {σ H Q} wq => by
    obtain ⟨W, S, env, E, r0, z⟩ := wq
    simp only [ev] at z
    refine ⟨W, S, env, E, r0, (Wq.bind (rp := rpD K) z).mono fun x H1 z => ?_⟩
    obtain ⟨W1, S1, dx, e1, r1, p1, z⟩ := z
    split at z <;> try exact z.elim
    rename_i hk
    refine ⟨ok1 W1 S1 H1 dx x r1 p1 hk, W1, S1, env, E.mono r0.trk e1, r1, (Wq.bind (rp := rpA K) z).mono fun us H2 z => ?_⟩
    obtain ⟨W2, S2, dy, e2, r2, ⟨ys, e3, p2⟩, z⟩ := z
    subst e3
    exact ok2 W2 S2 H2 dx x ys us Q σ r2 (p1.mono r1.trk e2) p2 z
  have e1 := C.hK
  subst e1
  cases ps with
  | nil => rw [show ([] : List Expr).length = 0 from rfl, hne] at h1; cases h1
  | cons p ps =>
    have s1 := star1 h5
    have few : ((backTo cp (starEach (p :: ps) X.env)).all (fun x => !x.1) && (backToKw cp (keywordEach [] X.env)).all (fun x => x.1.isSome) && decide ((p :: ps).length + ([] : List Keyword).length + (if ([] : List Keyword).isEmpty then 0 else 1) < 30)) = true := by
      cases ps with
      | nil => rw [star_ok s1]; rfl
      | cons q ps =>
        have s2 := star2 h5
        cases ps with
        | nil => rw [star_ok s1, star_ok s2]; rfl
        | cons _ _ =>
          simp only [List.length_cons] at h1
          cases m <;> simp [bmA] at h1
    exact (pe_bmS pA sl ty mt (io.v _ _ X Wi h4 C tk) (ia.l _ _ X Wi h5 C tk) (base _) few h2 (star_ok s1) (stars_ok1 h5)).imp fun σ H Q wq => go wq
theorem tyV_str {d : D} {x : V} (p : Rep K W H d x) (h : isStrD d = true) : tyV K "str" x H := by
  cases p <;> first | rfl | cases h
theorem lstR_ok {d : D} {x : V} (r : Rel K nm W S H) (p : Rep K W H d x) (h : isLstR d S = true) : tyV K "list" x H := by
  cases p with
  | @ref n a h1 =>
    simp only [isLstR] at h
    split at h
    · rename_i xs e
      obtain ⟨vs, hv, _⟩ := r.ob n a _ h1 e
      exact .inl ⟨rfl, vs, .inl (.inl hv)⟩
    · cases h
  | _ => cases h
theorem dctR_ok {d : D} {x : V} (r : Rel K nm W S H) (p : Rep K W H d x) (h : isDctR d S = true) : tyV K "dict" x H := by
  cases p with
  | @ref n a h1 =>
    simp only [isDctR] at h
    split at h
    · rename_i xs e
      obtain ⟨vs, hv, _⟩ := r.ob n a _ h1 e
      exact .inr (.inr (.inl ⟨rfl, .inl ⟨vs, hv⟩⟩))
    · cases h
  | _ => cases h
theorem reps_strs {xs : List D} {is : List Str} {vs : List V} (p : Reps K W H xs vs) (h : strsD xs = some is) : vs = is.map V.str := by
  induction xs generalizing is vs with
  | nil => cases p; cases h; rfl
  | cons x xs ih =>
    cases p with
    | cons a b =>
      cases a with
      | str i =>
        simp only [strsD, Option.map_eq_some_iff] at h
        obtain ⟨js, h1, h2⟩ := h
        subst h2
        simp [ih b h1]
      | _ => cases h
theorem len_ne0 {b : Str} (h : b.length ≠ 0) : (b.length == 0) = false := by simpa using h
theorem str_arg {d : D} {x : V} {a : Str} (p : Rep K W H d x) (h : d = .str a) : x = .str a := by subst h; cases p; rfl
/-- texts' methods: what the result comes from -/
theorem bm_str {m : Bm} {d : D} {as : List D} {Q : VK} {Xc : Nat → Hp → Prop} (hm : m ≠ .append ∧ m ≠ .get ∧ m ≠ .pop ∧ m ≠ .setdefault ∧ m ≠ .popL) (z : Wq K nm (rpD K) W H (bmD m d as S) Q Xc) : ∃ a d', d = .str a ∧ bmStr m a as S = some d' ∧ Fin K nm W S H d' Q := by
  unfold bmD at z
  split at z <;> first | (exfalso; exact absurd rfl hm.1) | (exfalso; exact absurd rfl hm.2.1) | (exfalso; exact absurd rfl hm.2.2.1) | (exfalso; exact absurd rfl hm.2.2.2.1) | (exfalso; exact absurd rfl hm.2.2.2.2) | skip
  · obtain ⟨d', e, f⟩ := z.fin
    exact ⟨_, d', rfl, e, f⟩
  · exact z.elim
theorem strs_laid {ys : List Str} {Q : VK} (r : Rel K nm W S H) (f : Fin K nm W S H (.lst (ys.map .str)) Q) : rNewStrs ys H Q := fun p hp => f.lst r (reps_str ys) hp
theorem s_bm (m : Bm) (o as : E) (io : Snd P w K mg base G Y nm kk N o) (ia : Snd P w K mg base G Y nm kk N as) : Snd P w K mg base G Y nm kk N (.bm m o as) := by
  cases m with
  | append =>
    refine s_bm_of .append o as io ia rfl fun X Wi eK c u tk => ⟨"list", "list.append", _, PySem.F.plainAttrs_list, PySem.F.slot_list_append, PySem.F.type_list_append, MtR.toS mt_append, fun W S H d x r p h => lstR_ok r p h, fun W S H d x as vs Q σ r p q z => ?_⟩
    unfold bmD at z
    split at z <;> first | exact z.elim | skip
    all_goals first | (rename_i hc; cases hc; done) | skip
    · split at z <;> try exact z.elim
      rename_i xs hS
      split at z <;> try exact z.elim
      rename_i hz
      cases p with
      | ref hm =>
      obtain ⟨v1, rfl, q1⟩ := reps1 q
      obtain ⟨ws, hw, pw⟩ := r.ob _ _ _ hm hS
      obtain ⟨e, r'⟩ := r.putL hm (unf_of hw fun _ _ z => by cases z) (pw.append (.cons q1 .nil))
      exact ⟨_, ws, v1, rfl, rfl, hw, by rw [pw.lens, ← SZ_eq]; exact hz, z .non W _ e r' .non⟩
  | get =>
    refine s_bm_of .get o as io ia rfl fun X Wi eK c u tk => ⟨"dict", "dict.get", _, PySem.F.plainAttrs_dict, PySem.F.slot_dict_get, PySem.F.type_dict_get, MtR.toS (mt_dget (by omega)), fun W S H d x r p h => dctR_ok r p h, fun W S H d x as vs Q σ r p q z => ?_⟩
    unfold bmD at z
    split at z <;> first | exact z.elim | skip
    all_goals first | (rename_i hc; cases hc; done) | skip
    · split at z <;> try exact z.elim
      rename_i kvs k e1 e2
      obtain ⟨v1, rfl, q1⟩ := reps1 q
      obtain ⟨a, ws, rfl, h3, h4⟩ := rep_dct r p e1
      refine ⟨a, ws, k, rfl, h3, .inl ⟨by rw [key_ok q1 e2], ?_⟩⟩
      obtain ⟨g1, g2⟩ := val_ok h4 k
      cases hg : getK kvs k with
      | none => rw [hg] at z; rw [g2 hg]; exact z _ W H Ext.refl r .non
      | some d => rw [hg] at z; obtain ⟨v, e3, e4⟩ := g1 d hg; rw [e3]; exact z _ W H Ext.refl r e4
    · split at z <;> try exact z.elim
      rename_i kvs k e1 e2
      obtain ⟨v1, v2, rfl, q1, q2⟩ := reps2 q
      obtain ⟨a, ws, rfl, h3, h4⟩ := rep_dct r p e1
      refine ⟨a, ws, k, rfl, h3, .inr ⟨v2, by rw [key_ok q1 e2], ?_⟩⟩
      obtain ⟨g1, g2⟩ := val_ok h4 k
      cases hg : getK kvs k with
      | none => rw [hg] at z; rw [g2 hg]; exact z _ W H Ext.refl r q2
      | some d => rw [hg] at z; obtain ⟨v, e3, e4⟩ := g1 d hg; rw [e3]; exact z _ W H Ext.refl r e4
  | pop =>
    refine s_bm_of .pop o as io ia rfl fun X Wi eK c u tk => ⟨"dict", "dict.pop", _, PySem.F.plainAttrs_dict, PySem.F.slot_dict_pop, PySem.F.type_dict_pop, MtR.toS mt_dpop, fun W S H d x r p h => dctR_ok r p h, fun W S H d x as vs Q σ r p q z => ?_⟩
    unfold bmD at z
    split at z <;> first | exact z.elim | skip
    all_goals first | (rename_i hc; cases hc; done) | skip
    · split at z <;> try exact z.elim
      rename_i kvs k hS e2
      split at z <;> try exact z.elim
      rename_i dv hg
      cases p with
      | ref hm =>
      obtain ⟨v1, rfl, q1⟩ := reps1 q
      obtain ⟨ws, hw, pw⟩ := r.ob _ _ _ hm hS
      obtain ⟨e, r'⟩ := r.putD hm (unf_of hw fun _ _ z => by cases z) (drop_ok (k := k) pw)
      obtain ⟨v, e3, e4⟩ := (val_ok pw k).1 _ hg
      exact ⟨_, ws, k, rfl, hw, .inl ⟨v, by rw [key_ok q1 e2], e3, z _ W _ e r' (e4.mono r.trk e)⟩⟩
    · split at z <;> try exact z.elim
      rename_i kvs k hS e2
      cases p with
      | ref hm =>
      obtain ⟨v1, v2, rfl, q1, q2⟩ := reps2 q
      obtain ⟨ws, hw, pw⟩ := r.ob _ _ _ hm hS
      obtain ⟨e, r'⟩ := r.putD hm (unf_of hw fun _ _ z => by cases z) (drop_ok (k := k) pw)
      obtain ⟨g1, g2⟩ := val_ok pw k
      refine ⟨_, ws, k, rfl, hw, .inr ⟨v2, by rw [key_ok q1 e2], fun v hv => ?_, fun hv => ?_⟩⟩
      · cases hg : getK kvs k with
        | none => rw [g2 hg] at hv; cases hv
        | some dv =>
          rw [hg] at z
          obtain ⟨v', e3, e4⟩ := g1 _ hg
          rw [e3] at hv; cases hv
          exact z _ W _ e r' (e4.mono r.trk e)
      · cases hg : getK kvs k with
        | none => rw [hg] at z; exact z _ W H Ext.refl r q2
        | some dv => obtain ⟨v', e3, e4⟩ := g1 _ hg; rw [e3] at hv; cases hv
  | setdefault =>
    refine s_bm_of .setdefault o as io ia rfl fun X Wi eK c u tk => ⟨"dict", "dict.setdefault", _, PySem.F.plainAttrs_dict, PySem.F.slot_dict_setdefault, PySem.F.type_dict_setdefault, MtR.toS mt_dsetd, fun W S H d x r p h => dctR_ok r p h, fun W S H d x as vs Q σ r p q z => ?_⟩
    unfold bmD at z
    split at z <;> first | exact z.elim | skip
    all_goals first | (rename_i hc; cases hc; done) | skip
    · split at z <;> try exact z.elim
      rename_i kvs k hS e2
      split at z <;> try exact z.elim
      rename_i hz
      cases p with
      | ref hm =>
      obtain ⟨v1, v2, rfl, q1, q2⟩ := reps2 q
      obtain ⟨ws, hw, pw⟩ := r.ob _ _ _ hm hS
      obtain ⟨g1, g2⟩ := val_ok pw k
      refine ⟨_, ws, k, v2, rfl, hw, by rw [← pw.length, ← SZ_eq]; exact hz, by rw [key_ok q1 e2], fun v hv => ?_, fun hv => ?_⟩
      · cases hg : getK kvs k with
        | none => rw [g2 hg] at hv; cases hv
        | some dv =>
          rw [hg] at z
          obtain ⟨v', e3, e4⟩ := g1 _ hg
          rw [e3] at hv; cases hv
          exact z _ W H Ext.refl r e4
      · cases hg : getK kvs k with
        | none =>
          rw [hg] at z
          obtain ⟨e, r'⟩ := r.putD hm (unf_of hw fun _ _ z => by cases z) (put_ok (k := k) pw q2)
          exact z _ W _ e r' (q2.mono r.trk e)
        | some dv => obtain ⟨v', e3, e4⟩ := g1 _ hg; rw [e3] at hv; cases hv
  | popL =>
    refine s_bm_of .popL o as io ia rfl fun X Wi eK c u tk => ⟨"list", "list.pop", _, PySem.F.plainAttrs_list, PySem.F.slot_list_pop, PySem.F.type_list_pop, MtR.toS mt_popAt, fun W S H d x r p h => lstR_ok r p h, fun W S H d x as vs Q σ r p q z => ?_⟩
    unfold bmD at z
    split at z <;> first | exact z.elim | skip
    all_goals first | (rename_i hc; cases hc; done) | skip
    · split at z <;> try exact z.elim
      rename_i xs hS
      split at z <;> try exact z.elim
      rename_i hz
      split at z <;> try exact z.elim
      rename_i dv hg
      cases p with
      | ref hm =>
      obtain ⟨v1, rfl, q1⟩ := reps1 q
      cases q1
      obtain ⟨ws, hw, pw⟩ := r.ob _ _ _ hm hS
      obtain ⟨hi, hx⟩ := List.getElem?_eq_some_iff.mp hg
      obtain ⟨v, e3, e4⟩ := pw.get hg
      obtain ⟨e, r'⟩ := r.putL hm (unf_of hw fun _ _ z => by cases z) (pw.erase _)
      have hS' : SZ = 16777216 := rfl
      refine ⟨_, ws, _, _, v, rfl, rfl, hw, by omega, by omega, ?_, e3, z _ W _ e r' (e4.mono r.trk e)⟩
      rw [pw.lens]
      unfold seqIndex?
      have h0 := Int.not_lt.mpr hz.1
      have h1 := hz.1
      simp only [if_neg h0]
      rw [if_pos (by simp; omega)]
  | split =>
    refine s_bm_of .split o as io ia rfl fun X Wi eK c u tk => ⟨"str", "str.split", _, PySem.F.plainAttrs_str, PySem.F.slot_str_split, PySem.F.type_str_split, MtR.toS mt_split, fun W S H d x r p h => tyV_str p h, fun W S H d x as vs Q σ r p q z => ?_⟩
    obtain ⟨a, d', rfl, e, f⟩ := bm_str (by simp) z
    have := str_arg p rfl; subst this
    simp only [bmStr] at e
    split at e <;> try (cases e; done)
    all_goals first | (rename_i hc _; cases hc; done) | (rename_i hc; cases hc; done) | skip
    obtain ⟨v1, rfl, q1⟩ := reps1 q
    cases q1
    split at e
    · rename_i hz
      cases e
      exact ⟨a, _, rfl, rfl, len_ne0 hz.1, by rw [← SZ_eq]; exact hz.2, strs_laid r f⟩
    · cases e
  | partition =>
    refine s_bm_of .partition o as io ia rfl fun X Wi eK c u tk => ⟨"str", "str.partition", _, PySem.F.plainAttrs_str, PySem.F.slot_str_partition, PySem.F.type_str_partition, MtR.toS mt_partition, fun W S H d x r p h => tyV_str p h, fun W S H d x as vs Q σ r p q z => ?_⟩
    obtain ⟨a, d', rfl, e, f⟩ := bm_str (by simp) z
    have := str_arg p rfl; subst this
    simp only [bmStr] at e
    split at e <;> try (cases e; done)
    all_goals first | (rename_i hc _; cases hc; done) | (rename_i hc; cases hc; done) | skip
    obtain ⟨v1, rfl, q1⟩ := reps1 q
    cases q1
    split at e
    · rename_i hz
      cases e
      exact ⟨a, _, rfl, rfl, len_ne0 hz.1, by rw [← SZ_eq]; exact hz.2, fun p hp => f.tup r (.cons (.str _) (.cons (.str _) (.cons (.str _) .nil))) hp⟩
    · cases e
  | join =>
    refine s_bm_of .join o as io ia rfl fun X Wi eK c u tk => ⟨"str", "str.join", _, PySem.F.plainAttrs_str, PySem.F.slot_str_join, PySem.F.type_str_join, MtR.toS mt_join, fun W S H d x r p h => tyV_str p h, fun W S H d x as vs Q σ r p q z => ?_⟩
    subst eK
    obtain ⟨a, d', rfl, e, f⟩ := bm_str (by simp) z
    have := str_arg p rfl; subst this
    simp only [bmStr] at e
    split at e <;> try (cases e; done)
    all_goals first | (rename_i hc _; cases hc; done) | (rename_i hc; cases hc; done) | skip
    obtain ⟨v1, rfl, q1⟩ := reps1 q
    split at e <;> try (cases e; done)
    rename_i xs hs
    split at e <;> try (cases e; done)
    rename_i ys hy
    split at e <;> try (cases e; done)
    rename_i hz
    cases e
    obtain ⟨b, ws, rfl, h1, h2⟩ := rep_seq r q1 hs
    have := reps_strs h2 hy
    subst this
    exact ⟨a, b, ys, rfl, rfl, h1, hz, f.here r (.str _)⟩
  | find =>
    refine s_bm_of .find o as io ia rfl fun X Wi eK c u tk => ⟨"str", "str.find", _, PySem.F.plainAttrs_str, PySem.F.slot_str_find, PySem.F.type_str_find, MtR.toS mt_find, fun W S H d x r p h => tyV_str p h, fun W S H d x as vs Q σ r p q z => ?_⟩
    obtain ⟨a, d', rfl, e, f⟩ := bm_str (by simp) z
    have := str_arg p rfl; subst this
    simp only [bmStr] at e
    split at e <;> try (cases e; done)
    all_goals first | (rename_i hc _; cases hc; done) | (rename_i hc; cases hc; done) | skip
    obtain ⟨v1, rfl, q1⟩ := reps1 q
    cases q1
    cases e
    exact ⟨a, _, rfl, rfl, f.here r (.int _)⟩
  | startswith =>
    refine s_bm_of .startswith o as io ia rfl fun X Wi eK c u tk => ⟨"str", "str.startswith", _, PySem.F.plainAttrs_str, PySem.F.slot_str_startswith, PySem.F.type_str_startswith, MtR.toS mt_startswith, fun W S H d x r p h => tyV_str p h, fun W S H d x as vs Q σ r p q z => ?_⟩
    obtain ⟨a, d', rfl, e, f⟩ := bm_str (by simp) z
    have := str_arg p rfl; subst this
    simp only [bmStr] at e
    split at e <;> try (cases e; done)
    all_goals first | (rename_i hc _; cases hc; done) | (rename_i hc; cases hc; done) | skip
    obtain ⟨v1, rfl, q1⟩ := reps1 q
    cases q1
    cases e
    exact ⟨a, _, rfl, rfl, f.here r (.bl _)⟩
  | index =>
    refine s_bm_of .index o as io ia rfl fun X Wi eK c u tk => ⟨"str", "str.index", _, PySem.F.plainAttrs_str, PySem.F.slot_str_index, PySem.F.type_str_index, mt_index0 c, fun W S H d x r p h => tyV_str p h, fun W S H d x as vs Q σ r p q z => ?_⟩
    obtain ⟨a, d', rfl, e, f⟩ := bm_str (by simp) z
    have := str_arg p rfl; subst this
    simp only [bmStr] at e
    split at e <;> try (cases e; done)
    all_goals first | (rename_i hc _; cases hc; done) | (rename_i hc; cases hc; done) | skip
    obtain ⟨v1, rfl, q1⟩ := reps1 q
    cases q1
    rw [Option.map_eq_some_iff] at e
    obtain ⟨k, e1, e2⟩ := e
    subst e2
    exact ⟨a, _, rfl, rfl, fun k' h' => by rw [e1] at h'; cases h'; exact f.here r (.int _), fun h' => by rw [e1] at h'; cases h'⟩
  | count =>
    exact ⟨fun sc x X Wi h C tk => by
      simp only [chk] at h
      split at h <;> try (cases h; done)
      rename_i ps _
      simp only [Bool.and_eq_true] at h
      have := h.1.1.1.1.2
      rcases ps with _ | ⟨_, _ | ⟨_, _ | _⟩⟩ <;> simp [bmA] at this, fun sc x X Wi h C tk => by simp [chkT] at h, fun sc a X Wi h C tk => by simp [chkA] at h⟩
  | upper =>
    refine ⟨fun sc x X Wi h C tk => ?_, fun sc x X Wi h C tk => by simp [chkT] at h, fun sc a X Wi h C tk => by simp [chkA] at h⟩
    simp only [chk] at h
    split at h <;> try (cases h; done)
    rename_i e t ap ps cp
    simp only [Bool.and_eq_true, decide_eq_true_eq] at h
    obtain ⟨⟨⟨⟨⟨h0, h1⟩, h2⟩, h3⟩, h4⟩, h5⟩ := h
    subst h0
    have base : ∀ n : Str, attributeBase e n X.env (eval e X.env) = eval e X.env := fun n => base_ok h3
    cases ps with
    | cons p ps => cases ps <;> simp [bmA] at h1
    | nil =>
      refine (pe_bm0 PySem.F.plainAttrs_str PySem.F.slot_str_upper PySem.F.type_str_upper mt_upper (io.v _ _ X Wi h4 C tk) (base _) h2).imp fun σ H Q wq => ?_
      obtain ⟨W, S, env, E, r0, z⟩ := wq
      simp only [ev] at z
      refine ⟨W, S, env, E, r0, (Wq.bind (rp := rpD K) z).mono fun x H1 z => ?_⟩
      obtain ⟨W1, S1, dx, e1, r1, p1, z⟩ := z
      split at z <;> try exact z.elim
      rename_i hk
      have e1 := C.hK
      subst e1
      refine ⟨tyV_str p1 hk, ?_⟩
      have hc : as = .nil := by cases as <;> simp only [chkA] at h5 <;> first | rfl | cases h5
      subst hc
      simp only [ev, R.bind_ok, toTup] at z
      obtain ⟨a, d', rfl, e, f⟩ := bm_str (by simp) z
      have := str_arg p1 rfl; subst this
      simp only [bmStr] at e
      split at e
      · rename_i hz
        cases e
        exact ⟨a, rfl, rfl, hz, f.here r1 (.str _)⟩
      · cases e
/-! ### f-strings -/
theorem fmt_len {d : D} {y : Str} (h : fmtD d = some y) : y.length ≤ 1000000 := by
  cases d with
  | str x =>
    simp only [fmtD] at h
    split at h
    · cases h; assumption
    · cases h
  | int i =>
    simp only [fmtD] at h
    split at h
    · rename_i z
      obtain ⟨z1, z2⟩ := tst_iff.mp z
      cases h
      obtain ⟨n, rfl⟩ : ∃ n : Nat, i = n := ⟨i.toNat, by omega⟩
      have e : (TL.tl (Str.ofString (toString ((n : Nat) : Int)))).length ≤ 100 := by
        rw [TL.tl_num]
        exact TL.numL_len (by decide) (by exact_mod_cast z2)
      have := TL.len_tl (Str.ofString (toString ((n : Nat) : Int)))
      show (Str.ofString (toString ((n : Nat) : Int))).length ≤ 1000000
      omega
    · cases h
  | _ => cases h
theorem str_len_append (x y : Str) : (x ++ y).length = x.length + y.length := by
  rw [TL.len_tl, TL.len_tl x, TL.len_tl y, TL.tl_append, List.length_append]
theorem log2_small {i : Int} (h0 : 0 ≤ i) (h : i < 10 ^ 100) : i.natAbs.log2 < 1920 := by
  by_cases z : i.natAbs = 0
  · rw [z]; decide
  · rw [Nat.log2_lt z]
    have h1 : i.natAbs < 10 ^ 100 := by
      have : ((i.natAbs : Nat) : Int) < ((10 ^ 100 : Nat) : Int) := by
        rw [Int.natAbs_of_nonneg h0]
        exact_mod_cast h
      exact_mod_cast this
    exact Nat.lt_of_lt_of_le h1 (by decide +kernel)
variable (P w K mg base G Y nm kk N) in
/-- a part of f'..' -/
structure SndM (e : E) : Prop where
  v : ∀ (sc : Scope) (a : Expr) (X : Cx) (Wi : WX), chkM Y N e sc a = true → COk P w K mg base kk N sc X → Tk X Wi → ∃ t : TE, PE X a t ∧ ∀ (σ : L2.St) (H : Hp) (Q : VK), tE K nm Wi (ev G (run G kk) e) σ H (fun x H' => (∃ y : Str, x = .str y ∧ y.length ≤ 1000000) → Q x H') → t σ H Q
theorem m_fmt (a : E) (ia : Snd P w K mg base G Y nm kk N a) : SndM P w K mg base G Y nm kk N (.fmt a) := by
  refine ⟨fun sc x X Wi h C tk => ?_⟩
  simp only [chkM] at h
  split at h <;> try (cases h; done)
  rename_i p c s pos
  simp only [Bool.and_eq_true, decide_eq_true_eq] at h
  obtain ⟨⟨h1, h2⟩, h3⟩ := h
  subst h1
  cases s with
  | some _ => cases h2
  | none =>
  refine ⟨_, pe_fmt (ia.v _ _ X Wi h3 C tk), fun σ H Q wq => ?_⟩
  simp only [ev] at wq
  obtain ⟨W, S, env, E, r, z⟩ := tX.one (g := fun _ x S => R.of ((fmtD x).map D.str) S) wq
  refine ⟨W, S, env, E, r, z.mono fun x H1 z => ?_⟩
  obtain ⟨W1, S1, dx, env1, E1, r1, p1, z⟩ := z
  obtain ⟨d, e, f⟩ := z.fin
  rw [Option.map_eq_some_iff] at e
  obtain ⟨y, e1, e2⟩ := e
  subst e2
  have hl := fmt_len e1
  have fin : Q (.str y) H1 := f _ W1 H1 Ext.refl r1 (.str _) ⟨y, rfl, hl⟩
  cases dx with
  | str x =>
    simp only [fmtD] at e1
    split at e1
    · cases e1
      cases p1
      exact .inl ⟨y, rfl, by rw [sizeLine_eq]; omega, fin⟩
    · cases e1
  | int i =>
    simp only [fmtD] at e1
    split at e1
    · rename_i z
      obtain ⟨z1, z2⟩ := tst_iff.mp z
      cases e1
      cases p1
      exact .inr ⟨i, rfl, log2_small z1 z2, fin⟩
    · cases e1
  | _ => cases e1
theorem m_con (d : D) : SndM P w K mg base G Y nm kk N (.con d) := by
  refine ⟨fun sc x X Wi h C tk => ?_⟩
  cases d <;> simp only [chkM] at h <;> first | (cases h; done) | skip
  split at h <;> try (cases h; done)
  simp only [Bool.and_eq_true, decide_eq_true_eq] at h
  obtain ⟨rfl, h2⟩ := h
  exact ⟨_, pe_str, fun σ H Q ⟨W, S, env, E, r, z⟩ => z _ W H Ext.refl r (.str _) ⟨_, rfl, h2⟩⟩
variable (P w K mg base G Y nm kk N) in
/-- the parts of f'..' -/
structure SndF (e : E) : Prop where
  v : ∀ (sc : Scope) (es : List Expr) (X : Cx) (Wi : WX), chkF Y N e sc es = true → COk P w K mg base kk N sc X → Tk X Wi → ∃ ts : List TE, PJ X es ts ∧ ∀ (n : Nat) (acc : Str) (σ : L2.St) (H : Hp) (Q : Str → Hp → Prop), es.length + n ≤ 12 → acc.length ≤ n * 1000000 →
    tA K nm Wi (ev G (run G kk) e) σ H (fun vs H' => ∀ y : Str, (∃ zs : List Str, vs = zs.map V.str ∧ y = zs.foldr (fun a b => a ++ b) Str.empty) → Q (acc ++ y) H') → tJs ts acc σ H Q
theorem f_nil : SndF P w K mg base G Y nm kk N .nil := by
  refine ⟨fun sc es X Wi h C tk => ?_⟩
  cases es with
  | cons _ _ => simp [chkF] at h
  | nil =>
    refine ⟨[], .nil, fun n acc σ H Q _ _ wq => ?_⟩
    obtain ⟨W, S, env, E, r, z⟩ := wq
    have := z [] W H Ext.refl r ⟨[], rfl, .nil⟩ Str.empty ⟨[], rfl, rfl⟩
    rwa [Str.append_right_empty (by rfl)] at this
theorem f_cons (a as : E) (ia : SndM P w K mg base G Y nm kk N a) (ib : SndF P w K mg base G Y nm kk N as) : SndF P w K mg base G Y nm kk N (.cons a as) := by
  refine ⟨fun sc es X Wi h C tk => ?_⟩
  cases es with
  | nil => simp [chkF] at h
  | cons e es =>
    simp only [chkF, Bool.and_eq_true] at h
    obtain ⟨t, pe, rt⟩ := ia.v _ _ X Wi h.1 C tk
    obtain ⟨ts, pj, rs⟩ := ib.v _ _ X Wi h.2 C tk
    refine ⟨t :: ts, .cons pe pj, fun n acc σ H Q hn ha wq => rt σ H _ ?_⟩
    obtain ⟨W, S, env, E, r, z⟩ := wq
    simp only [ev] at z
    refine ⟨W, S, env, E, r, (Wq.bind (rp := rpD K) z).mono fun x H1 z => ?_⟩
    rintro ⟨y, rfl, hy⟩
    obtain ⟨W1, S1, dx, e1, r1, p1, z⟩ := z
    have hl : (acc ++ y).length ≤ (n + 1) * 1000000 := by rw [str_len_append]; omega
    simp only [List.length_cons] at hn
    refine ⟨y, rfl, by rw [sizeLine_eq]; omega, rs (n + 1) (acc ++ y) σ H1 Q (by omega) hl ⟨W1, S1, env, E.mono r.trk e1, r1, (Wq.bind (rp := rpA K) z).mono fun vs H2 z => ?_⟩⟩
    rintro y2 ⟨zs, rfl, rfl⟩
    obtain ⟨W2, S2, dy, e2, r2, ⟨xs, e3, p2⟩, z⟩ := z
    subst e3
    have := z _ W2 H2 Ext.refl r2 ⟨_, rfl, .cons (p1.mono r1.trk e2) p2⟩ _ ⟨y :: zs, rfl, rfl⟩
    rw [PySem.Str.append_assoc]
    exact this
theorem f_no {e : E} (h : ∀ sc es, chkF Y N e sc es = false) : SndF P w K mg base G Y nm kk N e := ⟨fun sc es X Wi q => by rw [h] at q; cases q⟩
theorem m_no {e : E} (h : ∀ sc es, chkM Y N e sc es = false) : SndM P w K mg base G Y nm kk N e := ⟨fun sc es X Wi q => by rw [h] at q; cases q⟩
theorem catD_strs {xs : List D} {y : Str} {vs : List V} (p : Reps K W H xs vs) (h : catD xs = some y) : ∃ zs : List Str, vs = zs.map V.str ∧ y = zs.foldr (fun a b => a ++ b) Str.empty := by
  induction xs generalizing y vs with
  | nil => cases p; cases h; exact ⟨[], rfl, rfl⟩
  | cons x xs ih =>
    cases p with
    | cons a b =>
      cases a with
      | str i =>
        simp only [catD, Option.map_eq_some_iff] at h
        obtain ⟨js, h1, h2⟩ := h
        subst h2
        obtain ⟨zs, e1, e2⟩ := ih b h1
        exact ⟨i :: zs, by simp [e1], by simp [e2]⟩
      | _ => cases h
theorem vstr_inj : ∀ {a b : List Str}, a.map V.str = b.map V.str → a = b
  | [], [], _ => rfl
  | [], _ :: _, h => by cases h
  | _ :: _, [], h => by cases h
  | x :: a, y :: b, h => by
    simp only [List.map_cons, List.cons.injEq, V.str.injEq] at h
    rw [h.1, vstr_inj h.2]
theorem s_fstr (as : E) (ia : SndF P w K mg base G Y nm kk N as) : Snd P w K mg base G Y nm kk N (.fstr as) := by
  refine ⟨fun sc x X Wi h C tk => ?_, fun sc x X Wi h C tk => by simp [chkT] at h, fun sc a X Wi h C tk => by simp [chkA] at h⟩
  simp only [chk] at h
  split at h <;> try (cases h; done)
  simp only [Bool.and_eq_true, decide_eq_true_eq] at h
  obtain ⟨ts, pj, rs⟩ := ia.v _ _ X Wi h.2 C tk
  refine (pe_joined pj).imp fun σ H Q wq => rs 0 Str.empty σ H _ (by omega) (by decide) ?_
  simp only [ev] at wq
  obtain ⟨W, S, env, E, r, z⟩ := tX.args (g := fun _ xs S => R.of ((catD (toTup xs)).map D.str) S) wq
  refine ⟨W, S, env, E, r, z.mono fun vs H1 z => ?_⟩
  obtain ⟨W1, S1, xs, env1, E1, r1, p1, z⟩ := z
  obtain ⟨d, e, f⟩ := z.fin
  rw [Option.map_eq_some_iff] at e
  obtain ⟨y, e1, e2⟩ := e
  subst e2
  rintro y2 ⟨zs, h1, h2⟩
  obtain ⟨zs', h3, h4⟩ := catD_strs (xs := xs) p1 e1
  have : zs' = zs := vstr_inj (h3.symm.trans h1)
  subst this
  rw [← h4] at h2
  subst h2
  rw [Str.append_left_empty (by rfl)]
  exact f.here r1 (.str _)
/-! ### dict displays -/
variable (P w K mg base G Y nm kk N) in
/-- the values of a display -/
structure SndD (e : E) : Prop where
  v : ∀ (sc : Scope) (ks : List (Option Expr)) (es : List Expr) (xs : List Str) (X : Cx) (Wi : WX) (pos : Pos), chkA Y N e sc es = true → ks.map keyStr = xs.map some → ks.length = es.length → COk P w K mg base kk N sc X → Tk X Wi →
    ∃ trs : List (TE × TE), PPs X pos ks es trs ∧ ∀ (σ : L2.St) (H : Hp) (Q : List (V × V) → Hp → Prop), tA K nm Wi (ev G (run G kk) e) σ H (fun vs H' => vs.length = xs.length → Q ((xs.map V.str).zip vs) H') → tPairs trs σ H Q
theorem d_nil : SndD P w K mg base G Y nm kk N .nil := by
  refine ⟨fun sc ks es xs X Wi pos h hk hl C tk => ?_⟩
  cases es with
  | cons _ _ => simp [chkA] at h
  | nil =>
    have : ks = [] := List.eq_nil_of_length_eq_zero hl
    subst this
    have hx : xs = [] := by cases xs <;> first | rfl | cases hk
    subst hx
    refine ⟨[], pps_nil, fun σ H Q wq => ?_⟩
    obtain ⟨W, S, env, E, r, z⟩ := wq
    exact z [] W H Ext.refl r ⟨[], rfl, .nil⟩ rfl
theorem d_cons (a as : E) (ia : Snd P w K mg base G Y nm kk N a) (ib : SndD P w K mg base G Y nm kk N as) : SndD P w K mg base G Y nm kk N (.cons a as) := by
  refine ⟨fun sc ks es xs X Wi pos h hk hl C tk => ?_⟩
  cases es with
  | nil => simp [chkA] at h
  | cons e es =>
    cases ks with
    | nil => cases hl
    | cons k ks =>
      cases xs with
      | nil => cases hk
      | cons x xs =>
        simp only [List.map_cons, List.cons.injEq] at hk
        obtain ⟨hk1, hk2⟩ := hk
        simp only [chkA, Bool.and_eq_true] at h
        have pe := ia.v _ _ X Wi h.1.2 C tk
        obtain ⟨trs, pps, rd⟩ := ib.v sc ks es xs X Wi pos h.2 hk2 (by simpa using hl) C tk
        unfold keyStr at hk1
        split at hk1 <;> cases hk1
        refine ⟨_, pps_cons pe_str pe pps, fun σ H Q wq => ?_⟩
        show tE K nm Wi (ev G (run G kk) a) σ H fun y H2 => tPairs trs σ H2 fun ps H3 => Q ((V.str x, y) :: ps) H3
        obtain ⟨W, S, env, E, r, z⟩ := wq
        simp only [ev] at z
        refine ⟨W, S, env, E, r, (Wq.bind (rp := rpD K) z).mono fun y H1 z => rd σ H1 _ ?_⟩
        obtain ⟨W1, S1, dx, e1, r1, p1, z⟩ := z
        refine ⟨W1, S1, env, E.mono r.trk e1, r1, (Wq.bind (rp := rpA K) z).mono fun vs H2 z hv => ?_⟩
        obtain ⟨W2, S2, dy, e2, r2, ⟨ys, e3, p2⟩, z⟩ := z
        subst e3
        exact z _ W2 H2 Ext.refl r2 ⟨_, rfl, .cons (p1.mono r1.trk e2) p2⟩ (by simp [hv])
theorem d_no {e : E} (h : ∀ sc es, chkA Y N e sc es = false) : SndD P w K mg base G Y nm kk N e := ⟨fun sc ks es xs X Wi pos q => by rw [h] at q; cases q⟩
theorem repK_zip : ∀ {xs : List Str} {ds : List D} {vs : List V} {W : Wd} {H : Hp}, xs.length = ds.length → Reps K W H ds vs → RepK K W H ((xs.map Sum.inr).zip ds) ((xs.map Sum.inr).zip vs)
  | [], _, _, _, _, _, _ => .nil
  | _ :: _, [], _, _, _, h, _ => by cases h
  | x :: xs, d :: ds, _, _, _, h, .cons a b => .cons a (repK_zip (by simpa using h) b)
theorem merge_ok {W : Wd} {H : Hp} : ∀ {es ds : List (Ky × D)} {us vs : List (Key × V)}, RepK K W H es us → RepK K W H ds vs → RepK K W H (es.foldl (fun acc kv => setK acc kv.1 kv.2) ds) (mergeK vs us)
  | [], ds, us, vs, p, q => by cases p; exact q
  | e :: es, ds, us, vs, p, q => by
    cases p with
    | @cons k d v _ vs' a b =>
      have := merge_ok b (put_ok (k := k) q a)
      exact this
theorem s_dict (ks vs : E) (iv : SndD P w K mg base G Y nm kk N vs) : Snd P w K mg base G Y nm kk N (.dict ks vs) := by
  refine ⟨fun sc x X Wi h C tk => ?_, fun sc x X Wi h C tk => by simp [chkT] at h, fun sc a X Wi h C tk => by simp [chkA] at h⟩
  simp only [chk] at h
  split at h <;> try (cases h; done)
  rename_i keys es pos
  split at h <;> try (cases h; done)
  rename_i xs hxs
  simp only [Bool.and_eq_true, decide_eq_true_eq] at h
  obtain ⟨⟨⟨h1, h2⟩, h3⟩, h4⟩ := h
  obtain ⟨trs, pps, rd⟩ := iv.v sc keys es xs X Wi pos h4 h1 h3 C tk
  have lx : keys.length = xs.length := by have := congrArg List.length h1; simpa using this
  have all : keys.all (·.isSome) = true := by
    rw [List.all_eq_true]
    intro k hk
    cases k with
    | some _ => rfl
    | none =>
      have : keyStr none ∈ keys.map keyStr := List.mem_map.mpr ⟨none, hk, rfl⟩
      rw [h1] at this
      obtain ⟨y, _, e⟩ := List.mem_map.mp this
      cases e
  refine (pe_disp pps all h3 (fun z => by rw [z] at h2; simp at h2) h2.2).imp fun σ H Q wq => ?_
  obtain ⟨W, S, env, E, r, z⟩ := wq
  simp only [ev] at z
  intro p hp
  refine rd σ _ _ ⟨W.add p, S, env, E.addB hp, r.addB hp, ?_⟩
  have al : Ext W H W (upd H p (.dK [])) := Ext.alloc hp
  have ta : Trk W (upd H p (.dK [])) := (r.alloc hp).trk
  cases hv : ev G (run G kk) vs env S with
  | bad => rw [hv] at z; exact z.elim
  | ex c S1 =>
    rw [hv] at z
    intro W' H' e' r'
    have w' := wd_eta (W2 := W) e'.B
    exact z _ H' (ext_back al ta e') (w' ▸ r' : Rel K nm ((⟨W'.m, W.B⟩ : Wd).add p) S1 H').delB
  | ok d S1 =>
    rw [hv] at z
    simp only [R.bind_ok, hxs] at z
    intro us W' H' e' r' ⟨ys, e3, p3⟩ hl
    subst e3
    have hy : ys.length = xs.length := by rw [← hl]; exact p3.lens.symm
    simp only [toTup, hy, if_true] at z
    have w' := wd_eta (W2 := W) e'.B
    rw [w'] at r' p3
    have np : p ∉ W.m := (r.fresh hp).1
    have nB : p ∉ W.B := (r.fresh hp).2
    have hH : H' p = some (.dK []) := e'.keep p _ upd_same np
    refine ⟨hH, (xs.map Sum.inr).zip us, ?_, ?_, ?_⟩
    · have : ∀ (xs : List Str) (us : List V), (xs.map V.str).zip us = ((xs.map Sum.inr).zip us).map fun kv : Key × V => (kV kv.1, kv.2) := by
        intro xs
        induction xs with
        | nil => intro us; rfl
        | cons x xs ih => intro us; cases us with
          | nil => rfl
          | cons u us => simp only [List.map_cons, List.zip_cons_cons, ih us]; rfl
      exact this xs us
    · rw [List.length_zip, List.length_map]; omega
    · have em : Ext W H ⟨W'.m ++ [p], W.B⟩ H' := by
        obtain ⟨t, et, ft⟩ := (ext_back al ta e').m
        refine ⟨rfl, ⟨t ++ [p], by show W'.m ++ [p] = _; rw [show W'.m = W.m ++ t from et, List.append_assoc], fun a ha => ?_⟩, (ext_back al ta e').keep, (ext_back al ta e').fz⟩
        rcases List.mem_append.mp ha with ha | ha
        · exact ft a ha
        · rw [List.mem_singleton.mp ha]; exact hp
      have r2 : Rel K nm ⟨W'.m ++ [p], W.B⟩ (S1 ++ [.dct []]) H' := r'.moveO (ob := .dct []) ⟨[], hH, .nil⟩ nB
      have hl' : W'.m.length = S1.length := r'.len
      have at1 : (⟨W'.m ++ [p], W.B⟩ : Wd).m[S1.length]? = some p := by
        show (W'.m ++ [p])[S1.length]? = some p
        rw [← hl', List.getElem?_append_right (Nat.le_refl _), Nat.sub_self]
        rfl
      have pk : RepK K ⟨W'.m ++ [p], W.B⟩ H' (mergeD ((xs.map Sum.inr).zip ys)) (mergeK [] ((xs.map Sum.inr).zip us)) := merge_ok (repK_zip hy.symm p3.moveB) .nil
      obtain ⟨e4, r4⟩ := r2.putD at1 (unf_of hH fun _ _ z => by cases z) pk
      rw [List.set_append_right _ _ (Nat.le_refl _), Nat.sub_self] at r4
      exact z (.ref p) _ _ (em.trans r2.trk e4) r4 (.ref at1)
end
end PL

set_option Elab.async false
set_option linter.all false
set_option maxRecDepth 100000
set_option maxHeartbeats 2000000
/-! PLZ: exceptions; fields, methods, making. -/
namespace PL
open PySem PySem.Spec PyProof.Rows L2
/-- X(), X an own exception class without own __init__ -/
theorem pmk_own0 {X : Cx} {C : Addr} {bmB : List Value} {B newId initId : String} {x : Str} {p pos : Pos} (F : ExcBaseFacts B newId initId bmB) (q : PySem.W.excIn X.K C bmB newId = true) (gC : X.mg x = some (.ref C)) (kC : PySem.W.keepIn X.K (.ref C) = true)
    (r : Raises X (.ref C)) (hg : Gl X x) (hdb : (x == ("__debug__" : Str)) = false) : PMk X (.Call (.Name x p) [] [] pos) (fun _ H Q => Q (.ref C) none H) := by
  intro pins s σ H Q I h
  refine wpAny_Call_Name_kw (ld_glob I hg gC (PySem.W.callWith_K0 I.kIn kC ?_) hdb)
  obtain ⟨bm, N, nm, qn, bs, hdct, sn, sub, ab, col, dd, k0, k1, k2, k3, k5, mN, hC, hN, hni, T⟩ := exc_obj I.kIn q
  refine wpAny_call_exc_subT F T hC hN hni (fun h' e hm => ?_) (Nat.zero_le _)
  exact mk_of I hm r h (I.hok.gone hm.new)
section
variable {P : Program} {w : World} {K : PySem.W.Frag} {mg : Str → Option Value} {base : Heap} {G : Tab} {Y : Sx} {nm : Nm} {fa : Nat → Addr} {fd : Nat → FuncData} {ps : Nat → List Str} {kk : Nat} {N : List Str}
variable {sc : Scope} {X : Cx} {Wi : WX} {W W' : Wd} {H H' : Hp} {S S' : Store}
/-! ### fields -/
theorem fld_at (inj : ∀ f g, nm.fn f = nm.fn g → f = g) {ds : List (Nat × D)} {vs : List (Str × V)} (p : RepF K W H nm.fn ds vs) {f : Nat} {d : D} (h : fldOf ds f = some d) : ∃ v, vs.lookup (nm.fn f) = some v ∧ Rep K W H d v := by
  induction p with
  | nil => cases h
  | @cons g d' v' ds vs a _ ih =>
    simp only [fldOf] at h
    by_cases e : g = f
    · subst e
      rw [if_pos rfl] at h
      cases h
      exact ⟨v', by simp, a⟩
    · rw [if_neg e] at h
      obtain ⟨v, h1, h2⟩ := ih h
      refine ⟨v, ?_, h2⟩
      have hb : (nm.fn f == nm.fn g) = false := beq_eq_false_iff_ne.mpr fun z => e (inj _ _ z).symm
      rw [List.lookup_cons, hb]
      exact h1
theorem fld_no {ds : List (Nat × D)} {vs : List (Str × V)} (p : RepF K W H nm.fn ds vs) {n : Str} (h : ∀ g, nm.fn g ≠ n) : vs.lookup n = none := by
  induction p with
  | nil => rfl
  | @cons g d' v' ds vs a _ ih =>
    have hb : (n == nm.fn g) = false := beq_eq_false_iff_ne.mpr fun z => h g z.symm
    rw [List.lookup_cons, hb]
    exact ih
theorem fld_len {ds : List (Nat × D)} {vs : List (Str × V)} (p : RepF K W H nm.fn ds vs) : ds.length = vs.length := by
  induction p with
  | nil => rfl
  | cons _ _ ih => simp [ih]
theorem fld_put (inj : ∀ f g, nm.fn f = nm.fn g → f = g) {ds : List (Nat × D)} {vs : List (Str × V)} (p : RepF K W H nm.fn ds vs) {f : Nat} {d : D} {v : V} (q : Rep K W H d v) : RepF K W H nm.fn (fldPut ds f d) (putF (nm.fn f) v vs) := by
  induction p with
  | nil => exact .cons q .nil
  | @cons g d' v' ds vs a b ih =>
    simp only [fldPut, putF]
    by_cases e : g = f
    · subst e
      rw [if_pos rfl, if_pos rfl]
      exact .cons q b
    · rw [if_neg e, if_neg fun z => e (inj _ _ z)]
      exact .cons a ih
theorem ins_at {d : D} {v : V} {c : Nat} (r : Rel K nm W S H) (p : Rep K W H d v) (h : clsD d S = some c) : ∃ (n : Nat) (a dx : Addr) (fs : List (Nat × D)) (vs : List (Str × V)), d = .ref n ∧ v = .ref a ∧ W.m[n]? = some a ∧ S[n]? = some (.ins c fs) ∧ H a = some (.ins (nm.C c) dx vs) ∧ RepF K W H nm.fn fs vs := by
  cases p with
  | @ref n a h1 =>
    simp only [clsD] at h
    split at h
    · rename_i c' fs e
      cases h
      obtain ⟨dx, vs, e1, e2⟩ := r.ob n a _ h1 e
      exact ⟨n, a, dx, fs, vs, rfl, rfl, h1, e, e1, e2⟩
    · cases h
  | _ => cases h
theorem s_fld (g : GOk K mg G Y nm fa fd ps) (c : Nat) (o : E) (f : Nat) (io : Snd P w K mg base G Y nm kk N o) : Snd P w K mg base G Y nm kk N (.fld c o f) := by
  refine ⟨fun sc x X Wi h C tk => ?_, fun sc x X Wi h C tk => by simp [chkT] at h, fun sc a X Wi h C tk => by simp [chkA] at h⟩
  simp only [chk] at h
  split at h <;> try (cases h; done)
  simp only [Bool.and_eq_true, decide_eq_true_eq] at h
  obtain ⟨⟨⟨h1, h2⟩, h3⟩, h4⟩ := h
  obtain ⟨cx, hc⟩ := Option.isSome_iff_exists.mp h1
  obtain ⟨cls, _, na⟩ := g.cl c cx hc
  obtain ⟨na, rfl⟩ := na f _ h2
  have eK := C.hK
  subst eK
  refine (pe_fld (io.v _ _ X Wi h4 C tk) (base_ok h3)).imp fun σ H Q wq => ?_
  simp only [ev] at wq
  obtain ⟨W, S, env, E, r, z⟩ := tX.one (g := fun _ x S => if clsD x S = some c then R.of (fldD x f S) S else R.bad) wq
  refine ⟨W, S, env, E, r, z.mono fun x H1 z => ?_⟩
  obtain ⟨W1, S1, dx, env1, E1, r1, p1, z⟩ := z
  split at z <;> try exact z.elim
  rename_i hcl
  obtain ⟨d, e, fi⟩ := z.fin
  obtain ⟨n, a, dx', fs, vs, rfl, rfl, h5, h6, h7, h8⟩ := ins_at r1 p1 hcl
  simp only [fldD, h6] at e
  obtain ⟨v, h9, h10⟩ := fld_at g.inj h8 e
  exact ⟨a, nm.C c, dx', vs, v, rfl, h7, cls, na, h9, fi.here r1 h10⟩

/-! ### methods -/
theorem meth_eval {o : Expr} {m : Str} {apos pos : Pos} {args : List Expr} {env : PySem.Env} (hb : attributeBase o m env (eval o env) = eval o env) (hf : methodCallForm (args.length + ([] : List Keyword).length) (backTo pos (starEach args env)) (backToKw pos (keywordEach [] env)) = true) (hl : (apos.endLine == pos.line) = true) :
    eval (.Call (.Attribute o m apos) args [] pos) env = (do let ov ← eval o env; standAt apos.atName; let (f, first) ← holding [ov] (getMethod ov m (do return (← importBound o env).getD true)); callWith pos f first (backTo pos (starEach args env)) (backToKw pos (keywordEach [] env))) := by
  have hp : methodCallPos true o env apos pos = pure pos := by unfold methodCallPos; simp [hl]
  rw [arm_eval_Call, hb]
  unfold methodCall
  rw [hf, hp]
  rfl
theorem form_ok {as : E} {es : List Expr} {env : PySem.Env} {pos : Pos} (h : chkA Y N as sc es = true) (hl : es.length ≤ 20) : methodCallForm (es.length + ([] : List Keyword).length) (backTo pos (starEach es env)) (backToKw pos (keywordEach [] env)) = true := by
  have h1 : (backTo pos (starEach es env)).any (·.1) = false := stars_ok (e := .emp) h
  have h2 : (backTo pos (starEach es env)).all (fun x => !x.1) = true := by
    rw [List.all_eq_not_any_not]
    simpa using h1
  unfold methodCallForm
  rw [h2]
  have h3 : decide (es.length + ([] : List Keyword).length + 0 < 30) = true := decide_eq_true (by simp; omega)
  exact h3
def tMethS (C : Addr) (m : Str) (sp : Sp) (E : L2.St → XK) (ta : TE) (t : TA) : TE := fun σ H Q => ta σ H fun x H1 => ∃ a dx fs, x = .ref a ∧ H1 a = some (.ins C dx fs) ∧ fs.lookup m = none ∧ t σ H1 fun vs H2 => sp (x :: vs) H2 Q (E σ)
theorem pe_methAt {X : Cx} {o e : Expr} {es : List Expr} {m : Str} {apos pos : Pos} {ta : TE} {t : TA} {C f : Addr} {CX : CXT} {k : Nat} {fdt : FuncData} {psf : List Str} {sp : Sp} {E : L2.St → XK} {pl : Sem Bool} (he : PE X o ta) (c : Cls X.K C) (hm : Meth X.K C m f) (F : FnOk X.prog X.w X.K X.mg X.base CX k f fdt psf sp)
    (hr : Room k X.A) (hb : Binds X.K fdt psf []) (hx : ∀ σ, PassesAt CX X σ (E σ)) (ha : PA X (e :: es) t) (hst : starEach (e :: es) X.env = (false, eval e X.env) :: starEach es X.env) (hpl : (backTo pos (starEach es X.env)).any (·.1) = false)
    (ht : eval (.Call (.Attribute o m apos) (e :: es) [] pos) X.env = (do let ov ← eval o X.env; standAt apos.atName; let (f, first) ← holding [ov] (getMethod ov m pl); callWith pos f first (backTo pos (starEach (e :: es) X.env)) (backToKw pos (keywordEach [] X.env)))) :
    PE X (.Call (.Attribute o m apos) (e :: es) [] pos) (tMethS C m sp E ta t) := by
  refine ⟨fun pins s σ H Q I h => ?_⟩
  refine PySem.W.methodCall_KW (pl := pl) (thn (he.run pins s σ H _ I h) fun u s1 ⟨x, H1, I1, rx, a, dx, fs, ex, ea, l, q⟩ => ?_) ht
  subst ex
  cases (show u = Value.ref a from rx)
  refine getmeth_ok I1 ea c hm l (PySem.W.callWith_K (first := [.ref a]) (h₀ := X.base) I1.ok.mod.kin hm.kp (thn (ha.run pos pins s1 σ H1 _ I1 q) fun us s2 ⟨vs, H2, I2, r, q2⟩ => ⟨I2.kIn, ?_⟩) hst hpl)
  exact run_fnS (us := .ref a :: us) (vs := .ref a :: vs) F hr hb (hx σ) I2 (.cons rfl r) q2
theorem pe_methAt0 {X : Cx} {o : Expr} {m : Str} {apos pos : Pos} {ta : TE} {C f : Addr} {CX : CXT} {k : Nat} {fdt : FuncData} {psf : List Str} {sp : Sp} {E : L2.St → XK} {pl : Sem Bool} (he : PE X o ta) (c : Cls X.K C) (hm : Meth X.K C m f) (F : FnOk X.prog X.w X.K X.mg X.base CX k f fdt psf sp)
    (hr : Room k X.A) (hb : Binds X.K fdt psf []) (hx : ∀ σ, PassesAt CX X σ (E σ))
    (ht : eval (.Call (.Attribute o m apos) [] [] pos) X.env = (do let ov ← eval o X.env; standAt apos.atName; let (f, first) ← holding [ov] (getMethod ov m pl); callWith pos f first (backTo pos (starEach [] X.env)) (backToKw pos (keywordEach [] X.env)))) :
    PE X (.Call (.Attribute o m apos) [] [] pos) (tMethS C m sp E ta tNil) := by
  refine ⟨fun pins s σ H Q I h => ?_⟩
  refine PySem.W.methodCall_KW (pl := pl) (thn (he.run pins s σ H _ I h) fun u s1 ⟨x, H1, I1, rx, a, dx, fs, ex, ea, l, q⟩ => ?_) ht
  subst ex
  cases (show u = Value.ref a from rx)
  refine getmeth_ok I1 ea c hm l ?_
  exact PySem.W.callWith_K0 (first := [.ref a]) I1.kIn hm.kp (run_fnS (us := [.ref a]) (vs := [.ref a]) F hr hb (hx σ) I1 (.cons rfl .nil) q)
theorem s_meth (g : GOk K mg G Y nm fa fd ps) (hF : ∀ f : Nat, (G.fns f).isSome = true → FnOk P w K mg base (L2.CX P w) (2 * kk) (fa f) (fd f) (ps f) (spF K nm G kk f)) (c : Nat) (o : E) (m : Nat) (as : E) (io : Snd P w K mg base G Y nm kk N o) (ia : Snd P w K mg base G Y nm kk N as) :
    Snd P w K mg base G Y nm kk N (.meth c o m as) := by
  refine ⟨fun sc x X Wi h C tk => ?_, fun sc x X Wi h C tk => by simp [chkT] at h, fun sc a X Wi h C tk => by simp [chkA] at h⟩
  simp only [chk] at h
  split at h <;> try (cases h; done)
  rename_i e n ap es cp
  simp only [Bool.and_eq_true, decide_eq_true_eq] at h
  obtain ⟨⟨⟨⟨⟨h1, h2⟩, hln⟩, h20⟩, h3⟩, h4⟩ := h
  obtain ⟨f, hf, hl, cls, meth, nof⟩ := g.me c m n h1
  have hev := meth_eval (o := e) (m := n) (base_ok (n := n) (env := X.env) h2) (form_ok (pos := cp) h4 h20) hln
  have F := hF f hl
  have bb := g.bi f hl
  obtain ⟨e1, e2, e3, e4, e5⟩ := And.intro C.hP (And.intro C.hw (And.intro C.hK (And.intro C.hm C.hb)))
  subst e1 e2 e3 e4 e5
  have po := io.v _ _ X Wi h3 C tk
  have pa := ia.l _ _ X Wi h4 C tk
  have go : ∀ {σ : L2.St} {H : Hp} {Q : VK}, tE X.K nm Wi (ev G (run G kk) (.meth c o m as)) σ H Q → tMethS (nm.C c) n (spF X.K nm G kk f) (WE Wi) (tE X.K nm Wi (ev G (run G kk) o)) (tA X.K nm Wi (ev G (run G kk) as)) σ H Q := fun {σ H Q} wq => by
    obtain ⟨W, S, env, E, r, z⟩ := wq
    simp only [ev] at z
    refine ⟨W, S, env, E, r, (Wq.bind (rp := rpD X.K) z).mono fun x H1 z => ?_⟩
    obtain ⟨W1, S1, dx, e1, r1, p1, z⟩ := z
    rw [hf] at z
    cases hc : clsD dx S1 with
    | none => rw [hc] at z; exact z.elim
    | some c' =>
      rw [hc] at z
      dsimp only at z
      split at z <;> try exact z.elim
      rename_i hcc
      subst hcc
      obtain ⟨n', a, dx', fs, vs, rfl, rfl, h5, h6, h7, h8⟩ := ins_at r1 p1 hc
      refine ⟨a, dx', vs, rfl, h7, fld_no h8 nof, W1, S1, env, E.mono r.trk e1, r1, (Wq.bind (rp := rpA X.K) z).mono fun us H2 z => ?_⟩
      obtain ⟨W2, S2, dy, e2, r2, ⟨ys, e3, p2⟩, z⟩ := z
      subst e3
      exact ⟨W2, S2, .ref n' :: ys, r2, .cons (p1.mono r1.trk e2) p2, z⟩
  cases es with
  | nil =>
    have hc : as = .nil := by cases as <;> simp only [chkA] at h4 <;> first | rfl | cases h4
    subst hc
    refine (pe_methAt0 (E := WE Wi) (k := 2 * kk) po cls meth F (C.room.mono (by omega)) bb (fun σ => tk_at tk σ) hev).imp fun σ H Q wq => ?_
    obtain ⟨W, S, env, E, r, z⟩ := go wq
    refine ⟨W, S, env, E, r, z.mono fun x H1 z => ?_⟩
    obtain ⟨a, dx, fs, h5, h6, h7, W1, S1, env1, E1, r1, z⟩ := z
    exact ⟨a, dx, fs, h5, h6, h7, z [] W1 H1 Ext.refl r1 ⟨[], rfl, .nil⟩⟩
  | cons p es =>
    exact (pe_methAt (E := WE Wi) (k := 2 * kk) po cls meth F (C.room.mono (by omega)) bb (fun σ => tk_at tk σ) pa (star_ok (star1 h4)) (stars_ok1 h4) hev).imp fun σ H Q wq => go wq

/-! ### making -/
def tMakeS (C : Addr) (sp : Sp) (E : L2.St → XK) (t : TA) : TE := fun σ H Q => t σ H fun vs H1 => ∀ x dx, H1 x = none → H1 dx = none → dx ≠ x → sp (.ref x :: vs) (upd (upd H1 dx (.own x)) x (.ins C dx [])) (fun v H2 => v = .non ∧ Q (.ref x) H2) (E σ)
theorem run_makeS {X : Cx} {CX : CXT} {k : Nat} {f C : Addr} {fdt : FuncData} {psf : List Str} {sp : Sp} {E : XK} {pins : List (Addr × Obj)} {σ : L2.St} {H : Hp} {s : Shared} {Q : VK} {us : List Value} {vs : List V} (M : Mk X.K C f) (F : FnOk X.prog X.w X.K X.mg X.base CX k f fdt psf sp)
    (hr : Room (k + 1) X.A) (hb : Binds X.K fdt psf []) (hx : PassesAt CX X σ E) (I : Inv X pins σ H s) (r : Vals vs us)
    (h : ∀ x dx, H x = none → H dx = none → dx ≠ x → sp (.ref x :: vs) (upd (upd H dx (.own x)) x (.ins C dx [])) (fun v H2 => v = .non ∧ Q (.ref x) H2) E) : wpAny (model X.prog X.w) X.A (call (.ref C) us) (EP X pins σ Q) X.xe s := by
  have hq := h (s.heap.objs.size + 1) s.heap.objs.size (I.hok.fresh (Nat.le_succ _)) (I.hok.fresh (Nat.le_refl _)) (Nat.ne_of_lt (Nat.lt_succ_self _))
  have I2 := Inv.made (C := C) I
  have r2 : Vals (V.ref (s.heap.objs.size + 1) :: vs) (Value.ref (s.heap.objs.size + 1) :: us) := .cons rfl r
  have hl : (Value.ref (s.heap.objs.size + 1) :: us ++ ([] : List Value)).length = psf.length := by
    have e := r2.length
    rw [F.len _ _ _ _ hq] at e
    rw [List.append_nil]
    exact e.symm
  have b := hb _ (Value.ref (s.heap.objs.size + 1) :: us) I2.kIn hl
  rw [List.append_nil] at b
  refine wpAny_call (make_map (f := f) I.kIn M.makes M.init (beq_iff_eq.mp M.fn) (codeAny_mono (F.run _ X.stack _ _ ⟨Value.ref (s.heap.objs.size + 1) :: us, []⟩ (Value.ref (s.heap.objs.size + 1) :: us) _ _ E (hr.make C us [])
    (I2.env0.make C us []) b r2 hq) fun r s' hq' => ?_))
  cases r with
  | error e => exact hx pins _ _ e s' I2 hq'
  | ok fl =>
    cases fl with
    | ret u =>
      obtain ⟨v, H', I3, rv, ev, q3⟩ := I2.after hq'
      subst ev
      exact ⟨rv, ⟨V.ref (s.heap.objs.size + 1), H', I3, rfl, q3⟩⟩
    | next => exact hq'.elim
    | brk => exact hq'.elim
    | cont => exact hq'.elim
theorem pe_makeAt {X : Cx} {CX : CXT} {k : Nat} {f C : Addr} {fdt : FuncData} {psf : List Str} {sp : Sp} {E : L2.St → XK} {x : Str} {p pos : Pos} {e : Expr} {es : List Expr} {t : TA} (M : Mk X.K C f) (F : FnOk X.prog X.w X.K X.mg X.base CX k f fdt psf sp)
    (hr : Room (k + 1) X.A) (hg : Gl X x) (hm : X.mg x = some (.ref C)) (hb : Binds X.K fdt psf []) (hx : ∀ σ, PassesAt CX X σ (E σ)) (ha : PA X (e :: es) t) (hdb : (x == ("__debug__" : Str)) = false)
    (he : starEach (e :: es) X.env = (false, eval e X.env) :: starEach es X.env) (hpl : (backTo pos (starEach es X.env)).any (·.1) = false) : PE X (.Call (.Name x p) (e :: es) [] pos) (tMakeS C sp E t) := by
  refine ⟨fun pins s σ H Q I h => wpAny_Call_Name_kw (ld_glob I hg hm (PySem.W.callWith_K (h₀ := X.base) I.ok.mod.kin M.kp (thn (ha.run pos pins s σ H _ I h) fun us s1 ⟨vs, H1, I1, r, q⟩ => ⟨I1.kIn, ?_⟩) he hpl) hdb)⟩
  exact run_makeS M F hr hb (hx σ) I1 r q
theorem pe_makeAt0 {X : Cx} {CX : CXT} {k : Nat} {f C : Addr} {fdt : FuncData} {psf : List Str} {sp : Sp} {E : L2.St → XK} {x : Str} {p pos : Pos} (M : Mk X.K C f) (F : FnOk X.prog X.w X.K X.mg X.base CX k f fdt psf sp)
    (hr : Room (k + 1) X.A) (hg : Gl X x) (hm : X.mg x = some (.ref C)) (hb : Binds X.K fdt psf []) (hx : ∀ σ, PassesAt CX X σ (E σ)) (hdb : (x == ("__debug__" : Str)) = false) : PE X (.Call (.Name x p) [] [] pos) (tMakeS C sp E tNil) :=
  ⟨fun pins s σ H Q I h => wpAny_Call_Name_kw (ld_glob I hg hm (PySem.W.callWith_K0 I.kIn M.kp (run_makeS (us := []) M F hr hb (hx σ) I .nil h)) hdb)⟩
theorem s_mk (g : GOk K mg G Y nm fa fd ps) (hF : ∀ f : Nat, (G.fns f).isSome = true → FnOk P w K mg base (L2.CX P w) (2 * kk) (fa f) (fd f) (ps f) (spF K nm G kk f)) (c : Nat) (as : E) (ia : Snd P w K mg base G Y nm kk N as) : Snd P w K mg base G Y nm kk N (.mk c as) := by
  refine ⟨fun sc x X Wi h C tk => ?_, fun sc x X Wi h C tk => by simp [chkT] at h, fun sc a X Wi h C tk => by simp [chkA] at h⟩
  simp only [chk] at h
  split at h <;> try (cases h; done)
  rename_i x np es cp
  simp only [Bool.and_eq_true, decide_eq_true_eq, Bool.not_eq_true'] at h
  obtain ⟨⟨⟨h1, h2⟩, h3⟩, h4⟩ := h
  obtain ⟨f, hf, hl, M⟩ := g.mke c x h1
  obtain ⟨cls, hmg, _⟩ := g.cl c x h1
  have F := hF f hl
  have bb := g.bi f hl
  obtain ⟨e1, e2, e3, e4, e5⟩ := And.intro C.hP (And.intro C.hw (And.intro C.hK (And.intro C.hm C.hb)))
  subst e1 e2 e3 e4 e5
  have pa := ia.l _ _ X Wi h4 C tk
  have core : ∀ {W : Wd} {S : Store} {H1 : Hp} {xs : List D} {vs : List V} {Q : VK} {σ : L2.St}, Rel X.K nm W S H1 → Reps X.K W H1 xs vs → Wq X.K nm (rpD X.K) W H1 ((run G kk f (.ref S.length :: xs) (S ++ [.ins c []])).bind fun d S' => match d with
      | .non => .ok (.ref S.length) S'
      | _ => .bad) Q (Xw nm Wi σ) → ∀ x dx, H1 x = none → H1 dx = none → dx ≠ x → spF X.K nm G kk f (.ref x :: vs) (upd (upd H1 dx (.own x)) x (.ins (nm.C c) dx [])) (fun v H2 => v = .non ∧ Q (.ref x) H2) (WE Wi σ) := by
    intro W S H1 xs vs Q σ r p z x dx hx hdx hne
    have r1 : Rel X.K nm W S (upd H1 dx (.own x)) := r.alloc hdx
    have hx1 : upd H1 dx (.own x) x = none := by rw [upd_ne (Ne.symm hne)]; exact hx
    have e1 : Ext W H1 W (upd H1 dx (.own x)) := Ext.alloc hdx
    have e2 : Ext W (upd H1 dx (.own x)) ⟨W.m ++ [x], W.B⟩ (upd (upd H1 dx (.own x)) x (.ins (nm.C c) dx [])) := Ext.join hx1
    have r2 := r1.join (ob := .ins c []) (o := .ins (nm.C c) dx []) hx1 ⟨dx, [], upd_same, .nil⟩
    have hm : (W.m ++ [x])[S.length]? = some x := by
      rw [← r.len, List.getElem?_append_right (Nat.le_refl _), Nat.sub_self]
      rfl
    have e12 : Ext W H1 ⟨W.m ++ [x], W.B⟩ (upd (upd H1 dx (.own x)) x (.ins (nm.C c) dx [])) := by
      refine ⟨rfl, ⟨[x], rfl, fun a ha => by rw [List.mem_singleton.mp ha]; exact hx⟩, fun a o h n => by rw [upd_ne (ne_of_none h hx), upd_ne (ne_of_none h hdx)]; exact h, fun a od u h => by rw [upd_ne (ne_of_none h hx), upd_ne (ne_of_none h hdx)]; exact h⟩
    refine ⟨⟨W.m ++ [x], W.B⟩, S ++ [.ins c []], .ref S.length :: xs, r2, .cons (.ref hm) (p.mono r.trk e12), ?_⟩
    have z := Wq.ext e12 r2.trk z
    refine (Wq.bind (rp := rpD X.K) z).mono fun v H2 z => ?_
    obtain ⟨W2, S2, d, e3, r3, p3, z⟩ := z
    cases d with
    | non =>
      cases p3
      obtain ⟨t, et, _⟩ := e3.m
      exact ⟨rfl, z (.ref x) W2 H2 Ext.refl r3 (.ref (by rw [et, List.getElem?_append_left (List.getElem?_eq_some_iff.mp hm).1]; exact hm))⟩
    | _ => exact z.elim
  have go : ∀ {σ : L2.St} {H : Hp} {Q : VK}, tE X.K nm Wi (ev G (run G kk) (.mk c as)) σ H Q → tMakeS (nm.C c) (spF X.K nm G kk f) (WE Wi) (tA X.K nm Wi (ev G (run G kk) as)) σ H Q := fun {σ H Q} wq => by
    simp only [ev, hf] at wq
    obtain ⟨W, S, env, E, r, z⟩ := tX.args (g := fun _ xs S => (run G kk f (.ref S.length :: toTup xs) (S ++ [.ins c []])).bind fun d S' => match d with
      | .non => .ok (D.ref S.length) S'
      | _ => .bad) wq
    refine ⟨W, S, env, E, r, z.mono fun vs H1 z => ?_⟩
    obtain ⟨W1, S1, xs, env1, E1, r1, p1, z⟩ := z
    exact core r1 p1 z
  cases es with
  | nil =>
    have hc : as = .nil := by cases as <;> simp only [chkA] at h4 <;> first | rfl | cases h4
    subst hc
    refine (pe_makeAt0 (E := WE Wi) (k := 2 * kk) M F C.room (gl_ok C h2) hmg bb (fun σ => tk_at tk σ) (dbg_ok h3)).imp fun σ H Q wq => ?_
    obtain ⟨W, S, env, E, r, z⟩ := go wq
    exact z [] W H Ext.refl r ⟨[], rfl, .nil⟩
  | cons p es => exact (pe_makeAt (E := WE Wi) (k := 2 * kk) M F C.room (gl_ok C h2) hmg bb (fun σ => tk_at tk σ) pa (dbg_ok h3) (star_ok (star1 h4)) (stars_ok1 h4)).imp fun σ H Q wq => go wq

/-! ### within an except suite -/
structure COkH (P : Program) (w : World) (K : PySem.W.Frag) (mg : Str → Option Value) (N : List Str) (sc : Scope) (X : Cx) : Prop where
  hK : X.K = K
  hm : X.mg = mg
  hN : X.N = N
  nd : N.Nodup
  sc : X.env.scope = sc
  fn : ∀ x, X.fn x = true
/-- what may stand there -/
def plainE : E → Bool
  | .var _ => true
  | .con _ => true
  | .bin .add a b => plainE a && plainE b
  | .tup as => plainE as
  | .nil => true
  | .cons a as => plainE a && plainE as
  | _ => false
variable (P w K mg G Y nm N) in
structure SndH (call : Calls) (e : E) : Prop where
  v : ∀ (sc : Scope) (a : Expr) (X : Cx), plainE e = true → chk Y N e sc a = true → COkH P w K mg N sc X → PE X a (tE K nm noX (ev G call e))
  l : ∀ (sc : Scope) (a : List Expr) (X : Cx), plainE e = true → chkA Y N e sc a = true → COkH P w K mg N sc X → PA X a (tA K nm noX (ev G call e))
theorem sndH {call : Calls} (e : E) : SndH P w K mg G Y nm N call e := by
  induction e with
  | var i =>
    refine ⟨fun sc a X _ h C => ?_, fun sc a X _ h C => by simp [chkA] at h⟩
    cases a <;> simp only [chk] at h <;> first | (cases h; done) | skip
    rename_i vx vp
    simp only [Bool.and_eq_true, Bool.not_eq_true', decide_eq_true_eq] at h
    obtain ⟨⟨⟨h1, h2⟩, h3⟩, h4⟩ := h
    have hv : Vis X.env.scope vx := by
      rw [C.sc]
      unfold vis at h2
      split at h2
      · exact .inl (by assumption)
      · exact .inr (.inl (by assumption))
      · exact .inr (.inr (by assumption))
      · cases h2
    refine (pe_var (i := i) (by rw [C.hN]; exact h1) hv h3 h4).imp fun σ H Q ⟨W, S, env, E, r, q⟩ => ?_
    simp only [ev] at q
    split at q
    · rename_i d e
      obtain ⟨v, e1, e2⟩ := E.get i d e
      exact ⟨v, e1, q v W H Ext.refl r e2⟩
    · exact q.elim
  | con d =>
    refine ⟨fun sc a X _ h C => ?_, fun sc a X _ h C => by simp [chkA] at h⟩
    simp only [chk] at h
    have fin : ∀ {v : V} {σ : L2.St} {H : Hp} {Q : VK}, (∀ W, Rep K W H d v) → tE K nm noX (ev G call (.con d)) σ H Q → Q v H := fun {v σ H Q} p ⟨W, S, env, E, r, q⟩ => q v W H Ext.refl r (p W)
    split at h <;> first | (cases h; done) | (have h' := of_decide_eq_true h; subst h') | skip
    · exact pe_int.imp fun σ H Q q => fin (fun _ => .int _) q
    · exact pe_bl.imp fun σ H Q q => fin (fun _ => .bl _) q
    · exact pe_non.imp fun σ H Q q => fin (fun _ => .non) q
    · exact pe_str.imp fun σ H Q q => fin (fun _ => .str _) q
  | bin o a b ia ib =>
    refine ⟨fun sc x X hp h C => ?_, fun sc a X _ h C => by simp [chkA] at h⟩
    cases o <;> simp only [plainE] at hp <;> first | (cases hp; done) | skip
    simp only [Bool.and_eq_true] at hp
    cases x <;> simp only [chk] at h <;> first | (cases h; done) | skip
    simp only [Bool.and_eq_true, decide_eq_true_eq] at h
    obtain ⟨⟨h1, h2⟩, h3⟩ := h
    subst h1
    exact (pe_op op_add4 (ia.v _ _ X hp.1 h2 C) (ib.v _ _ X hp.2 h3 C)).imp fun σ H Q wq => tX.op wq fun r p q z => by obtain ⟨d, e, f⟩ := z.fin; have := C.hK; subst this; exact add_ok r p q e f
  | tup as ia =>
    refine ⟨fun sc x X hp h C => ?_, fun sc a X _ h C => by simp [chkA] at h⟩
    simp only [chk] at h
    split at h <;> try (cases h; done)
    refine (pe_tup (ia.l _ _ X hp h C)).imp fun σ H Q wq => ?_
    simp only [ev] at wq
    obtain ⟨W, S, env, E, r, z⟩ := tX.args (g := fun _ xs S => R.of (mkTup (toTup xs)) S) wq
    refine ⟨W, S, env, E, r, z.mono fun vs H1 z => ?_⟩
    obtain ⟨W1, S1, xs, env1, E1, r1, p1, z⟩ := z
    obtain ⟨d, e, f⟩ := z.fin
    obtain ⟨hz, e2⟩ := mkTup_some (xs := xs) e
    subst e2
    exact ⟨p1.sz hz, fun p hp => f.tup r1 p1 hp⟩
  | nil =>
    refine ⟨fun sc a X _ h C => by simp [chk] at h, fun sc a X _ h C => ?_⟩
    cases a with
    | nil => exact pa_nil.imp fun σ H Q ⟨W, S, env, E, r, q⟩ => q [] W H Ext.refl r ⟨[], rfl, .nil⟩
    | cons x y => simp [chkA] at h
  | cons a as ia ib =>
    refine ⟨fun sc a X _ h C => by simp [chk] at h, fun sc es X hp h C => ?_⟩
    simp only [plainE, Bool.and_eq_true] at hp
    simp only [chkA] at h
    split at h <;> try (cases h; done)
    simp only [Bool.and_eq_true] at h
    obtain ⟨⟨h1, h2⟩, h3⟩ := h
    refine (pa_cons (ia.v _ _ X hp.1 h2 C) (ib.l _ _ X hp.2 h3 C) (star_ok h1)).imp fun σ H Q wq => ?_
    obtain ⟨W, S, env, E, r, z⟩ := wq
    simp only [ev] at z
    refine ⟨W, S, env, E, r, (Wq.bind (rp := rpD K) z).mono fun x H1 z => ?_⟩
    obtain ⟨W1, S1, dx, e1, r1, p1, z⟩ := z
    refine ⟨W1, S1, env, E.mono r.trk e1, r1, (Wq.bind (rp := rpA K) z).mono fun vs H2 z => ?_⟩
    obtain ⟨W2, S2, dy, e2, r2, ⟨xs, e3, p2⟩, z⟩ := z
    subst e3
    exact z _ W2 H2 Ext.refl r2 ⟨_, rfl, .cons (p1.mono r1.trk e2) p2⟩
  | _ => exact ⟨fun sc a X hp => by simp [plainE] at hp, fun sc a X hp => by simp [plainE] at hp⟩
end
end PL

set_option Elab.async false
set_option linter.all false
set_option maxRecDepth 100000
set_option maxHeartbeats 2000000
/-! PLM: every expression; statements. -/
namespace PL
open PySem PySem.Spec PyProof.Rows L2
section
variable {P : Program} {w : World} {K : PySem.W.Frag} {mg : Str → Option Value} {base : Heap} {G : Tab} {Y : Sx} {nm : Nm} {fa : Nat → Addr} {fd : Nat → FuncData} {ps : Nat → List Str} {kk : Nat} {N : List Str}
variable {sc : Scope} {X : Cx} {Wi : WX}
abbrev Snd4 (P : Program) (w : World) (K : PySem.W.Frag) (mg : Str → Option Value) (base : Heap) (G : Tab) (Y : Sx) (nm : Nm) (kk : Nat) (N : List Str) (e : E) : Prop := Snd P w K mg base G Y nm kk N e ∧ SndN P w K mg base G Y nm kk N e ∧ SndM P w K mg base G Y nm kk N e ∧ SndF P w K mg base G Y nm kk N e ∧ SndD P w K mg base G Y nm kk N e
theorem snd4 (g : GOk K mg G Y nm fa fd ps) (hF : ∀ f : Nat, (G.fns f).isSome = true → FnOk P w K mg base (L2.CX P w) (2 * kk) (fa f) (fd f) (ps f) (spF K nm G kk f)) (e : E) : Snd4 P w K mg base G Y nm kk N e := by
  have no : ∀ {e : E}, Snd P w K mg base G Y nm kk N e → isFresh e = false → (∀ sc x, chkM Y N e sc x = false) → (∀ sc es, chkF Y N e sc es = false) → (∀ sc es, chkA Y N e sc es = false) → Snd4 P w K mg base G Y nm kk N e := fun a b c d q => ⟨a, .no b, m_no c, f_no d, d_no q⟩
  have no2 : ∀ {e : E}, Snd P w K mg base G Y nm kk N e → SndN P w K mg base G Y nm kk N e → (∀ sc x, chkM Y N e sc x = false) → (∀ sc es, chkF Y N e sc es = false) → (∀ sc es, chkA Y N e sc es = false) → Snd4 P w K mg base G Y nm kk N e := fun a b c d q => ⟨a, b, m_no c, f_no d, d_no q⟩
  induction e with
  | var i => exact no (s_var i) rfl (fun _ _ => by simp [chkM]) (fun _ _ => by simp [chkF]) (fun _ _ => by simp [chkA])
  | glb j => exact no (s_glb g j) rfl (fun _ _ => by simp [chkM]) (fun _ _ => by simp [chkF]) (fun _ _ => by simp [chkA])
  | cmp o a b ia ib => exact no (s_cmp o a b ia.1 ib.1) rfl (fun _ _ => by simp [chkM]) (fun _ _ => by simp [chkF]) (fun _ _ => by simp [chkA])
  | chain o o' a b c ia ib ic => exact no (s_chain o o' a b c ia.1 ib.1 ic.1) rfl (fun _ _ => by simp [chkM]) (fun _ _ => by simp [chkF]) (fun _ _ => by simp [chkA])
  | isn a ia => exact no (s_isn a ia.1) rfl (fun _ _ => by simp [chkM]) (fun _ _ => by simp [chkF]) (fun _ _ => by simp [chkA])
  | ntn a ia => exact no (s_ntn a ia.1) rfl (fun _ _ => by simp [chkM]) (fun _ _ => by simp [chkF]) (fun _ _ => by simp [chkA])
  | neg a ia => exact no (s_neg a ia.1) rfl (fun _ _ => by simp [chkM]) (fun _ _ => by simp [chkF]) (fun _ _ => by simp [chkA])
  | nt a ia => exact no (s_nt a ia.1) rfl (fun _ _ => by simp [chkM]) (fun _ _ => by simp [chkF]) (fun _ _ => by simp [chkA])
  | and a b ia ib => exact no (s_and a b ia.1 ib.1) rfl (fun _ _ => by simp [chkM]) (fun _ _ => by simp [chkF]) (fun _ _ => by simp [chkA])
  | or a b ia ib => exact no (s_or a b ia.1 ib.1) rfl (fun _ _ => by simp [chkM]) (fun _ _ => by simp [chkF]) (fun _ _ => by simp [chkA])
  | ite c a b ic ia ib => exact no (s_ite c a b ic.1 ia.1 ib.1) rfl (fun _ _ => by simp [chkM]) (fun _ _ => by simp [chkF]) (fun _ _ => by simp [chkA])
  | isa a t ia => exact no (s_isa g a t ia.1) rfl (fun _ _ => by simp [chkM]) (fun _ _ => by simp [chkF]) (fun _ _ => by simp [chkA])
  | call f as ia => exact no (s_call g hF f as ia.1) rfl (fun _ _ => by simp [chkM]) (fun _ _ => by simp [chkF]) (fun _ _ => by simp [chkA])
  | ix a i ia ib => exact no (s_ix a i ia.1 ib.1) rfl (fun _ _ => by simp [chkM]) (fun _ _ => by simp [chkF]) (fun _ _ => by simp [chkA])
  | sl3 a lo hi st ia il ih => exact no (s_sl3 a lo hi st ia.1 il.1 ih.1) rfl (fun _ _ => by simp [chkM]) (fun _ _ => by simp [chkF]) (fun _ _ => by simp [chkA])
  | tup as ia => exact no (s_tup as ia.1) rfl (fun _ _ => by simp [chkM]) (fun _ _ => by simp [chkF]) (fun _ _ => by simp [chkA])
  | emp => exact no (s_emp) rfl (fun _ _ => by simp [chkM]) (fun _ _ => by simp [chkF]) (fun _ _ => by simp [chkA])
  | one a ia => exact no (s_one a ia.1) rfl (fun _ _ => by simp [chkM]) (fun _ _ => by simp [chkF]) (fun _ _ => by simp [chkA])
  | val a ia => exact no (s_val a ia.1) rfl (fun _ _ => by simp [chkM]) (fun _ _ => by simp [chkF]) (fun _ _ => by simp [chkA])
  | new e ie => exact no (s_new e ie.2.1) rfl (fun _ _ => by simp [chkM]) (fun _ _ => by simp [chkF]) (fun _ _ => by simp [chkA])
  | dict0 => exact no (s_dict0) rfl (fun _ _ => by simp [chkM]) (fun _ _ => by simp [chkF]) (fun _ _ => by simp [chkA])
  | din ng a b ia ib => exact no (s_din ng a b ia.1 ib.1) rfl (fun _ _ => by simp [chkM]) (fun _ _ => by simp [chkF]) (fun _ _ => by simp [chkA])
  | dix a i ia ib => exact no (s_dix a i ia.1 ib.1) rfl (fun _ _ => by simp [chkM]) (fun _ _ => by simp [chkF]) (fun _ _ => by simp [chkA])
  | bm m o as io ia => exact no (s_bm m o as io.1 ia.1) rfl (fun _ _ => by simp [chkM]) (fun _ _ => by simp [chkF]) (fun _ _ => by simp [chkA])
  | fstr as ia => exact no (s_fstr as ia.2.2.2.1) rfl (fun _ _ => by simp [chkM]) (fun _ _ => by simp [chkF]) (fun _ _ => by simp [chkA])
  | fld c o f io => exact no (s_fld g c o f io.1) rfl (fun _ _ => by simp [chkM]) (fun _ _ => by simp [chkF]) (fun _ _ => by simp [chkA])
  | meth c o m as io ia => exact no (s_meth g hF c o m as io.1 ia.1) rfl (fun _ _ => by simp [chkM]) (fun _ _ => by simp [chkF]) (fun _ _ => by simp [chkA])
  | mk c as ia => exact no (s_mk g hF c as ia.1) rfl (fun _ _ => by simp [chkM]) (fun _ _ => by simp [chkF]) (fun _ _ => by simp [chkA])
  | con d => exact ⟨s_con d, .no rfl, m_con d, f_no (fun _ _ => by simp [chkF]), d_no (fun _ _ => by simp [chkA])⟩
  | fmt a ia => exact ⟨⟨fun sc x X Wi h C tk => by simp [chk] at h, fun sc x X Wi h C tk => by simp [chkT] at h, fun sc a X Wi h C tk => by simp [chkA] at h⟩, .no rfl, m_fmt a ia.1, f_no (fun _ _ => by simp [chkF]), d_no (fun _ _ => by simp [chkA])⟩
  | nil => exact ⟨s_nil, .no rfl, m_no (fun _ _ => by simp [chkM]), f_nil, d_nil⟩
  | cons a as ia ib => exact ⟨s_cons a as ia.1 ib.1, .no rfl, m_no (fun _ _ => by simp [chkM]), f_cons a as ia.2.2.1 ib.2.2.2.1, d_cons a as ia.1 ib.2.2.2.2⟩
  | lrng k as ia => exact no2 (s_lrng g k as ia.1) (n_lrng g k as ia.1) (fun _ _ => by simp [chkM]) (fun _ _ => by simp [chkF]) (fun _ _ => by simp [chkA])
  | dict ks vs _ iv => exact no (s_dict ks vs iv.2.2.2.2) rfl (fun _ _ => by simp [chkM]) (fun _ _ => by simp [chkF]) (fun _ _ => by simp [chkA])
  | bin o a b ia ib => exact no2 (s_bin o a b ia.1 ib.1) (n_bin o a b ia.1 ib.1) (fun _ _ => by simp [chkM]) (fun _ _ => by simp [chkF]) (fun _ _ => by simp [chkA])
  | bf f as ia => exact no2 (s_bf g f as ia.1) (n_bf g f as ia.1) (fun _ _ => by simp [chkM]) (fun _ _ => by simp [chkF]) (fun _ _ => by simp [chkA])
  | sl a lo hi ia il ih => exact no2 (s_sl a lo hi ia.1 il.1 ih.1) (n_sl a lo hi ia.1 il.1 ih.1) (fun _ _ => by simp [chkM]) (fun _ _ => by simp [chkF]) (fun _ _ => by simp [chkA])
  | lst as ia => exact no2 (s_lst as ia.1) (n_lst as ia.1) (fun _ _ => by simp [chkM]) (fun _ _ => by simp [chkF]) (fun _ _ => by simp [chkA])
  | comp k src tg c e is ic ie => exact no2 (s_comp g k src tg c e is.1 ic.1 ie.1) (n_comp g k src tg c e is.1 ic.1 ie.1) (fun _ _ => by simp [chkM]) (fun _ _ => by simp [chkF]) (fun _ _ => by simp [chkA])
  | _ => exact no ⟨fun sc x X Wi h C tk => by simp [chk] at h, fun sc x X Wi h C tk => by simp [chkT] at h, fun sc a X Wi h C tk => by simp [chkA] at h⟩ rfl (fun _ _ => by simp [chkM]) (fun _ _ => by simp [chkF]) (fun _ _ => by simp [chkA])
theorem snd (g : GOk K mg G Y nm fa fd ps) (hF : ∀ f : Nat, (G.fns f).isSome = true → FnOk P w K mg base (L2.CX P w) (2 * kk) (fa f) (fd f) (ps f) (spF K nm G kk f)) (e : E) : Snd P w K mg base G Y nm kk N e := (snd4 g hF e).1

/-! ### statements -/
def WqS (K : PySem.W.Frag) (nm : Nm) (W : Wd) (H : Hp) (r : RS) (D : Ends) (Wi : WX) : Prop := match r with
  | .nx env' S' => ∀ W' H' σ', Ext W H W' H' → Rel K nm W' S' H' → ERep K W' H' env' σ' → D.nx σ' H'
  | .rt d S' => ∀ v W' H', Ext W H W' H' → Rel K nm W' S' H' → Rep K W' H' d v → D.rt v H'
  | .ex c env' S' => ∀ W' H' σ', Ext W H W' H' → Rel K nm W' S' H' → ERep K W' H' env' σ' → Wi (.ref (nm.X c)) none σ' H'
  | .bad => False
def tS (K : PySem.W.Frag) (nm : Nm) (Wi : WX) (f : Env → Store → RS) : TS := fun D σ H => ∃ W S env, ERep K W H env σ ∧ Rel K nm W S H ∧ WqS K nm W H (f env S) D Wi
theorem WqS.ext {W W' : Wd} {H H' : Hp} {r : RS} {D : Ends} (e : Ext W H W' H') (t : Trk W' H') (w : WqS K nm W H r D Wi) : WqS K nm W' H' r D Wi := by
  cases r with
  | nx env S => exact fun W2 H2 σ e2 r p => w W2 H2 σ (e.trans t e2) r p
  | rt d S => exact fun v W2 H2 e2 r p => w v W2 H2 (e.trans t e2) r p
  | ex c env S => exact fun W2 H2 σ e2 r p => w W2 H2 σ (e.trans t e2) r p
  | bad => exact w
theorem WqS.andThen {W : Wd} {H : Hp} {r : RS} {f : Env → Store → RS} {D : Ends} (w : WqS K nm W H (r.andThen f) D Wi) : WqS K nm W H r { D with nx := fun σ H => tS K nm Wi f D σ H } Wi := by
  cases r with
  | nx env S => exact fun W2 H2 σ e2 r p => ⟨W2, S, env, p, r, WqS.ext e2 r.trk w⟩
  | rt d S => exact w
  | ex c env S => exact w
  | bad => exact w
theorem stm_andThen {α : Type} (r : R α) (env : Env) (f : α → Store → RS) (g : Env → Store → RS) : (r.stm env f).andThen g = r.stm env fun a S => (f a S).andThen g := by cases r <;> rfl
/-- a value within a statement -/
theorem WqS.stm {α β : Type} {rp : Wd → Hp → α → β → Prop} {W : Wd} {H : Hp} {r : R α} {env : Env} {S : Store} {σ : L2.St} {f : α → Store → RS} {D : Ends} (E : ERep K W H env σ) (r0 : Rel K nm W S H) (w : WqS K nm W H (r.stm env f) D Wi) :
    Wq K nm rp W H r (fun v H1 => ∃ W1 S1 d, Ext W H W1 H1 ∧ ERep K W1 H1 env σ ∧ Rel K nm W1 S1 H1 ∧ rp W1 H1 d v ∧ WqS K nm W1 H1 (f d S1) D Wi) (Xw nm Wi σ) := by
  cases r with
  | ok d S1 => exact fun v W1 H1 e r p => ⟨W1, S1, d, e, E.mono r0.trk e, r, p, WqS.ext e r.trk w⟩
  | ex c S1 => exact fun W1 H1 e r => w W1 H1 σ e r (E.mono r0.trk e)
  | bad => exact w
theorem pss_then {st : Stmt} {rest : List Stmt} {f g : Env → Store → RS} (h1 : PS X st (tS K nm Wi f)) (h2 : PSs X rest (tS K nm Wi g)) : PSs X (st :: rest) (tS K nm Wi fun env S => (f env S).andThen g) := by
  refine (pss_cons h1 h2).imp fun D σ H q => ?_
  obtain ⟨W, S, env, E, r, z⟩ := q
  exact ⟨W, S, env, E, r, z.andThen⟩
theorem tS_eq {f g : Env → Store → RS} (h : ∀ env S, f env S = g env S) : tS K nm Wi f = tS K nm Wi g := by
  have : f = g := by funext env S; exact h env S
  rw [this]

/-! ### the check -/
def isComp : Expr → Bool
  | .ListComp _ _ _ _ => true
  | .SetComp _ _ _ _ => true
  | .DictComp _ _ _ _ _ => true
  | _ => false
/-- a comprehension that is stored before its block goes: name = [..] on one line, the name a local of its own -/
def swOk (e : E) (v : Expr) (y : Str) (p : Pos) (sc : Scope) : Bool := match v with
  | .ListComp _ _ scope pos => (match e with
      | .comp k _ _ _ _ => decide (k ≠ .keys ∧ k ≠ .keysR)
      | .new (.comp k _ _ _ _) => decide (k ≠ .keys ∧ k ≠ .keysR)
      | _ => false) && decide (sc.kind = .function) && decide (sc.names.lookup y = some .local) && (p.line == pos.line) && !(scope.names.any fun (n, k) => n == y && (k == .local || k == .cell))
  | _ => false
def isTupE : Expr → Bool
  | .Tuple _ _ _ => true
  | _ => false
section
variable (Y : Sx) (N : List Str) (sc : Scope)
def chkH : T → List Stmt → Bool
  | .nil, sts => match sts with
    | [] => true
    | _ => false
  | .asg i e k, sts => match sts with
    | .Assign [.Name x p] v _ :: rest => tgN N true sc i (.Name x p) && !isComp v && plainE e && chk Y N e sc v && chkH k rest
    | _ => false
  | .fldS c o f e k, sts => match sts with
    | .Assign [.Attribute p n _] v _ :: rest => (Y.clN c).isSome && decide (Y.fdN f = some n) && !isComp v && plainE o && plainE e && chk Y N e sc v && chk Y N o sc p && chkH k rest
    | _ => false
  | .ret e, sts => match sts with
    | [.Return (some v) _] => plainE e && chk Y N e sc v
    | _ => false
  | _, _ => false
def chkS : T → List Stmt → Bool
  | .nil, sts => match sts with
    | [] => true
    | _ => false
  | .asg i e k, sts => match sts with
    | .Assign [.Name x p] v _ :: rest => tgN N true sc i (.Name x p) && (!isComp v || swOk e v x p sc) && chk Y N e sc v && chkS k rest
    | _ => false
  | .asgT is e k, sts => match sts with
    | .Assign [.Tuple es q p] v _ :: rest => tgC N true sc (.many is) (.Tuple es q p) && !isComp v && !isTupE v && chk Y N e sc v && chkS k rest
    | _ => false
  | .exp e k, sts => match sts with
    | .Expr v _ :: rest => !isComp v && chk Y N e sc v && chkS k rest
    | _ => false
  | .ret e, sts => match sts with
    | [.Return (some v) _] => chk Y N e sc v
    | _ => false
  | .ifs c a b k, sts => match sts with
    | .If t x y _ :: rest => chkT Y N c sc t && chkS a x && chkS b y && chkS k rest
    | _ => false
  | .whl c b k, sts => match sts with
    | .While t x [] _ :: rest => chkT Y N c sc t && chkS b x && chkS k rest
    | _ => false
  | .for_ ik src tg b k, sts => match sts with
    | .For t iter x [] _ :: rest => !isSet iter && tgC N true sc tg t && (match ik with
        | .plain => chk Y N src sc iter
        | .keys => isVarE src && chk Y N src sc iter
        | .keysR => srcV src && chk Y N src sc iter
        | .items => srcV src && isTupE t && (match iter with
          | .Call (.Attribute e n ap) [] [] cp => decide (n = "items") && noBase e && (ap.endLine == cp.line) && chk Y N src sc e
          | _ => false)
        | ik => match itArgs Y.blN ik sc t iter with
          | some es => chkA Y N src sc es
          | none => false) && decide (ik ≠ .keys) && chkS b x && chkS k rest
    | _ => false
  | .setI o i e k, sts => match sts with
    | .Assign [.Subscript p q _] v _ :: rest => !isComp v && notSlice q && chk Y N e sc v && chk Y N o sc p && chk Y N i sc q && chkS k rest
    | _ => false
  | .fldS c o f e k, sts => match sts with
    | .Assign [.Attribute p n _] v _ :: rest => (Y.clN c).isSome && decide (Y.fdN f = some n) && !isComp v && chk Y N e sc v && chk Y N o sc p && chkS k rest
    | _ => false
  | .rais c, sts => match sts with
    | [.Raise (some (.Call (.Name x _) [] [] _)) none _] => decide (Y.exN c = some x) && gl sc x && !dbg x
    | _ => false
  | .tr b cs h k, sts => match sts with
    | .Try body [.ExceptHandler (some (.Name x _)) none (b0 :: suite) _] [] [] _ :: rest => decide (Y.hdl x = some cs) && gl sc x && !dbg x && chkS b body && chkH Y N sc h (b0 :: suite) && chkS k rest
    | .Try body [.ExceptHandler (some (.Tuple [.Name x _, .Name x' _] _ _)) none (b0 :: suite) _] [] [] _ :: rest => (match Y.hdl x, Y.hdl x' with | some c1, some c2 => decide (cs = c1 ++ c2) | _, _ => false) && (gl sc x && !dbg x) && (gl sc x' && !dbg x') && chkS b body && chkH Y N sc h (b0 :: suite) && chkS k rest
    | _ => false
  | .tr2 b c h c' h' k, sts => match sts with
    | .Try body [.ExceptHandler (some (.Name x _)) none (b0 :: suite) _, .ExceptHandler (some (.Name x' _)) none (b0' :: suite') _] [] [] _ :: rest => decide (Y.hdl x = some [c]) && gl sc x && !dbg x && decide (Y.hdl x' = some [c']) && gl sc x' && !dbg x' && chkS b body && chkH Y N sc h (b0 :: suite) && chkH Y N sc h' (b0' :: suite') && chkS k rest
    | _ => false
end
variable (P w K mg base G Y nm kk N) in
def SndS (t : T) : Prop := ∀ (sc : Scope) (sts : List Stmt) (X : Cx) (Wi : WX), chkS Y N sc t sts = true → COk P w K mg base kk N sc X → ((∀ x, X.fn x = true) ∧ X.stack = X.env :: X.outer ∧ X.env.frame = some X.env.locals) → Takes X Wi → PassesOwn (model X.prog X.w) X.A X.env X.xe → PSs X sts (tS K nm Wi (exT G (run G kk) t))
theorem swaps_ok {v : Expr} {o : Option Expr} {n : Nat} {env : PySem.Env} (h : isComp v = false) : swapsWith v o n env = pure false := by
  cases v <;> first | rfl | cases h
theorem swapsS_ok {t v : Expr} {n : Nat} {env : PySem.Env} (h : isComp v = false) : swapsWithSole [t] v n env = pure false := by
  show swapsWith v (some t) n env = pure false
  exact swaps_ok h
theorem z_nil : SndS P w K mg base G Y nm kk N .nil := by
  intro sc sts X Wi h C hf tk hp
  cases sts with
  | nil => exact pss_nil.imp fun D σ H ⟨W, S, env, E, r, z⟩ => z W H σ Ext.refl r E
  | cons _ _ => cases h
theorem asg_base (g : GOk K mg G Y nm fa fd ps) (sn : ∀ e, Snd P w K mg base G Y nm kk N e) {i : Nat} {e : E} {x : Str} {p pos : Pos} {v : Expr} {sc : Scope} {X : Cx} {Wi : WX} (hf : (∀ x, X.fn x = true) ∧ X.stack = X.env :: X.outer ∧ X.env.frame = some X.env.locals)
    (h1 : tgN N true sc i (.Name x p) = true) (h2 : (!isComp v || swOk e v x p sc) = true) (h3 : chk Y N e sc v = true) (C : COk P w K mg base kk N sc X) (tk : Takes X Wi) : PS X (.Assign [.Name x p] v pos) (tAsg (tE K nm Wi (ev G (run G kk) e)) (gName i)) := by
  by_cases hc : isComp v = false
  · obtain ⟨pg, _⟩ := pg_one C.hN C.nd C.sc (fl := true) (fun _ => hf.1) h1
    exact ps_asg ((sn e).v _ _ X Wi h3 C (tk_of hf.2.2 tk)) pg (hs := swapsS_ok hc) (hw := rfl) (h1 := rfl)
  · rw [Bool.not_eq_false] at hc
    rw [hc] at h2
    simp only [Bool.not_true, Bool.false_or] at h2
    cases v <;> simp only [swOk] at h2 <;> first | (cases h2; done) | skip
    rename_i elt gens scope cpos
    simp only [Bool.and_eq_true, decide_eq_true_eq, Bool.not_eq_true'] at h2
    obtain ⟨⟨⟨⟨h2, hk⟩, hyl⟩, hl⟩, ha⟩ := h2
    have hyl' : X.env.scope.names.lookup x = some .local := by rw [C.sc]; exact hyl
    have hsw : swapsWith (.ListComp elt gens scope cpos) (some (.Name x p)) pos.line X.env = pure true := sw_true (by rw [C.sc]; exact hk) hyl' hl ha
    simp only [tgN, Bool.and_eq_true, decide_eq_true_eq] at h1
    have hy : X.N[i]? = some x := by rw [C.hN]; exact h1.1
    cases e <;> first | exact (Bool.false_ne_true h2).elim | skip
    · rename_i k src tg c e
      exact comp_asg g k src tg c e (sn src) (sn c) (sn e) fr_lst h3 C (tk_of hf.2.2 tk) (by simpa using h2) hy hyl' hsw
    · rename_i e
      cases e <;> first | exact (Bool.false_ne_true h2).elim | skip
      rename_i k src tg c e
      simp only [chk, Bool.and_eq_true] at h3
      have eq : ev G (run G kk) (.new (.comp k src tg c e)) = evC G (run G kk) k src tg c e fun ys S => .ok (.ref S.length) (S ++ [.lst ys]) := new_comp_eq
      rw [eq]
      exact comp_asg g k src tg c e (sn src) (sn c) (sn e) fr_new h3.2 C (tk_of hf.2.2 tk) (by simpa using h2) hy hyl' hsw
theorem z_asg (g : GOk K mg G Y nm fa fd ps) (sn : ∀ e, Snd P w K mg base G Y nm kk N e) (i : Nat) (e : E) (k : T) (ik : SndS P w K mg base G Y nm kk N k) : SndS P w K mg base G Y nm kk N (.asg i e k) := by
  intro sc sts X Wi h C hf tk hp
  simp only [chkS] at h
  split at h <;> try (cases h; done)
  simp only [Bool.and_eq_true] at h
  obtain ⟨⟨⟨h1, h2⟩, h3⟩, h4⟩ := h
  rw [tS_eq (g := fun env S => ((ev G (run G kk) e env S).stm env fun d S => .nx (env.set i (some d)) S).andThen (exT G (run G kk) k)) (fun env S => by rw [stm_andThen]; rfl)]
  refine pss_then ?_ (ik sc _ X Wi h4 C hf tk hp)
  refine (asg_base g sn hf h1 h2 h3 C tk).imp fun D σ H q => ?_
  obtain ⟨W, S, env, E, r, z⟩ := q
  refine ⟨W, S, env, E, r, (WqS.stm (rp := rpD K) E r z).mono fun v H1 z => ?_⟩
  obtain ⟨W1, S1, d, e1, E1, r1, p1, z⟩ := z
  exact z W1 H1 _ Ext.refl r1 (E1.set i p1)
theorem z_asgT (sn : ∀ e, Snd P w K mg base G Y nm kk N e) (is : List Nat) (e : E) (k : T) (ik : SndS P w K mg base G Y nm kk N k) : SndS P w K mg base G Y nm kk N (.asgT is e k) := by
  intro sc sts X Wi h C hf tk hp
  simp only [chkS] at h
  split at h <;> try (cases h; done)
  simp only [Bool.and_eq_true, Bool.not_eq_true'] at h
  obtain ⟨⟨⟨⟨h1, h2⟩, h5⟩, h3⟩, h4⟩ := h
  rw [tS_eq (g := fun env S => ((ev G (run G kk) e env S).stm env fun d S => match bindT (.many is) d env with
    | some env' => .nx env' S
    | none => .bad).andThen (exT G (run G kk) k)) (fun env S => by
      rw [stm_andThen]
      simp only [exT]
      congr 1
      funext d S
      cases bindT (.many is) d env <;> rfl)]
  refine pss_then ?_ (ik sc _ X Wi h4 C hf tk hp)
  have pg := pg_ok C.hK C.hN C.nd C.sc C.calm (fl := true) (fun _ => hf.1) h1
  refine (ps_asg ((sn e).v _ _ X Wi h3 C (tk_of hf.2.2 tk)) pg (hs := swapsS_ok h2) (hw := by rename_i v _ _; cases v <;> first | rfl | cases h5) (h1 := rfl)).imp fun D σ H q => ?_
  obtain ⟨W, S, env, E, r, z⟩ := q
  refine ⟨W, S, env, E, r, (WqS.stm (rp := rpD K) E r z).mono fun v H1 z => ?_⟩
  obtain ⟨W1, S1, d, e1, E1, r1, p1, z⟩ := z
  cases hb : bindT (.many is) d env with
  | none => rw [hb] at z; exact z.elim
  | some env' =>
    rw [hb] at z
    exact ⟨W1, d, env, env', E1.o _, p1, hb, fun σ' E' _ => z W1 H1 σ' Ext.refl r1 E'⟩
theorem z_exp (sn : ∀ e, Snd P w K mg base G Y nm kk N e) (e : E) (k : T) (ik : SndS P w K mg base G Y nm kk N k) : SndS P w K mg base G Y nm kk N (.exp e k) := by
  intro sc sts X Wi h C hf tk hp
  simp only [chkS] at h
  split at h <;> try (cases h; done)
  simp only [Bool.and_eq_true, Bool.not_eq_true'] at h
  obtain ⟨⟨h2, h3⟩, h4⟩ := h
  rw [tS_eq (g := fun env S => ((ev G (run G kk) e env S).stm env fun d S => .nx env S).andThen (exT G (run G kk) k)) (fun env S => by rw [stm_andThen]; rfl)]
  refine pss_then ?_ (ik sc _ X Wi h4 C hf tk hp)
  refine (ps_expr ((sn e).v _ _ X Wi h3 C (tk_of hf.2.2 tk)) (swaps_ok h2)).imp fun D σ H q => ?_
  obtain ⟨W, S, env, E, r, z⟩ := q
  refine ⟨W, S, env, E, r, (WqS.stm (rp := rpD K) E r z).mono fun v H1 z => ?_⟩
  obtain ⟨W1, S1, d, e1, E1, r1, p1, z⟩ := z
  exact z W1 H1 _ Ext.refl r1 E1
theorem z_ret (sn : ∀ e, Snd P w K mg base G Y nm kk N e) (e : E) : SndS P w K mg base G Y nm kk N (.ret e) := by
  intro sc sts X Wi h C hf tk hp
  simp only [chkS] at h
  split at h <;> try (cases h; done)
  refine pss_one ((ps_ret ((sn e).v _ _ X Wi h C (tk_of hf.2.2 tk))).imp fun D σ H q => ?_)
  obtain ⟨W, S, env, E, r, z⟩ := q
  refine ⟨W, S, env, E, r, (WqS.stm (rp := rpD K) E r z).mono fun v H1 z => ?_⟩
  obtain ⟨W1, S1, d, e1, E1, r1, p1, z⟩ := z
  exact z v W1 H1 Ext.refl r1 p1
theorem z_ifs (sn : ∀ e, Snd P w K mg base G Y nm kk N e) (c : E) (a b k : T) (ia : SndS P w K mg base G Y nm kk N a) (ib : SndS P w K mg base G Y nm kk N b) (ik : SndS P w K mg base G Y nm kk N k) : SndS P w K mg base G Y nm kk N (.ifs c a b k) := by
  intro sc sts X Wi h C hf tk hp
  simp only [chkS] at h
  split at h <;> try (cases h; done)
  simp only [Bool.and_eq_true] at h
  obtain ⟨⟨⟨h1, h2⟩, h3⟩, h4⟩ := h
  rw [tS_eq (g := fun env S => ((mapT (ev G (run G kk) c env S)).stm env fun t S => if t then exT G (run G kk) a env S else exT G (run G kk) b env S).andThen (exT G (run G kk) k)) (fun env S => by rw [stm_andThen]; rfl)]
  refine pss_then ?_ (ik sc _ X Wi h4 C hf tk hp)
  refine (ps_if ((sn c).t _ _ X Wi h1 C (tk_of hf.2.2 tk)) (ia sc _ X Wi h2 C hf tk hp) (ib sc _ X Wi h3 C hf tk hp)).imp fun D σ H q => ?_
  obtain ⟨W, S, env, E, r, z⟩ := q
  refine ⟨W, S, env, E, r, (WqS.stm (rp := rpB) E r z).mono fun t H1 z => ?_⟩
  obtain ⟨W1, S1, d, e1, E1, r1, p1, z⟩ := z
  cases (show d = t from p1)
  cases t with
  | true => exact ⟨W1, S1, env, E1, r1, z⟩
  | false => exact ⟨W1, S1, env, E1, r1, z⟩
theorem z_whl (sn : ∀ e, Snd P w K mg base G Y nm kk N e) (c : E) (b k : T) (ib : SndS P w K mg base G Y nm kk N b) (ik : SndS P w K mg base G Y nm kk N k) : SndS P w K mg base G Y nm kk N (.whl c b k) := by
  intro sc sts X Wi h C hf tk hp
  simp only [chkS] at h
  split at h <;> try (cases h; done)
  simp only [Bool.and_eq_true] at h
  obtain ⟨⟨h1, h2⟩, h4⟩ := h
  refine pss_then (f := fun env S => goWhl (fun env S => mapT (ev G (run G kk) c env S)) (fun env S => exT G (run G kk) b env S) LOOP env S) ?_ (ik sc _ X Wi h4 C hf tk hp)
  refine (ps_while hp ((sn c).t _ _ X Wi h1 C (tk_of hf.2.2 tk)) (ib sc _ X Wi h2 C hf tk hp)).imp fun D σ H q => ?_
  obtain ⟨W, S, env, E, r, z⟩ := q
  refine ⟨fun m σ H => ∃ W S env, ERep K W H env σ ∧ Rel K nm W S H ∧ WqS K nm W H (goWhl (fun env S => mapT (ev G (run G kk) c env S)) (fun env S => exT G (run G kk) b env S) m env S) D Wi, ⟨LOOP, W, S, env, E, r, z⟩, ?_⟩
  rintro m σ H ⟨W, S, env, E, r, z⟩
  cases m with
  | zero => exact z.elim
  | succ m =>
    simp only [goWhl] at z
    refine ⟨W, S, env, E, r, (WqS.stm (rp := rpB) E r z).mono fun t H1 z => ?_⟩
    obtain ⟨W1, S1, d, e1, E1, r1, p1, z⟩ := z
    cases (show d = t from p1)
    cases t with
    | false => exact z W1 H1 σ Ext.refl r1 E1
    | true =>
      refine ⟨fun σ H => ∃ W S env, ERep K W H env σ ∧ Rel K nm W S H ∧ WqS K nm W H (goWhl (fun env S => mapT (ev G (run G kk) c env S)) (fun env S => exT G (run G kk) b env S) m env S) D Wi, fun σ' H' q => ⟨m, Nat.lt_succ_self _, q⟩, ?_⟩
      refine ⟨W1, S1, env, E1, r1, ?_⟩
      have z := WqS.andThen z
      revert z
      cases exT G (run G kk) b env S1 with
      | nx env' S' => exact fun z W' H' σ' e r p => z W' H' σ' e r p
      | rt d S' => exact fun z => z
      | ex c env' S' => exact fun z => z
      | bad => exact fun z => z
theorem for_items {body : PL.D → Env → Store → RS} {tg : Tg} {b : Env → Store → RS} {tb : TS} {D : Ends} {σ : L2.St} {W1 : Wd} {H1 : Hp} {S1 : Store} {env : Env} {J : It} {xs : List PL.D}
    (hbody : ∀ x env S, body x env S = match bindT tg x env with | some env' => b env' S | none => .bad)
    (hb : ∀ D σ H, tS K nm Wi b D σ H → tb D σ H)
    (E : ERep K W1 H1 env σ) (r1 : Rel K nm W1 S1 H1) (hJ : ItOk K nm W1 H1 J xs) (z : WqS K nm W1 H1 (goFor body xs env S1) D Wi) :
    ∃ Wm : Nat → Nat → L2.St → Hp → Prop, (∃ m, Wm 0 m σ H1) ∧ ∀ i m σ H, Wm i m σ H →
      (J.stop i H ∧ D.nx σ H) ∨ (J.go i H ∧ ∃ Nx : L2.St → Hp → Prop, (∀ σ' H', Nx σ' H' → ∃ m', m' < m ∧ Wm (i + 1) m' σ' H') ∧ ∀ x H', J.yld i H x H' → gTg K tg x σ H' fun σ2 H2 => tb { D with nx := Nx, ct := Nx, bk := D.nx } σ2 H2) := by
  obtain ⟨Gd, Yd, wk, st, yl⟩ := hJ.1
  refine for_it wk (fun i σ H => ∃ W2 S2 env2, Ext W1 H1 W2 H ∧ ERep K W2 H env2 σ ∧ Rel K nm W2 S2 H ∧ WqS K nm W2 H (goFor body (xs.drop i) env2 S2) D Wi) ?_ ?_ ?_ ?_
  · exact ⟨W1, S1, env, Ext.refl, E, r1, z⟩
  · rintro i σ H hi ⟨W2, S2, env2, e1, E2, r2, z⟩
    exact st _ _ e1
  · rintro i x σ H H' hi ⟨W2, S2, env2, e1, E2, r2, z⟩ y
    obtain ⟨d, hx, ex, keep, rep⟩ := yl i _ S2 H x H' hi e1 r2 y
    have r2' := r2.grow ex keep
    have hdrop : xs.drop i = d :: xs.drop (i + 1) := by
      obtain ⟨hl, hv⟩ := List.getElem?_eq_some_iff.mp hx
      rw [List.drop_eq_getElem_cons hl, hv]
    rw [hdrop] at z
    simp only [goFor, hbody] at z
    cases hbt : bindT tg d env2 with
    | none => rw [hbt] at z; exact z.elim
    | some env' =>
      rw [hbt] at z
      have z := WqS.ext ex r2'.trk z
      refine ⟨W2, d, env2, env', (E2.mono r2.trk ex).o _, rep, hbt, fun σ' E' _ => hb _ _ _ ⟨W2, S2, env', E', r2', ?_⟩⟩
      dsimp only at z
      revert z
      cases b env' S2 with
      | nx env3 S3 => exact fun z W' H' σ' e r p => ⟨W', S3, env3, (e1.trans r2.trk ex |>.trans r2'.trk e), p, r, WqS.ext e r.trk z⟩
      | rt d S3 => exact fun z => z
      | ex c env3 S3 => exact fun z => z
      | bad => exact fun z => z
  · rintro σ H ⟨W2, S2, env2, e1, E2, r2, z⟩
    rw [List.drop_eq_nil_of_le (Nat.le_refl _)] at z
    exact z W2 H σ Ext.refl r2 E2
theorem for_live {body : PL.D → Env → Store → RS} {tg : Tg} {b : Env → Store → RS} {tb : TS} {D : Ends} {σ : L2.St} {W1 : Wd} {H1 : Hp} {S1 : Store} {env : Env} {n : Nat} {a : Addr}
    (hbody : ∀ x env S, body x env S = match bindT tg x env with | some env' => b env' S | none => .bad)
    (hb : ∀ D σ H, tS K nm Wi b D σ H → tb D σ H)
    (E : ERep K W1 H1 env σ) (r1 : Rel K nm W1 S1 H1) (ha : W1.m[n]? = some a) (z : WqS K nm W1 H1 (goForL n false body LOOP 0 env S1) D Wi) :
    ∃ Wm : Nat → Nat → L2.St → Hp → Prop, (∃ m, Wm 0 m σ H1) ∧ ∀ i m σ H, Wm i m σ H →
      ((Itl K a).stop i H ∧ D.nx σ H) ∨ ((Itl K a).go i H ∧ ∃ Nx : L2.St → Hp → Prop, (∀ σ' H', Nx σ' H' → ∃ m', m' < m ∧ Wm (i + 1) m' σ' H') ∧ ∀ x H', (Itl K a).yld i H x H' → gTg K tg x σ H' fun σ2 H2 => tb { D with nx := Nx, ct := Nx, bk := D.nx } σ2 H2) := by
  refine ⟨fun i m σ H => ∃ W2 S2 env2, Ext W1 H1 W2 H ∧ ERep K W2 H env2 σ ∧ Rel K nm W2 S2 H ∧ WqS K nm W2 H (goForL n false body m i env2 S2) D Wi, ⟨LOOP, W1, S1, env, Ext.refl, E, r1, z⟩, ?_⟩
  rintro i m σ H ⟨W2, S2, env2, e1, E2, r2, z⟩
  cases m with
  | zero => exact z.elim
  | succ m =>
    have ha2 : W2.m[n]? = some a := by
      obtain ⟨t, h, _⟩ := e1.m
      rw [h]
      exact (List.getElem?_append_left (List.getElem?_eq_some_iff.mp ha).1).trans ha
    simp only [goForL, itemAt] at z
    cases hs : S2[n]? with
    | none => rw [hs] at z; exact z.elim
    | some o =>
      rw [hs] at z
      cases o with
      | lst ys =>
        obtain ⟨vs, h1, h2⟩ := r2.ob n a _ ha2 hs
        dsimp only at z
        cases hy : ys[i]? with
        | none =>
          rw [hy] at z
          refine .inl ⟨⟨vs, SqL.of h1, ?_⟩, z W2 H σ Ext.refl r2 E2⟩
          rw [h2.lens]
          exact List.getElem?_eq_none_iff.mp hy
        | some d =>
          rw [hy] at z
          obtain ⟨v, h3, h4⟩ := h2.get hy
          refine .inr ⟨⟨vs, v, SqL.of h1, h3⟩, fun σ H => ∃ W2 S2 env2, Ext W1 H1 W2 H ∧ ERep K W2 H env2 σ ∧ Rel K nm W2 S2 H ∧ WqS K nm W2 H (goForL n false body m (i + 1) env2 S2) D Wi, fun σ' H' q => ⟨m, Nat.lt_succ_self _, q⟩, ?_⟩
          rintro x H' ⟨rfl, hx⟩
          have := hx vs (SqL.of h1)
          rw [h3] at this
          cases this
          simp only [Option.map_some, Bool.false_eq_true, if_false, hbody] at z
          cases hbt : bindT tg d env2 with
          | none => rw [hbt] at z; exact z.elim
          | some env' =>
            rw [hbt] at z
            refine ⟨W2, d, env2, env', E2.o _, h4, hbt, fun σ' E' _ => hb _ _ _ ⟨W2, S2, env', E', r2, ?_⟩⟩
            dsimp only at z
            revert z
            cases b env' S2 with
            | nx env3 S3 => exact fun z W' H' σ' e r p => ⟨W', S3, env3, e1.trans r2.trk e, p, r, WqS.ext e r.trk z⟩
            | rt d S3 => exact fun z => z
            | ex c env3 S3 => exact fun z => z
            | bad => exact fun z => z
      | _ => exact z.elim
/-- a for over a dict that is locked -/
theorem lock_z {body : PL.D → Env → Store → RS} {W W1 : Wd} {H H1 : Hp} {S : Store} {n : Nat} {a : Addr} {od : Obj} {vs : List (Key × V)} {kvs : List (Ky × PL.D)} {env : Env} {xs : List PL.D} {D : Ends}
    (r : Rel K nm W S H) (ha : W.m[n]? = some a) (h1 : H a = some (.dK vs)) (z : WqS K nm W H (unlT n (goFor body xs env (S.set n (.lck kvs)))) D Wi)
    (e1 : Ext W (upd H a (.frz od (.dK vs))) W1 H1) (r1 : Rel K nm W1 (S.set n (.lck kvs)) H1) :
    WqS K nm W1 H1 (goFor body xs env (S.set n (.lck kvs))) ⟨fun σ' H' => H' a = some (.frz od (.dK vs)) ∧ D.nx σ' (upd H' a (.dK vs)), fun v H' => H' a = some (.frz od (.dK vs)) ∧ D.rt v (upd H' a (.dK vs)), fun σ' H' => H' a = some (.frz od (.dK vs)) ∧ D.bk σ' (upd H' a (.dK vs)), fun σ' H' => H' a = some (.frz od (.dK vs)) ∧ D.ct σ' (upd H' a (.dK vs))⟩ Wi := by
  revert z
  cases goFor body xs env (S.set n (.lck kvs)) with
  | bad => exact fun z => z
  | ex c env' S' => exact fun z => z.elim
  | nx env' Sf =>
    intro z W' H' σ' e r' p
    simp only [unlT] at z
    cases hu : unlS n Sf with
    | none => rw [hu] at z; exact z.elim
    | some S' =>
      rw [hu] at z
      obtain ⟨u1, u2, u3, u4⟩ := unlock_ok r ha h1 (e1.trans r1.trk e) (B := W'.B) r' hu
      exact ⟨u1, z W' _ σ' u2 u3 (p.swp u4)⟩
  | rt d Sf =>
    intro z v W' H' e r' p
    simp only [unlT] at z
    cases hu : unlS n Sf with
    | none => rw [hu] at z; exact z.elim
    | some S' =>
      rw [hu] at z
      obtain ⟨u1, u2, u3, u4⟩ := unlock_ok r ha h1 (e1.trans r1.trk e) (B := W'.B) r' hu
      exact ⟨u1, z v W' _ u2 u3 (p.swp u4)⟩
theorem src_chk {Y : Sx} {N : List Str} {sc : Scope} {ik : IK} {src : E} {t iter : Expr} (h : (match ik with
        | .plain => chk Y N src sc iter
        | .keys => isVarE src && chk Y N src sc iter
        | .keysR => srcV src && chk Y N src sc iter
        | .items => srcV src && isTupE t && (match iter with
          | .Call (.Attribute e n ap) [] [] cp => decide (n = "items") && noBase e && (ap.endLine == cp.line) && chk Y N src sc e
          | _ => false)
        | ik => match itArgs Y.blN ik sc t iter with
          | some es => chkA Y N src sc es
          | none => false) = true) (hI : ik ≠ .items) : (match (generalizing := false) ik with
        | .plain => chk Y N src sc iter
        | .keys => isVarE src && chk Y N src sc iter
        | .keysR => srcV src && chk Y N src sc iter
        | k => match itArgs Y.blN k sc t iter with
          | some es => chkA Y N src sc es
          | none => false) = true := by
  cases ik <;> first | exact h | exact absurd rfl hI
theorem z_for (g : GOk K mg G Y nm fa fd ps) (sn : ∀ e, Snd P w K mg base G Y nm kk N e) (ik : IK) (src : E) (tg : Tg) (b k : T) (ib : SndS P w K mg base G Y nm kk N b) (iK : SndS P w K mg base G Y nm kk N k) : SndS P w K mg base G Y nm kk N (.for_ ik src tg b k) := by
  intro sc sts X Wi h C hf tk hp
  simp only [chkS] at h
  split at h <;> try (cases h; done)
  rename_i tt iter xx pos rest
  simp only [Bool.and_eq_true, Bool.not_eq_true'] at h
  obtain ⟨⟨⟨⟨⟨h1, h2⟩, h3⟩, hnk⟩, h4⟩, h5⟩ := h
  have hnk : ik ≠ .keys := by simpa using hnk
  rw [tS_eq (g := fun env S => ((ev G (run G kk) src env S).stm env fun xs S => match mkIt ik (srcL ik xs) S with
    | some it => goForI it (fun x env S => match bindT tg x env with
      | some env' => exT G (run G kk) b env' S
      | none => .bad) env S
    | none => .bad).andThen (exT G (run G kk) k)) (fun env S => by
      rw [stm_andThen]
      simp only [exT]
      congr 1
      funext d S
      cases mkIt ik (srcL ik d) S <;> rfl)]
  refine pss_then ?_ (iK sc _ X Wi h5 C hf tk hp)
  have pg := pg_ok C.hK C.hN C.nd C.sc C.calm (fl := true) (fun _ => hf.1) h2
  have pb := ib sc _ X Wi h4 C hf tk hp
  by_cases hRI : ik = .keysR ∨ ik = .items
  · have main : ∀ (J : Addr → Obj → List (Key × V) → It) (xsf : List (Ky × PL.D) → List PL.D), srcV src = true → (∀ W H d o ds kvs, Trk W H → H d = some (.frz o (.dK kvs)) → RepK K W H ds kvs → ItOk K nm W H (J d o kvs) (xsf ds)) →
        (∀ d S, mkIt ik (srcL ik d) S = match d with
          | .ref n => (match S[n]? with
            | some (.dct kvs) => some (.lkd n (xsf kvs) kvs)
            | _ => none)
          | _ => none) →
        PI X tt iter (fun σ H R => tE K nm Wi (ev G (run G kk) src) σ H fun x H1 => ∃ d o kvs, x = .ref d ∧ H1 d = some (.frz o (.dK kvs)) ∧ R (J d o kvs) H1) →
        PS X (.For tt iter xx [] pos) (tS K nm Wi fun env S => (ev G (run G kk) src env S).stm env fun xs S => match mkIt ik (srcL ik xs) S with
          | some it => goForI it (fun x env S => match bindT tg x env with
            | some env' => exT G (run G kk) b env' S
            | none => .bad) env S
          | none => .bad) := by
      intro J xsf hsv hJ hm pi
      refine (ps_lock (ps_for hp C.calm pi pg pb (fold_ok h1 X.env))).imp fun D σ H q => ?_
      obtain ⟨W, S, env, E, r, z⟩ := q
      dsimp only at z
      rcases src_ok (G := G) (call := run G kk) (env := env) (S := S) hsv with ⟨d, hd⟩ | hd
      rotate_left
      · rw [hd] at z; exact z.elim
      rw [hd] at z
      simp only [R.stm_ok, hm] at z
      cases d with
      | ref n =>
        dsimp only at z
        cases hS : S[n]? with
        | none => rw [hS] at z; exact z.elim
        | some o =>
          rw [hS] at z
          cases o with
          | dct kvs =>
            dsimp only [goForI] at z
            have hl : n < W.m.length := by rw [r.len]; exact (List.getElem?_eq_some_iff.mp hS).1
            obtain ⟨a, ha⟩ : ∃ a, W.m[n]? = some a := ⟨_, List.getElem?_eq_getElem hl⟩
            obtain ⟨vs, h1', h4'⟩ := r.ob n a _ ha hS
            refine ⟨a, .dK vs, h1', trivial, fun od => ?_⟩
            have q := swp_lock (od := od) h1'
            have rL : Rel K nm W (S.set n (.lck kvs)) (upd H a (.frz od (.dK vs))) := r.swpS q ha ⟨od, vs, upd_same, h4'.swp q⟩
            have evL := src_lck hsv hS hd
            refine ⟨W, S.set n (.lck kvs), env, E.swp q, rL, ?_⟩
            rw [evL]
            intro v W1 H1 e1 r1 p1
            cases p1 with
            | @ref _ a1 hv =>
            obtain ⟨ta, et, ft⟩ := e1.m
            have ea : a1 = a := by
              rw [et, List.getElem?_append_left hl, ha] at hv
              exact (Option.some.inj hv).symm
            subst ea
            have fz1 : H1 a1 = some (.frz od (.dK vs)) := e1.fz _ _ _ upd_same
            refine ⟨a1, od, vs, rfl, fz1, ?_⟩
            exact for_items (b := exT G (run G kk) b) (fun _ _ _ => rfl) (fun _ _ _ q => q) ((E.swp q).mono rL.trk e1) r1 (hJ _ _ _ _ _ _ r1.trk fz1 ((h4'.swp q).mono rL.trk e1)) (lock_z r ha h1' z e1 r1)
          | _ => exact z.elim
      | _ => exact z.elim
    rcases hRI with rfl | rfl
    · simp only [Bool.and_eq_true] at h3
      have pv := (sn src).v _ _ X Wi h3.2 C (tk_of hf.2.2 tk)
      refine main Itk (fun ds => ds.map fun p => kyD p.1) h3.1 (fun W H d o ds kvs _ h p => .keysF h p) (fun d S => by cases d <;> rfl) ((pi_keys pv).imp fun σ H R q => ?_)
      obtain ⟨W, S, env, E, r, z⟩ := q
      exact ⟨W, S, env, E, r, z.mono fun v H ⟨d, o, kvs, g1, g2, g3⟩ => ⟨d, o, g1, .inl ⟨kvs, g2, g3⟩⟩⟩
    · simp only [Bool.and_eq_true] at h3
      obtain ⟨⟨h3a, h3b⟩, h3c⟩ := h3
      split at h3c <;> try (cases h3c; done)
      simp only [Bool.and_eq_true, decide_eq_true_eq] at h3c
      obtain ⟨⟨⟨rfl, hnb⟩, hli⟩, h3c⟩ := h3c
      have pv := (sn src).v _ _ X Wi h3c C (tk_of hf.2.2 tk)
      cases tt <;> simp only [isTupE] at h3b <;> first | (cases h3b; done) | skip
      exact main Iti (fun ds => ds.map fun p => .tup [kyD p.1, p.2]) h3a (fun W H d o ds kvs t h p => .itemsF t h p) (fun d S => by cases d <;> rfl) (pi_items pv (hbase := base_ok hnb) (hline := hli))
  have h3 := src_chk h3 (fun e => hRI (Or.inr e))
  have hnk : ik ≠ .keys ∧ ik ≠ .keysR := ⟨hnk, fun e => hRI (Or.inl e)⟩
  refine (ps_for hp C.calm (pi_src g (sn src) C (tk_of hf.2.2 tk) h3 hnk) pg pb (fold_ok h1 X.env)).imp fun D σ H q => ?_
  obtain ⟨W, S, env, E, r, z⟩ := q
  refine ⟨W, S, env, E, r, ?_⟩
  dsimp only at z ⊢
  cases hsrc : ev G (run G kk) src env S with
  | bad => rw [hsrc] at z; exact z.elim
  | ex c S1 =>
    rw [hsrc] at z
    exact fun W' H' e r' => z W' H' σ e r' (E.mono r.trk e)
  | ok d S1 =>
    rw [hsrc] at z
    simp only [R.stm_ok, R.bind_ok] at z ⊢
    cases hit : mkIt ik (srcL ik d) S1 with
    | none => rw [hit] at z; exact z.elim
    | some it =>
      rw [hit] at z
      dsimp only at z
      intro J W1 H1 e1 r1 hJ
      have z := WqS.ext e1 r1.trk z
      cases it with
      | items xs => exact for_items (b := exT G (run G kk) b) (fun _ _ _ => rfl) (fun _ _ _ q => q) (E.mono r.trk e1) r1 hJ z
      | lkd _ _ _ => exact hJ.elim
      | live n en =>
        obtain ⟨a, ha, hJ⟩ := hJ
        cases en with
        | false =>
          subst hJ
          rw [show goForI (.live n false) _ env S1 = goForL n false _ LOOP 0 env S1 from rfl] at z
          exact for_live (b := exT G (run G kk) b) (fun _ _ _ => rfl) (fun _ _ _ q => q) (E.mono r.trk e1) r1 ha z
        | true =>
          rw [show goForI (.live n true) _ env S1 = .bad from rfl] at z
          exact z.elim

/-! ### stores, exceptions -/
theorem seti_ok {x y v : D} {o i u : V} {W : Wd} {S S' : Store} {H : Hp} {Q : Hp → Prop} (r : Rel K nm W S H) (p : Rep K W H x o) (q : Rep K W H y i) (pv : Rep K W H v u) (h : setIx x y v S = some S') (f : ∀ H', Ext W H W H' → Rel K nm W S' H' → Q H') : rSetL o i u H Q ∨ rSetD o i u H Q := by
  cases p with
  | @ref n a hm =>
    simp only [setIx] at h
    split at h
    · rename_i xs k hS
      rw [Option.map_eq_some_iff] at h
      obtain ⟨j, h1, h2⟩ := h
      subst h2
      obtain ⟨ws, hw, pw⟩ := r.ob n a _ hm hS
      obtain ⟨e, r'⟩ := r.putL hm (unf_of hw fun _ _ z => by cases z) (pw.set j pv)
      cases q
      exact .inl ⟨a, ws, k, j, rfl, rfl, hw, by rw [pw.lens]; exact h1, f _ e r'⟩
    · rename_i kvs hS
      split at h
      · rename_i hz
        rw [Option.map_eq_some_iff] at h
        obtain ⟨k, h1, h2⟩ := h
        subst h2
        obtain ⟨ws, hw, pw⟩ := r.ob n a _ hm hS
        obtain ⟨e, r'⟩ := r.putD hm (unf_of hw fun _ _ z => by cases z) (put_ok (k := k) pw pv)
        exact .inr ⟨a, _, rfl, .inl ⟨ws, k, hw, key_ok q h1, by rw [← pw.length, ← SZ_eq]; exact hz, rfl⟩, f _ e r'⟩
      · cases h
    · cases h
  | _ => cases h
theorem _root_.L2.PSet.or {X : Cx} {t u : TSet} (h : PSet X t) (h' : PSet X u) : PSet X fun o i v H Q => t o i v H Q ∨ u o i v H Q := fun pins s σ H o i v ov iv u' Q I ro ri rv q => q.elim (h pins s σ H o i v ov iv u' Q I ro ri rv) (h' pins s σ H o i v ov iv u' Q I ro ri rv)
theorem z_setI (sn : ∀ e, Snd P w K mg base G Y nm kk N e) (o i e : E) (k : T) (ik : SndS P w K mg base G Y nm kk N k) : SndS P w K mg base G Y nm kk N (.setI o i e k) := by
  intro sc sts X Wi h C hf tk hp
  simp only [chkS] at h
  split at h <;> try (cases h; done)
  rename_i p q _ v _ rest
  simp only [Bool.and_eq_true, Bool.not_eq_true'] at h
  obtain ⟨⟨⟨⟨⟨h1, h2⟩, h3⟩, h4⟩, h5⟩, h6⟩ := h
  rw [tS_eq (g := fun env S => ((ev G (run G kk) e env S).stm env fun v S => (ev G (run G kk) o env S).stm env fun x S => (ev G (run G kk) i env S).stm env fun y S => match setIx x y v S with
    | some S' => .nx env S'
    | none => .bad).andThen (exT G (run G kk) k)) (fun env S => by
      simp only [exT, stm_andThen]
      congr 1
      funext v S
      congr 1
      funext x S
      congr 1
      funext y S
      cases setIx x y v S <;> rfl)]
  refine pss_then ?_ (ik sc _ X Wi h6 C hf tk hp)
  have hu : X.A.units + 1 < cLine := by have := C.room.units; omega
  refine (ps_asg ((sn e).v _ _ X Wi h3 C (tk_of hf.2.2 tk)) (pg_sub ((sn o).v _ _ X Wi h4 C (tk_of hf.2.2 tk)) ((sn i).v _ _ X Wi h5 C (tk_of hf.2.2 tk)) (set_list.or (set_dict hu)) (by cases q <;> first | (intro _; rfl) | cases h2)) (hs := swapsS_ok h1) (hw := rfl) (h1 := rfl)).imp fun D σ H z => ?_
  obtain ⟨W, S, env, E, r, z⟩ := z
  refine ⟨W, S, env, E, r, (WqS.stm (rp := rpD K) E r z).mono fun v H1 z => ?_⟩
  obtain ⟨W1, S1, d, e1, E1, r1, p1, z⟩ := z
  refine ⟨W1, S1, env, E1, r1, (WqS.stm (rp := rpD K) E1 r1 z).mono fun x H2 z => ?_⟩
  obtain ⟨W2, S2, dx, e2, E2, r2, p2, z⟩ := z
  refine ⟨W2, S2, env, E2, r2, (WqS.stm (rp := rpD K) E2 r2 z).mono fun y H3 z => ?_⟩
  obtain ⟨W3, S3, dy, e3, E3, r3, p3, z⟩ := z
  cases hs : setIx dx dy d S3 with
  | none => rw [hs] at z; exact z.elim
  | some S' =>
    rw [hs] at z
    exact seti_ok r3 (p2.mono r2.trk e3) p3 ((p1.mono r1.trk e2).mono r2.trk e3) hs fun H' e' r' => z W3 H' _ e' r' (E3.mono r3.trk e')
theorem fldS_ok {W : Wd} {S S' : Store} {H : Hp} {x v : D} {o u : V} {c f : Nat} (g : GOk K mg G Y nm fa fd ps) (r : Rel K nm W S H) (p : Rep K W H x o) (pv : Rep K W H v u) (hc : clsD x S = some c) (h : setFld x f v S = some S') :
    ∃ a dx fs, o = .ref a ∧ H a = some (.ins (nm.C c) dx fs) ∧ fs.length < 1000 ∧ Ext W H W (upd H a (.ins (nm.C c) dx (putF (nm.fn f) u fs))) ∧ Rel K nm W S' (upd H a (.ins (nm.C c) dx (putF (nm.fn f) u fs))) := by
  obtain ⟨n, a, dx, fs, vs, rfl, rfl, h5, h6, h7, h8⟩ := ins_at r p hc
  simp only [setFld, h6] at h
  split at h
  · rename_i hz
    cases h
    have e : Ext W H W (upd H a (.ins (nm.C c) dx (putF (nm.fn f) u vs))) := Ext.put (List.mem_of_getElem? h5) (unf_of h7 fun _ _ z => by cases z)
    exact ⟨a, dx, vs, rfl, h7, by rw [← fld_len h8]; exact hz, e, r.put h5 (unf_of h7 fun _ _ z => by cases z) ⟨dx, _, upd_same, (fld_put g.inj h8 pv).mono r.trk e⟩⟩
  · cases h
theorem z_fldS (g : GOk K mg G Y nm fa fd ps) (sn : ∀ e, Snd P w K mg base G Y nm kk N e) (c : Nat) (o : E) (f : Nat) (e : E) (k : T) (ik : SndS P w K mg base G Y nm kk N k) : SndS P w K mg base G Y nm kk N (.fldS c o f e k) := by
  intro sc sts X Wi h C hf tk hp
  simp only [chkS] at h
  split at h <;> try (cases h; done)
  rename_i p n _ v _ rest
  simp only [Bool.and_eq_true, Bool.not_eq_true', decide_eq_true_eq] at h
  obtain ⟨⟨⟨⟨⟨h1, h2⟩, h3⟩, h4⟩, h5⟩, h6⟩ := h
  obtain ⟨cx, hc⟩ := Option.isSome_iff_exists.mp h1
  obtain ⟨cls, _, na⟩ := g.cl c cx hc
  obtain ⟨na, rfl⟩ := na f _ h2
  rw [tS_eq (g := fun env S => ((ev G (run G kk) e env S).stm env fun v S => (ev G (run G kk) o env S).stm env fun x S => if clsD x S = some c then match setFld x f v S with
    | some S' => .nx env S'
    | none => .bad else .bad).andThen (exT G (run G kk) k)) (fun env S => by
      simp only [exT, stm_andThen]
      congr 1
      funext v S
      congr 1
      funext x S
      by_cases hcl : clsD x S = some c
      · simp only [if_pos hcl]
        cases setFld x f v S <;> rfl
      · simp only [if_neg hcl]
        rfl)]
  refine pss_then ?_ (ik sc _ X Wi h6 C hf tk hp)
  have eK := C.hK
  subst eK
  refine (ps_fld ((sn o).v _ _ X Wi h5 C (tk_of hf.2.2 tk)) ((sn e).v _ _ X Wi h4 C (tk_of hf.2.2 tk)) (swaps_ok h3)).imp fun D σ H z => ?_
  obtain ⟨W, S, env, E, r, z⟩ := z
  refine ⟨W, S, env, E, r, (WqS.stm (rp := rpD X.K) E r z).mono fun v H1 z => ?_⟩
  obtain ⟨W1, S1, d, e1, E1, r1, p1, z⟩ := z
  refine ⟨W1, S1, env, E1, r1, (WqS.stm (rp := rpD X.K) E1 r1 z).mono fun x H2 z => ?_⟩
  obtain ⟨W2, S2, dx, e2, E2, r2, p2, z⟩ := z
  split at z <;> try exact z.elim
  rename_i hcl
  cases hs : setFld dx f d S2 with
  | none => rw [hs] at z; exact z.elim
  | some S' =>
    rw [hs] at z
    obtain ⟨a, dx', fs, rfl, h7, h8, ex, r'⟩ := fldS_ok g r2 p2 (p1.mono r1.trk e2) hcl hs
    exact ⟨a, nm.C c, dx', fs, rfl, h7, cls, na, h8, z W2 _ _ ex r' (E2.mono r2.trk ex)⟩
theorem z_rais (g : GOk K mg G Y nm fa fd ps) (c : Nat) : SndS P w K mg base G Y nm kk N (.rais c) := by
  intro sc sts X Wi h C hf tk hp
  simp only [chkS] at h
  split at h <;> try (cases h; done)
  simp only [Bool.and_eq_true, Bool.not_eq_true', decide_eq_true_eq] at h
  obtain ⟨⟨h1, h2⟩, h3⟩ := h
  obtain ⟨gm, gk, gx, gs, gt⟩ := g.ex c _ h1
  have e1 := C.hK
  have e2 := C.hm
  subst e1 e2
  refine pss_one ((ps_raise C.calm tk (pmk_own0 PySem.F.excBase_ValueError gx gm gk (raises_own gs gt) (gl_ok C h2) (dbg_ok h3))).imp fun D σ H z => ?_)
  obtain ⟨W, S, env, E, r, z⟩ := z
  exact z W H σ Ext.refl r E
/-- a suite of an except clause -/
theorem suite_ok (g : GOk K mg G Y nm fa fd ps) {call : Calls} (t : T) : ∀ (sts : List Stmt) (X : Cx), chkH Y N sc t sts = true → COkH P w K mg N sc X → PSs X sts (tS K nm noX (exT G call t)) := by
  have sh := fun e => sndH (P := P) (w := w) (K := K) (mg := mg) (G := G) (Y := Y) (nm := nm) (N := N) (call := call) e
  induction t with
  | nil =>
    intro sts X h C
    cases sts with
    | nil => exact pss_nil.imp fun D σ H ⟨W, S, env, E, r, z⟩ => z W H σ Ext.refl r E
    | cons _ _ => cases h
  | asg i e k ik =>
    intro sts X h C
    simp only [chkH] at h
    split at h <;> try (cases h; done)
    simp only [Bool.and_eq_true, Bool.not_eq_true'] at h
    obtain ⟨⟨⟨⟨h1, h2⟩, h0⟩, h3⟩, h4⟩ := h
    rw [tS_eq (g := fun env S => ((ev G call e env S).stm env fun d S => .nx (env.set i (some d)) S).andThen (exT G call k)) (fun env S => by rw [stm_andThen]; rfl)]
    refine pss_then ?_ (ik _ X h4 C)
    obtain ⟨pg, _⟩ := pg_one C.hN C.nd C.sc (fl := true) (fun _ => C.fn) h1
    refine (ps_asg ((sh e).v _ _ X h0 h3 C) pg (hs := swapsS_ok h2) (hw := rfl) (h1 := rfl)).imp fun D σ H q => ?_
    obtain ⟨W, S, env, E, r, z⟩ := q
    refine ⟨W, S, env, E, r, (WqS.stm (rp := rpD K) E r z).mono fun v H1 z => ?_⟩
    obtain ⟨W1, S1, d, e1, E1, r1, p1, z⟩ := z
    exact z W1 H1 _ Ext.refl r1 (E1.set i p1)
  | ret e =>
    intro sts X h C
    simp only [chkH] at h
    split at h <;> try (cases h; done)
    simp only [Bool.and_eq_true] at h
    refine pss_one ((ps_ret ((sh e).v _ _ X h.1 h.2 C)).imp fun D σ H q => ?_)
    obtain ⟨W, S, env, E, r, z⟩ := q
    refine ⟨W, S, env, E, r, (WqS.stm (rp := rpD K) E r z).mono fun v H1 z => ?_⟩
    obtain ⟨W1, S1, d, e1, E1, r1, p1, z⟩ := z
    exact z v W1 H1 Ext.refl r1 p1
  | fldS c o f e k ik =>
    intro sts X h C
    simp only [chkH] at h
    split at h <;> try (cases h; done)
    rename_i p n _ v _ rest
    simp only [Bool.and_eq_true, Bool.not_eq_true', decide_eq_true_eq] at h
    obtain ⟨⟨⟨⟨⟨⟨⟨h1, h2⟩, h3⟩, q1⟩, q2⟩, h4⟩, h5⟩, h6⟩ := h
    obtain ⟨cx, hc⟩ := Option.isSome_iff_exists.mp h1
    obtain ⟨cls, _, na⟩ := g.cl c cx hc
    obtain ⟨na, rfl⟩ := na f _ h2
    rw [tS_eq (g := fun env S => ((ev G call e env S).stm env fun v S => (ev G call o env S).stm env fun x S => if clsD x S = some c then match setFld x f v S with
      | some S' => .nx env S'
      | none => .bad else .bad).andThen (exT G call k)) (fun env S => by
        simp only [exT, stm_andThen]
        congr 1
        funext v S
        congr 1
        funext x S
        by_cases hcl : clsD x S = some c
        · simp only [if_pos hcl]
          cases setFld x f v S <;> rfl
        · simp only [if_neg hcl]
          rfl)]
    refine pss_then ?_ (ik _ X h6 C)
    have eK := C.hK
    subst eK
    refine (ps_fld ((sh o).v _ _ X q1 h5 C) ((sh e).v _ _ X q2 h4 C) (swaps_ok h3)).imp fun D σ H z => ?_
    obtain ⟨W, S, env, E, r, z⟩ := z
    refine ⟨W, S, env, E, r, (WqS.stm (rp := rpD X.K) E r z).mono fun v H1 z => ?_⟩
    obtain ⟨W1, S1, d, e1, E1, r1, p1, z⟩ := z
    refine ⟨W1, S1, env, E1, r1, (WqS.stm (rp := rpD X.K) E1 r1 z).mono fun x H2 z => ?_⟩
    obtain ⟨W2, S2, dx, e2, E2, r2, p2, z⟩ := z
    split at z <;> try exact z.elim
    rename_i hcl
    cases hs : setFld dx f d S2 with
    | none => rw [hs] at z; exact z.elim
    | some S' =>
      rw [hs] at z
      obtain ⟨a, dx', fs, rfl, h7, h8, ex, r'⟩ := fldS_ok g r2 p2 (p1.mono r1.trk e2) hcl hs
      exact ⟨a, nm.C c, dx', fs, rfl, h7, cls, na, h8, z W2 _ _ ex r' (E2.mono r2.trk ex)⟩
  | _ => exact fun sts X h C => by simp [chkH] at h
theorem exm_two {K : PySem.W.Frag} {cls a a' : Value} {c : Nat} {cs cs1 cs2 : List Nat} (h : PySem.W.exmOne K cls a = some (decide (c ∈ cs1))) (h' : PySem.W.exmOne K cls a' = some (decide (c ∈ cs2))) (e : cs = cs1 ++ cs2) : PySem.W.exmAny K cls [a, a'] = some (decide (c ∈ cs)) := by
  subst e
  simp only [PySem.W.exmAny, h, h', List.mem_append]
  by_cases q : c ∈ cs1 <;> by_cases q' : c ∈ cs2 <;> simp [q, q']
theorem z_tr (g : GOk K mg G Y nm fa fd ps) (b : T) (cs : List Nat) (hd k : T) (ib : SndS P w K mg base G Y nm kk N b) (ik : SndS P w K mg base G Y nm kk N k) : SndS P w K mg base G Y nm kk N (.tr b cs hd k) := by
  intro sc sts X Wi h C hf tk hp
  rw [tS_eq (g := fun env S => (match exT G (run G kk) b env S with
    | .ex c env' S' => if c ∈ G.exs then (if c ∈ cs then (exT G (run G kk) hd env' S').calm else .ex c env' S') else .bad
    | r => r : RS).andThen (exT G (run G kk) k)) (fun env S => by
      simp only [exT]
      cases exT G (run G kk) b env S with
      | ex c env' S' =>
        dsimp only
        by_cases z : c ∈ G.exs
        · simp only [if_pos z]
          by_cases z' : c ∈ cs
          · simp only [if_pos z']
          · simp only [if_neg z']; rfl
        · simp only [if_neg z]; rfl
      | _ => rfl)]
  have e1 := C.hK
  have e2 := C.hm
  subst e1 e2
  simp only [chkS] at h
  split at h <;> try (cases h; done)
  · rename_i body x np b0 suite p1 p2 rest
    simp only [Bool.and_eq_true, Bool.not_eq_true', decide_eq_true_eq] at h
    obtain ⟨⟨⟨⟨⟨h1, h2⟩, h3⟩, h4⟩, h5⟩, h6⟩ := h
    obtain ⟨a, hm, hx⟩ := g.hd x cs h1
    refine pss_then ?_ (ik sc _ X Wi h6 C hf tk hp)
    refine (ps_try_only (tb := fun W => tS X.K nm W (exT G (run G kk) b)) (ts := fun _ _ _ => tS X.K nm noX (exT G (run G kk) hd)) (c := .ref a) hf.2.1 hf.2.2 ⟨gl_ok C h2, h3, .inl hm⟩ tk (fun W pn xe tk' hp' => ?_) (fun a oe cls d pn _ _ => ?_)).imp fun D σ H z => ?_
    · exact ib sc _ (X.tr pn xe) W h4 ⟨C.hP, C.hw, C.hK, C.hm, C.hb, C.hN, C.nd, C.sc, C.room, C.calm, C.fr⟩ hf tk' hp'
    · exact suite_ok (P := P) (w := w) g hd _ (X.suite a ((a, oe) :: pn)) h5 ⟨rfl, rfl, C.hN, C.nd, C.sc, hf.1⟩
    · obtain ⟨W, S, env, E, r, z⟩ := z
      refine ⟨W, S, env, E, r, ?_⟩
      dsimp only at z
      revert z
      cases exT G (run G kk) b env S with
      | nx env' S' => exact fun z => z
      | rt d S' => exact fun z => z
      | bad => exact fun z => z
      | ex c env' S' =>
        dsimp only
        by_cases z1 : c ∈ G.exs
        · rw [if_pos z1]
          intro z W' H' σ' e' r' E'
          refine ⟨decide (c ∈ cs), hx c z1, fun q a _ => ?_, fun q => ?_⟩
          · rw [if_pos (of_decide_eq_true q)] at z
            refine ⟨W', S', env', E', r', ?_⟩
            have z := WqS.ext e' r'.trk z
            revert z
            cases exT G (run G kk) hd env' S' with
            | ex _ _ _ => exact fun z => z.elim
            | nx _ _ => exact fun z => z
            | rt _ _ => exact fun z => z
            | bad => exact fun z => z
          · rw [if_neg (of_decide_eq_false q)] at z
            exact z W' H' σ' e' r' E'
        · rw [if_neg z1]
          exact fun z => z.elim
  · rename_i body x np x' np' tn tp b0 suite p1 p2 rest
    simp only [Bool.and_eq_true, Bool.not_eq_true'] at h
    obtain ⟨⟨⟨⟨⟨h1, h2, h3⟩, h2', h3'⟩, h4⟩, h5⟩, h6⟩ := h
    split at h1 <;> try (cases h1; done)
    rename_i cs1 cs2 k1 k2
    have h1 : cs = cs1 ++ cs2 := of_decide_eq_true h1
    obtain ⟨a, hm, hx⟩ := g.hd x cs1 k1
    obtain ⟨a', hm', hx'⟩ := g.hd x' cs2 k2
    refine pss_then ?_ (ik sc _ X Wi h6 C hf tk hp)
    refine (ps_try_two (tb := fun W => tS X.K nm W (exT G (run G kk) b)) (ts := tS X.K nm noX (exT G (run G kk) hd)) (c1 := .ref a) (c2 := .ref a') hf.2.1 hf.2.2 ⟨gl_ok C h2, h3, .inl hm⟩ ⟨gl_ok C h2', h3', .inl hm'⟩ tk (fun W pn xe tk' hp' => ?_) (fun a oe pn => ?_)).imp fun D σ H z => ?_
    · exact ib sc _ (X.tr pn xe) W h4 ⟨C.hP, C.hw, C.hK, C.hm, C.hb, C.hN, C.nd, C.sc, C.room, C.calm, C.fr⟩ hf tk' hp'
    · exact suite_ok (P := P) (w := w) g hd _ (X.suite a ((a, oe) :: pn)) h5 ⟨rfl, rfl, C.hN, C.nd, C.sc, hf.1⟩
    · obtain ⟨W, S, env, E, r, z⟩ := z
      refine ⟨W, S, env, E, r, ?_⟩
      dsimp only at z
      revert z
      cases exT G (run G kk) b env S with
      | nx env' S' => exact fun z => z
      | rt d S' => exact fun z => z
      | bad => exact fun z => z
      | ex c env' S' =>
        dsimp only
        by_cases z1 : c ∈ G.exs
        · rw [if_pos z1]
          intro z W' H' σ' e' r' E'
          refine ⟨decide (c ∈ cs), exm_two (hx c z1) (hx' c z1) h1, fun q => ?_, fun q => ?_⟩
          · rw [if_pos (of_decide_eq_true q)] at z
            refine ⟨W', S', env', E', r', ?_⟩
            have z := WqS.ext e' r'.trk z
            revert z
            cases exT G (run G kk) hd env' S' with
            | ex _ _ _ => exact fun z => z.elim
            | nx _ _ => exact fun z => z
            | rt _ _ => exact fun z => z
            | bad => exact fun z => z
          · rw [if_neg (of_decide_eq_false q)] at z
            exact z W' H' σ' e' r' E'
        · rw [if_neg z1]
          exact fun z => z.elim
theorem z_tr2 (g : GOk K mg G Y nm fa fd ps) (b : T) (c1 : Nat) (h1 : T) (c2 : Nat) (h2 k : T) (ib : SndS P w K mg base G Y nm kk N b) (ik : SndS P w K mg base G Y nm kk N k) : SndS P w K mg base G Y nm kk N (.tr2 b c1 h1 c2 h2 k) := by
  intro sc sts X Wi h C hf tk hp
  simp only [chkS] at h
  split at h <;> try (cases h; done)
  rename_i body x np b0 suite p1 x' np' b0' suite' p1' p2 rest
  simp only [Bool.and_eq_true, Bool.not_eq_true', decide_eq_true_eq] at h
  obtain ⟨⟨⟨⟨⟨⟨⟨⟨⟨q1, q2⟩, q3⟩, r1⟩, r2⟩, r3⟩, h4⟩, h5⟩, h5'⟩, h6⟩ := h
  obtain ⟨a, hm, hx⟩ := g.hd x [c1] q1
  obtain ⟨a', hm', hx'⟩ := g.hd x' [c2] r1
  rw [tS_eq (g := fun env S => (match exT G (run G kk) b env S with
    | .ex c env' S' => if c ∈ G.exs then (if c = c1 then (exT G (run G kk) h1 env' S').calm else if c = c2 then (exT G (run G kk) h2 env' S').calm else .ex c env' S') else .bad
    | r => r : RS).andThen (exT G (run G kk) k)) (fun env S => by
      simp only [exT]
      cases exT G (run G kk) b env S with
      | ex c env' S' =>
        dsimp only
        by_cases z : c ∈ G.exs
        · simp only [if_pos z]
          by_cases z' : c = c1
          · simp only [if_pos z']
          · simp only [if_neg z']
            by_cases z'' : c = c2
            · simp only [if_pos z'']
            · simp only [if_neg z'']; rfl
        · simp only [if_neg z]; rfl
      | _ => rfl)]
  refine pss_then ?_ (ik sc _ X Wi h6 C hf tk hp)
  have e1 := C.hK
  have e2 := C.hm
  subst e1 e2
  have calmed : ∀ {t : T} {env' : Env} {S' : Store} {W : Wd} {H : Hp} {D : Ends}, WqS X.K nm W H (exT G (run G kk) t env' S').calm D Wi → WqS X.K nm W H (exT G (run G kk) t env' S') D noX := fun {t env' S' W H D} z => by
    revert z
    cases exT G (run G kk) t env' S' with
    | ex _ _ _ => exact fun z => z.elim
    | nx _ _ => exact fun z => z
    | rt _ _ => exact fun z => z
    | bad => exact fun z => z
  refine (ps_try_many (tb := fun W => tS X.K nm W (exT G (run G kk) b)) (l := [(.ref a, fun _ _ _ => tS X.K nm noX (exT G (run G kk) h1)), (.ref a', fun _ _ _ => tS X.K nm noX (exT G (run G kk) h2))]) hf.2.1 hf.2.2 tk (fun W pn xe tk' hp' => ?_)
    (.cons ⟨gl_ok C q2, q3, .inl hm⟩ (fun a oe cls d pn _ _ => ?_) (.cons ⟨gl_ok C r2, r3, .inl hm'⟩ (fun a oe cls d pn _ _ => ?_) .nil))).imp fun D σ H z => ?_
  · exact ib sc _ (X.tr pn xe) W h4 ⟨C.hP, C.hw, C.hK, C.hm, C.hb, C.hN, C.nd, C.sc, C.room, C.calm, C.fr⟩ hf tk' hp'
  · exact suite_ok (P := P) (w := w) g h1 _ (X.suite a ((a, oe) :: pn)) h5 ⟨rfl, rfl, C.hN, C.nd, C.sc, hf.1⟩
  · exact suite_ok (P := P) (w := w) g h2 _ (X.suite a ((a, oe) :: pn)) h5' ⟨rfl, rfl, C.hN, C.nd, C.sc, hf.1⟩
  · obtain ⟨W, S, env, E, r, z⟩ := z
    refine ⟨W, S, env, E, r, ?_⟩
    dsimp only at z
    revert z
    cases exT G (run G kk) b env S with
    | nx env' S' => exact fun z => z
    | rt d S' => exact fun z => z
    | bad => exact fun z => z
    | ex c env' S' =>
      dsimp only
      by_cases z1 : c ∈ G.exs
      · rw [if_pos z1]
        intro z W' H' σ' e' r' E'
        refine ⟨decide (c ∈ [c1]), hx c z1, fun q a _ => ?_, fun q => ⟨decide (c ∈ [c2]), hx' c z1, fun q' a _ => ?_, fun q' => ?_⟩⟩
        · have q := List.mem_singleton.mp (of_decide_eq_true q)
          rw [if_pos q] at z
          exact ⟨W', S', env', E', r', calmed (WqS.ext e' r'.trk z)⟩
        · have q : ¬ c = c1 := fun y => (of_decide_eq_false q) (List.mem_singleton.mpr y)
          have q' := List.mem_singleton.mp (of_decide_eq_true q')
          rw [if_neg q, if_pos q'] at z
          exact ⟨W', S', env', E', r', calmed (WqS.ext e' r'.trk z)⟩
        · have q : ¬ c = c1 := fun y => (of_decide_eq_false q) (List.mem_singleton.mpr y)
          have q' : ¬ c = c2 := fun y => (of_decide_eq_false q') (List.mem_singleton.mpr y)
          rw [if_neg q, if_neg q'] at z
          exact z W' H' σ' e' r' E'
      · rw [if_neg z1]
        exact fun z => z.elim
end
end PL

set_option Elab.async false
set_option linter.all false
set_option maxRecDepth 100000
set_option maxHeartbeats 2000000
/-! PLN: defs keep the evaluator's promise. -/
namespace PL
open PySem PySem.Spec PyProof.Rows L2
section
variable {P : Program} {w : World} {K : PySem.W.Frag} {mg : Str → Option Value} {base : Heap} {G : Tab} {Y : Sx} {nm : Nm} {fa : Nat → Addr} {fd : Nat → FuncData} {ps : Nat → List Str} {kk : Nat} {N : List Str}
variable {sc : Scope} {X : Cx} {Wi : WX}
theorem sndS (g : GOk K mg G Y nm fa fd ps) (hF : ∀ f : Nat, (G.fns f).isSome = true → FnOk P w K mg base (L2.CX P w) (2 * kk) (fa f) (fd f) (ps f) (spF K nm G kk f)) (t : T) : SndS P w K mg base G Y nm kk N t := by
  have sn := fun e => snd (P := P) (w := w) (base := base) (N := N) g hF e
  induction t with
  | nil => exact z_nil
  | asg i e k ik => exact z_asg g sn i e k ik
  | asgT is e k ik => exact z_asgT sn is e k ik
  | exp e k ik => exact z_exp sn e k ik
  | ret e => exact z_ret sn e
  | ifs c a b k ia ib ik => exact z_ifs sn c a b k ia ib ik
  | whl c b k ib ik => exact z_whl sn c b k ib ik
  | for_ ik src tg b k ib iK => exact z_for g sn ik src tg b k ib iK
  | setI o i e k ik => exact z_setI sn o i e k ik
  | fldS c o f e k ik => exact z_fldS g sn c o f e k ik
  | rais c => exact z_rais g c
  | tr b cs h k ib ih ik => exact z_tr g b cs h k ib ik
  | tr2 b c h c' h' k ib ih ih' ik => exact z_tr2 g b c h c' h' k ib ik

/-! ### pure defs -/
def W00 : Wd := ⟨[], []⟩
mutual
theorem rep_pure {W : Wd} {H : Hp} : ∀ {d : D} {v : V}, noRef d = true → Rep K W H d v → Rep K W00 H d v
  | _, _, _, .non => .non
  | _, _, _, .bl b => .bl b
  | _, _, _, .int i => .int i
  | _, _, _, .str x => .str x
  | _, _, n, .tup h r => .tup h (reps_pure (by simpa [noRef] using n) r)
  | _, _, n, .lst h a b r => .lst h (by simp [W00]) (by simp [W00]) (reps_pure (by simpa [noRef] using n) r)
  | _, _, n, .dct h a b r => .dct h (by simp [W00]) (by simp [W00]) (repK_pure (by simpa [noRef] using n) r)
  | _, _, n, .ref h => by simp [noRef] at n
  | _, _, n, .scr h => .scr h
theorem reps_pure {W : Wd} {H : Hp} : ∀ {d : List D} {v : List V}, noRefs d = true → Reps K W H d v → Reps K W00 H d v
  | _, _, _, .nil => .nil
  | _, _, n, .cons r rs => by
    simp only [noRefs, Bool.and_eq_true] at n
    exact .cons (rep_pure n.1 r) (reps_pure n.2 rs)
theorem repK_pure {W : Wd} {H : Hp} : ∀ {d : List (Ky × D)} {v : List (Key × V)}, noRefK d = true → RepK K W H d v → RepK K W00 H d v
  | _, _, _, .nil => .nil
  | _, _, n, .cons r rs => by
    simp only [noRefK, Bool.and_eq_true] at n
    exact .cons (rep_pure n.1 r) (repK_pure n.2 rs)
end
mutual
theorem rep_scl {W W' : Wd} {H : Hp} : ∀ {d : D} {v : V}, scl d = true → Rep K W H d v → Rep K W' H d v
  | _, _, _, .non => .non
  | _, _, _, .bl b => .bl b
  | _, _, _, .int i => .int i
  | _, _, _, .str x => .str x
  | _, _, n, .tup h r => .tup h (reps_scl (by simpa [scl] using n) r)
  | _, _, n, .lst h a b r => by simp [scl] at n
  | _, _, n, .dct h a b r => by simp [scl] at n
  | _, _, n, .ref h => by simp [scl] at n
  | _, _, n, .scr h => by simp [scl] at n
theorem reps_scl {W W' : Wd} {H : Hp} : ∀ {d : List D} {v : List V}, scls d = true → Reps K W H d v → Reps K W' H d v
  | _, _, _, .nil => .nil
  | _, _, n, .cons r rs => by
    simp only [scls, Bool.and_eq_true] at n
    exact .cons (rep_scl n.1 r) (reps_scl n.2 rs)
end
theorem repK_scl {W W' : Wd} {H : Hp} {d : List (Ky × D)} {v : List (Key × V)} (n : sclK d = true) (r : RepK K W H d v) : RepK K W' H d v := by
  induction d generalizing v with
  | nil => cases r; exact .nil
  | cons x xs ih =>
    cases r with
    | cons a b =>
      simp only [sclK, Bool.and_eq_true] at n
      exact .cons (rep_scl n.1 a) (ih n.2 b)
theorem frz_args {W : Wd} {S : Store} {H : Hp} (r : Rel K nm W S H) : ∀ {as : List D} {vs : List V} {as' : List D}, Reps K W H as vs → frzAs S as = some as' → Reps K W00 H as' vs
  | [], _, _, .nil, h => by cases h; exact .nil
  | d :: ds, _, as', .cons a b, h => by
    simp only [frzAs] at h
    split at h
    · rename_i x xs e1 e2
      cases h
      refine .cons ?_ (frz_args r b e2)
      cases a with
      | @ref n ad h1 =>
        simp only [frzA] at e1
        split at e1
        · rename_i ys q
          split at e1
          · rename_i hn
            cases e1
            obtain ⟨vs, h2, h3⟩ := r.ob n ad _ h1 q
            exact .lst (.inl h2) (by simp [W00]) (by simp [W00]) (reps_pure hn h3)
          · cases e1
        · rename_i ys q
          split at e1
          · rename_i hn
            cases e1
            obtain ⟨vs, h2, h3⟩ := r.ob n ad _ h1 q
            exact .dct (.inl h2) (by simp [W00]) (by simp [W00]) (repK_pure hn h3)
          · cases e1
        · cases e1
      | non => cases e1; exact .non
      | bl b => cases e1; exact .bl b
      | int i => cases e1; exact .int i
      | str x => cases e1; exact .str x
      | tup h1 h2 =>
        simp only [frzA] at e1
        split at e1
        · rename_i hn; cases e1; exact rep_pure hn (.tup h1 h2)
        · cases e1
      | lst h1 h2 h3 h4 =>
        simp only [frzA] at e1
        split at e1
        · rename_i hn; cases e1; exact rep_pure hn (.lst h1 h2 h3 h4)
        · cases e1
      | dct h1 h2 h3 h4 =>
        simp only [frzA] at e1
        split at e1
        · rename_i hn; cases e1; exact rep_pure hn (.dct h1 h2 h3 h4)
        · cases e1
      | scr h1 => cases e1; exact .scr h1
    · cases h
theorem rel00 {H : Hp} : Rel K nm W00 [] H := ⟨rfl, List.nodup_nil, fun n a o h => by simp [W00] at h, fun b hb => by simp [W00] at hb⟩
theorem erep_start {W : Wd} {H : Hp} {as : List D} {vs : List V} (p : Reps K W H as vs) (N : List Str) : ERep K W H (startE N.length as) (start N vs) := by
  refine ⟨by simp [startE, L2.start, p.length], fun i d h => ?_⟩
  by_cases hi : i < as.length
  · have hi' : i < (as.map some).length := by simpa using hi
    rw [startE, List.getElem?_append_left hi'] at h
    simp only [List.getElem?_map, Option.map_eq_some_iff, Option.some.injEq] at h
    obtain ⟨d', h1, h2⟩ := h
    subst h2
    obtain ⟨v, h3, h4⟩ := p.get h1
    refine ⟨v, ?_, h4⟩
    have hv : i < (vs.map some).length := by rw [List.length_map, p.lens]; exact hi
    show (vs.map some ++ _)[i]? = _
    rw [List.getElem?_append_left hv]
    simp [h3]
  · rw [startE, List.getElem?_append_right (by simpa using hi)] at h
    rw [List.getElem?_replicate] at h
    split at h <;> cases h
/-- where a def stands, and that its body is what the table says -/
structure FOk (K : PySem.W.Frag) (G : Tab) (Y : Sx) (f : Nat) (ad : Addr) (fdt : FuncData) (psf : List Str) : Prop where
  ex : ∃ (x qual : Str) (st : Stmt) (N : List Str) (F : Fn), G.fns f = some F ∧ Fun K x qual st ad fdt ∧ FnScope N psf (defScope st) ∧ F.np = psf.length ∧ F.nl = N.length ∧ chkS Y N (defScope st) F.body (defBody st) = true
theorem fn_all (g : GOk K mg G Y nm fa fd ps) (hO : ∀ f : Nat, (G.fns f).isSome = true → FOk K G Y f (fa f) (fd f) (ps f)) : ∀ (kk f : Nat), (G.fns f).isSome = true → FnOk P w K mg base (L2.CX P w) (2 * kk) (fa f) (fd f) (ps f) (spF K nm G kk f) := by
  intro kk
  induction kk with
  | zero => exact fun f hf => ⟨fun vs H Q E ⟨W, S, as, _, _, z⟩ => z.elim, fun A outer s H args us vs Q E _ _ _ _ ⟨W, S, as, _, _, z⟩ => z.elim⟩
  | succ kk ih =>
    intro f hf
    obtain ⟨x, qual, st, N, F, hFn, fu, S, hnp, hnl, hch⟩ := (hO f hf).ex
    refine fu.okX (k := 2 * kk + 1) (N := N) S (fun vs H Q E q => ?_) fun cdv A outer s H vs Q E hr q => ?_
    · obtain ⟨W, St, as, r, p, z⟩ := q
      simp only [run, hFn] at z
      split at z
      · exact z.elim
      · rename_i hl
        rw [p.lens, ← hnp]
        exact Decidable.not_not.mp hl
    · have hS := sndS (P := P) (w := w) (base := base) (N := N) (kk := kk) g ih F.body (defScope st) (defBody st) (cxOf (L2.CX P w) P w K mg base N qual (defScope st) (fa f) cdv A outer s H E) (fun cls d _ H => E cls d H) hch
        ⟨rfl, rfl, rfl, rfl, rfl, rfl, S.nd, rfl, hr, rfl, ⟨_, _, _, rfl, rfl, rfl⟩⟩ ⟨fun _ => rfl, rfl, rfl⟩ (takes_of rfl rfl rfl rfl) (passes_of rfl)
      refine ⟨_, hS, ?_⟩
      obtain ⟨W, St, as, r, p, z⟩ := q
      simp only [run, hFn] at z
      split at z
      · exact z.elim
      · by_cases hp : F.pure = true
        · rw [if_pos hp] at z
          cases hfr : frzAs St as with
          | none => rw [hfr] at z; exact z.elim
          | some as' =>
            rw [hfr] at z
            dsimp only at z
            have p0 := frz_args r p hfr
            refine ⟨W00, [], startE F.nl as', by rw [hnl]; exact erep_start p0 N, rel00, ?_⟩
            have all : ∀ {W' : Wd} {H' : Hp}, Ext W00 H W' H' → (∀ a o, H a = some o → H' a = some o) ∧ Ext W H W H' := fun e => ⟨fun a o h => e.keep a o h (by simp [W00]), ⟨rfl, ⟨[], by simp⟩, fun a o h _ => e.keep a o h (by simp [W00]), e.fz⟩⟩
            revert z
            cases exT G (run G kk) F.body (startE F.nl as') [] with
            | bad => exact fun z => z.elim
            | nx env' S' =>
              intro z W' H' σ' e r' _
              obtain ⟨k1, k2⟩ := all e
              exact z .non W H' k2 (r.grow k2 k1) .non
            | ex c env' S' =>
              intro z W' H' σ' e r' _
              obtain ⟨k1, k2⟩ := all e
              exact z W H' k2 (r.grow k2 k1)
            | rt d S' =>
              intro z v W' H' e r' pv
              obtain ⟨k1, k2⟩ := all e
              have rW := r.grow k2 k1
              obtain ⟨d', hd, fi⟩ := z.of
              refine fi v W H' k2 rW ?_
              cases pv with
              | @ref n ad h1 =>
                have fresh : H ad = none := by
                  obtain ⟨t, e1, e2⟩ := e.m
                  have : ad ∈ W'.m := List.mem_of_getElem? h1
                  rw [e1] at this
                  exact e2 ad (by simpa [W00] using this)
                simp only [frzR] at hd
                split at hd
                · rename_i ys q
                  split at hd
                  · rename_i hn
                    cases hd
                    obtain ⟨vs', h2, h3⟩ := r'.ob n ad _ h1 q
                    exact .lst (.inl h2) (r.fresh fresh).1 (r.fresh fresh).2 (reps_scl hn h3)
                  · cases hd
                · rename_i ys q
                  split at hd
                  · rename_i hn
                    cases hd
                    obtain ⟨vs', h2, h3⟩ := r'.ob n ad _ h1 q
                    exact .dct (.inl h2) (r.fresh fresh).1 (r.fresh fresh).2 (repK_scl hn h3)
                  · cases hd
                · cases hd
              | non => cases hd; exact .non
              | bl b => cases hd; exact .bl b
              | int i => cases hd; exact .int i
              | str x => cases hd; exact .str x
              | tup h1 h2 =>
                simp only [frzR] at hd
                split at hd
                · rename_i hn; cases hd; exact rep_scl hn (.tup h1 h2)
                · cases hd
              | lst h1 h2 h3 h4 => simp [frzR, scl] at hd
              | dct h1 h2 h3 h4 => simp [frzR, scl] at hd
              | scr h1 => simp [frzR, scl] at hd
        · rw [if_neg hp] at z
          refine ⟨W, St, startE F.nl as, by rw [hnl]; exact erep_start p N, r, ?_⟩
          revert z
          cases exT G (run G kk) F.body (startE F.nl as) St with
          | bad => exact fun z => z.elim
          | nx env' S' => exact fun z W' H' σ' e r' _ => z .non W' H' e r' .non
          | ex c env' S' => exact fun z W' H' σ' e r' _ => z W' H' e r'
          | rt d S' => exact fun z v W' H' e r' pv => z v W' H' e r' pv
end
end PL

set_option Elab.async false
set_option linter.all false
set_option maxRecDepth 100000
set_option maxHeartbeats 2000000
/-! PLO: the law's end. -/
namespace PL
open PySem PySem.Spec PyProof.Rows L2
/-- the law's promise -/
def spL (K : PySem.W.Frag) : Sp := fun vs H Q _ => ∃ (a : Addr) (ns : List Int), vs = [.ref a] ∧ SqL K H a (ns.map V.int) ∧ ns.length ≤ 63 ∧ Only H ∧ ∀ H', Q (.bl true) H'
theorem scr_at {K : PySem.W.Frag} {H : Hp} {a : Addr} {ns : List Int} (h : SqL K H a (ns.map V.int)) (o : Only H) : ScrAt K H a ns := by
  rcases h with (h | ⟨u, h⟩) | h
  · rcases o a with z | ⟨_, _, z⟩ <;> (rw [h] at z; cases z)
  · exact .inl ⟨u, h⟩
  · exact .inr h
theorem law_fn {P : Program} {w : World} {K : PySem.W.Frag} {mg : Str → Option Value} {base : Heap} {G : Tab} {nm : Nm} {kk f : Nat} {fa : Addr} {fd : FuncData} {ps : List Str} {k : Nat}
    (F : FnOk P w K mg base (L2.CX P w) k fa fd ps (spF K nm G kk f)) (h : ∀ ns : List Int, ns.length ≤ 63 → run G kk f [.scr ns] [] = .ok (.bl true) []) : FnOk P w K mg base (L2.CX P w) k fa fd ps (spL K) := by
  refine F.imp fun vs H Q E q => ?_
  obtain ⟨a, ns, e, hs, hl, ho, q⟩ := q
  subst e
  refine ⟨W00, [], [.scr ns], rel00, .cons (.scr (scr_at hs ho)) .nil, ?_⟩
  rw [h ns hl]
  intro v W' H' e r p
  cases p
  exact q H'
theorem law_walk {l : PySem.W.OpenLaw} {q : Program} {loose : List Str} {XP : (Str → Option Value) → Heap → Prop} {YP : World → Heap → Prop} {d : DefRec} {K : Params → PySem.W.Frag} {x : Str} {k : Nat} (hn : l.most = some 63) (hdf : d.params.defaults = []) (hr : Room k callerA)
    (hY : ∀ (w : World) (h : Heap), YP w h → (K w.params).In h)
    (F : ∀ (w : World) (mg : Str → Option Value) (fa : Addr) (h : Heap), (K w.params).In h → h.Ns mainGlobals mg → mg d.name = some (.ref fa) →
      ∃ fd : FuncData, (∀ (s : Shared) (u : Value), BindsTo s fd ⟨[u], []⟩ [(x, u)]) ∧ ∀ base : Heap, (K w.params).In base → base.Ns mainGlobals mg → FnOk l.prog w (K w.params) mg base (L2.CX l.prog w) k fa fd [x] (spL (K w.params))) :
    PySem.W.WalkO q loose XP YP l.row.toRowW d [] (fun f vs => PySem.call f vs) :=
  L2.walk_of (n := 63) (k := k) (x := x) (CX := fun w => L2.CX l.prog w) (sp := fun w => spL (K w.params)) hn (by decide) hdf hr hY F (fun _ _ a ns hl ho hS => ⟨a, ns, rfl, hS, hl, ho, fun _ => rfl⟩) fun _ _ _ _ _ z => by
    obtain ⟨_, _, _, _, _, _, _, _, _, _, _, _, z⟩ := z
    exact z
theorem rep_int (K : PySem.W.Frag) (i : Int) : ∀ W H, Rep K W H (.int i) (.int i) := fun _ _ => .int i
theorem rep_str (K : PySem.W.Frag) (i : Str) : ∀ W H, Rep K W H (.str i) (.str i) := fun _ _ => .str i
theorem exm_by {K : PySem.W.Frag} {x c : Addr} {b b' : Bool} (hb : PySem.W.subIn K (.ref c) (.type "BaseException") = some true) (hi : PySem.W.isClsIn K c = true) (ht : PySem.W.typeIn K (.ref c) = some (.type "type")) (hs : PySem.W.subIn K (.ref x) (.ref c) = some b) (e : b = b') :
    PySem.W.exmOne K (.ref x) (.ref c) = some b' := by
  subst e
  have q1 : (PySem.W.subIn K (.ref c) (.type "BaseException") == some true) = true := by rw [hb]; rfl
  have q2 : ((PySem.W.clsIn K c).isSome && PySem.W.typeIn K (.ref c) == some (.type "type")) = true := by
    rw [show (PySem.W.clsIn K c).isSome = true from hi, ht]; rfl
  unfold PySem.W.exmOne PySem.W.kitCls
  rw [if_pos q1]
  dsimp only
  rw [if_pos q2, hs]
/-! ### names of fields, told apart -/
def bigF (f : Nat) : Str := ⟨#[2000000 + f]⟩
theorem bigF_ne (f : Nat) {x : Str} (h : ∀ c ∈ x.cps.toList, c < 2000000) : bigF f ≠ x := fun e => by
  subst e
  have := h (2000000 + f) (show 2000000 + f ∈ [2000000 + f] from List.mem_singleton.mpr rfl)
  omega
theorem bigF_inj {f g : Nat} (h : bigF f = bigF g) : f = g := by
  have e : [2000000 + f] = [2000000 + g] := congrArg (fun x : Str => x.cps.toList) h
  injection e with e
  omega
def fntOf (l : List (Nat × Str)) (f : Nat) : Str := (lookN l f).getD (bigF f)
theorem fnt_cases (l : List (Nat × Str)) (f : Nat) : fntOf l f = bigF f ∨ ∃ p ∈ l, f = p.1 ∧ fntOf l f = p.2 := by
  unfold fntOf
  cases h : lookN l f with
  | none => exact .inl rfl
  | some x => exact .inr ⟨_, lookN_mem h, rfl, rfl⟩
theorem fnt_inj_of {l : List (Nat × Str)} (h1 : ∀ p ∈ l, ∀ q ∈ l, p.2 = q.2 → p.1 = q.1) (h2 : ∀ p ∈ l, ∀ c ∈ p.2.cps.toList, c < 2000000) (f g : Nat) (h : fntOf l f = fntOf l g) : f = g := by
  rcases fnt_cases l f with a | ⟨p, hp, ep, a⟩ <;> rcases fnt_cases l g with b | ⟨q, hq, eq, b⟩
  · exact bigF_inj (a.symm.trans (h.trans b))
  · exact absurd (a.symm.trans (h.trans b)) (bigF_ne f (h2 q hq))
  · exact absurd (b.symm.trans (h.symm.trans a)) (bigF_ne g (h2 p hp))
  · rw [ep, eq]
    exact h1 p hp q hq (a.symm.trans (h.trans b))
theorem fnt_ne_of {l : List (Nat × Str)} {x : Str} (h1 : ∀ p ∈ l, p.2 ≠ x) (h2 : ∀ c ∈ x.cps.toList, c < 2000000) (f : Nat) : fntOf l f ≠ x := by
  rcases fnt_cases l f with a | ⟨p, hp, _, a⟩
  · rw [a]; exact bigF_ne f h2
  · rw [a]; exact h1 p hp
end PL

set_option Elab.async false
set_option linter.all false
set_option maxRecDepth 100000
set_option maxHeartbeats 1000000
/-! PM1: loops and calls of the evaluator, in general. -/
namespace PL
open PySem
/-- what a pure def's end gives -/
def fin (S : Store) : RS → R D
  | .nx _ _ => .ok .non S
  | .rt d S' => R.of (frzR S' d) S
  | .ex c _ _ => .ex c S
  | .bad => .bad
theorem run_pure {G : Tab} {k f np nl : Nat} {b : T} {as as' : List D} {S : Store} (h : G.fns f = some ⟨true, np, nl, b⟩) (hl : as.length = np) (hf : frzAs S as = some as') :
    run G (k + 1) f as S = fin S (exT G (run G k) b (startE nl as') []) := by
  simp only [run, h]
  rw [if_neg (by simpa using hl)]
  simp only [if_true, hf]
  cases exT G (run G k) b (startE nl as') [] <;> rfl
theorem fin_rt {S S' : Store} {d : D} (h : scl d = true) : fin S (.rt d S') = .ok d S := by
  unfold fin
  cases d <;> simp_all [frzR, scl]
theorem fin_ret {S S' : Store} {d : D} {r : RS} (e : r = .rt d S') (h : scl d = true) : fin S r = .ok d S := by rw [e, fin_rt h]
/-- a for over items, as a fold -/
theorem goFor_fold {α β τ : Type} {body : D → Env → Store → RS} {enc : β → D} {st : α → τ → Env} {step : α → β → α} {S : Store} {xs : List β} {a0 : α} {t0 : τ}
    (h : ∀ pre x post t, xs = pre ++ x :: post → ∃ t', body (enc x) (st (pre.foldl step a0) t) S = .nx (st (step (pre.foldl step a0) x) t') S) :
    ∃ t', goFor body (xs.map enc) (st a0 t0) S = .nx (st (xs.foldl step a0) t') S := by
  have key : ∀ (post pre : List β) (t : τ), xs = pre ++ post → ∃ t', goFor body (post.map enc) (st (pre.foldl step a0) t) S = .nx (st (xs.foldl step a0) t') S := by
    intro post
    induction post with
    | nil => intro pre t e; rw [List.append_nil] at e; subst e; exact ⟨t, rfl⟩
    | cons x post ih =>
      intro pre t e
      obtain ⟨t1, h1⟩ := h pre x post t e
      obtain ⟨t2, h2⟩ := ih (pre ++ [x]) t1 (by rw [e]; simp)
      refine ⟨t2, ?_⟩
      rw [List.foldl_append] at h2
      simp only [List.map_cons, goFor, h1, RS.andThen_nx]
      exact h2
  exact key xs [] t0 rfl
@[simp] theorem qk_plain {b : D → Store → R (Option D)} : qk .plain b = b := rfl
@[simp] theorem qk_zip {b : D → Store → R (Option D)} : qk .zip b = b := rfl
@[simp] theorem qk_enum {b : D → Store → R (Option D)} : qk .enum b = b := rfl
@[simp] theorem qk_rng1 {b : D → Store → R (Option D)} : qk .rng1 b = b := rfl
@[simp] theorem qk_rng2 {b : D → Store → R (Option D)} : qk .rng2 b = b := rfl
@[simp] theorem qk_rng3 {b : D → Store → R (Option D)} : qk .rng3 b = b := rfl
@[simp] theorem qk_items {b : D → Store → R (Option D)} : qk .items b = b := rfl
/-- a comprehension over items without a test -/
theorem goComp_map {β : Type} {body : D → Store → R (Option D)} {enc : β → D} {f : β → D} {S : Store} {xs : List β} (hl : xs.length ≤ SZ) (h : ∀ x ∈ xs, body (enc x) S = .ok (some (f x)) S) : goComp body (xs.map enc) [] S = .ok (xs.map f) S := by
  have key : ∀ (post pre : List β), xs = pre ++ post → goComp body (post.map enc) (pre.map f) S = .ok (xs.map f) S := by
    intro post
    induction post with
    | nil => intro pre e; rw [List.append_nil] at e; subst e; rfl
    | cons x post ih =>
      intro pre e
      have hx := h x (by rw [e]; simp)
      have := ih (pre ++ [x]) (by rw [e]; simp)
      simp only [List.map_cons, goComp, hx, R.bind_ok]
      rw [if_pos (by rw [List.length_map]; rw [e, List.length_append, List.length_cons] at hl; omega)]
      simpa using this
  exact key xs [] rfl
abbrev tupI (xs : List Int) : D := .tup (xs.map .int)
@[simp] theorem noRefs_int (xs : List Int) : noRefs (xs.map .int) = true := by induction xs <;> simp_all [noRefs, noRef]
@[simp] theorem scls_int (xs : List Int) : scls (xs.map .int) = true := by induction xs <;> simp_all [scls, scl]
theorem frz_tupI (S : Store) (xs : List Int) : frzA S (tupI xs) = some (tupI xs) := by simp [frzA, noRef]
end PL
namespace PL
open PySem
/-! ### statements, one equation each (a loop has its own laws) -/
section
variable {G : Tab} {call : Calls} {env : Env} {S : Store}
@[simp] theorem x_nil : exT G call .nil env S = .nx env S := rfl
@[simp] theorem x_asg {i : Nat} {e : E} {k : T} : exT G call (.asg i e k) env S = (ev G call e env S).stm env fun d S => exT G call k (env.set i (some d)) S := rfl
@[simp] theorem x_exp {e : E} {k : T} : exT G call (.exp e k) env S = (ev G call e env S).stm env fun _ S => exT G call k env S := rfl
@[simp] theorem x_ret {e : E} : exT G call (.ret e) env S = (ev G call e env S).stm env fun d S => .rt d S := rfl
@[simp] theorem x_ifs {c : E} {a b k : T} : exT G call (.ifs c a b k) env S = (mapT (ev G call c env S)).stm env fun t S => (if t then exT G call a env S else exT G call b env S).andThen fun env S => exT G call k env S := rfl
@[simp] theorem x_rais {c : Nat} : exT G call (.rais c) env S = .ex c env S := rfl
noncomputable def turnB (G : Tab) (call : Calls) (b : T) (tg : Tg) (x : D) (env : Env) (S : Store) : RS := match bindT tg x env with
  | some env' => exT G call b env' S
  | none => .bad
/-- the body of the first loop -/
def forB : T → T
  | .asg _ _ k => forB k
  | .exp _ k => forB k
  | .for_ _ _ _ b _ => b
  | _ => .nil
theorem x_for_eq {ik : IK} {src : E} {b k : T} {tg : Tg} : exT G call (.for_ ik src tg b k) env S = (ev G call src env S).stm env fun xs S => match mkIt ik (srcL ik xs) S with
    | some it => (goForI it (turnB G call b tg) env S).andThen fun env S => exT G call k env S
    | none => .bad := rfl
/-- a for over items -/
theorem x_for {α β τ : Type} {ik : IK} {src : E} {b k : T} {tg : Tg} {enc : β → D} {st : α → τ → Env} {step : α → β → α} {xs : List β} {a0 : α} {t0 : τ} {d : D} {r : RS}
    (hs : ev G call src (st a0 t0) S = .ok d S) (hi : mkIt ik (srcL ik d) S = some (.items (xs.map enc)))
    (h : ∀ pre x post t, xs = pre ++ x :: post → ∃ t', (match bindT tg (enc x) (st (pre.foldl step a0) t) with
      | some env' => exT G call b env' S
      | none => .bad) = .nx (st (step (pre.foldl step a0) x) t') S)
    (hk : ∀ t', exT G call k (st (xs.foldl step a0) t') S = r) : exT G call (.for_ ik src tg b k) (st a0 t0) S = r := by
  obtain ⟨t', e⟩ := goFor_fold (S := S) (xs := xs) (enc := enc) (st := st) (step := step) (a0 := a0) (t0 := t0) (body := turnB G call b tg) h
  rw [x_for_eq, hs]
  simp only [R.stm_ok, hi, goForI, e, RS.andThen_nx]
  exact hk t'
end
end PL
namespace PL
open PySem
/-! ### the evaluator's operations on known values -/
section
variable {S : Store} {i j : Int}
@[simp] theorem bop_add_int : bop .add (.int i) (.int j) S = some (.int (i + j)) := rfl
@[simp] theorem bop_sub_int : bop .sub (.int i) (.int j) S = some (.int (i - j)) := rfl
@[simp] theorem bop_mul_l (h : small i = true) : bop .mul (.int i) (.int j) S = some (.int (i * j)) := by simp [bop, mulD, h]
@[simp] theorem bop_mul_r (h : small j = true) : bop .mul (.int i) (.int j) S = some (.int (i * j)) := by simp [bop, mulD, h]
@[simp] theorem bop_mod_int (h : 0 < j) : bop .mod (.int i) (.int j) S = some (.int (i % j)) := by simp [bop, modD, h]
@[simp] theorem bop_fdiv_int (h : 0 < j) (h' : j < 18446744073709551616) : bop .fdiv (.int i) (.int j) S = some (.int (i / j)) := by
  show (if 0 < j ∧ j < 2 ^ 64 then some (D.int (i / j)) else none) = _
  rw [if_pos ⟨h, h'⟩]
@[simp] theorem bop_add_tup {a b : List D} (h : a.length + b.length ≤ SZ) : bop .add (.tup a) (.tup b) S = some (.tup (a ++ b)) := by simp [bop, addD, h]
@[simp] theorem cop_lt : cop .lt (.int i) (.int j) S = some (decide (i < j)) := rfl
@[simp] theorem cop_le : cop .le (.int i) (.int j) S = some (decide (i ≤ j)) := rfl
@[simp] theorem cop_gt : cop .gt (.int i) (.int j) S = some (decide (j < i)) := rfl
@[simp] theorem cop_ge : cop .ge (.int i) (.int j) S = some (decide (j ≤ i)) := rfl
@[simp] theorem cop_eq_int : cop .eq (.int i) (.int j) S = some (decide (i = j)) := rfl
@[simp] theorem cop_ne_int : cop .ne (.int i) (.int j) S = some (!decide (i = j)) := rfl
@[simp] theorem truthy_bl {b : Bool} : truthy (.bl b) S = some b := rfl
@[simp] theorem truthy_int : truthy (.int i) S = some (i != 0) := rfl
@[simp] theorem truthy_tup {xs : List D} : truthy (.tup xs) S = some (!xs.isEmpty) := rfl
@[simp] theorem mapT_ok {d : D} : mapT (.ok d S) = R.of (truthy d S) S := rfl
@[simp] theorem mapT_bad : mapT .bad = .bad := rfl
@[simp] theorem toTup_tup {xs : List D} : toTup (.tup xs) = xs := rfl
theorem small_of (h : -18446744073709551616 < i) (h' : i < 18446744073709551616) : small i = true := by
  exact tst_of ⟨h, h'⟩
@[simp] theorem small_104729 : small 104729 = true := small_of (by decide) (by decide)
@[simp] theorem small_48271 : small 48271 = true := small_of (by decide) (by decide)
@[simp] theorem small_257 : small 257 = true := small_of (by decide) (by decide)
@[simp] theorem mkTup_1 {a : D} : mkTup [a] = some (.tup [a]) := by simp [mkTup, SZ]
@[simp] theorem mkTup_0 : mkTup [] = some (.tup []) := by simp [mkTup, SZ]
@[simp] theorem mkTup_2 {a b : D} : mkTup [a, b] = some (.tup [a, b]) := by simp [mkTup, SZ]
@[simp] theorem mkTup_3 {a b c : D} : mkTup [a, b, c] = some (.tup [a, b, c]) := by simp [mkTup, SZ]
@[simp] theorem mkTup_4 {a b c d : D} : mkTup [a, b, c, d] = some (.tup [a, b, c, d]) := by simp [mkTup, SZ]
@[simp] theorem srcL_plain {d : D} : srcL .plain d = [d] := rfl
@[simp] theorem srcL_zip {d : D} : srcL .zip d = toTup d := rfl
@[simp] theorem srcL_rng1 {d : D} : srcL .rng1 d = toTup d := rfl
@[simp] theorem srcL_rng2 {d : D} : srcL .rng2 d = toTup d := rfl
@[simp] theorem mkIt_tup {xs : List D} : mkIt .plain [.tup xs] S = some (.items xs) := rfl
@[simp] theorem mkIt_lst {xs : List D} : mkIt .plain [.lst xs] S = some (.items xs) := rfl
theorem b62_of (h : -4611686018427387904 ≤ i) (h' : i < 4611686018427387904) : b62 i = true := by
  exact tst_of ⟨h, h'⟩
theorem mkIt_rng1 (h : b62 j = true) : mkIt .rng1 [.int j] S = some (.items (rngD 0 1 j.toNat)) := by simp [mkIt, h]
@[simp] theorem mkIt_zipT {xs ys : List D} : mkIt .zip [.tup xs, .tup ys] S = some (.items (xs.zipWith (fun x y => .tup [x, y]) ys)) := rfl
@[simp] theorem mkIt_zipL {xs ys : List D} : mkIt .zip [.lst xs, .lst ys] S = some (.items (xs.zipWith (fun x y => .tup [x, y]) ys)) := rfl
theorem rngD_map (n : Nat) : rngD 0 1 n = (List.range n).map fun (k : Nat) => .int k := by simp [rngD]
@[simp] theorem bindT_one {d : D} {k : Nat} {env : Env} : bindT (.one k) d env = some (env.set k (some d)) := rfl
@[simp] theorem isaD_int0 {t : Nat} : isaD t (.int i) = decide (t = 0) := by
  rcases t with _ | _ | _ | _ | t <;> simp [isaD]
@[simp] theorem isaD_tup {t : Nat} {xs : List D} : isaD t (.tup xs) = decide (t = 3) := by
  rcases t with _ | _ | _ | _ | t <;> simp [isaD]
@[simp] theorem isaD_str {t : Nat} {x : Str} : isaD t (.str x) = decide (t = 2) := by
  rcases t with _ | _ | _ | _ | t <;> simp [isaD]
@[simp] theorem isaD_non {t : Nat} : isaD t .non = false := by
  rcases t with _ | _ | _ | _ | t <;> simp [isaD]
@[simp] theorem isaD_bl {t : Nat} {b : Bool} : isaD t (.bl b) = decide (t < 2) := by
  rcases t with _ | _ | _ | _ | t <;> simp [isaD]
@[simp] theorem notIns_int : notIns (.int i) S = true := rfl
@[simp] theorem notIns_tup {xs : List D} : notIns (.tup xs) S = true := rfl
@[simp] theorem notIns_str {x : Str} : notIns (.str x) S = true := rfl
@[simp] theorem notIns_bl {b : Bool} : notIns (.bl b) S = true := rfl
@[simp] theorem notIns_non : notIns .non S = true := rfl
@[simp] theorem bf_len_tup {xs : List D} : bfD .len [.tup xs] S = some (.int xs.length) := rfl
@[simp] theorem bf_len_scr {ns : List Int} : bfD .len [.scr ns] S = some (.int ns.length) := by simp [bfD, lenF, lenD, seqOf]
@[simp] theorem bf_max : bfD .max [.int i, .int j] S = some (.int (if j > i then j else i)) := rfl
@[simp] theorem bf_min : bfD .min [.int i, .int j] S = some (.int (if j < i then j else i)) := rfl
theorem allB_map {α : Type} (f : α → Bool) (xs : List α) : allB (xs.map fun x => .bl (f x)) = some (xs.all f) := by induction xs <;> simp_all [allB]
theorem bf_all_map {α : Type} {f : α → Bool} {xs : List α} : bfD .all [.lst (xs.map fun x => .bl (f x))] S = some (.bl (xs.all f)) := by simp [bfD, allF, lstOf, allB_map]
end
end PL

set_option Elab.async false
set_option linter.all false
set_option maxRecDepth 100000
set_option maxHeartbeats 1000000
/-! PM2: the defs that most laws use, and what they compute. -/
namespace PL
open PySem
abbrev i_mark_of : Nat := 1
/-- mark_of: some 0 mark 1 one 2 -/
def b_mark_of : T := (.asg 1 (.con (.int 0))
  (.for_ .plain (.var 0) (.one 2)
  (.asg 1 (.bin .mod (.bin .add (.bin .add (.bin .mul (.var 1) (.glb 1)) (.var 2)) (.con (.int 1))) (.glb 0))
  .nil)
  (.ret (.var 1))))
def f_mark_of : Fn := ⟨true, 1, 3, b_mark_of⟩
abbrev i_l_d : Nat := 2
/-- l_d: _cell 0 _place 1 _many 2 _number 3 -/
def b_l_d : T := (.asg 3 (.bin .mod (.bin .add (.var 0) (.bin .mul (.con (.int 104729)) (.var 1))) (.con (.int 4294967291)))
  (.asg 3 (.bin .mod (.bin .mul (.bin .mod (.bin .mul (.var 3) (.var 3)) (.con (.int 4294967279))) (.con (.int 48271))) (.con (.int 4294967291)))
  (.ret (.bin .mod (.bin .fdiv (.var 3) (.con (.int 64))) (.var 2)))))
def f_l_d : Fn := ⟨true, 3, 4, b_l_d⟩
abbrev i_l_cell : Nat := 8
/-- l_cell: _script 0 _k 1 -/
def b_l_cell : T := (.ifs (.cmp .lt (.var 1) (.bf .len (.cons (.var 0) .nil)))
  (.ret (.ix (.var 0) (.var 1)))
  .nil
  (.ret (.con (.int 0))))
def f_l_cell : Fn := ⟨true, 2, 2, b_l_cell⟩
/-! ### the laws' draws -/
def dF (c p m : Int) : Int :=
  let n := (c + 104729 * p) % 4294967291
  (n * n % 4294967279 * 48271 % 4294967291) / 64 % m
theorem dF_nn (c p : Int) {m : Int} (h : 0 < m) : 0 ≤ dF c p m := Int.emod_nonneg _ (by omega)
section
variable {G : Tab} {k : Nat} {S : Store}
theorem run_l_d {c p m : Int} (h : G.fns i_l_d = some f_l_d) (hm : 0 < m) : run G (k + 1) i_l_d [.int c, .int p, .int m] S = .ok (.int (dF c p m)) S := by
  rw [run_pure h rfl (as' := [.int c, .int p, .int m]) rfl]
  have h1 : 0 ≤ (c + 104729 * p) % 4294967291 := Int.emod_nonneg _ (by decide)
  have h2 : (c + 104729 * p) % 4294967291 < 4294967291 := Int.emod_lt_of_pos _ (by decide)
  have h3 : small ((c + 104729 * p) % 4294967291) = true := small_of (by omega) (by omega)
  simp [b_l_d, exT, ev, startE, h3, hm]
  exact fin_rt rfl
/-! ### marks -/
def markS (m x : Int) : Int := (m * 257 + x + 1) % 2147483647
def markF (xs : List Int) : Int := xs.foldl markS 0
theorem run_mark_of {xs : List Int} (h : G.fns i_mark_of = some f_mark_of) (h0 : G.consts 0 = some (.int 2147483647)) (h1 : G.consts 1 = some (.int 257)) :
    run G (k + 1) i_mark_of [tupI xs] S = .ok (.int (markF xs)) S := by
  rw [run_pure h rfl (as' := [tupI xs]) (by simp [frzAs, frz_tupI])]
  refine fin_ret (S' := []) ?_ rfl
  simp [b_mark_of, startE, ev]
  refine x_for (xs := xs) (enc := D.int) (a0 := (0 : Int)) (t0 := (none : Option D)) (st := fun a t => [some (tupI xs), some (.int a), t]) (step := markS) (d := tupI xs) ?_ rfl (fun pre x post t e => ⟨some (.int x), ?_⟩) (fun t' => ?_)
  · simp [ev]
  · simp [ev, h0, h1, markS]
  · simp [ev, markF]
def markT (xs : List Int) : Int := xs.foldl (fun m x => m * 257 + x + 1) 0
theorem markT_F (xs : List Int) : markT xs % 2147483647 = markF xs := by
  unfold markT markF
  have key : ∀ (xs : List Int) (a b : Int), a % 2147483647 = b % 2147483647 → (xs.foldl (fun m x => m * 257 + x + 1) a) % 2147483647 = (xs.foldl markS b) % 2147483647 := by
    intro xs
    induction xs with
    | nil => intro a b e; exact e
    | cons x xs ih =>
      intro a b e
      refine ih _ _ ?_
      unfold markS
      show (a * 257 + x + 1) % 2147483647 = (b * 257 + x + 1) % 2147483647 % 2147483647
      omega
  have k2 : ∀ (xs : List Int) (b : Int), 0 ≤ b → b < 2147483647 → (xs.foldl markS b) % 2147483647 = xs.foldl markS b := by
    intro xs
    induction xs with
    | nil => intro b h1 h2; exact Int.emod_eq_of_lt h1 h2
    | cons x xs ih => intro b h1 h2; exact ih _ (Int.emod_nonneg _ (by decide)) (Int.emod_lt_of_pos _ (by decide))
  rw [key xs 0 0 rfl, k2 xs 0 (by decide) (by decide)]
/-! ### bytes -/
end
end PL

set_option Elab.async false
set_option linter.all false
set_option maxRecDepth 100000
set_option maxHeartbeats 1000000
/-! PM3: powers, and the laws' own compare. -/
namespace PL
open PySem
section
variable {G : Tab} {k : Nat} {S : Store}
/-! ### the compare -/
theorem frzA_noRef {d : D} (h : noRef d = true) : frzA S d = some d := by
  cases d <;> simp_all [frzA, noRef]
@[simp] theorem isNonD_int {i : Int} : isNonD (.int i) = false := rfl
@[simp] theorem isNonD_bl {i : Bool} : isNonD (.bl i) = false := rfl
@[simp] theorem isNonD_str {i : Str} : isNonD (.str i) = false := rfl
@[simp] theorem isNonD_tup {i : List D} : isNonD (.tup i) = false := rfl
@[simp] theorem isNonD_non : isNonD .non = true := rfl
@[simp] theorem cop_eq_str {i j : Str} : cop .eq (.str i) (.str j) S = some (decide (i = j)) := rfl
@[simp] theorem cop_eq_bl {i j : Bool} : cop .eq (.bl i) (.bl j) S = some (decide (i = j)) := rfl
@[simp] theorem bindT_many2 {x y : D} {i j : Nat} {env : Env} : bindT (.many [i, j]) (.tup [x, y]) env = some ((env.set i (some x)).set j (some y)) := rfl
end
end PL

set_option Elab.async false
set_option linter.all false
set_option maxRecDepth 100000
set_option maxHeartbeats 1000000
/-! PM4: cells, slices and joins of tuples of numbers, marks of joined bytes. -/
namespace PL
open PySem
section
variable {G : Tab} {k : Nat} {S : Store}
theorem ix_scr {ns : List Int} {j : Nat} (h1 : j < ns.length) : getD_ (.scr ns) (.int (j : Int)) S = some (.int (ns.getD j 0)) := by
  show L2.atI (ns.map D.int) (j : Int) = _
  refine L2.atI_nat ?_
  rw [List.getElem?_map, List.getD_eq_getElem?_getD, List.getElem?_eq_getElem h1]
  rfl
theorem run_l_cell {ns : List Int} {j : Nat} (h : G.fns i_l_cell = some f_l_cell) : run G (k + 1) i_l_cell [.scr ns, .int (j : Int)] S = .ok (.int (ns.getD j 0)) S := by
  rw [run_pure h rfl (as' := [.scr ns, .int (j : Int)]) rfl]
  refine fin_ret (S' := []) ?_ rfl
  by_cases hj : j < ns.length
  · simp [b_l_cell, startE, ev, hj, ix_scr hj]
  · have : ns.getD j 0 = 0 := by rw [List.getD_eq_getElem?_getD, List.getElem?_eq_none (by omega)]; rfl
    simp [b_l_cell, startE, ev, hj]
/-! ### marks of joined bytes -/
theorem markF_lt (xs : List Int) : 0 ≤ markF xs ∧ markF xs < 2147483647 := by
  rw [← markT_F]
  exact ⟨Int.emod_nonneg _ (by decide), Int.emod_lt_of_pos _ (by decide)⟩
end
end PL

set_option Elab.async false
set_option linter.all false
set_option maxRecDepth 100000
set_option maxHeartbeats 1000000
/-! PM5: loops that write the store; windows. -/
namespace PL
open PySem
section
variable {G : Tab} {call : Calls} {k : Nat} {env : Env} {S : Store}
end
end PL

set_option Elab.async false
set_option linter.all false
set_option maxRecDepth 100000
set_option maxHeartbeats 1000000
/-! PM6: typed data, the evaluator's operations on them, loops in general. -/
namespace PL
open PySem
class Has (G : Tab) (i : Nat) (F : Fn) : Prop where
  h : G.fns i = some F
class HasC (G : Tab) (j : Nat) (d : outParam D) : Prop where
  h : G.consts j = some d
@[simp] theorem const_of {G : Tab} {j : Nat} {d : D} [h : HasC G j d] : G.consts j = some d := h.h
/-- a tuple, a list, of encoded items -/
def tl {α : Type} (f : α → D) (xs : List α) : D := .tup (xs.map f)
def ll {α : Type} (f : α → D) (xs : List α) : D := .lst (xs.map f)
class Okf {α : Type} (f : α → D) : Prop where
  nr : ∀ a, noRef (f a) = true
  sc : ∀ a, scl (f a) = true
theorem noRefs_map {α : Type} {f : α → D} (h : ∀ a, noRef (f a) = true) : ∀ xs : List α, noRefs (xs.map f) = true
  | [] => rfl
  | x :: xs => by simp [noRefs, h x, noRefs_map h xs]
theorem scls_map {α : Type} {f : α → D} (h : ∀ a, scl (f a) = true) : ∀ xs : List α, scls (xs.map f) = true
  | [] => rfl
  | x :: xs => by simp [scls, h x, scls_map h xs]
instance : Okf D.int := ⟨fun _ => rfl, fun _ => rfl⟩
instance : Okf D.str := ⟨fun _ => rfl, fun _ => rfl⟩
instance : Okf D.bl := ⟨fun _ => rfl, fun _ => rfl⟩
instance : Okf pairD := ⟨fun _ => rfl, fun _ => rfl⟩
instance {α : Type} {f : α → D} [o : Okf f] : Okf (tl f) := ⟨fun xs => noRefs_map o.nr xs, fun xs => scls_map o.sc xs⟩
/-- None or something -/
def opD {α : Type} (f : α → D) : Option α → D
  | none => .non
  | some a => f a
instance {α : Type} {f : α → D} [o : Okf f] : Okf (opD f) := ⟨fun x => by cases x <;> simp [opD, noRef, o.nr], fun x => by cases x <;> simp [opD, scl, o.sc]⟩
section
variable {G : Tab} {call : Calls} {env : Env} {S : Store}
@[simp] theorem x_asgT {is : List Nat} {e : E} {k : T} : exT G call (.asgT is e k) env S = (ev G call e env S).stm env fun d S => match bindT (.many is) d env with
    | some env' => exT G call k env' S
    | none => .bad := rfl
@[simp] theorem x_setI {o i e : E} {k : T} : exT G call (.setI o i e k) env S = (ev G call e env S).stm env fun v S => (ev G call o env S).stm env fun x S => (ev G call i env S).stm env fun y S => match setIx x y v S with
    | some S' => exT G call k env S'
    | none => .bad := rfl
@[simp] theorem x_fldS {c f : Nat} {o e : E} {k : T} : exT G call (.fldS c o f e k) env S = (ev G call e env S).stm env fun v S => (ev G call o env S).stm env fun x S => if clsD x S = some c then match setFld x f v S with
    | some S' => exT G call k env S'
    | none => .bad else .bad := rfl
@[simp] theorem x_tr {cs : List Nat} {b h k : T} : exT G call (.tr b cs h k) env S = match exT G call b env S with
    | .ex c env' S' => if c ∈ G.exs then (if c ∈ cs then (exT G call h env' S').calm.andThen fun env S => exT G call k env S else .ex c env' S') else .bad
    | .nx env' S' => exT G call k env' S'
    | r => r := rfl
@[simp] theorem x_tr2 {c c' : Nat} {b h h' k : T} : exT G call (.tr2 b c h c' h' k) env S = match exT G call b env S with
    | .ex d env' S' => if d ∈ G.exs then (if d = c then (exT G call h env' S').calm.andThen fun env S => exT G call k env S else if d = c' then (exT G call h' env' S').calm.andThen fun env S => exT G call k env S else .ex d env' S') else .bad
    | .nx env' S' => exT G call k env' S'
    | r => r := rfl
end
section
variable {α β : Type} {f : α → D} {g : β → D} {xs ys : List α} {S : Store} {i j : Int}
@[simp] theorem noRef_tl [o : Okf f] : noRef (tl f xs) = true := noRefs_map o.nr xs
@[simp] theorem scl_tl [o : Okf f] : scl (tl f xs) = true := scls_map o.sc xs
@[simp] theorem noRef_ll [o : Okf f] : noRef (ll f xs) = true := noRefs_map o.nr xs
@[simp] theorem noRef_int' : noRef (.int i) = true := rfl
@[simp] theorem noRef_str' {x : Str} : noRef (.str x) = true := rfl
@[simp] theorem noRef_bl' {x : Bool} : noRef (.bl x) = true := rfl
@[simp] theorem noRef_non' : noRef .non = true := rfl
@[simp] theorem scl_int' : scl (.int i) = true := rfl
@[simp] theorem scl_str' {x : Str} : scl (.str x) = true := rfl
@[simp] theorem scl_bl' {x : Bool} : scl (.bl x) = true := rfl
@[simp] theorem scl_non' : scl .non = true := rfl
@[simp] theorem frzA_tl [o : Okf f] : frzA S (tl f xs) = some (tl f xs) := frzA_noRef noRef_tl
@[simp] theorem frzA_ll [o : Okf f] : frzA S (ll f xs) = some (ll f xs) := frzA_noRef noRef_ll
@[simp] theorem frzA_int' : frzA S (.int i) = some (.int i) := rfl
@[simp] theorem frzA_str' {x : Str} : frzA S (.str x) = some (.str x) := rfl
@[simp] theorem frzA_bl' {x : Bool} : frzA S (.bl x) = some (.bl x) := rfl
@[simp] theorem frzA_non' : frzA S .non = some .non := rfl
@[simp] theorem frzA_scr {ns : List Int} : frzA S (.scr ns) = some (.scr ns) := rfl
@[simp] theorem len_tl : bfD .len [tl f xs] S = some (.int xs.length) := by simp [tl]
@[simp] theorem len_ll : bfD .len [ll f xs] S = some (.int xs.length) := by simp [ll, bfD, lenF, lenD, seqOf, lstOf]
@[simp] theorem truthy_tl : truthy (tl f xs) S = some (!xs.isEmpty) := by simp [tl, truthy]
@[simp] theorem truthy_ll : truthy (ll f xs) S = some (!xs.isEmpty) := by simp [ll, truthy]
@[simp] theorem mkIt_tl : mkIt .plain [tl f xs] S = some (.items (xs.map f)) := rfl
@[simp] theorem mkIt_ll : mkIt .plain [ll f xs] S = some (.items (xs.map f)) := rfl
@[simp] theorem notIns_tl : notIns (tl f xs) S = true := rfl
@[simp] theorem notIns_ll : notIns (ll f xs) S = true := rfl
@[simp] theorem isNonD_tl : isNonD (tl f xs) = false := rfl
@[simp] theorem isNonD_ll : isNonD (ll f xs) = false := rfl
@[simp] theorem isaD_tl {t : Nat} : isaD t (tl f xs) = decide (t = 3) := isaD_tup
@[simp] theorem isaD_ll {t : Nat} : isaD t (ll f xs) = false := by rcases t with _ | _ | _ | _ | t <;> simp [isaD, ll]
theorem cutD_map {lo hi : Option Int} : cutD (xs.map f) lo hi = (cutD xs lo hi).map f := by simp [cutD]
@[simp] theorem sl_tl {lo hi : Option Int} : slD (tl f xs) lo hi S = some (tl f (cutD xs lo hi)) := by
  show some (D.tup (cutD (xs.map f) lo hi)) = _
  rw [cutD_map]; rfl
@[simp] theorem sl_ll {lo hi : Option Int} : slD (ll f xs) lo hi S = some (ll f (cutD xs lo hi)) := by
  show some (D.lst (cutD (xs.map f) lo hi)) = _
  rw [cutD_map]; rfl
@[simp] theorem sl_scr {ns : List Int} {lo hi : Option Int} : slD (.scr ns) lo hi S = some (ll .int (cutD ns lo hi)) := by
  show some (D.lst (cutD (ns.map .int) lo hi)) = _
  rw [cutD_map]; rfl
theorem atI_map {i : Int} : L2.atI (xs.map f) i = (L2.atI xs i).map f := by
  unfold L2.atI
  rw [List.length_map]
  cases L2.ixN xs.length i with
  | none => rfl
  | some j => simp
@[simp] theorem ix_tl : getD_ (tl f xs) (.int i) S = (L2.atI xs i).map f := by
  show L2.atI (xs.map f) i = _
  exact atI_map
@[simp] theorem ix_ll : getD_ (ll f xs) (.int i) S = (L2.atI xs i).map f := by
  show L2.atI (xs.map f) i = _
  exact atI_map
theorem add_tl (h : xs.length + ys.length ≤ SZ) : bop .add (tl f xs) (tl f ys) S = some (tl f (xs ++ ys)) := by
  have e : (xs.map f).length + (ys.map f).length ≤ SZ := by rw [List.length_map, List.length_map]; exact h
  unfold tl
  rw [bop_add_tup e, List.map_append]
theorem add_tl1 {y : α} {d : D} (e : f y = d) (h : xs.length + 1 ≤ SZ) : bop .add (tl f xs) (.tup [d]) S = some (tl f (xs ++ [y])) := by
  subst e
  exact add_tl (ys := [y]) h
@[simp] theorem tuple_ll : bfD .tuple [ll f xs] S = some (tl f xs) := rfl
@[simp] theorem tuple_tl : bfD .tuple [tl f xs] S = some (tl f xs) := rfl
@[simp] theorem list_ll : bfD .list [ll f xs] S = some (ll f xs) := rfl
@[simp] theorem list_tl : bfD .list [tl f xs] S = some (ll f xs) := rfl
theorem zip_tl {us : List β} : (xs.map f).zipWith (fun x y => D.tup [x, y]) (us.map g) = (xs.zip us).map fun p => D.tup [f p.1, g p.2] := by
  rw [List.zipWith_map, List.zip, List.map_zipWith]
@[simp] theorem mkIt_ziptl {us : List β} : mkIt .zip [tl f xs, tl g us] S = some (.items ((xs.zip us).map fun p => D.tup [f p.1, g p.2])) := by
  show some (PL.Itr.items _) = _
  rw [zip_tl]
@[simp] theorem mkIt_zipll {us : List β} : mkIt .zip [ll f xs, ll g us] S = some (.items ((xs.zip us).map fun p => D.tup [f p.1, g p.2])) := by
  show some (PL.Itr.items _) = _
  rw [zip_tl]
theorem enum_tl : enumD (xs.map f) = ((List.range xs.length).zip xs).map fun p => D.tup [.int (p.1 : Nat), f p.2] := by
  unfold enumD
  rw [List.length_map, List.zipWith_map_right, List.zip, List.map_zipWith]
@[simp] theorem mkIt_enumtl : mkIt .enum [tl f xs] S = some (.items (((List.range xs.length).zip xs).map fun p => D.tup [.int (p.1 : Nat), f p.2])) := by
  show some (PL.Itr.items (enumD (xs.map f))) = _
  rw [enum_tl]
@[simp] theorem mkIt_enumll : mkIt .enum [ll f xs] S = some (.items (((List.range xs.length).zip xs).map fun p => D.tup [.int (p.1 : Nat), f p.2])) := by
  show some (PL.Itr.items (enumD (xs.map f))) = _
  rw [enum_tl]
@[simp] theorem srcL_enum {d : D} : srcL .enum d = toTup d := rfl
@[simp] theorem srcL_rng3 {d : D} : srcL .rng3 d = toTup d := rfl
@[simp] theorem srcL_keys {d : D} : srcL .keys d = [d] := rfl
@[simp] theorem bindT_pair {p : Int × Int} {a b : Nat} {env : Env} : bindT (.many [a, b]) (pairD p) env = some ((env.set a (some (.int p.1))).set b (some (.int p.2))) := rfl
@[simp] theorem mkLst_0 : mkLst [] = some (ll D.int []) := rfl
theorem mkLst_of {ds : List D} (h : ds.length ≤ 1000) : mkLst ds = some (.lst ds) := by
  unfold mkLst
  rw [if_pos (by unfold SZ; omega)]
theorem mkTup_of {ds : List D} (h : ds.length ≤ 1000) : mkTup ds = some (.tup ds) := by
  unfold mkTup
  rw [if_pos (by unfold SZ; omega)]
@[simp] theorem mkTup_5 {a b c d e : D} : mkTup [a, b, c, d, e] = some (.tup [a, b, c, d, e]) := mkTup_of (by simp)
@[simp] theorem mkLst_1 {a : D} : mkLst [a] = some (.lst [a]) := mkLst_of (by simp)
@[simp] theorem mkLst_2 {a b : D} : mkLst [a, b] = some (.lst [a, b]) := mkLst_of (by simp)
@[simp] theorem mkLst_3 {a b c : D} : mkLst [a, b, c] = some (.lst [a, b, c]) := mkLst_of (by simp)
@[simp] theorem mkLst_4 {a b c d : D} : mkLst [a, b, c, d] = some (.lst [a, b, c, d]) := mkLst_of (by simp)
@[simp] theorem mkLst_5 {a b c d e : D} : mkLst [a, b, c, d, e] = some (.lst [a, b, c, d, e]) := mkLst_of (by simp)
theorem sumB_int : ∀ xs : List Int, intsD (xs.map D.int) = some xs
  | [] => rfl
  | x :: xs => by simp [intsD, sumB_int xs]
theorem pairsD_map : ∀ ps : List (Int × Int), pairsD (ps.map pairD) = some ps
  | [] => rfl
  | p :: ps => by simp [pairsD, pairD, pairsD_map ps]
@[simp] theorem sum_ll {xs : List Int} : bfD .sum [ll .int xs] S = some (.int xs.sum) := by
  show (((some (xs.map D.int)).bind intsD).map fun is : List Int => D.int is.sum) = _
  simp [sumB_int]
@[simp] theorem sum_tl {xs : List Int} : bfD .sum [tl .int xs] S = none ∨ True := .inr trivial
theorem all_ll {p : α → Bool} : bfD .all [.lst (xs.map fun x => .bl (p x))] S = some (.bl (xs.all p)) := bf_all_map
theorem anyB_map {p : α → Bool} : ∀ xs : List α, anyB (xs.map fun x => .bl (p x)) = some (xs.any p)
  | [] => rfl
  | x :: xs => by simp [anyB, anyB_map xs]
theorem any_ll {p : α → Bool} : bfD .any [.lst (xs.map fun x => .bl (p x))] S = some (.bl (xs.any p)) := by
  show (((some (xs.map fun x => D.bl (p x))).bind anyB).map D.bl) = _
  simp [anyB_map]
@[simp] theorem sort_llP {ps : List (Int × Int)} : bfD .sorted [ll pairD ps] S = some (ll pairD (sortBy leP ps)) := by
  show ((sortD (ps.map pairD)).map D.lst) = _
  unfold sortD
  cases ps with
  | nil => rfl
  | cons p ps =>
    have : intsD ((p :: ps).map pairD) = none := rfl
    rw [this, pairsD_map]
    rfl
@[simp] theorem sort_tlP {ps : List (Int × Int)} : bfD .sorted [tl pairD ps] S = some (ll pairD (sortBy leP ps)) := sort_llP (S := S)
@[simp] theorem sort_llI {is : List Int} : bfD .sorted [ll .int is] S = some (ll .int (sortBy leI is)) := by
  show ((sortD (is.map D.int)).map D.lst) = _
  unfold sortD
  rw [sumB_int]
  rfl
/-! ### places, cuts -/
theorem atI_nat {n : Nat} : L2.atI xs (n : Int) = xs[n]? := by
  unfold L2.atI L2.ixN
  by_cases h : n < xs.length
  · rw [if_pos (by omega), if_pos (by exact_mod_cast h)]
    simp
  · rw [if_pos (by omega), if_neg (by omega)]
    simp [List.getElem?_eq_none (Nat.le_of_not_lt h)]
theorem atI_nn (h : 0 ≤ i) : L2.atI xs i = xs[i.toNat]? := by
  obtain ⟨n, rfl⟩ := Int.eq_ofNat_of_zero_le h
  exact atI_nat
theorem atI_last : L2.atI xs (-1) = xs.getLast? := by
  unfold L2.atI L2.ixN
  rw [if_neg (by omega)]
  cases xs with
  | nil => rfl
  | cons x xs =>
    rw [if_pos (by simp; omega), List.getLast?_eq_getElem?]
    show (x :: xs)[(-1 + ((x :: xs).length : Int)).toNat]? = _
    congr 1
    simp only [List.length_cons]
    omega
theorem sIx_nn {n d : Nat} {i : Int} (h : 0 ≤ i) : HT.sIx n d (some i) = min i.toNat n := by
  unfold HT.sIx
  simp only
  split
  · omega
  · omega
theorem cut_to (h : 0 ≤ j) : cutD xs none (some j) = xs.take j.toNat := by
  show (xs.drop (HT.sIx xs.length 0 none)).take _ = _
  rw [sIx_nn h]
  show (xs.drop 0).take (min j.toNat xs.length - 0) = _
  rw [List.drop_zero, Nat.sub_zero, ← List.take_eq_take_min]
theorem cut_from (h : 0 ≤ i) : cutD xs (some i) none = xs.drop i.toNat := by
  show (xs.drop (HT.sIx xs.length 0 (some i))).take (xs.length - HT.sIx xs.length 0 (some i)) = _
  rw [sIx_nn h]
  by_cases z : i.toNat ≤ xs.length
  · rw [Nat.min_eq_left z]
    exact List.take_of_length_le (by rw [List.length_drop]; omega)
  · rw [Nat.min_eq_right (by omega), List.drop_length, List.drop_eq_nil_of_le (by omega)]
    simp
theorem cut_both (h : 0 ≤ i) (h' : 0 ≤ j) : cutD xs (some i) (some j) = (xs.drop i.toNat).take (j.toNat - i.toNat) := by
  show (xs.drop (HT.sIx xs.length 0 (some i))).take (HT.sIx xs.length xs.length (some j) - HT.sIx xs.length 0 (some i)) = _
  rw [sIx_nn h, sIx_nn h']
  by_cases z : i.toNat ≤ xs.length
  · rw [Nat.min_eq_left z]
    by_cases z' : j.toNat ≤ xs.length
    · rw [Nat.min_eq_left z']
    · rw [Nat.min_eq_right (by omega), List.take_of_length_le (by rw [List.length_drop]; omega), List.take_of_length_le (by rw [List.length_drop]; omega)]
  · rw [show min i.toNat xs.length = xs.length from Nat.min_eq_right (by omega), List.drop_length, List.drop_eq_nil_of_le (show xs.length ≤ i.toNat by omega)]
    simp
theorem cut_butlast : cutD xs none (some (-1)) = xs.dropLast := by
  show (xs.drop 0).take (HT.sIx xs.length xs.length (some (-1)) - 0) = _
  rw [List.drop_zero, List.dropLast_eq_take]
  congr 1
  unfold HT.sIx
  simp only
  split <;> omega
end
end PL

set_option Elab.async false
set_option linter.all false
set_option maxRecDepth 100000
set_option maxHeartbeats 1000000
/-! PM7: loops with a saying; the known defs, by instances. -/
namespace PL
open PySem
section
variable {G : Tab} {call : Calls} {env : Env} {S : Store}
theorem goFor_inv {α β τ : Type} {body : D → Env → Store → RS} {enc : β → D} {st : α → τ → Env} {ss : α → Store} {step : α → β → α} {I : Nat → α → Prop} :
    ∀ (xs : List β) (i : Nat) (a : α) (t : τ), I i a → (∀ j x a t, xs[j]? = some x → I (i + j) a → ∃ t', body (enc x) (st a t) (ss a) = .nx (st (step a x) t') (ss (step a x)) ∧ I (i + j + 1) (step a x)) →
    ∃ t', goFor body (xs.map enc) (st a t) (ss a) = .nx (st (xs.foldl step a) t') (ss (xs.foldl step a)) ∧ I (i + xs.length) (xs.foldl step a)
  | [], i, a, t, h0, _ => ⟨t, rfl, h0⟩
  | x :: xs, i, a, t, h0, h => by
    obtain ⟨t1, e1, i1⟩ := h 0 x a t rfl h0
    obtain ⟨t2, e2, i2⟩ := goFor_inv xs (i + 1) (step a x) t1 i1 fun j y b u hj hi => by
      obtain ⟨t', e, q⟩ := h (j + 1) y b u (by simpa using hj) (by rw [show i + (j + 1) = i + 1 + j by omega]; exact hi)
      exact ⟨t', e, by rw [show i + 1 + j + 1 = i + (j + 1) + 1 by omega]; exact q⟩
    refine ⟨t2, ?_, by rw [List.length_cons, show i + (xs.length + 1) = i + 1 + xs.length by omega]; exact i2⟩
    simp only [List.map_cons, goFor, e1, RS.andThen_nx, List.foldl_cons]
    exact e2
/-- a for whose turns are steps of a fold -/
theorem x_forF {α β τ : Type} {P : RS → Prop} {ik : IK} {src : E} {b k : T} {tg : Tg} {enc : β → D} (st : α → τ → Env) (ss : α → Store) (step : α → β → α) (I : Nat → α → Prop) {xs : List β} {a0 : α} {t0 : τ} {d : D}
    (hs : ev G call src (st a0 t0) (ss a0) = .ok d (ss a0)) (hi : mkIt ik (srcL ik d) (ss a0) = some (.items (xs.map enc))) (h0 : I 0 a0)
    (h : ∀ j x a t, xs[j]? = some x → I j a → ∃ t', turnB G call b tg (enc x) (st a t) (ss a) = .nx (st (step a x) t') (ss (step a x)) ∧ I (j + 1) (step a x))
    (hk : ∀ t', I xs.length (xs.foldl step a0) → P (exT G call k (st (xs.foldl step a0) t') (ss (xs.foldl step a0)))) : P (exT G call (.for_ ik src tg b k) (st a0 t0) (ss a0)) := by
  obtain ⟨t', e, i'⟩ := goFor_inv (body := turnB G call b tg) (enc := enc) (st := st) (ss := ss) (step := step) (I := I) xs 0 a0 t0 h0 fun j x a t hj hi => by
    obtain ⟨t', e, q⟩ := h j x a t hj (by simpa using hi)
    exact ⟨t', e, by simpa using q⟩
  rw [x_for_eq, hs]
  simp only [R.stm_ok, hi, goForI, e, RS.andThen_nx]
  exact hk t' (by simpa using i')
/-- a comprehension with a test -/
theorem goComp_filter {β : Type} {body : D → Store → R (Option D)} {enc : β → D} {p : β → Bool} {f : β → D} {S : Store} {xs : List β} (hl : xs.length ≤ SZ) (h : ∀ x ∈ xs, body (enc x) S = .ok (if p x then some (f x) else none) S) :
    goComp body (xs.map enc) [] S = .ok ((xs.filter p).map f) S := by
  have key : ∀ (post pre : List β), xs = pre ++ post → goComp body (post.map enc) ((pre.filter p).map f) S = .ok ((xs.filter p).map f) S := by
    intro post
    induction post with
    | nil => intro pre e; rw [List.append_nil] at e; subst e; rfl
    | cons x post ih =>
      intro pre e
      have hx := h x (by rw [e]; simp)
      have := ih (pre ++ [x]) (by rw [e]; simp)
      simp only [List.map_cons, goComp, hx, R.bind_ok]
      by_cases hp : p x = true
      · simp only [hp, if_true]
        have hle := List.length_filter_le p pre
        rw [if_pos (by rw [List.length_map]; rw [e, List.length_append, List.length_cons] at hl; omega)]
        simpa [List.filter_append, hp] using this
      · simp only [hp, if_false]
        simpa [List.filter_append, hp] using this
  exact key xs [] rfl
/-- a pure def's answer -/
theorem pure_rt {i k np nl : Nat} {b : T} {as : List D} {S' : Store} {d d' : D} {F : Fn} [h : Has G i F] (hF : F = ⟨true, np, nl, b⟩) (hl : as.length = np) (hf : frzAs S as = some as) (he : exT G (run G k) b (startE nl as) [] = .rt d S') (hd : frzR S' d = some d') :
    run G (k + 1) i as S = .ok d' S := by
  rw [run_pure (hF ▸ h.h) hl hf, he]
  unfold fin
  simp only [hd, R.of_some]
theorem frzR_scl {d : D} (h : scl d = true) : frzR S d = some d := by
  unfold frzR
  cases d <;> simp_all [scl]
end

/-! ### the known defs -/
section
variable {G : Tab} {k : Nat} {S : Store}
@[simp] theorem r_d [h : Has G i_l_d f_l_d] {c p m : Int} (hm : 0 < m) : run G (k + 1) i_l_d [.int c, .int p, .int m] S = .ok (.int (dF c p m)) S := run_l_d h.h hm
theorem r_mark_of [h : Has G i_mark_of f_mark_of] [h0 : HasC G 0 (.int 2147483647)] [h1 : HasC G 1 (.int 257)] {xs : List Int} : run G (k + 1) i_mark_of [tl .int xs] S = .ok (.int (markF xs)) S := run_mark_of h.h h0.h h1.h
theorem r_cell [h : Has G i_l_cell f_l_cell] {ns : List Int} {n : Int} (h0 : 0 ≤ n) : run G (k + 1) i_l_cell [.scr ns, .int n] S = .ok (.int (ns.getD n.toNat 0)) S := by
  have := run_l_cell (k := k) (S := S) (ns := ns) (j := n.toNat) h.h
  rwa [Int.toNat_of_nonneg h0] at this
end
end PL

set_option Elab.async false
set_option linter.all false
set_option maxRecDepth 100000
set_option maxHeartbeats 1000000
/-! PM8: ranges. -/
namespace PL
open PySem
abbrev i_tidied : Nat := 28
/-- tidied: pairs 0 found 1 begin 2 end 3 -/
def b_tidied : T := (.asg 1 (.new (.lst .nil))
  (.for_ .plain (.bf .sorted (.cons (.var 0) .nil)) (.many [2, 3])
  (.ifs (.cmp .lt (.var 2) (.var 3))
  (.ifs (.and (.val (.var 1)) (.one (.cmp .le (.var 2) (.ix (.ix (.var 1) (.neg (.con (.int 1)))) (.con (.int 1))))))
  (.setI (.var 1) (.neg (.con (.int 1))) (.tup (.cons (.ix (.ix (.var 1) (.neg (.con (.int 1)))) (.con (.int 0))) (.cons (.bf .max (.cons (.ix (.ix (.var 1) (.neg (.con (.int 1)))) (.con (.int 1))) (.cons (.var 3) .nil))) .nil)))
  .nil)
  (.exp (.bm .append (.var 1) (.cons (.tup (.cons (.var 2) (.cons (.var 3) .nil))) .nil))
  .nil)
  .nil)
  .nil
  .nil)
  (.ret (.bf .tuple (.cons (.var 1) .nil)))))
def f_tidied : Fn := ⟨true, 1, 4, b_tidied⟩
abbrev i_together : Nat := 29
/-- together: one 0 other 1 -/
def b_together : T := (.ret (.call i_tidied (.cons (.bin .add (.var 0) (.var 1)) .nil)))
def f_together : Fn := ⟨true, 2, 2, b_together⟩
abbrev i_both : Nat := 30
/-- both: one 0 other 1 found 2 begin 3 end 4 low 5 high 6 -/
def b_both : T := (.asg 2 (.new (.lst .nil))
  (.for_ .plain (.var 0) (.many [3, 4])
  (.for_ .plain (.var 1) (.many [5, 6])
  (.exp (.bm .append (.var 2) (.cons (.tup (.cons (.bf .max (.cons (.var 3) (.cons (.var 5) .nil))) (.cons (.bf .min (.cons (.var 4) (.cons (.var 6) .nil))) .nil))) .nil))
  .nil)
  .nil)
  (.ret (.call i_tidied (.cons (.var 2) .nil)))))
def f_both : Fn := ⟨true, 2, 7, b_both⟩
abbrev i_without : Nat := 31
/-- without: one 0 other 1 found 2 begin 3 end 4 at 5 low 6 high 7 -/
def b_without : T := (.asg 2 (.new (.lst .nil))
  (.for_ .plain (.var 0) (.many [3, 4])
  (.asg 5 (.var 3)
  (.for_ .plain (.var 1) (.many [6, 7])
  (.ifs (.and (.cmp .lt (.var 6) (.var 4)) (.one (.cmp .gt (.var 7) (.var 5))))
  (.exp (.bm .append (.var 2) (.cons (.tup (.cons (.var 5) (.cons (.var 6) .nil))) .nil))
  (.asg 5 (.bf .max (.cons (.var 5) (.cons (.var 7) .nil)))
  .nil))
  .nil
  .nil)
  (.exp (.bm .append (.var 2) (.cons (.tup (.cons (.var 5) (.cons (.var 4) .nil))) .nil))
  .nil)))
  (.ret (.call i_tidied (.cons (.var 2) .nil)))))
def f_without : Fn := ⟨true, 2, 8, b_without⟩
abbrev i_count : Nat := 32
/-- count: ranges 0 begin 1 end 2 -/
def b_count : T := (.ret (.bf .sum (.cons (.comp .plain (.var 0) (.many [1, 2]) .emp (.bin .sub (.var 2) (.var 1))) .nil)))
def f_count : Fn := ⟨true, 1, 3, b_count⟩
/-! ### what they compute -/
abbrev PI : Type := Int × Int
def tidyS (f : List PI) (p : PI) : List PI :=
  if p.1 < p.2 then match f.getLast? with
    | some q => if p.1 ≤ q.2 then f.dropLast ++ [(q.1, if p.2 > q.2 then p.2 else q.2)] else f ++ [p]
    | none => f ++ [p]
  else f
def tidyF (ps : List PI) : List PI := (sortBy leP ps).foldl tidyS []
theorem set_last {α : Type} {f : List α} {v : α} (h : f ≠ []) : f.set (f.length - 1) v = f.dropLast ++ [v] := by
  induction f with
  | nil => exact absurd rfl h
  | cons x xs ih =>
    cases xs with
    | nil => rfl
    | cons y ys =>
      have := ih (by simp)
      simpa using this
theorem ixN_last {n : Nat} (h : 0 < n) : L2.ixN n (-1) = some (n - 1) := by
  unfold L2.ixN
  rw [if_neg (by omega), if_pos (by omega)]
  congr 1
  omega
theorem tidyS_len (f : List PI) (p : PI) : (tidyS f p).length ≤ f.length + 1 := by
  unfold tidyS
  split
  · split
    · split
      · rename_i q hq _
        have : f ≠ [] := by intro e; subst e; cases hq
        rw [List.length_append, List.length_dropLast]
        simp
      · simp
    · simp
  · omega
section
variable {G : Tab} {k : Nat} {S : Store}
theorem tidy_turn {call : Calls} {f : List PI} {p : PI} {d : D} {t : Option D × Option D} (hz : f.length < 10000) :
    ∃ t' : Option D × Option D, turnB G call (forB b_tidied) (.many [2, 3]) (pairD p) [some d, some (.ref 0), t.1, t.2] [.lst (f.map pairD)] = .nx [some d, some (.ref 0), t'.1, t'.2] [.lst ((tidyS f p).map pairD)] := by
  refine ⟨(some (.int p.1), some (.int p.2)), ?_⟩
  have hz' : f.length < SZ := by unfold SZ; omega
  have ix1 : ∀ i, getD_ (.ref 0) (.int i) [.lst (f.map pairD)] = (L2.atI f i).map pairD := fun i => atI_map
  have tr : truthy (.ref 0) [.lst (f.map pairD)] = some (!(f.map pairD).isEmpty) := rfl
  have ap : ∀ y, bmD .append (.ref 0) [y] [.lst (f.map pairD)] = .ok .non [.lst (f.map pairD ++ [y])] := fun y => by
    show (if (f.map pairD).length < SZ then R.ok D.non [Ob.lst (f.map pairD ++ [y])] else .bad) = _
    rw [if_pos (by rw [List.length_map]; exact hz')]
  have ok : bmOk .append (.ref 0) [.lst (f.map pairD)] = true := rfl
  have gp : ∀ (q : PI) (S : Store), getD_ (pairD q) (.int 0) S = some (.int q.1) ∧ getD_ (pairD q) (.int 1) S = some (.int q.2) := fun q S => ⟨rfl, rfl⟩
  by_cases h1 : p.1 < p.2
  · cases hl : f.getLast? with
    | none =>
      have : f = [] := by simpa using hl
      subst this
      simp [turnB, b_tidied, forB, ev, h1, tidyS, tr, ok, ap]
      rfl
    | some q =>
      have hf : f ≠ [] := by intro e; subst e; cases hl
      have he : (f.map pairD).isEmpty = false := by cases f <;> simp at hf ⊢
      have i2 := ix1 (-1)
      rw [atI_last, hl] at i2
      have hx : L2.ixN f.length (-1) = some (f.length - 1) := ixN_last (List.length_pos_iff.mpr hf)
      have st : ∀ v, setIx (.ref 0) (.int (-1)) v [.lst (f.map pairD)] = some [.lst ((f.map pairD).dropLast ++ [v])] := fun v => by
        show ((L2.ixN (f.map pairD).length (-1)).map fun j => [Ob.lst ((f.map pairD).set j v)]) = _
        rw [List.length_map, hx]
        simp only [Option.map_some]
        rw [← set_last (by simpa using hf), List.length_map]
      by_cases h2 : p.1 ≤ q.2
      · simp [turnB, b_tidied, forB, ev, h1, tidyS, tr, he, negD, i2, gp, h2, hl, st, List.map_dropLast]
        rfl
      · simp [turnB, b_tidied, forB, ev, h1, tidyS, tr, he, negD, i2, gp, h2, hl, ok, ap]
        rfl
  · simp [turnB, b_tidied, forB, ev, h1, tidyS]
theorem r_tidied [h : Has G i_tidied f_tidied] {d : D} {ps : List PI} (hd : frzA S d = some (tl pairD ps) ∨ frzA S d = some (ll pairD ps)) (hz : ps.length ≤ 9000) : run G (k + 1) i_tidied [d] S = .ok (tl pairD (tidyF ps)) S := by
  obtain ⟨d', hd', hs⟩ : ∃ d', frzA S d = some d' ∧ ∀ S, bfD .sorted [d'] S = some (ll pairD (sortBy leP ps)) := by
    rcases hd with hd | hd
    · exact ⟨_, hd, fun S => sort_tlP⟩
    · exact ⟨_, hd, fun S => sort_llP⟩
  rw [run_pure (h.h) rfl (as' := [d']) (by simp [frzAs, hd'])]
  have hl : (sortBy leP ps).length = ps.length := (sortBy_perm leP ps).length_eq
  refine fin_ret (S' := [.lst ((tidyF ps).map pairD)]) ?_ scl_tl
  simp [b_tidied, startE, ev, ll]
  refine x_forF (P := fun r => r = _) (ik := .plain) (xs := sortBy leP ps) (enc := pairD) (a0 := ([] : List PI)) (t0 := ((none, none) : Option D × Option D)) (d := ll pairD (sortBy leP ps))
    (fun a t => [some d', some (.ref 0), t.1, t.2]) (fun a => [.lst (a.map pairD)]) tidyS (fun i a => a.length ≤ i) ?_ (by simp) (Nat.zero_le _) (fun j x a t hj hi => ?_) (fun t' _ => ?_)
  · simp [ev, hs]
  · have hj' : j < ps.length := by rw [← hl]; exact (List.getElem?_eq_some_iff.mp hj).1
    obtain ⟨t', e⟩ := tidy_turn (G := G) (call := run G k) (d := d') (t := t) (p := x) (show a.length < 10000 by omega)
    exact ⟨t', e, by have := tidyS_len a x; omega⟩
  · simp [ev, tidyF, bfD, tupF, seqOf, lstOf, tl]
end
end PL

set_option Elab.async false
set_option linter.all false
set_option maxRecDepth 100000
set_option maxHeartbeats 1000000
/-! PM9: the mathematics of ranges. -/
namespace PL
open PySem
/-- x lies in one of them -/
def inR (ps : List PI) (x : Int) : Prop := ∃ p ∈ ps, p.1 ≤ x ∧ x < p.2
instance {ps : List PI} {x : Int} : Decidable (inR ps x) := by unfold inR; infer_instance
/-- in order, apart, none empty -/
def Can (ps : List PI) : Prop := ps.Pairwise (fun p q => p.2 < q.1) ∧ ∀ p ∈ ps, p.1 < p.2
@[simp] theorem inR_nil {x : Int} : ¬ inR [] x := by simp [inR]
@[simp] theorem inR_cons {p : PI} {ps : List PI} {x : Int} : inR (p :: ps) x ↔ (p.1 ≤ x ∧ x < p.2) ∨ inR ps x := by simp [inR]
@[simp] theorem inR_append {ps qs : List PI} {x : Int} : inR (ps ++ qs) x ↔ inR ps x ∨ inR qs x := by
  simp only [inR, List.mem_append]
  constructor
  · rintro ⟨p, h | h, r⟩
    · exact .inl ⟨p, h, r⟩
    · exact .inr ⟨p, h, r⟩
  · rintro (⟨p, h, r⟩ | ⟨p, h, r⟩)
    · exact ⟨p, .inl h, r⟩
    · exact ⟨p, .inr h, r⟩
theorem can_nil : Can [] := ⟨.nil, by simp⟩
theorem can_cons {p : PI} {ps : List PI} : Can (p :: ps) ↔ p.1 < p.2 ∧ (∀ q ∈ ps, p.2 < q.1) ∧ Can ps := by
  simp only [Can, List.pairwise_cons, List.mem_cons, forall_eq_or_imp]
  constructor
  · rintro ⟨⟨a, b⟩, c, d⟩; exact ⟨c, a, b, d⟩
  · rintro ⟨c, a, b, d⟩; exact ⟨⟨a, b⟩, c, d⟩
theorem can_snoc {p : PI} {ps : List PI} : Can (ps ++ [p]) ↔ Can ps ∧ (∀ q ∈ ps, q.2 < p.1) ∧ p.1 < p.2 := by
  simp only [Can, List.pairwise_append, List.mem_append, List.mem_singleton, List.pairwise_cons]
  constructor
  · rintro ⟨⟨a, b, c⟩, d⟩; exact ⟨⟨a, fun q h => d q (.inl h)⟩, fun q h => c q h p rfl, d p (.inr rfl)⟩
  · rintro ⟨⟨a, d⟩, c, e⟩
    exact ⟨⟨a, by simp, fun q h r hr => hr ▸ c q h⟩, fun q h => h.elim (d q) fun e' => e' ▸ e⟩
theorem inR_ge {p : PI} {ps : List PI} {x : Int} (h : ∀ q ∈ ps, p.2 < q.1) (i : inR ps x) : p.2 < x := by
  obtain ⟨q, hq, a, _⟩ := i
  have := h q hq
  omega
/-! ### tidied -/
theorem last_split {α : Type} {f : List α} {q : α} (h : f.getLast? = some q) : ∃ g, f = g ++ [q] := by
  have ne : f ≠ [] := by intro e; subst e; cases h
  refine ⟨f.dropLast, ?_⟩
  rw [List.getLast?_eq_some_getLast ne] at h
  injection h with h
  rw [← h, List.dropLast_concat_getLast]
theorem tidyS_can {f : List PI} {p : PI} (hc : Can f) (hb : ∀ q ∈ f, q.1 ≤ p.1) : Can (tidyS f p) ∧ (∀ x, inR (tidyS f p) x ↔ inR f x ∨ (p.1 ≤ x ∧ x < p.2)) ∧ ∀ q ∈ tidyS f p, q.1 ≤ p.1 := by
  unfold tidyS
  split
  · rename_i h1
    split
    · rename_i q hq
      obtain ⟨g, rfl⟩ := last_split hq
      obtain ⟨c1, c2, c3⟩ := can_snoc.mp hc
      have hq1 : q.1 ≤ p.1 := hb q (by simp)
      split
      · rename_i h2
        rw [List.dropLast_concat]
        refine ⟨can_snoc.mpr ⟨c1, c2, ?_⟩, fun x => ?_, fun r hr => ?_⟩
        · simp only
          split <;> omega
        · simp only [inR_append, inR_cons, inR_nil, or_false]
          constructor
          · rintro (h | h)
            · exact .inl (.inl h)
            · by_cases z : x < q.2
              · exact .inl (.inr ⟨h.1, z⟩)
              · refine .inr ⟨by omega, ?_⟩
                have := h.2
                split at this <;> omega
          · rintro ((h | h) | h)
            · exact .inl h
            · refine .inr ⟨h.1, ?_⟩
              split <;> omega
            · refine .inr ⟨by omega, ?_⟩
              split <;> omega
        · rcases List.mem_append.mp hr with h | h
          · exact hb r (by simp [h])
          · rw [List.mem_singleton] at h
            subst h
            exact hq1
      · rename_i h2
        refine ⟨can_snoc.mpr ⟨hc, fun r hr => ?_, h1⟩, fun x => by rw [inR_append, inR_cons]; simp, fun r hr => ?_⟩
        · rcases List.mem_append.mp hr with h | h
          · have := c2 r h; omega
          · rw [List.mem_singleton] at h; subst h; omega
        · rcases List.mem_append.mp hr with h | h
          · exact hb r h
          · rw [List.mem_singleton] at h; subst h; exact Int.le_refl _
    · rename_i hn
      have : f = [] := by simpa using hn
      subst this
      refine ⟨can_snoc.mpr ⟨can_nil, by simp, h1⟩, fun x => by simp, fun r hr => ?_⟩
      simp at hr
      subst hr
      exact Int.le_refl _
  · refine ⟨hc, fun x => ⟨.inl, fun h => h.elim id fun h => ?_⟩, hb⟩
    omega
theorem tidy_fold : ∀ (ps f : List PI), ps.Pairwise (fun p q => p.1 ≤ q.1) → Can f → (∀ q ∈ f, ∀ p ∈ ps, q.1 ≤ p.1) → Can (ps.foldl tidyS f) ∧ ∀ x, inR (ps.foldl tidyS f) x ↔ inR f x ∨ inR ps x
  | [], f, _, hc, _ => ⟨hc, fun x => by simp⟩
  | p :: ps, f, hs, hc, hb => by
    obtain ⟨s1, s2⟩ := List.pairwise_cons.mp hs
    obtain ⟨a, b, c⟩ := tidyS_can hc fun q hq => hb q hq p (by simp)
    obtain ⟨d, e⟩ := tidy_fold ps (tidyS f p) s2 a fun q hq r hr => Int.le_trans (c q hq) (s1 r hr)
    refine ⟨d, fun x => ?_⟩
    rw [List.foldl_cons, e x, b x, inR_cons, or_assoc]
theorem inR_perm {ps qs : List PI} (h : ps.Perm qs) {x : Int} : inR ps x ↔ inR qs x := by
  unfold inR
  constructor
  · rintro ⟨p, a, b⟩; exact ⟨p, h.mem_iff.mp a, b⟩
  · rintro ⟨p, a, b⟩; exact ⟨p, h.mem_iff.mpr a, b⟩
theorem sortP_pw (ps : List PI) : (sortBy leP ps).Pairwise (fun p q => p.1 ≤ q.1) := by
  have := sortBy_pw (le := leP) (fun a b h => by
    simp only [leP, Bool.or_eq_false_iff, Bool.and_eq_false_iff, decide_eq_false_iff_not, Bool.or_eq_true, Bool.and_eq_true, decide_eq_true_eq] at h ⊢
    omega) (fun a b c h h' => by
    simp only [leP, Bool.or_eq_true, Bool.and_eq_true, decide_eq_true_eq] at h h' ⊢
    omega) ps
  refine this.imp fun {a b} h => ?_
  simp only [leP, Bool.or_eq_true, Bool.and_eq_true, decide_eq_true_eq] at h
  omega
theorem tidy_can (ps : List PI) : Can (tidyF ps) := (tidy_fold _ [] (sortP_pw ps) can_nil (by simp)).1
theorem tidy_in (ps : List PI) (x : Int) : inR (tidyF ps) x ↔ inR ps x := by
  rw [tidyF, (tidy_fold _ [] (sortP_pw ps) can_nil (by simp)).2 x, inR_perm (sortBy_perm leP ps)]
  simp
/-! ### ranges of places -/
def width (ps : List PI) : Int := (ps.map fun p => p.2 - p.1).sum
section
variable {xs : List Int} (h : xs.Nodup)
end
/-! ### both, without -/
def botP (p q : PI) : PI := (if q.1 > p.1 then q.1 else p.1, if q.2 < p.2 then q.2 else p.2)
def botF (a b : List PI) : List PI := a.flatMap fun p => b.map (botP p)
theorem bot_in (a b : List PI) (x : Int) : inR (botF a b) x ↔ inR a x ∧ inR b x := by
  simp only [inR, botF, List.mem_flatMap, List.mem_map]
  constructor
  · rintro ⟨r, ⟨p, hp, q, hq, rfl⟩, h1, h2⟩
    simp only [botP] at h1 h2
    refine ⟨⟨p, hp, ?_⟩, ⟨q, hq, ?_⟩⟩ <;> (split at h1 <;> split at h2 <;> omega)
  · rintro ⟨⟨p, hp, h1⟩, ⟨q, hq, h2⟩⟩
    refine ⟨_, ⟨p, hp, q, hq, rfl⟩, ?_⟩
    simp only [botP]
    split <;> split <;> omega
def woS (e : Int) (st : List PI × Int) (q : PI) : List PI × Int := if q.1 < e ∧ q.2 > st.2 then (st.1 ++ [(st.2, q.1)], if q.2 > st.2 then q.2 else st.2) else st
def wo1 (b : List PI) (f : List PI) (p : PI) : List PI := (b.foldl (woS p.2) (f, p.1)).1 ++ [((b.foldl (woS p.2) (f, p.1)).2, p.2)]
def woF (a b : List PI) : List PI := a.foldl (wo1 b) []
theorem wo1_in : ∀ (b : List PI) (f : List PI) (s e : Int), Can b → ∀ x, inR ((b.foldl (woS e) (f, s)).1 ++ [((b.foldl (woS e) (f, s)).2, e)]) x ↔ inR f x ∨ ((s ≤ x ∧ x < e) ∧ ¬ inR b x)
  | [], f, s, e, _, x => by simp
  | q :: b, f, s, e, hc, x => by
    obtain ⟨c1, c2, c3⟩ := can_cons.mp hc
    by_cases z : q.1 < e ∧ q.2 > s
    · have e1 : woS e (f, s) q = (f ++ [(s, q.1)], q.2) := by
        unfold woS
        rw [if_pos z, if_pos z.2]
      rw [List.foldl_cons, e1, wo1_in b _ _ _ c3 x, inR_append, inR_cons, inR_cons]
      simp only [inR_nil, or_false, or_assoc]
      refine or_congr_right ?_
      constructor
      · rintro (h | ⟨h, h'⟩)
        · refine ⟨by omega, ?_⟩
          rintro (g | g)
          · omega
          · have := inR_ge c2 g; omega
        · refine ⟨by omega, ?_⟩
          rintro (g | g)
          · omega
          · exact h' g
      · rintro ⟨h, h'⟩
        by_cases y : x < q.1
        · exact .inl ⟨h.1, y⟩
        · refine .inr ⟨⟨?_, h.2⟩, fun g => h' (.inr g)⟩
          by_cases y' : x < q.2
          · exact absurd (.inl ⟨by omega, y'⟩) h'
          · omega
    · have e1 : woS e (f, s) q = (f, s) := by
        unfold woS
        rw [if_neg z]
      rw [List.foldl_cons, e1, wo1_in b _ _ _ c3 x, inR_cons]
      refine or_congr_right (and_congr_right fun h => not_congr ?_)
      constructor
      · exact .inr
      · rintro (g | g)
        · omega
        · exact g
theorem wo_in (a b : List PI) (hb : Can b) (x : Int) : inR (woF a b) x ↔ inR a x ∧ ¬ inR b x := by
  have key : ∀ (a f : List PI), inR (a.foldl (wo1 b) f) x ↔ inR f x ∨ (inR a x ∧ ¬ inR b x) := by
    intro a
    induction a with
    | nil => intro f; simp
    | cons p a ih =>
      intro f
      rw [List.foldl_cons, ih, wo1, wo1_in b f p.1 p.2 hb x, inR_cons, or_assoc, or_and_right]
  simpa [woF] using key a []
theorem woS_len (e : Int) : ∀ (b : List PI) (st : List PI × Int), (b.foldl (woS e) st).1.length ≤ st.1.length + b.length
  | [], st => by simp
  | q :: b, st => by
    have := woS_len e b (woS e st q)
    have h : (woS e st q).1.length ≤ st.1.length + 1 := by unfold woS; split <;> simp
    simp only [List.foldl_cons, List.length_cons]
    omega
/-! ### places -/
def putU (ks : List Int) (x : Int) : List Int := if x ∈ ks then ks else ks ++ [x]
/-- the places of one -/
def upL (p : PI) : List Int := (List.range (p.2 - p.1).toNat).map fun (k : Nat) => p.1 + (k : Int) * 1
theorem putU_mem {ks : List Int} {x y : Int} : y ∈ putU ks x ↔ y ∈ ks ∨ y = x := by
  unfold putU
  split
  · exact ⟨.inl, fun h => h.elim id fun e => e ▸ ‹_›⟩
  · simp
end PL

set_option Elab.async false
set_option linter.all false
set_option maxRecDepth 100000
set_option maxHeartbeats 1000000
/-! PMA: the runs of the defs on ranges. -/
namespace PL
open PySem
/-- what tuple(..), sorted(..) read here: a list of pairs, a list of numbers, a dict's keys -/
def plD (ks : List Int) : D := .dct (ks.map fun i => (.inl i, .bl true))
theorem noRefK_pl : ∀ ks : List Int, noRefK (ks.map fun i => ((.inl i : Ky), D.bl true)) = true
  | [] => rfl
  | k :: ks => by simp [noRefK, noRef, noRefK_pl ks]
theorem getK_pl (x : Int) : ∀ ks : List Int, getK (ks.map fun i => ((.inl i : Ky), D.bl true)) (.inl x) = if x ∈ ks then some (.bl true) else none
  | [] => rfl
  | k :: ks => by
    simp only [List.map_cons, getK, getK_pl x ks, Sum.inl.injEq, List.mem_cons]
    by_cases e : k = x
    · simp [e]
    · have : ¬ x = k := fun h => e h.symm
      simp [e, this]
theorem any_pl (x : Int) : ∀ ks : List Int, ((ks.map fun i => ((.inl i : Ky), D.bl true)).any fun e => decide (e.1 = .inl x)) = decide (x ∈ ks)
  | [] => by simp
  | k :: ks => by
    simp only [List.map_cons, List.any_cons, any_pl x ks, List.mem_cons, Bool.decide_or]
    congr 1
    by_cases e : k = x
    · simp [e]
    · have : ¬ x = k := fun h => e h.symm
      simp [e, this]
theorem setK_pl (x : Int) (ks : List Int) : setK (ks.map fun i => ((.inl i : Ky), D.bl true)) (.inl x) (.bl true) = (putU ks x).map fun i => (.inl i, .bl true) := by
  unfold setK putU
  rw [any_pl]
  by_cases h : x ∈ ks
  · rw [if_pos (by simpa using h), if_pos h, List.map_map]
    refine List.map_congr_left fun i _ => ?_
    simp only [Function.comp]
    split <;> rfl
  · rw [if_neg (by simpa using h), if_neg h, List.map_append]
    rfl
section
variable {G : Tab} {k : Nat} {S : Store} {ks : List Int}
@[simp] theorem noRef_pl : noRef (plD ks) = true := noRefK_pl ks
@[simp] theorem frzA_pl : frzA S (plD ks) = some (plD ks) := frzA_noRef noRef_pl
@[simp] theorem len_pl : bfD .len [plD ks] S = some (.int ks.length) := by
  show (some (((ks.map fun i => ((.inl i : Ky), D.bl true)).length : Nat))).map (fun (n : Nat) => D.int n) = _
  rw [List.length_map]; rfl
@[simp] theorem din_pl {x : Int} : dinD (.int x) (plD ks) S = some (decide (x ∈ ks)) := by
  show some (getK (ks.map fun i => ((.inl i : Ky), D.bl true)) (.inl x)).isSome = _
  rw [getK_pl]
  by_cases h : x ∈ ks <;> simp [h]
@[simp] theorem list_pl : bfD .list [plD ks] S = some (ll .int ks) := by
  show some (D.lst ((ks.map fun i => ((.inl i : Ky), D.bl true)).map fun p => kyD p.1)) = _
  rw [List.map_map]; rfl
@[simp] theorem mkIt_pl : mkIt .keys [plD ks] S = some (.items (ks.map .int)) := by
  show some (PL.Itr.items ((ks.map fun i => ((.inl i : Ky), D.bl true)).map fun p => kyD p.1)) = _
  rw [List.map_map]; rfl
@[simp high] theorem ev_new0 {G : Tab} {call : Calls} {env : Env} {S : Store} : ev G call (.new (.lst .nil)) env S = .ok (.ref S.length) (S ++ [.lst []]) := rfl
theorem r_together [h : Has G i_together f_together] [ht : Has G i_tidied f_tidied] {a b : List PI} (hz : a.length + b.length ≤ 9000) : run G (k + 2) i_together [tl pairD a, tl pairD b] S = .ok (tl pairD (tidyF (a ++ b))) S := by
  refine pure_rt (h := h) (S' := []) rfl rfl (by simp [frzAs]) ?_ (frzR_scl scl_tl)
  have e : ∀ S, bop .add (tl pairD a) (tl pairD b) S = some (tl pairD (a ++ b)) := fun S => add_tl (by unfold SZ; omega)
  have t : ∀ S, run G (k + 1) i_tidied [tl pairD (a ++ b)] S = .ok (tl pairD (tidyF (a ++ b))) S := fun S => r_tidied (.inl (by simp)) (by rw [List.length_append]; omega)
  simp [b_together, startE, ev, e, t]
/-- a list in the store grows -/
theorem ap0 {α : Type} {f : α → D} {xs : List α} {y : D} (h : xs.length < 16777216) : bmD .append (.ref 0) [y] [.lst (xs.map f)] = .ok .non [.lst (xs.map f ++ [y])] := by
  show (if (xs.map f).length < SZ then R.ok D.non [Ob.lst (xs.map f ++ [y])] else .bad) = _
  rw [if_pos (by rw [List.length_map]; unfold SZ; omega)]
@[simp] theorem ok0 {xs : List D} : bmOk .append (.ref 0) [.lst xs] = true := rfl
theorem frzA_r0 {α : Type} {f : α → D} [o : Okf f] {xs : List α} : frzA [.lst (xs.map f)] (.ref 0) = some (ll f xs) := by
  show (if noRefs (xs.map f) then some (D.lst (xs.map f)) else none) = _
  rw [if_pos (noRefs_map o.nr xs)]; rfl
theorem both_in {call : Calls} {f : List PI} {p q : PI} {d1 d2 : D} {t : Option D × Option D} (hz : f.length < 10000) :
    ∃ t' : Option D × Option D, turnB G call (forB (forB b_both)) (.many [5, 6]) (pairD q) [some d1, some d2, some (.ref 0), some (.int p.1), some (.int p.2), t.1, t.2] [.lst (f.map pairD)] = .nx [some d1, some d2, some (.ref 0), some (.int p.1), some (.int p.2), t'.1, t'.2] [.lst ((f ++ [botP p q]).map pairD)] := by
  refine ⟨(some (.int q.1), some (.int q.2)), ?_⟩
  have ap := fun y => ap0 (f := pairD) (xs := f) (y := y) (by omega)
  simp [turnB, b_both, forB, ev, ap, botP]
  rfl
theorem r_both [h : Has G i_both f_both] [ht : Has G i_tidied f_tidied] {a b : List PI} (hz : a.length * b.length ≤ 9000) : run G (k + 2) i_both [tl pairD a, tl pairD b] S = .ok (tl pairD (tidyF (botF a b))) S := by
  refine pure_rt (h := h) (S' := [.lst ((botF a b).map pairD)]) rfl rfl (by simp [frzAs]) ?_ (frzR_scl scl_tl)
  have e : ∀ (a f : List PI), a.foldl (fun f p => f ++ b.map (botP p)) f = f ++ botF a b := by
    intro a
    induction a with
    | nil => intro f; simp [botF]
    | cons p a ih => intro f; rw [List.foldl_cons, ih]; simp [botF]
  have el : (botF a b).length = a.length * b.length := by
    have : ∀ a : List PI, (botF a b).length = a.length * b.length := by
      intro a
      induction a with
      | nil => simp [botF]
      | cons p a ih =>
        have e' : botF (p :: a) b = b.map (botP p) ++ botF a b := rfl
        rw [e', List.length_append, List.length_map, ih, List.length_cons, Nat.succ_mul, Nat.add_comm]
    exact this a
  simp [b_both, startE, ev, ll]
  refine x_forF (P := fun r => r = _) (ik := .plain) (xs := a) (enc := pairD) (a0 := ([] : List PI)) (t0 := (((none, none), none, none) : (Option D × Option D) × (Option D × Option D))) (d := tl pairD a)
    (fun f t => [some (tl pairD a), some (tl pairD b), some (.ref 0), t.1.1, t.1.2, t.2.1, t.2.2]) (fun f => [.lst (f.map pairD)]) (fun f p => f ++ b.map (botP p)) (fun i f => f.length = i * b.length) ?_ (by simp) (by simp) (fun j p f t hj hi => ?_) (fun t' _ => ?_)
  · simp [ev]
  · have hj' : j < a.length := (List.getElem?_eq_some_iff.mp hj).1
    have hm : (j + 1) * b.length ≤ a.length * b.length := Nat.mul_le_mul_right _ (by omega)
    have hm' : (j + 1) * b.length = j * b.length + b.length := Nat.succ_mul _ _
    suffices hh : ∃ t' : Option D × Option D, turnB G (run G (k + 1)) (.for_ .plain (.var 1) (.many [5, 6]) (forB (forB b_both)) .nil) (.many [3, 4]) (pairD p) [some (tl pairD a), some (tl pairD b), some (.ref 0), t.1.1, t.1.2, t.2.1, t.2.2] [.lst (f.map pairD)] = .nx [some (tl pairD a), some (tl pairD b), some (.ref 0), some (.int p.1), some (.int p.2), t'.1, t'.2] [.lst ((f ++ b.map (botP p)).map pairD)] by
      obtain ⟨t', ht'⟩ := hh
      exact ⟨((some (.int p.1), some (.int p.2)), t'), ht', by rw [List.length_append, List.length_map, hi]; omega⟩
    simp only [turnB, bindT_pair]
    show ∃ t', exT G _ (.for_ .plain (.var 1) (.many [5, 6]) (forB (forB b_both)) .nil) [some (tl pairD a), some (tl pairD b), some (.ref 0), some (.int p.1), some (.int p.2), t.2.1, t.2.2] _ = _
    have ef : ∀ (b f : List PI), b.foldl (fun f q => f ++ [botP p q]) f = f ++ b.map (botP p) := by
      intro b
      induction b with
      | nil => intro f; simp
      | cons q b ih => intro f; rw [List.foldl_cons, ih]; simp
    refine x_forF (P := fun r => ∃ t' : Option D × Option D, r = .nx [some (tl pairD a), some (tl pairD b), some (.ref 0), some (.int p.1), some (.int p.2), t'.1, t'.2] [.lst ((f ++ b.map (botP p)).map pairD)]) (ik := .plain) (xs := b) (enc := pairD) (a0 := f) (t0 := ((t.2.1, t.2.2) : Option D × Option D)) (d := tl pairD b)
      (fun f t => [some (tl pairD a), some (tl pairD b), some (.ref 0), some (.int p.1), some (.int p.2), t.1, t.2]) (fun f => [.lst (f.map pairD)]) (fun f q => f ++ [botP p q]) (fun i f => f.length = j * b.length + i) ?_ (by simp) (by simpa using hi) (fun i q f' t hq hi' => ?_) (fun t' _ => ?_)
    · simp [ev]
    · have hq' : i < b.length := (List.getElem?_eq_some_iff.mp hq).1
      obtain ⟨t', ht'⟩ := both_in (G := G) (call := run G (k + 1)) (f := f') (p := p) (q := q) (d1 := tl pairD a) (d2 := tl pairD b) (t := t) (by omega)
      exact ⟨t', ht', by rw [List.length_append, hi']; simp; omega⟩
    · exact ⟨t', by rw [ef]; rfl⟩
  · have t : run G (k + 1) i_tidied [.ref 0] [.lst ((botF a b).map pairD)] = .ok (tl pairD (tidyF (botF a b))) [.lst ((botF a b).map pairD)] := r_tidied (.inr frzA_r0) (by omega)
    rw [e, List.nil_append]
    simp [ev, t]

noncomputable def compB (G : Tab) (call : Calls) (tg : Tg) (c e : E) (env : Env) (x : D) (S : Store) : R (Option D) := match bindT tg x env with
  | some env' => (mapT (ev G call c env' S)).bind fun k S => if k then (ev G call e env' S).bind fun y S => .ok (some y) S else .ok none S
  | none => .bad
theorem ev_compM {G : Tab} {call : Calls} {env : Env} {S : Store} {β : Type} {ik : IK} {src c e : E} {tg : Tg} {d : D} {enc : β → D} (f : β → D) {xs : List β} (hs : ev G call src env S = .ok d S) (hi : mkIt ik (srcL ik d) S = some (.items (xs.map enc))) (hl : xs.length ≤ SZ) (h : ∀ x ∈ xs, compB G call tg c e env (enc x) S = .ok (some (f x)) S) :
    ev G call (.comp ik src tg c e) env S = .ok (.lst (xs.map f)) S := by
  have := goComp_map (body := qk ik (compB G call tg c e env)) (enc := enc) (f := f) hl fun x hx => qk_ok (h x hx)
  show (ev G call src env S).bind _ = _
  rw [hs]
  simp only [R.bind_ok, hi]
  show (goComp (qk ik (compB G call tg c e env)) (xs.map enc) [] S).bind _ = _
  rw [this]
  rfl
theorem ev_bf1 {G : Tab} {call : Calls} {env : Env} {S : Store} {f : Bf} {a : E} : ev G call (.bf f (.cons a .nil)) env S = (ev G call a env S).bind fun d S => R.of (bfD f [d] S) S := by
  show ((ev G call a env S).bind fun x S => _).bind _ = _
  cases ev G call a env S <;> rfl
theorem r_count [h : Has G i_count f_count] {a : List PI} (hz : a.length ≤ 9000) : run G (k + 1) i_count [tl pairD a] S = .ok (.int (width a)) S := by
  refine pure_rt (h := h) (S' := []) rfl rfl (by simp [frzAs]) ?_ (frzR_scl rfl)
  simp only [b_count, x_ret, ev_bf1]
  rw [ev_compM (enc := pairD) (xs := a) (d := tl pairD a) (fun p => .int (p.2 - p.1)) (by simp [startE, ev]) (by simp) (by unfold SZ; omega) (fun x hx => by simp [compB, startE, ev])]
  have : bfD .sum [.lst (a.map fun p => D.int (p.2 - p.1))] [] = some (.int (width a)) := by
    have := sum_ll (S := []) (xs := a.map fun p => p.2 - p.1)
    rwa [ll, List.map_map] at this
  simp [this]
theorem wo_turn {call : Calls} {f : List PI} {s e : Int} {q : PI} {d1 d2 d3 : D} {t : Option D × Option D} (hz : f.length < 10000) :
    ∃ t' : Option D × Option D, turnB G call (forB (forB b_without)) (.many [6, 7]) (pairD q) [some d1, some d2, some (.ref 0), some d3, some (.int e), some (.int s), t.1, t.2] [.lst (f.map pairD)] = .nx [some d1, some d2, some (.ref 0), some d3, some (.int e), some (.int (woS e (f, s) q).2), t'.1, t'.2] [.lst ((woS e (f, s) q).1.map pairD)] := by
  refine ⟨(some (.int q.1), some (.int q.2)), ?_⟩
  have ap := fun y => ap0 (f := pairD) (xs := f) (y := y) (by omega)
  by_cases h1 : q.1 < e
  · by_cases h2 : s < q.2
    · simp [turnB, b_without, forB, ev, ap, woS, h1, h2]
      rfl
    · simp [turnB, b_without, forB, ev, ap, woS, h1, h2]
  · simp [turnB, b_without, forB, ev, ap, woS, h1]
theorem r_without [h : Has G i_without f_without] [ht : Has G i_tidied f_tidied] {a b : List PI} (hz : a.length * (b.length + 1) ≤ 9000) : run G (k + 2) i_without [tl pairD a, tl pairD b] S = .ok (tl pairD (tidyF (woF a b))) S := by
  refine pure_rt (h := h) (S' := [.lst ((woF a b).map pairD)]) rfl rfl (by simp [frzAs]) ?_ (frzR_scl scl_tl)
  have w1 : ∀ (f : List PI) (p : PI), (wo1 b f p).length ≤ f.length + (b.length + 1) := fun f p => by
    have : (b.foldl (woS p.2) (f, p.1)).1.length ≤ f.length + b.length := woS_len p.2 b (f, p.1)
    simp only [wo1, List.length_append, List.length_cons, List.length_nil]
    omega
  simp [b_without, startE, ev, ll]
  refine x_forF (P := fun r => r = _) (ik := .plain) (xs := a) (enc := pairD) (a0 := ([] : List PI)) (t0 := ((((none, none), none), (none, none)) : ((Option D × Option D) × Option D) × (Option D × Option D))) (d := tl pairD a)
    (fun f t => [some (tl pairD a), some (tl pairD b), some (.ref 0), t.1.1.1, t.1.1.2, t.1.2, t.2.1, t.2.2]) (fun f => [.lst (f.map pairD)]) (wo1 b) (fun i f => f.length ≤ i * (b.length + 1)) ?_ (by simp) (by simp) (fun j p f t hj hi => ?_) (fun t' hi => ?_)
  · simp [ev]
  · have hj' : j < a.length := (List.getElem?_eq_some_iff.mp hj).1
    have hm : (j + 1) * (b.length + 1) ≤ a.length * (b.length + 1) := Nat.mul_le_mul_right _ (by omega)
    have hm' : (j + 1) * (b.length + 1) = j * (b.length + 1) + (b.length + 1) := Nat.succ_mul _ _
    suffices hh : ∃ (s : Int) (t' : Option D × Option D), turnB G (run G (k + 1)) (.asg 5 (.var 3) (.for_ .plain (.var 1) (.many [6, 7]) (forB (forB b_without)) (.exp (.bm .append (.var 2) (.cons (.tup (.cons (.var 5) (.cons (.var 4) .nil))) .nil)) .nil))) (.many [3, 4]) (pairD p) [some (tl pairD a), some (tl pairD b), some (.ref 0), t.1.1.1, t.1.1.2, t.1.2, t.2.1, t.2.2] [.lst (f.map pairD)] = .nx [some (tl pairD a), some (tl pairD b), some (.ref 0), some (.int p.1), some (.int p.2), some (.int s), t'.1, t'.2] [.lst ((wo1 b f p).map pairD)] by
      obtain ⟨s, t', ht'⟩ := hh
      exact ⟨(((some (.int p.1), some (.int p.2)), some (.int s)), t'), ht', by have := w1 f p; omega⟩
    simp only [turnB, bindT_pair]
    simp only [x_asg]
    show ∃ s t', exT G _ (.for_ .plain (.var 1) (.many [6, 7]) (forB (forB b_without)) _) [some (tl pairD a), some (tl pairD b), some (.ref 0), some (.int p.1), some (.int p.2), some (.int p.1), t.2.1, t.2.2] _ = _
    refine x_forF (P := fun r => ∃ (s : Int) (t' : Option D × Option D), r = .nx [some (tl pairD a), some (tl pairD b), some (.ref 0), some (.int p.1), some (.int p.2), some (.int s), t'.1, t'.2] [.lst ((wo1 b f p).map pairD)]) (ik := .plain) (xs := b) (enc := pairD) (a0 := ((f, p.1) : List PI × Int)) (t0 := ((t.2.1, t.2.2) : Option D × Option D)) (d := tl pairD b)
      (fun st t => [some (tl pairD a), some (tl pairD b), some (.ref 0), some (.int p.1), some (.int p.2), some (.int st.2), t.1, t.2]) (fun st => [.lst (st.1.map pairD)]) (woS p.2) (fun i st => st.1.length ≤ j * (b.length + 1) + i) ?_ (by simp) (by simpa using hi) (fun i q st t hq hi' => ?_) (fun t' hi' => ?_)
    · simp [ev]
    · have hq' : i < b.length := (List.getElem?_eq_some_iff.mp hq).1
      obtain ⟨t', ht'⟩ := wo_turn (G := G) (call := run G (k + 1)) (f := st.1) (s := st.2) (e := p.2) (q := q) (d1 := tl pairD a) (d2 := tl pairD b) (d3 := .int p.1) (t := t) (by omega)
      refine ⟨t', ht', ?_⟩
      have : (woS p.2 st q).1.length ≤ st.1.length + 1 := by unfold woS; split <;> simp
      omega
    · have ap := fun y => ap0 (f := pairD) (xs := (b.foldl (woS p.2) (f, p.1)).1) (y := y) (by omega)
      refine ⟨(b.foldl (woS p.2) (f, p.1)).2, t', ?_⟩
      simp [ev, ap, wo1]
      rfl
  · have hl : (woF a b).length ≤ 9000 := by unfold woF; omega
    have t : run G (k + 1) i_tidied [.ref 0] [.lst ((woF a b).map pairD)] = .ok (tl pairD (tidyF (woF a b))) [.lst ((woF a b).map pairD)] := r_tidied (.inr frzA_r0) hl
    show exT G _ _ [_, _, _, _, _, _, _, _] [.lst ((woF a b).map pairD)] = _
    simp [ev, t]
end
end PL

set_option Elab.async false
set_option linter.all false
set_option maxRecDepth 100000
set_option maxHeartbeats 1000000
/-! PMB: the laws' own defs on ranges. -/
namespace PL
open PySem
section
variable {G : Tab} {k : Nat} {S : Store}
theorem dF_lo {c p m : Int} (h : 0 < m) : 0 ≤ dF c p m := Int.emod_nonneg _ (by omega)
theorem dF_hi {c p m : Int} (h : 0 < m) : dF c p m < m := Int.emod_lt_of_pos _ h
theorem mkIt_rng2 {p : PI} {S : Store} (h0 : -1000000000 < p.1) (h1 : p.1 < 1000000000) (h2 : -1000000000 < p.2) (h3 : p.2 < 2000000000) : mkIt .rng2 [.int p.1, .int p.2] S = some (.items ((upL p).map .int)) := by
  show (if b62 p.1 && b62 p.2 then some (PL.Itr.items (rngD p.1 1 (p.2 - p.1).toNat)) else none) = _
  rw [b62_of (by omega) (by omega), b62_of (by omega) (by omega)]
  simp [rngD, upL, Function.comp_def]
end
end PL

set_option Elab.async false
set_option linter.all false
set_option maxRecDepth 100000
set_option maxHeartbeats 1000000
/-! PMC: the evaluator's equations one by one; a comprehension stays closed. -/
namespace PL
open PySem
section
variable {G : Tab} {call : Calls} {env : Env} {S : Store} {a b c e : E}
@[simp] theorem e_var {i : Nat} : ev G call (.var i) env S = match env[i]? with
    | some (some d) => .ok d S
    | _ => .bad := rfl
@[simp] theorem e_con {d : D} : ev G call (.con d) env S = .ok d S := rfl
@[simp] theorem e_glb {j : Nat} : ev G call (.glb j) env S = R.of (G.consts j) S := rfl
@[simp] theorem e_bin {o : BOp} : ev G call (.bin o a b) env S = (ev G call a env S).bind fun x S => (ev G call b env S).bind fun y S => R.of (bop o x y S) S := rfl
@[simp] theorem e_cmp {o : COp} : ev G call (.cmp o a b) env S = (ev G call a env S).bind fun x S => (ev G call b env S).bind fun y S => R.of ((cop o x y S).map .bl) S := rfl
@[simp] theorem e_chain {o o' : COp} : ev G call (.chain o o' a b c) env S = (ev G call a env S).bind fun x S => (ev G call b env S).bind fun y S => (R.of (cop o x y S) S).bind fun k S =>
      if k then (ev G call c env S).bind fun z S => R.of ((cop o' y z S).map .bl) S else .ok (.bl false) S := rfl
@[simp] theorem e_isn : ev G call (.isn a) env S = (ev G call a env S).bind fun x S => .ok (.bl (isNonD x)) S := rfl
@[simp] theorem e_ntn : ev G call (.ntn a) env S = (ev G call a env S).bind fun x S => .ok (.bl (!isNonD x)) S := rfl
@[simp] theorem e_neg : ev G call (.neg a) env S = (ev G call a env S).bind fun x S => R.of (negD x) S := rfl
@[simp] theorem e_nt : ev G call (.nt a) env S = (mapT (ev G call a env S)).bind fun k S => .ok (.bl (!k)) S := rfl
@[simp] theorem e_and : ev G call (.and a b) env S = (ev G call a env S).bind fun x S => (R.of (truthy x S) S).bind fun k S => if k then ev G call b env S else .ok x S := rfl
@[simp] theorem e_or : ev G call (.or a b) env S = (ev G call a env S).bind fun x S => (R.of (truthy x S) S).bind fun k S => if k then .ok x S else ev G call b env S := rfl
@[simp] theorem e_ite : ev G call (.ite c a b) env S = (mapT (ev G call c env S)).bind fun k S => if k then ev G call a env S else ev G call b env S := rfl
@[simp] theorem e_isa {t : Nat} : ev G call (.isa a t) env S = (ev G call a env S).bind fun x S => if notIns x S then .ok (.bl (isaD t x)) S else .bad := rfl
@[simp] theorem e_call {f : Nat} : ev G call (.call f a) env S = (ev G call a env S).bind fun xs S => call f (toTup xs) S := rfl
@[simp] theorem e_meth {c m : Nat} : ev G call (.meth c a m b) env S = (ev G call a env S).bind fun x S => match clsD x S, G.meth c m with
    | some c', some f => if c' = c then (ev G call b env S).bind fun xs S => call f (x :: toTup xs) S else .bad
    | _, _ => .bad := rfl
@[simp] theorem e_mk {c : Nat} : ev G call (.mk c a) env S = (ev G call a env S).bind fun xs S => match G.init c with
    | some f => (call f (.ref S.length :: toTup xs) (S ++ [.ins c []])).bind fun d S' => match d with
      | .non => .ok (.ref S.length) S'
      | _ => .bad
    | none => .bad := rfl
@[simp] theorem e_bf {f : Bf} : ev G call (.bf f a) env S = (ev G call a env S).bind fun xs S => R.of (bfD f (toTup xs) S) S := rfl
@[simp] theorem e_bm {m : Bm} : ev G call (.bm m a b) env S = (ev G call a env S).bind fun x S => if bmOk m x S then (ev G call b env S).bind fun xs S => bmD m x (toTup xs) S else .bad := rfl
@[simp] theorem e_ix : ev G call (.ix a b) env S = (ev G call a env S).bind fun x S => (ev G call b env S).bind fun y S => R.of (getD_ x y S) S := rfl
@[simp] theorem e_sl : ev G call (.sl a b c) env S = (ev G call a env S).bind fun x S => (if isEmp b then .ok none S else (ev G call b env S).bind fun d S => R.of (part d) S).bind fun l S => (if isEmp c then .ok none S else (ev G call c env S).bind fun d S => R.of (part d) S).bind fun h S => R.of (slD x l h S) S := rfl
@[simp] theorem e_fld {c f : Nat} : ev G call (.fld c a f) env S = (ev G call a env S).bind fun x S => if clsD x S = some c then R.of (fldD x f S) S else .bad := rfl
@[simp] theorem e_tup : ev G call (.tup a) env S = (ev G call a env S).bind fun xs S => R.of (mkTup (toTup xs)) S := rfl
@[simp] theorem e_lst : ev G call (.lst a) env S = (ev G call a env S).bind fun xs S => R.of (mkLst (toTup xs)) S := rfl
@[simp] theorem e_dict0 : ev G call .dict0 env S = .ok (.ref S.length) (S ++ [.dct []]) := rfl
@[simp] theorem e_fstr : ev G call (.fstr a) env S = (ev G call a env S).bind fun xs S => R.of ((catD (toTup xs)).map .str) S := rfl
@[simp] theorem e_fmt : ev G call (.fmt a) env S = (ev G call a env S).bind fun x S => R.of ((fmtD x).map .str) S := rfl
/-- a list for the store -/
def newL (d : D) (S : Store) : R D := match d with
  | .lst xs => .ok (.ref S.length) (S ++ [.lst xs])
  | _ => .bad
@[simp] theorem newL_lst {xs : List D} : newL (.lst xs) S = .ok (.ref S.length) (S ++ [.lst xs]) := rfl
@[simp] theorem newL_ll {α : Type} {f : α → D} {xs : List α} : newL (ll f xs) S = .ok (.ref S.length) (S ++ [.lst (xs.map f)]) := rfl
@[simp] theorem e_new : ev G call (.new a) env S = (ev G call a env S).bind newL := rfl
@[simp] theorem e_nil : ev G call .nil env S = .ok (.tup []) S := rfl
@[simp] theorem e_cons : ev G call (.cons a b) env S = (ev G call a env S).bind fun x S => (ev G call b env S).bind fun xs S => .ok (.tup (x :: toTup xs)) S := rfl
@[simp] theorem e_one : ev G call (.one e) env S = ev G call e env S := rfl
@[simp] theorem e_val : ev G call (.val e) env S = ev G call e env S := rfl
@[simp] theorem e_din {ng : Bool} : ev G call (.din ng a b) env S = (ev G call a env S).bind fun x S => (ev G call b env S).bind fun y S => R.of ((dinD x y S).map fun k => .bl (k != ng)) S := rfl
@[simp] theorem e_dix : ev G call (.dix a b) env S = (ev G call a env S).bind fun x S => (ev G call b env S).bind fun y S => R.of (dixD x y S) S := rfl
@[simp] theorem e_emp : ev G call .emp env S = .ok (.bl true) S := rfl
end
end PL

set_option Elab.async false
set_option linter.all false
set_option maxRecDepth 100000
set_option maxHeartbeats 1000000
/-! PMD: loops that go while; the first places, pieces, texts of ranges. -/
namespace PL
open PySem
section
variable {G : Tab} {call : Calls}
end
abbrev i_range_text : Nat := 37
/-- range_text: ranges 0 begin 1 end 2 -/
def b_range_text : T := (.ret (.bm .join (.con (.str ",")) (.cons (.comp .plain (.var 0) (.many [1, 2]) .emp (.fstr (.cons (.fmt (.var 1)) (.cons (.con (.str "-")) (.cons (.fmt (.bin .sub (.var 2) (.con (.int 1)))) .nil))))) .nil)))
def f_range_text : Fn := ⟨true, 1, 3, b_range_text⟩
/-! ### mathematics -/
theorem upL_len (p : PI) : (upL p).length = (p.2 - p.1).toNat := by simp [upL]
/-! ### texts -/
def txtI (i : Int) : Str := (toString i : String)
section
variable {S : Store} {i : Int}
theorem txtI_tl (h0 : 0 ≤ i) : TL.tl (txtI i) = TL.numL i.toNat := by
  obtain ⟨n, rfl⟩ := Int.eq_ofNat_of_zero_le h0
  exact TL.tl_num n
theorem txtI_len (h0 : 0 ≤ i) (h : i < 1000000000) : (txtI i).length ≤ 9 := by
  rw [TL.len_tl, txtI_tl h0]
  exact TL.numL_len (by decide) (by omega)
theorem fmt_int (h0 : 0 ≤ i) (h : i < 1000000000) : fmtD (.int i) = some (txtI i) := by
  show (if tst (0 ≤ i ∧ i < 10 ^ 100) then some (txtI i) else none) = _
  rw [if_pos (tst_iff.mpr ⟨h0, Int.lt_trans h (by decide)⟩)]
theorem add_str {a b : Str} (h : a.length + b.length ≤ 1000000) : bop .add (.str a) (.str b) S = some (.str (a ++ b)) := by
  show (if a.length + b.length ≤ SZ then some (D.str (a ++ b)) else none) = _
  rw [if_pos (by unfold SZ; omega)]
theorem strsD_map : ∀ ys : List Str, strsD (ys.map D.str) = some ys
  | [] => rfl
  | y :: ys => by simp [strsD, strsD_map ys]
theorem str_sum {n : Nat} : ∀ {ys : List Str}, (∀ y ∈ ys, y.length ≤ n) → (ys.map (·.length)).sum ≤ ys.length * n
  | [], _ => by simp
  | y :: ys, h => by
    have := str_sum (ys := ys) fun z hz => h z (by simp [hz])
    have := h y (by simp)
    simp only [List.map_cons, List.sum_cons, List.length_cons, Nat.succ_mul]
    omega
theorem join_lst {a : Str} {ys : List Str} (ha : a.length ≤ 10) (hn : ys.length ≤ 9000) (h : ∀ y ∈ ys, y.length ≤ 100) : bmD .join (.str a) [.lst (ys.map D.str)] S = .ok (.str (Txt.join a ys)) S := by
  have := str_sum h
  have m : ys.length * a.length ≤ 9000 * 10 := Nat.mul_le_mul hn ha
  show R.of (match strsD (ys.map D.str) with
    | some ys => if (ys.map (·.length)).sum + ys.length * a.length ≤ SZ then some (D.str (Txt.join a ys)) else none
    | none => none) S = _
  rw [strsD_map]
  simp only
  rw [if_pos (by unfold SZ; omega)]
  rfl
@[simp] theorem ok_join {a : Str} : bmOk .join (.str a) S = true := rfl
end
section
variable {G : Tab} {k : Nat} {S : Store}
end
end PL

set_option Elab.async false
set_option linter.all false
set_option maxRecDepth 100000
set_option maxHeartbeats 1000000
/-! PME: marks as texts. -/
namespace PL
open PySem
abbrev i_mark_text : Nat := 14
/-- mark_text: mark 0 text 1 left 2 k 3 -/
def b_mark_text : T := (.asg 1 (.con (.str ""))
  (.asg 2 (.var 0)
  (.for_ .rng1 (.cons (.glb 3) .nil) (.one 3)
  (.asg 1 (.bin .add (.ix (.glb 2) (.bin .mod (.var 2) (.con (.int 16)))) (.var 1))
  (.asg 2 (.bin .fdiv (.var 2) (.con (.int 16)))
  .nil))
  (.ret (.var 1)))))
def f_mark_text : Fn := ⟨true, 1, 4, b_mark_text⟩
abbrev i_read_mark : Nat := 15
/-- read_mark: text 0 mark 1 sign 2 -/
def b_read_mark : T := (.ifs (.or (.cmp .ne (.bf .len (.cons (.var 0) .nil)) (.glb 3)) (.one (.nt (.val (.bf .all (.cons (.comp .plain (.var 0) (.one 2) .emp (.cmp .inn (.var 2) (.glb 2))) .nil))))))
  (.rais 0)
  .nil
  (.asg 1 (.con (.int 0))
  (.for_ .plain (.var 0) (.one 2)
  (.asg 1 (.bin .add (.bin .mul (.var 1) (.con (.int 16))) (.bm .find (.glb 2) (.cons (.var 2) .nil)))
  .nil)
  (.ifs (.cmp .ge (.var 1) (.glb 0))
  (.rais 0)
  .nil
  (.ret (.var 1))))))
def f_read_mark : Fn := ⟨true, 1, 3, b_read_mark⟩
/-! ### signs -/
/-- one sign -/
def sg (c : Nat) : Str := ⟨#[c]⟩
def sgD (c : Nat) : D := .str (sg c)
theorem tl_sg (c : Nat) : TL.tl (sg c) = [c] := rfl
theorem len_sg (c : Nat) : (sg c).length = 1 := rfl
def hexd : List Nat := [48, 49, 50, 51, 52, 53, 54, 55, 56, 57, 97, 98, 99, 100, 101, 102]
def hv (c : Nat) : Int := if c < 58 then (c : Int) - 48 else (c : Int) - 87
def dg (i : Nat) : Nat := if i < 10 then 48 + i else 87 + i
theorem fig_tl : (("0123456789abcdef" : Str)).cps.toList = hexd := by decide +kernel
theorem find_hex : ∀ c ∈ hexd, Txt.find "0123456789abcdef" (sg c) = hv c := by decide +kernel
theorem hv_nn : ∀ c ∈ hexd, 0 ≤ hv c ∧ hv c < 16 := by decide +kernel
theorem hv_dg : ∀ i < 16, hv (dg i) = i ∧ dg i ∈ hexd := by decide +kernel
section
variable {S : Store} {x : Str}
theorem len_str (h : x.length ≤ 1000000) : bfD .len [.str x] S = some (.int x.length) := by
  show (if x.length ≤ SZ then some x.length else none).map (fun (n : Nat) => D.int n) = _
  rw [if_pos (by unfold SZ; omega)]
  rfl
@[simp] theorem mkIt_str : mkIt .plain [.str x] S = some (.items (x.cps.toList.map sgD)) := rfl
theorem in_hex {c : Nat} : cop .inn (.str (sg c)) (.str "0123456789abcdef") S = some (decide (c ∈ hexd)) := by
  show some (!(Builtin.Str.occurrences ("0123456789abcdef" : Str) ⟨#[c]⟩ 0 ("0123456789abcdef" : Str).length 1).isEmpty) = _
  rw [PySem.StrLaws.found_one, fig_tl]
@[simp] theorem ok_find {a : Str} : bmOk .find (.str a) S = true := rfl
@[simp] theorem ok_index {a : Str} : bmOk .index (.str a) S = true := rfl
theorem find_str {a b : Str} : bmD .find (.str a) [.str b] S = .ok (.int (Txt.find a b)) S := rfl
@[simp] theorem small_16 : small 16 = true := small_of (by decide) (by decide)
theorem ix_str {z : Str} {i : Int} (h : z.length ≤ 1000) (h0 : 0 ≤ i) (h1 : i.toNat < z.length) : getD_ (.str z) (.int i) S = some (.str (sg (z.cps.toList.getD i.toNat 0))) := by
  show (if z.length ≤ SZ then (L2.atI z.cps.toList i).map fun c => D.str ⟨#[c]⟩ else none) = _
  rw [if_pos (by unfold SZ; omega), atI_nn h0, List.getElem?_eq_getElem (by rw [TL.len_tl] at h1; exact h1)]
  rw [List.getD_eq_getElem?_getD, List.getElem?_eq_getElem (by rw [TL.len_tl] at h1; exact h1)]
  rfl
theorem ix_fig {i : Int} (h0 : 0 ≤ i) (h1 : i < 16) : getD_ (.str "0123456789abcdef") (.int i) S = some (.str (sg (dg i.toNat))) := by
  have l : ("0123456789abcdef" : Str).length = 16 := by decide +kernel
  rw [ix_str (by rw [l]; decide) h0 (by rw [l]; omega), fig_tl]
  have : ∀ i < 16, hexd.getD i 0 = dg i := by decide +kernel
  rw [this i.toNat (by omega)]
end
/-! ### marks -/
/-- the signs of a mark -/
def mkT (m : Int) : List Nat := [dg (m / 268435456 % 16).toNat, dg (m / 16777216 % 16).toNat, dg (m / 1048576 % 16).toNat, dg (m / 65536 % 16).toNat, dg (m / 4096 % 16).toNat, dg (m / 256 % 16).toNat, dg (m / 16 % 16).toNat, dg (m % 16).toNat]
def mkS (m : Int) : Str := ⟨(mkT m).toArray⟩
theorem mkS_tl (m : Int) : TL.tl (mkS m) = mkT m := rfl
theorem mkS_len (m : Int) : (mkS m).length = 8 := rfl
def hexV (l : List Nat) : Int := l.foldl (fun a c => a * 16 + hv c) 0
def readF (x : Str) : Option Int := if x.length = 8 ∧ (x.cps.toList.all fun c => decide (c ∈ hexd)) = true then (if hexV x.cps.toList ≥ 2147483647 then none else some (hexV x.cps.toList)) else none
theorem dgs {m : Int} (h : 0 ≤ m) : ∀ k : Int, 0 < k → hv (dg (m / k % 16).toNat) = m / k % 16 ∧ dg (m / k % 16).toNat ∈ hexd := fun k hk => by
  have a : 0 ≤ m / k % 16 := Int.emod_nonneg _ (by decide)
  have b : m / k % 16 < 16 := Int.emod_lt_of_pos _ (by decide)
  obtain ⟨e, i⟩ := hv_dg (m / k % 16).toNat (by omega)
  exact ⟨by rw [e]; omega, i⟩
theorem read_mk {m : Int} (h0 : 0 ≤ m) (h1 : m < 2147483647) : readF (mkS m) = some m := by
  have d := dgs h0
  have d0 := d 1 (by decide)
  rw [Int.ediv_one] at d0
  have e : hexV (mkT m) = m := by
    simp only [hexV, mkT, List.foldl_cons, List.foldl_nil, (d 268435456 (by decide)).1, (d 16777216 (by decide)).1, (d 1048576 (by decide)).1, (d 65536 (by decide)).1, (d 4096 (by decide)).1, (d 256 (by decide)).1, (d 16 (by decide)).1, d0.1]
    omega
  have a : ((mkT m).all fun c => decide (c ∈ hexd)) = true := by
    simp only [mkT, List.all_cons, List.all_nil, (d 268435456 (by decide)).2, (d 16777216 (by decide)).2, (d 1048576 (by decide)).2, (d 65536 (by decide)).2, (d 4096 (by decide)).2, (d 256 (by decide)).2, (d 16 (by decide)).2, d0.2, decide_true, Bool.and_true, Bool.and_self]
  unfold readF
  rw [if_pos ⟨mkS_len m, a⟩]
  show (if hexV (mkT m) ≥ 2147483647 then none else some (hexV (mkT m))) = _
  rw [e, if_neg (by omega)]
section
variable {G : Tab} {k : Nat} {S : Store}
theorem r_mark_text [h : Has G i_mark_text f_mark_text] [h2 : HasC G 2 (.str "0123456789abcdef")] [h3 : HasC G 3 (.int 8)] {m : Int} (h0 : 0 ≤ m) : run G (k + 1) i_mark_text [.int m] S = .ok (.str (mkS m)) S := by
  refine pure_rt (h := h) (S' := []) rfl rfl (by simp [frzAs]) ?_ (frzR_scl rfl)
  simp [b_mark_text, startE]
  refine x_forF (P := fun r => r = _) (ik := .rng1) (xs := List.range 8) (enc := fun (k : Nat) => D.int k) (a0 := (("", m) : Str × Int)) (t0 := (none : Option D)) (d := .tup [.int 8])
    (fun a t => [some (.int m), some (.str a.1), some (.int a.2), t]) (fun _ => []) (fun a _ => (sg (dg (a.2 % 16).toNat) ++ a.1, a.2 / 16)) (fun i a => a.1.length = i) ?_ ?_ (show ("" : Str).length = 0 by decide +kernel) (fun j i a t hj hi => ?_) (fun t' hi => ?_)
  · simp
  · rw [srcL_rng1, toTup_tup, mkIt_rng1 (b62_of (by omega) (by omega)), rngD_map]; rfl
  · have hj' : j < 8 := by have := (List.getElem?_eq_some_iff.mp hj).1; simpa using this
    have a0 : 0 ≤ a.2 % 16 := Int.emod_nonneg _ (by decide)
    have a1 : a.2 % 16 < 16 := Int.emod_lt_of_pos _ (by decide)
    have ad := fun S => add_str (S := S) (a := sg (dg (a.2 % 16).toNat)) (b := a.1) (by rw [len_sg]; omega)
    have ix := fun S => ix_fig (S := S) a0 a1
    refine ⟨some (.int i), ?_, by rw [str_len_append, len_sg]; omega⟩
    simp [turnB, ix, ad]
  · have e : ((List.range 8).foldl (fun (a : Str × Int) (_ : Nat) => (sg (dg (a.2 % 16).toNat) ++ a.1, a.2 / 16)) (("", m) : Str × Int)).1 = mkS m := by
      refine TL.ext_tl ?_
      rw [mkS_tl]
      simp only [show List.range 8 = [0, 1, 2, 3, 4, 5, 6, 7] from rfl, List.foldl_cons, List.foldl_nil, TL.tl_append, tl_sg, mkT]
      rw [show TL.tl ("" : Str) = [] by decide +kernel]
      simp only [List.cons_append, List.nil_append]
      rw [show m / 16 / 16 = m / 256 by omega, show m / 256 / 16 = m / 4096 by omega, show m / 4096 / 16 = m / 65536 by omega, show m / 65536 / 16 = m / 1048576 by omega, show m / 1048576 / 16 = m / 16777216 by omega, show m / 16777216 / 16 = m / 268435456 by omega]
    simp only [x_ret]
    rw [e_var]
    simp [e]
/-- read_mark's answer -/
theorem r_read_mark [h : Has G i_read_mark f_read_mark] [h0 : HasC G 0 (.int 2147483647)] [h2 : HasC G 2 (.str "0123456789abcdef")] [h3 : HasC G 3 (.int 8)] {x : Str} (hx : x.length ≤ 1000000) :
    run G (k + 1) i_read_mark [.str x] S = (match readF x with | some m => .ok (.int m) S | none => .ex 0 S) := by
  have cm : ∀ t1 t2, ev G (run G k) (.comp .plain (.var 0) (.one 2) .emp (.cmp .inn (.var 2) (.glb 2))) [some (.str x), t1, t2] [] = .ok (.lst (x.cps.toList.map fun c => .bl (decide (c ∈ hexd)))) [] := fun t1 t2 =>
    ev_compM (enc := sgD) (xs := x.cps.toList) (d := .str x) (fun c => .bl (decide (c ∈ hexd))) (by simp) (by simp) (by rw [← TL.len_tl]; unfold SZ; omega) (fun c hc => by simp [compB, sgD, in_hex])
  have al : bfD .all [.lst (x.cps.toList.map fun c => .bl (decide (c ∈ hexd)))] [] = some (.bl (x.cps.toList.all fun c => decide (c ∈ hexd))) := bf_all_map
  have ls := fun S => len_str (S := S) hx
  have start : ∀ r, exT G (run G k) b_read_mark [some (.str x), none, none] [] = r → run G (k + 1) i_read_mark [.str x] S = fin S r := fun r e => by
    rw [run_pure h.h rfl (as' := [.str x]) (by simp [frzAs]), ← e]
    rfl
  by_cases hl : x.length = 8
  · by_cases ha : (x.cps.toList.all fun c => decide (c ∈ hexd)) = true
    · have hin : ∀ c ∈ x.cps.toList, c ∈ hexd := fun c hc => of_decide_eq_true (List.all_eq_true.mp ha c hc)
      have e : readF x = if hexV x.cps.toList ≥ 2147483647 then none else some (hexV x.cps.toList) := by unfold readF; rw [if_pos ⟨hl, ha⟩]
      have main : exT G (run G k) b_read_mark [some (.str x), none, none] [] = (if hexV x.cps.toList ≥ 2147483647 then .ex 0 [some (.str x), some (.int (hexV x.cps.toList)), (x.cps.toList.getLast?.map sgD)] [] else .rt (.int (hexV x.cps.toList)) []) ∨ True := .inr trivial
      by_cases hg : hexV x.cps.toList ≥ 2147483647
      · rw [e, if_pos hg]
        suffices ∃ env', exT G (run G k) b_read_mark [some (.str x), none, none] [] = .ex 0 env' [] by
          obtain ⟨env', e'⟩ := this
          exact (start _ e').trans rfl
        simp [b_read_mark, ls, hl, cm, al, ha]
        refine x_forF (P := fun r => ∃ env', r = RS.ex 0 env' []) (ik := .plain) (xs := x.cps.toList) (enc := sgD) (a0 := (0 : Int)) (t0 := (none : Option D)) (d := .str x)
          (fun a t => [some (.str x), some (.int a), t]) (fun _ => []) (fun a c => a * 16 + hv c) (fun _ _ => True) (by simp) (by simp) trivial (fun j c a t hj _ => ?_) (fun t' _ => ?_)
        · have := find_hex c (hin c (List.mem_of_getElem? hj))
          exact ⟨some (sgD c), by simp [turnB, sgD, find_str, this], trivial⟩
        · show ∃ env', exT G _ _ [some (.str x), some (.int (hexV x.cps.toList)), t'] [] = _
          simp [hg]
      · rw [e, if_neg hg]
        refine (start (.rt (.int (hexV x.cps.toList)) []) ?_).trans rfl
        simp [b_read_mark, ls, hl, cm, al, ha]
        refine x_forF (P := fun r => r = _) (ik := .plain) (xs := x.cps.toList) (enc := sgD) (a0 := (0 : Int)) (t0 := (none : Option D)) (d := .str x)
          (fun a t => [some (.str x), some (.int a), t]) (fun _ => []) (fun a c => a * 16 + hv c) (fun _ _ => True) (by simp) (by simp) trivial (fun j c a t hj _ => ?_) (fun t' _ => ?_)
        · have := find_hex c (hin c (List.mem_of_getElem? hj))
          exact ⟨some (sgD c), by simp [turnB, sgD, find_str, this], trivial⟩
        · show exT G _ _ [some (.str x), some (.int (hexV x.cps.toList)), t'] [] = _
          have hg' : ¬ 2147483647 ≤ hexV x.cps.toList := hg
          simp [hg']
    · have e : readF x = none := by unfold readF; rw [if_neg fun h => ha h.2]
      rw [e]
      have ha' : (x.cps.toList.all fun c => decide (c ∈ hexd)) = false := by simpa using ha
      refine (start (.ex 0 [some (.str x), none, none] []) ?_).trans rfl
      simp [b_read_mark, ls, hl, cm, al, ha']
  · have e : readF x = none := by unfold readF; rw [if_neg fun h => hl h.1]
    rw [e]
    refine (start (.ex 0 [some (.str x), none, none] []) ?_).trans rfl
    have hl' : ¬ (x.length : Int) = 8 := by omega
    simp [b_read_mark, ls, hl']
end
end PL

set_option Elab.async false
set_option linter.all false
set_option maxRecDepth 100000
set_option maxHeartbeats 1000000
/-! PMF: a for over a list in the store; slices with a step. -/
namespace PL
open PySem
section
variable {G : Tab} {call : Calls} {env : Env} {S : Store}
@[simp] theorem e_sl3 {a b c : E} {st : Int} : ev G call (.sl3 a b c st) env S = (ev G call a env S).bind fun x S => (if isEmp b then .ok none S else (ev G call b env S).bind fun d S => R.of (part d) S).bind fun l S => (if isEmp c then .ok none S else (ev G call c env S).bind fun d S => R.of (part d) S).bind fun h S => R.of (sl3D x l h st S) S := rfl
end
end PL

set_option Elab.async false
set_option linter.all false
set_option maxRecDepth 100000
set_option maxHeartbeats 1000000
/-! PML: sayings of runs: loops by an invariant of env and store. -/
namespace PL
open PySem
def Sat (P : RS → Prop) (r : RS) : Prop := P r
/-- goes on with Q, or else P -/
def NX (P : RS → Prop) (Q : Env → Store → Prop) : RS → Prop
  | .nx e S => Q e S
  | r => P r
/-- a pure def's end -/
def FinP (S : Store) (o : R D) : RS → Prop := fun r => fin S r = o
def finI : RS → R D
  | .nx _ S => .ok .non S
  | .rt d S => .ok d S
  | .ex c _ S => .ex c S
  | .bad => .bad
def FinI (o : R D) : RS → Prop := fun r => finI r = o
section
variable {P : RS → Prop} {Q : Env → Store → Prop} {S S' : Store} {e : Env} {d : D} {c : Nat} {o : R D}
@[simp] theorem sat_nx : Sat (NX P Q) (.nx e S) ↔ Q e S := Iff.rfl
@[simp] theorem sat_rt : Sat (NX P Q) (.rt d S) ↔ Sat P (.rt d S) := Iff.rfl
@[simp] theorem sat_ex : Sat (NX P Q) (.ex c e S) ↔ Sat P (.ex c e S) := Iff.rfl
@[simp] theorem sat_finP_rt : Sat (FinP S o) (.rt d S') ↔ R.of (frzR S' d) S = o := Iff.rfl
@[simp] theorem sat_finP_nx : Sat (FinP S o) (.nx e S') ↔ R.ok .non S = o := Iff.rfl
@[simp] theorem sat_finP_ex : Sat (FinP S o) (.ex c e S') ↔ R.ex c S = o := Iff.rfl
@[simp] theorem sat_finI_rt : Sat (FinI o) (.rt d S') ↔ R.ok d S' = o := Iff.rfl
@[simp] theorem sat_finI_nx : Sat (FinI o) (.nx e S') ↔ R.ok .non S' = o := Iff.rfl
@[simp] theorem sat_finI_ex : Sat (FinI o) (.ex c e S') ↔ R.ex c S' = o := Iff.rfl
end
@[simp] theorem frzR_scl' {S : Store} {d : D} (h : scl d = true) : frzR S d = some d := frzR_scl h
@[simp] theorem frzR_tl {α : Type} {f : α → D} {xs : List α} {S : Store} [o : Okf f] : frzR S (tl f xs) = some (tl f xs) := frzR_scl scl_tl
@[simp] theorem frzR_int {S : Store} {i : Int} : frzR S (.int i) = some (.int i) := rfl
@[simp] theorem frzR_bl {S : Store} {i : Bool} : frzR S (.bl i) = some (.bl i) := rfl
@[simp] theorem frzR_str {S : Store} {i : Str} : frzR S (.str i) = some (.str i) := rfl
@[simp] theorem frzR_non {S : Store} : frzR S .non = some .non := rfl
@[simp] theorem frzR_ref {S : Store} {α : Type} {f : α → D} {xs : List α} [o : Okf f] : frzR (.lst (xs.map f) :: S) (.ref 0) = some (ll f xs) := by
  show (if scls (xs.map f) then some (D.lst (xs.map f)) else none) = _
  rw [if_pos (scls_map o.sc xs)]
  rfl
@[simp] theorem bindT2 {a b : Nat} {x y : D} {env : Env} : bindT (.many [a, b]) (.tup [x, y]) env = some ((env.set a (some x)).set b (some y)) := rfl
@[simp] theorem bindT3 {a b c : Nat} {x y z : D} {env : Env} : bindT (.many [a, b, c]) (.tup [x, y, z]) env = some (((env.set a (some x)).set b (some y)).set c (some z)) := rfl
@[simp] theorem bindT4 {a b c d : Nat} {x y z w : D} {env : Env} : bindT (.many [a, b, c, d]) (.tup [x, y, z, w]) env = some ((((env.set a (some x)).set b (some y)).set c (some z)).set d (some w)) := rfl
section
variable {G : Tab} {call : Calls} {env : Env} {S : Store}
theorem pure_W {i k np nl : Nat} {b : T} {as as' : List D} {o : R D} {F : Fn} [h : Has G i F] (hF : F = ⟨true, np, nl, b⟩) (hl : as.length = np) (hf : frzAs S as = some as') (he : Sat (FinP S o) (exT G (run G k) b (startE nl as') [])) :
    run G (k + 1) i as S = o := by
  rw [run_pure (hF ▸ h.h) hl hf]
  exact he
theorem imp_W {i k np nl : Nat} {b : T} {as : List D} {o : R D} {F : Fn} [h : Has G i F] (hF : F = ⟨false, np, nl, b⟩) (hl : as.length = np) (he : Sat (FinI o) (exT G (run G k) b (startE nl as) S)) :
    run G (k + 1) i as S = o := by
  have hg : G.fns i = some ⟨false, np, nl, b⟩ := hF ▸ h.h
  have : run G (k + 1) i as S = finI (exT G (run G k) b (startE nl as) S) := by
    simp only [run, hg]
    rw [if_neg (by simpa using hl)]
    simp only [Bool.false_eq_true, if_false]
    cases exT G (run G k) b (startE nl as) S <;> rfl
  rw [this]
  exact he
theorem goFor_W {β : Type} {P : RS → Prop} {body : D → Env → Store → RS} {enc : β → D} {f : Env → Store → RS} {I : Nat → Env → Store → Prop} {n : Nat} :
    ∀ (xs : List β) (i : Nat) (env : Env) (S : Store), I i env S → (∀ j x env S, xs[j]? = some x → I (i + j) env S → Sat (NX P (I (i + j + 1))) (body (enc x) env S)) →
    i + xs.length = n → (∀ env S, I n env S → Sat P (f env S)) → Sat P ((goFor body (xs.map enc) env S).andThen f)
  | [], i, env, S, h0, _, hn, hk => by
    subst hn
    exact hk env S h0
  | x :: xs, i, env, S, h0, h, hn, hk => by
    have h1 := h 0 x env S rfl h0
    simp only [List.map_cons, goFor]
    cases e : body (enc x) env S with
    | nx env' S' =>
      rw [e] at h1
      simp only [RS.andThen_nx]
      refine goFor_W xs (i + 1) env' S' h1 (fun j y b u hj hi => ?_) (by rw [← hn, List.length_cons]; omega) hk
      have q := h (j + 1) y b u (by simpa using hj) (by rw [show i + (j + 1) = i + 1 + j by omega]; exact hi)
      rw [show i + (j + 1) + 1 = i + 1 + j + 1 by omega] at q
      exact q
    | rt d S' => rw [e] at h1; exact h1
    | ex c e' S' => rw [e] at h1; exact h1
    | bad => rw [e] at h1; exact h1
/-- a for, by an invariant of env and store -/
theorem x_forWS {β : Type} {P : RS → Prop} {ik : IK} {src : E} {b k : T} {tg : Tg} (I : Nat → Env → Store → Prop) {enc : β → D} {xs : List β} {d : D} {S' : Store}
    (hs : ev G call src env S = .ok d S') (hi : mkIt ik (srcL ik d) S' = some (.items (xs.map enc))) (h0 : I 0 env S')
    (h : ∀ j x env S, xs[j]? = some x → I j env S → Sat (NX P (I (j + 1))) (turnB G call b tg (enc x) env S))
    (hk : ∀ env S, I xs.length env S → Sat P (exT G call k env S)) : Sat P (exT G call (.for_ ik src tg b k) env S) := by
  rw [x_for_eq, hs]
  simp only [R.stm_ok, hi, goForI]
  refine goFor_W xs 0 env S' h0 (fun j x env S hj hI => ?_) (Nat.zero_add _) hk
  rw [Nat.zero_add] at hI ⊢
  exact h j x env S hj hI
theorem x_forW {β : Type} {P : RS → Prop} {ik : IK} {src : E} {b k : T} {tg : Tg} (I : Nat → Env → Store → Prop) {enc : β → D} {xs : List β} {d : D}
    (hs : ev G call src env S = .ok d S) (hi : mkIt ik (srcL ik d) S = some (.items (xs.map enc))) (h0 : I 0 env S)
    (h : ∀ j x env S, xs[j]? = some x → I j env S → Sat (NX P (I (j + 1))) (turnB G call b tg (enc x) env S))
    (hk : ∀ env S, I xs.length env S → Sat P (exT G call k env S)) : Sat P (exT G call (.for_ ik src tg b k) env S) := x_forWS I hs hi h0 h hk
/-- a while: the measure falls -/
theorem x_whlW {P : RS → Prop} {c : E} {b k : T} (I : Nat → Env → Store → Prop) {m0 : Nat} (h0 : I m0 env S) (hm : m0 < 1000000000)
    (h : ∀ m env S, I m env S → ∃ t S', mapT (ev G call c env S) = .ok t S' ∧ (if t then Sat (NX P (fun e s => ∃ m', m' < m ∧ I m' e s)) (exT G call b env S') else Sat P (exT G call k env S'))) :
    Sat P (exT G call (.whl c b k) env S) := by
  have key : ∀ (n m : Nat) (env : Env) (S : Store), I m env S → m < n → Sat P ((goWhl (fun env S => mapT (ev G call c env S)) (fun env S => exT G call b env S) n env S).andThen fun env S => exT G call k env S) := by
    intro n
    induction n with
    | zero => intro m env S _ h; omega
    | succ n ih =>
      intro m env S hI hl
      obtain ⟨t, S', e, q⟩ := h m env S hI
      simp only [goWhl, e, R.stm_ok]
      cases t with
      | false => simpa using q
      | true =>
        simp only [if_true] at q ⊢
        cases eb : exT G call b env S' with
        | nx env' S'' =>
          rw [eb] at q
          obtain ⟨m', hm', hI'⟩ := q
          simp only [RS.andThen_nx]
          exact ih m' env' S'' hI' (by omega)
        | rt d S' => rw [eb] at q; exact q
        | ex c e' S' => rw [eb] at q; exact q
        | bad => rw [eb] at q; exact q
  show Sat P ((goWhl _ _ LOOP env S).andThen _)
  exact key LOOP m0 env S h0 (by rw [LOOP_eq]; exact hm)
end
end PL
namespace PL
open PySem
section
variable {G : Tab} {call : Calls} {env : Env} {S : Store}
/-- both ways of an if lead to one saying -/
theorem x_ifsW {P : RS → Prop} {c : E} {a b k : T} {t : Bool} {S' : Store} (Q : Env → Store → Prop) (hc : mapT (ev G call c env S) = .ok t S') (ha : t = true → Sat (NX P Q) (exT G call a env S')) (hb : t = false → Sat (NX P Q) (exT G call b env S')) (hk : ∀ e s, Q e s → Sat P (exT G call k e s)) :
    Sat P (exT G call (.ifs c a b k) env S) := by
  rw [x_ifs, hc]
  simp only [R.stm_ok]
  have key : ∀ r, Sat (NX P Q) r → Sat P (r.andThen fun env S => exT G call k env S) := fun r h => by
    cases r with
    | nx e s => exact hk e s h
    | _ => exact h
  cases t with
  | true => exact key _ (ha rfl)
  | false => exact key _ (hb rfl)
@[simp] theorem sl_tup {xs : List D} {lo hi : Option Int} : slD (.tup xs) lo hi S = some (.tup (cutD xs lo hi)) := rfl
@[simp] theorem list_tup {xs : List D} : bfD .list [.tup xs] S = some (.lst xs) := rfl
end
end PL

set_option Elab.async false
set_option linter.all false
set_option maxRecDepth 100000
set_option maxHeartbeats 1000000
/-! PMN: blocks: many_blocks, block_range, table_of, right_ranges. -/
namespace PL
open PySem
section
variable {G : Tab} {call : Calls} {env : Env} {S : Store} {k : Nat}
/-! store reads, unfolded -/
@[simp] theorem lst_ref {n : Nat} : lstOf (.ref n) S = (match S[n]? with | some (.lst xs) => some xs | _ => none) := rfl
@[simp] theorem seq_ref {n : Nat} : seqOf (.ref n) S = lstOf (.ref n) S := rfl
@[simp] theorem truthy_ref {n : Nat} : truthy (.ref n) S = (match S[n]? with | some (.lst xs) => some (!xs.isEmpty) | some (.dct xs) => some (!xs.isEmpty) | _ => none) := rfl
@[simp] theorem sl_ref {n : Nat} {lo hi : Option Int} : slD (.ref n) lo hi S = (match lstOf (.ref n) S with | some xs => some (.lst (cutD xs lo hi)) | none => none) := rfl
@[simp] theorem ix_refI {n : Nat} {i : Int} : getD_ (.ref n) (.int i) S = (match lstOf (.ref n) S with | some xs => L2.atI xs i | none => none) := rfl
@[simp] theorem tuple_ref {n : Nat} : bfD .tuple [.ref n] S = (lstOf (.ref n) S).map .tup := rfl
theorem len_refL {n : Nat} {xs : List D} (h : S[n]? = some (.lst xs)) : bfD .len [.ref n] S = some (.int xs.length) := by
  simp only [bfD, lenF, lenD, seqOf, lstOf, h, Option.map_some]
@[simp] theorem truthy_lst {xs : List D} : truthy (.lst xs) S = some (!xs.isEmpty) := rfl
@[simp] theorem len_lst {xs : List D} : bfD .len [.lst xs] S = some (.int xs.length) := rfl
theorem ix_lst {xs : List D} {i : Int} : getD_ (.lst xs) (.int i) S = L2.atI xs i := rfl
theorem ix_tup {xs : List D} {i : Int} : getD_ (.tup xs) (.int i) S = L2.atI xs i := rfl
theorem ix0_tup {x : D} {xs : List D} : getD_ (.tup (x :: xs)) (.int 0) S = some x := by rw [ix_tup, atI_nn (by decide)]; rfl
@[simp] theorem len_ref0 {xs : List D} {S : Store} : bfD .len [.ref 0] (.lst xs :: S) = some (.int xs.length) := len_refL rfl
@[simp] theorem len_ref1 {xs : List D} {a : Ob} {S : Store} : bfD .len [.ref 1] (a :: .lst xs :: S) = some (.int xs.length) := len_refL rfl
@[simp] theorem list_refL {n : Nat} {xs : List D} (h : S[n]? = some (.lst xs)) : bfD .list [.ref n] S = some (.lst xs) := by
  simp only [bfD, listF, itemsOf, seqOf, lstOf, h, Option.map_some]
theorem range_get {m j x : Nat} (h : (List.range m)[j]? = some x) : x = j ∧ j < m := by
  have lt := (List.getElem?_eq_some_iff.mp h).1
  rw [List.length_range] at lt
  rw [List.getElem?_range lt] at h
  cases h
  exact ⟨rfl, lt⟩
def nB (n z : Nat) : Nat := (n + z - 1) / z
def bg (z k : Nat) : Int := ((k * z : Nat) : Int)
def en (n z k : Nat) : Int := ((min n ((k + 1) * z) : Nat) : Int)
def blk (xs : List Int) (z k : Nat) : List Int := (xs.drop (k * z)).take z
theorem ev_compG {α β : Type} {ik : IK} {src c e : E} {tg : Tg} {d : D} {enc : β → D} (fo : α → D) (g : β → α) {xs : List β} (hs : ev G call src env S = .ok d S) (hi : mkIt ik (srcL ik d) S = some (.items (xs.map enc))) (hl : xs.length ≤ SZ) (h : ∀ x ∈ xs, compB G call tg c e env (enc x) S = .ok (some (fo (g x))) S) :
    ev G call (.comp ik src tg c e) env S = .ok (ll fo (xs.map g)) S := by
  rw [ll, List.map_map]
  exact ev_compM (fun x => fo (g x)) hs hi hl h
theorem enumG {α : Type} {f : α → D} (d : α) (xs : List α) : (((List.range xs.length).zip xs).map fun p => D.tup [.int (p.1 : Nat), f p.2]) = (List.range xs.length).map fun k => D.tup [.int (k : Nat), f (xs.getD k d)] := by
  refine List.ext_getElem (by simp) fun i h1 h2 => ?_
  simp at h1
  simp [h1]
theorem mkIt_enumG {α : Type} {f : α → D} {xs : List α} (d : α) : mkIt .enum [tl f xs] S = some (.items ((List.range xs.length).map fun k => D.tup [.int (k : Nat), f (xs.getD k d)])) := by
  rw [mkIt_enumtl, enumG d]
end
end PL

set_option Elab.async false
set_option linter.all false
set_option maxRecDepth 100000
set_option maxHeartbeats 1000000
/-! PMO: found_blocks, found by hand, files of pieces. -/
namespace PL
open PySem
section
variable {G : Tab} {call : Calls} {env : Env} {S : Store} {k : Nat}
theorem app_ok {n : Nat} {xs : List D} (h : S[n]? = some (.lst xs)) : bmOk .append (.ref n) S = true := by
  simp only [bmOk, isLstR, isDctR, h]
/-- how long a block is -/
def widF (n z k : Nat) : Nat := min n ((k + 1) * z) - k * z
/-! files of pieces -/
def Byt (xs : List Int) : Prop := ∀ x ∈ xs, 0 ≤ x ∧ x < 256
end
end PL

set_option Elab.async false
set_option linter.all false
set_option maxRecDepth 100000
set_option maxHeartbeats 1000000
/-! PMP: plan, to_fetch, built, mended. -/
namespace PL
open PySem
abbrev ST : Type := Bool × Int × Int
def stD (s : ST) : D := .tup [.str (if s.1 then "fetch" else "copy"), .int s.2.1, .int s.2.2]
instance : Okf stD := ⟨fun _ => rfl, fun _ => rfl⟩
section
variable {G : Tab} {call : Calls} {env : Env} {S : Store} {k : Nat}
end
end PL

set_option Elab.async false
set_option linter.all false
set_option maxRecDepth 100000
set_option maxHeartbeats 1000000
/-! PMQ: what steps make: plain laws of plan. -/
namespace PL
open PySem
def isF (s : ST) : Bool := s.1
def prF (s : ST) : PI := (s.2.1, s.2.2)
def fetF (ss : List ST) : List PI := (ss.filter isF).map prF
def outS (old new : List Int) (s : ST) : List Int := if s.1 then cutD new (some s.2.1) (some s.2.2) else cutD old (some s.2.1) (some (s.2.1 + s.2.2))
def contF (old new : List Int) (fo : List (Option Int)) (z n k : Nat) : List Int := match fo.getD k none with
  | none => blk new z k
  | some p => cutD old (some p) (some (p + (widF n z k : Nat)))
@[simp] theorem fet_t (a e : Int) : fetF [(true, a, e)] = [(a, e)] := rfl
@[simp] theorem fet_f (a e : Int) : fetF [(false, a, e)] = [] := rfl
/-- what the steps ahead of j make, and their last one -/
structure PlanI (old new : List Int) (fo : List (Option Int)) (z n j : Nat) (acc : List ST) : Prop where
  out : acc.flatMap (outS old new) = (List.range j).flatMap (contF old new fo z n)
  lastT : ∀ a e, acc.getLast? = some (true, a, e) → 0 ≤ a ∧ a < e ∧ e = min (n : Int) ((j * z : Nat) : Int)
  lastC : ∀ a w, acc.getLast? = some (false, a, w) → 0 ≤ a ∧ 0 ≤ w
  can : Can (fetF acc)
  mem : ∀ x, inR (fetF acc) x ↔ ∃ k, k < j ∧ fo.getD k none = none ∧ bg z k ≤ x ∧ x < en n z k
  lt : ∀ p ∈ fetF acc, p.2 ≤ ((j * z : Nat) : Int)
  lt' : (∀ a e, acc.getLast? ≠ some (true, a, e)) → ∀ p ∈ fetF acc, p.2 < ((j * z : Nat) : Int) ∨ j = 0
  wd : width (fetF acc) = ((List.range j).filter fun k => (fo.getD k none).isNone).foldr (fun k a => ((widF n z k : Nat) : Int) + a) 0
/-! blocks of what is made -/
section
variable {old new : List Int} {fo : List (Option Int)} {z n : Nat}
end
end PL

set_option Elab.async false
set_option linter.all false
set_option maxRecDepth 100000
set_option maxHeartbeats 1000000
/-! PMR: runs of to_fetch, built, the law's own plan, mended. -/
namespace PL
open PySem
section
variable {G : Tab} {call : Calls} {env : Env} {S : Store} {k : Nat}
theorem ix1_tup {a b : D} {xs : List D} : getD_ (.tup (a :: b :: xs)) (.int 1) S = some b := by rw [ix_tup, atI_nn (by decide)]; rfl
theorem ix2_tup {a b c : D} {xs : List D} : getD_ (.tup (a :: b :: c :: xs)) (.int 2) S = some c := by rw [ix_tup, atI_nn (by decide)]; rfl
theorem eqvAll_int : ∀ xs ys : List Int, PyData.eqvAll (pyTs (xs.map D.int)) (pyTs (ys.map D.int)) = decide (xs = ys)
  | [], [] => rfl
  | [], _ :: _ => by simp [pyTs, PyData.eqvAll]
  | _ :: _, [] => by simp [pyTs, PyData.eqvAll]
  | x :: xs, y :: ys => by
    simp only [List.map_cons, pyTs, PyData.eqvAll, pyT, PyData.eqv, eqvAll_int xs ys]
    by_cases h : x = y <;> by_cases h' : xs = ys <;> simp [h, h']
theorem shs_int (n : Nat) : ∀ xs : List Int, shs n (xs.map D.int) = true
  | [] => by simp [shs]
  | x :: xs => by simp [shs, sh, shs_int n xs]
theorem eqD_tlI {xs ys : List Int} : eqD (tl .int xs) (tl .int ys) = some (decide (xs = ys)) := by
  have hx : ∀ xs : List Int, sh 8 (tl .int xs) = true := fun xs => by simp [tl, sh, shs_int]
  show (if sh 8 (tl .int xs) && sh 8 (tl .int ys) then some (eqv2 (tl .int xs) (tl .int ys)) else none) = _
  rw [hx, hx]
  simp only [Bool.and_self, if_true]
  congr 1
  exact eqvAll_int xs ys
@[simp] theorem eq_tlI {xs ys : List Int} : cop .eq (tl .int xs) (tl .int ys) S = some (decide (xs = ys)) := eqD_tlI
@[simp] theorem ne_tlI {xs ys : List Int} : cop .ne (tl .int xs) (tl .int ys) S = some (!decide (xs = ys)) := by
  show (eqD (tl .int xs) (tl .int ys)).map not = _
  rw [eqD_tlI]; rfl
@[simp] theorem ne_str {a b : Str} : cop .ne (.str a) (.str b) S = some (!decide (a = b)) := rfl
/-! mended -/
end
end PL

set_option Elab.async false
set_option linter.all false
set_option maxRecDepth 100000
set_option maxHeartbeats 1000000
/-! PMS: texts: numbers, items, asks. -/
namespace PL
open PySem
abbrev i_number_of : Nat := 39
/-- number_of: text 0 sign 1 -/
def b_number_of : T := (.ifs (.or (.nt (.chain .le .le (.con (.int 1)) (.bf .len (.cons (.var 0) .nil)) (.glb 5))) (.one (.nt (.val (.bf .all (.cons (.comp .plain (.var 0) (.one 1) .emp (.cmp .inn (.var 1) (.glb 4))) .nil))))))
  (.ret (.con .non))
  .nil
  (.ifs (.and (.cmp .eq (.ix (.var 0) (.con (.int 0))) (.con (.str "0"))) (.one (.cmp .gt (.bf .len (.cons (.var 0) .nil)) (.con (.int 1)))))
  (.ret (.con .non))
  .nil
  (.ret (.bf .int (.cons (.var 0) .nil)))))
def f_number_of : Fn := ⟨true, 1, 2, b_number_of⟩
/-! ### texts as lists of signs -/
def tx (l : List Nat) : Str := ⟨l.toArray⟩
@[simp] theorem tl_tx (l : List Nat) : TL.tl (tx l) = l := rfl
@[simp] theorem tx_tl (x : Str) : tx (TL.tl x) = x := TL.mk_tl x
theorem tx_inj {a b : List Nat} : tx a = tx b ↔ a = b := ⟨fun h => by have := congrArg TL.tl h; simpa using this, fun h => h ▸ rfl⟩
theorem len_tx (l : List Nat) : (tx l).length = l.length := by rw [TL.len_tl, tl_tx]
theorem tx_app (a b : List Nat) : tx a ++ tx b = tx (a ++ b) := TL.ext_tl (by rw [TL.tl_append, tl_tx, tl_tx, tl_tx])
theorem eq_tx {x : Str} {l : List Nat} (h : TL.tl x = l) : x = tx l := by rw [← h, tx_tl]
theorem tx_0 : ("" : Str) = tx [] := eq_tx (by decide +kernel)
theorem tx_n0 : ("0" : Str) = tx [48] := eq_tx (by decide +kernel)
theorem tx_dash : ("-" : Str) = tx [45] := eq_tx (by decide +kernel)
theorem tx_blank : (" " : Str) = tx [32] := eq_tx (by decide +kernel)
theorem sg_tx (c : Nat) : sg c = tx [c] := rfl
def figd : List Nat := [48, 49, 50, 51, 52, 53, 54, 55, 56, 57]
theorem figd_tl : (("0123456789" : Str)).cps.toList = figd := by decide +kernel
theorem mem_fig {c : Nat} : c ∈ figd ↔ 48 ≤ c ∧ c ≤ 57 := by
  simp only [figd, List.mem_cons, List.not_mem_nil, or_false]; omega
/-- the number that figures tell -/
def numO (l : List Nat) : Option Int := if (1 ≤ l.length ∧ l.length ≤ 9) ∧ (l.all fun c => decide (c ∈ figd)) = true ∧ ¬ (l.head? = some 48 ∧ 1 < l.length) then some ((NumText.digitsVal l : Nat) : Int) else none
theorem numO_nil : numO [] = none := by simp [numO]
theorem numL_head {n : Nat} : 1 ≤ n → (TL.numL n).head? ≠ some 48 := by
  induction n using Nat.strongRecOn with
  | _ n ih =>
    intro h
    by_cases q : n < 10
    · rw [TL.numL_lt q]; simp; omega
    · rw [TL.numL_step (by omega)]
      have := ih (n / 10) (by omega) (by omega)
      have ne := TL.numL_ne (n / 10)
      cases hl : TL.numL (n / 10) with
      | nil => exact absurd hl ne
      | cons a r => rw [hl] at this; simpa using this
theorem numO_num {n : Nat} (h : n < 1000000000) : numO (TL.numL n) = some (n : Int) := by
  unfold numO
  rw [if_pos, TL.numL_val]
  refine ⟨⟨List.length_pos_iff.mpr (TL.numL_ne n), TL.numL_len (by decide) (by omega)⟩, ?_, ?_⟩
  · rw [List.all_eq_true]
    intro c hc
    have := TL.numL_digits n c hc
    exact decide_eq_true (mem_fig.mpr this)
  · rintro ⟨h1, h2⟩
    rcases Nat.eq_zero_or_pos n with rfl | hn
    · rw [TL.numL_lt (by omega)] at h2; simp at h2
    · exact numL_head hn h1
/-- the signs of a number -/
def nL (i : Int) : List Nat := TL.tl (txtI i)
theorem txtI_nL (i : Int) : txtI i = tx (nL i) := (tx_tl _).symm
theorem nL_eq {i : Int} (h0 : 0 ≤ i) : nL i = TL.numL i.toNat := txtI_tl h0
theorem nL_len {i : Int} (h0 : 0 ≤ i) (h : i < 1000000000) : (nL i).length ≤ 9 := by
  have := txtI_len h0 h
  rwa [TL.len_tl] at this
theorem numO_txt {i : Int} (h0 : 0 ≤ i) (h : i < 1000000000) : numO (nL i) = some i := by
  rw [nL_eq h0, numO_num (by omega)]; congr 1; omega
theorem dv_snoc (l : List Nat) (c : Nat) : NumText.digitsVal (l ++ [c]) = NumText.digitsVal l * 10 + (c - 48) := by
  simp [NumText.digitsVal, List.foldl_append]
theorem dv_pos {a : Nat} {l : List Nat} (h : 48 < a) : 1 ≤ NumText.digitsVal (a :: l) := by
  have : ∀ (l : List Nat) (v : Nat), 1 ≤ v → 1 ≤ l.foldl (fun acc c => acc * 10 + (c - 48)) v := by
    intro l
    induction l with
    | nil => intro v h; exact h
    | cons c l ih => intro v h; exact ih (v * 10 + (c - 48)) (by omega)
  exact this l (0 * 10 + (a - 48)) (by omega)
/-- figures without a 0 ahead are a number's -/
theorem num_back : ∀ (n : Nat) (l : List Nat), l.length = n → l ≠ [] → (∀ c ∈ l, 48 ≤ c ∧ c ≤ 57) → ¬ (l.head? = some 48 ∧ 1 < l.length) → TL.numL (NumText.digitsVal l) = l := by
  intro n
  induction n with
  | zero => intro l h hn; cases l <;> simp_all
  | succ n ih =>
    intro l hl hn hd hz
    rcases l.eq_nil_or_concat with rfl | ⟨r, c, rfl⟩
    · exact absurd rfl hn
    · rw [List.concat_eq_append] at *
      have hc := hd c (by simp)
      rw [dv_snoc]
      rcases r with _ | ⟨a, r⟩
      · have e : NumText.digitsVal [] = 0 := rfl
        rw [e, TL.numL_lt (by omega)]
        simp; omega
      · have ha := hd a (by simp)
        have hz' : a ≠ 48 := by
          rintro rfl
          exact hz ⟨by simp, by simp⟩
        have := dv_pos (a := a) (l := r) (by omega)
        rw [TL.numL_step (by omega)]
        have e1 : (NumText.digitsVal (a :: r) * 10 + (c - 48)) / 10 = NumText.digitsVal (a :: r) := by omega
        have e2 : 48 + (NumText.digitsVal (a :: r) * 10 + (c - 48)) % 10 = c := by omega
        rw [e1, e2, ih (a :: r) (by simpa using hl) (by simp) (fun c h => hd c (by simp at h ⊢; rcases h with h | h <;> simp [h])) (by rintro ⟨h1, _⟩; simp at h1; exact hz' h1)]
theorem numO_back {l : List Nat} {i : Int} (h : numO l = some i) : 0 ≤ i ∧ i < 1000000000 ∧ l = nL i := by
  unfold numO at h
  split at h
  · rename_i q
    obtain ⟨⟨h1, h2⟩, h3, h4⟩ := q
    simp only [Option.some.injEq] at h
    subst h
    have hd : ∀ c ∈ l, 48 ≤ c ∧ c ≤ 57 := fun c hc => mem_fig.mp (of_decide_eq_true (List.all_eq_true.mp h3 c hc))
    have e := num_back _ l rfl (by intro h; subst h; simp at h1) hd h4
    have bd : ∀ (l : List Nat), (∀ c ∈ l, 48 ≤ c ∧ c ≤ 57) → ∀ v, l.foldl (fun acc c => acc * 10 + (c - 48)) v < (v + 1) * 10 ^ l.length := by
      intro l
      induction l with
      | nil => intro _ v; simp
      | cons c l ih =>
        intro hd v
        have hc := hd c (by simp)
        have := ih (fun d h => hd d (by simp [h])) (v * 10 + (c - 48))
        have e : (v * 10 + (c - 48) + 1) * 10 ^ l.length ≤ ((v + 1) * 10) * 10 ^ l.length := Nat.mul_le_mul_right _ (by omega)
        rw [List.foldl_cons, List.length_cons, Nat.pow_succ, Nat.mul_comm (10 ^ l.length) 10, ← Nat.mul_assoc]
        omega
    have b := bd l hd 0
    have p : (10 : Nat) ^ l.length ≤ 10 ^ 9 := Nat.pow_le_pow_right (by decide) h2
    refine ⟨by omega, ?_, ?_⟩
    · have : NumText.digitsVal l < 1000000000 := by
        unfold NumText.digitsVal
        omega
      omega
    · rw [nL_eq (by omega), Int.toNat_natCast, e]
  · cases h
section
variable {G : Tab} {call : Calls} {env : Env} {S : Store} {k : Nat}
theorem in_fig {c : Nat} : cop .inn (.str (sg c)) (.str "0123456789") S = some (decide (c ∈ figd)) := by
  show some (!(Builtin.Str.occurrences ("0123456789" : Str) ⟨#[c]⟩ 0 ("0123456789" : Str).length 1).isEmpty) = _
  rw [PySem.StrLaws.found_one, figd_tl]
theorem int_dig {l : List Nat} (h : ∀ c ∈ l, 48 ≤ c ∧ c ≤ 57) (h1 : l ≠ []) (h2 : l.length ≤ 640) : bfD .int [.str (tx l)] S = some (.int (NumText.digitsVal l : Nat)) := by
  show (if (tx l).length ≤ 640 then (PySem.intText? (tx l)).map D.int else none) = _
  rw [if_pos (by rw [len_tx]; exact h2), PySem.intText_digits (x := tx l) h h1 (by rw [len_tx]; omega)]; rfl
theorem len_txt {l : List Nat} (h : l.length ≤ 1000000) : bfD .len [.str (tx l)] S = some (.int l.length) := by
  rw [len_str (by rw [len_tx]; exact h), len_tx]
@[simp] theorem mkIt_tx {l : List Nat} : mkIt .plain [.str (tx l)] S = some (.items (l.map sgD)) := rfl
theorem sg_eq0 {c : Nat} : (sg c = ("0" : Str)) = (c = 48) := by
  rw [tx_n0, sg_tx, tx_inj]; simp
theorem r_number_of [h : Has G i_number_of f_number_of] [h4 : HasC G 4 (.str "0123456789")] [h5 : HasC G 5 (.int 9)] {l : List Nat} (hx : l.length ≤ 1000000) :
    run G (k + 1) i_number_of [.str (tx l)] S = .ok (opD .int (numO l)) S := by
  have ls := fun S => len_txt (S := S) hx
  have cm : ∀ env : Env, env[0]? = some (some (.str (tx l))) → env.length = 2 → ev G (run G k) (.comp .plain (.var 0) (.one 1) .emp (.cmp .inn (.var 1) (.glb 4))) env [] = .ok (.lst (l.map fun c => .bl (decide (c ∈ figd)))) [] := fun env e0 el => by
    obtain ⟨a, b, rfl⟩ : ∃ a b, env = [a, b] := by match env, el with | [a, b], _ => exact ⟨a, b, rfl⟩
    simp at e0; subst e0
    exact ev_compM (enc := sgD) (xs := l) (d := .str (tx l)) (fun c => .bl (decide (c ∈ figd))) (by simp) (by simp) (by unfold SZ; omega) (fun c hc => by simp [compB, sgD, in_fig])
  have al : bfD .all [.lst (l.map fun c => .bl (decide (c ∈ figd)))] [] = some (.bl (l.all fun c => decide (c ∈ figd))) := bf_all_map
  refine pure_W (h := h) rfl rfl (by simp [frzAs]; rfl) ?_
  have cm := cm [some (.str (tx l)), none] rfl rfl
  simp only [b_number_of, startE]
  by_cases q1 : 1 ≤ l.length
  · by_cases q2 : l.length ≤ 9
    · have q1' : (1 : Int) ≤ l.length := by omega
      have q2' : (l.length : Int) ≤ 9 := by omega
      by_cases q3 : (l.all fun c => decide (c ∈ figd)) = true
      · have hd : ∀ c ∈ l, 48 ≤ c ∧ c ≤ 57 := fun c hc => mem_fig.mp (of_decide_eq_true (List.all_eq_true.mp q3 c hc))
        have nn : l ≠ [] := by intro e; rw [e] at q1; simp at q1
        have ix : ∀ S, getD_ (.str (tx l)) (.int 0) S = some (.str (sg (l.getD 0 0))) := fun S => ix_str (by rw [len_tx]; omega) (by decide) (by rw [len_tx]; exact q1)
        have hh : l.head? = some (l.getD 0 0) := by cases e : l with
          | nil => exact absurd e nn
          | cons a r => rfl
        have id : ∀ S, bfD .int [.str (tx l)] S = some (.int (NumText.digitsVal l : Nat)) := fun S => int_dig hd nn (by omega)
        have q4 : (numO l) = if l.getD 0 0 = 48 ∧ 1 < l.length then none else some ((NumText.digitsVal l : Nat) : Int) := by
          unfold numO
          rw [hh]
          by_cases q : l.getD 0 0 = 48 ∧ 1 < l.length
          · rw [if_neg (by simp only [Option.some.injEq]; exact fun h => h.2.2 q), if_pos q]
          · rw [if_pos ⟨⟨q1, q2⟩, q3, by simpa using q⟩, if_neg q]
        rw [q4]
        by_cases q5 : l.getD 0 0 = 48
        · by_cases q6 : 1 < l.length
          · have q6' : (1 : Int) < l.length := by omega
            simp [ls, q1', q2', cm, al, q3, ix, sg_eq0, q5, q6, q6', opD, -List.getD_eq_getElem?_getD]
          · have q6' : ¬ (1 : Int) < l.length := by omega
            simp [ls, q1', q2', cm, al, q3, ix, sg_eq0, q5, q6, q6', id, opD, -List.getD_eq_getElem?_getD]
        · simp [ls, q1', q2', cm, al, q3, ix, sg_eq0, q5, id, opD, -List.getD_eq_getElem?_getD]
      · have e : numO l = none := by unfold numO; rw [if_neg fun h => q3 h.2.1]
        have q3' : (l.all fun c => decide (c ∈ figd)) = false := by simpa using q3
        rw [e]
        simp [ls, q1', q2', cm, al, q3', opD]
    · have q1' : (1 : Int) ≤ l.length := by omega
      have q2' : ¬ (l.length : Int) ≤ 9 := by omega
      have e : numO l = none := by unfold numO; rw [if_neg fun h => q2 h.1.2]
      rw [e]
      simp [ls, q1', q2', opD]
  · have q1' : ¬ (1 : Int) ≤ l.length := by omega
    have e : numO l = none := by unfold numO; rw [if_neg fun h => q1 h.1.1]
    rw [e]
    simp [ls, q1', opD]
@[simp] theorem ok_starts {a : Str} : bmOk .startswith (.str a) S = true := rfl
@[simp] theorem ok_split {a : Str} : bmOk .split (.str a) S = true := rfl
@[simp] theorem ok_part {a : Str} : bmOk .partition (.str a) S = true := rfl
/-! ### splitting at one sign -/
abbrev spC (s : Nat) (l : List Nat) : List (List Nat) := TL.spl [s] 0 [] l
theorem pre1 {s c : Nat} {r : List Nat} : TL.pre [s] (c :: r) = decide (c = s) := by
  show ((c :: r).take 1 == [s]) = _
  by_cases h : c = s <;> simp [h]
theorem spl_cons {s c : Nat} {acc r : List Nat} : TL.spl [s] 0 acc (c :: r) = if c = s then acc :: TL.spl [s] 0 [] r else TL.spl [s] 0 (acc ++ [c]) r := by
  by_cases h : c = s
  · rw [if_pos h, TL.spl_hit (by rw [pre1]; simpa using h)]; rfl
  · rw [if_neg h, TL.spl_miss (by rw [pre1]; simpa using h)]
theorem par_cons {s c : Nat} {acc r : List Nat} : TL.par [s] acc (c :: r) = if c = s then some (acc, r) else TL.par [s] (acc ++ [c]) r := by
  by_cases h : c = s
  · rw [if_pos h, TL.par_hit (by rw [pre1]; simpa using h)]; rfl
  · rw [if_neg h, TL.par_miss (by rw [pre1]; simpa using h)]
theorem spl_len (s : Nat) : ∀ (l acc : List Nat), (TL.spl [s] 0 acc l).length ≤ l.length + 1 ∧ ∀ p ∈ TL.spl [s] 0 acc l, p.length ≤ acc.length + l.length
  | [], acc => by simp [TL.spl_nil]
  | c :: r, acc => by
    rw [spl_cons]
    by_cases h : c = s
    · rw [if_pos h]
      obtain ⟨h1, h2⟩ := spl_len s r []
      refine ⟨by simp only [List.length_cons]; omega, fun p hp => ?_⟩
      rcases List.mem_cons.mp hp with rfl | hp
      · omega
      · have := h2 p hp; simp only [List.length_cons, List.length_nil] at *; omega
    · rw [if_neg h]
      obtain ⟨h1, h2⟩ := spl_len s r (acc ++ [c])
      refine ⟨by simp only [List.length_cons]; omega, fun p hp => ?_⟩
      have := h2 p hp; simp only [List.length_cons, List.length_append, List.length_nil] at *; omega
theorem spC_len (s : Nat) (l : List Nat) : (spC s l).length ≤ l.length + 1 ∧ ∀ p ∈ spC s l, p.length ≤ l.length := by
  obtain ⟨a, b⟩ := spl_len s l []
  exact ⟨a, fun p hp => by have := b p hp; simpa using this⟩
theorem par_some (s : Nat) : ∀ (l acc a b : List Nat), TL.par [s] acc l = some (a, b) → acc ++ l = a ++ s :: b
  | [], acc, a, b, h => by simp [TL.par] at h
  | c :: r, acc, a, b, h => by
    rw [par_cons] at h
    by_cases e : c = s
    · rw [if_pos e] at h
      simp only [Option.some.injEq, Prod.mk.injEq] at h
      rw [← h.1, ← h.2, e]
    · rw [if_neg e] at h
      have := par_some s r _ a b h
      simpa using this
theorem split_tx {l : List Nat} {y : Str} {s : Nat} (ey : TL.tl y = [s]) (hs : s < 256) : Txt.split (tx l) y = (spC s l).map tx := by
  refine TL.map_tl_inj ?_
  rw [TL.split_spl (tx l) y (by rw [ey]; simp) (TL.kind_ok (by
    have : y.cps = #[s] := by apply Array.toList_inj.mp; exact ey
    rw [this]; simp [hs])), ey, List.map_map]
  exact ((List.map_congr_left fun p _ => rfl).trans (List.map_id _)).symm
theorem part_tx {l : List Nat} {y : Str} {s : Nat} (ey : TL.tl y = [s]) : Txt.partition (tx l) y = match TL.par [s] [] l with
    | some (a, b) => (tx a, y, tx b)
    | none => (tx l, Str.empty, Str.empty) := by
  rw [TL.partition_par (tx l) y (by rw [ey]; simp), ey]; rfl
/-- an answer, or a refusal -/
def exO {α : Type} (x : Nat) (f : α → D) (o : Option α) (S : Store) : R D := match o with
  | some a => .ok (f a) S
  | none => .ex x S
@[simp] theorem exO_some {α : Type} {x : Nat} {f : α → D} {a : α} {S : Store} : exO x f (some a) S = .ok (f a) S := rfl
@[simp] theorem exO_none {α : Type} {x : Nat} {f : α → D} {S : Store} : exO x f none S = .ex x S := rfl
/-! ### items, asks -/
inductive It where
  | span (a b : Int) | frm (a : Int) | last (n : Int)
deriving DecidableEq
def itD : It → D
  | .span a b => .tup [.str "span", .int a, .int b]
  | .frm a => .tup [.str "from", .int a]
  | .last n => .tup [.str "last", .int n]
instance : Okf itD := ⟨fun i => by cases i <;> rfl, fun i => by cases i <;> rfl⟩
theorem txtI_free {i : Int} {s : Nat} (h0 : 0 ≤ i) (h : s < 48 ∨ 57 < s) : s ∉ nL i := by
  rw [nL_eq h0]; exact TL.numL_free h
def mapO {α β : Type} (g : α → Option β) : List α → Option (List β)
  | [] => some []
  | x :: xs => match g x with
    | none => none
    | some y => match mapO g xs with
      | none => none
      | some ys => some (y :: ys)
theorem mapO_some {α β : Type} {g : α → Option β} {f : β → α} : ∀ {ys : List β}, (∀ y ∈ ys, g (f y) = some y) → mapO g (ys.map f) = some ys
  | [], _ => rfl
  | y :: ys, h => by
    have e := mapO_some (g := g) (f := f) (ys := ys) fun z hz => h z (List.mem_cons_of_mem _ hz)
    simp [mapO, h y (by simp), e]
theorem mapO_len {α β : Type} {g : α → Option β} : ∀ {xs : List α} {ys : List β}, mapO g xs = some ys → ys.length = xs.length
  | [], ys, h => by cases h; rfl
  | x :: xs, ys, h => by
    simp only [mapO] at h
    split at h
    · cases h
    · split at h
      · cases h
      · rename_i e
        cases h
        simp [mapO_len e]
theorem ev_compX {src c e : E} {tg : Tg} {d : D} {α β : Type} {enc : β → D} {fo : α → D} (g : β → Option α) {x : Nat} {xs : List β} (hs : ev G call src env S = .ok d S) (hi : mkIt .plain [d] S = some (.items (xs.map enc))) (hl : xs.length ≤ SZ)
    (h : ∀ y ∈ xs, compB G call tg c e env (enc y) S = match g y with | some r => .ok (some (fo r)) S | none => .ex x S) :
    ev G call (.comp .plain src tg c e) env S = exO x (ll fo) (mapO g xs) S := by
  have key : ∀ (ys : List β) (acc : List α), (∀ y ∈ ys, y ∈ xs) → acc.length + ys.length ≤ SZ → goComp (compB G call tg c e env) (ys.map enc) (acc.map fo) S = match mapO g ys with | some rs => .ok ((acc ++ rs).map fo) S | none => .ex x S := by
    intro ys
    induction ys with
    | nil => intro acc _ _; simp [goComp, mapO]
    | cons y ys ih =>
      intro acc hm hz
      have hy := h y (hm y (by simp))
      simp only [List.map_cons, goComp, hy, mapO]
      cases hg : g y with
      | none => rfl
      | some r =>
        simp only [R.bind_ok]
        rw [if_pos (by rw [List.length_map]; simp only [List.length_cons] at hz; omega)]
        have := ih (acc ++ [r]) (fun z hz => hm z (by simp [hz])) (by simp only [List.length_append, List.length_cons, List.length_nil] at *; omega)
        rw [List.map_append] at this
        rw [show List.map fo [r] = [fo r] from rfl] at this
        rw [this]
        cases mapO g ys <;> simp
  have := key xs [] (fun _ h => h) (by simpa using hl)
  show (ev G call src env S).bind _ = _
  rw [hs]
  simp only [R.bind_ok, srcL_plain, hi]
  show (goComp (compB G call tg c e env) (xs.map enc) [] S).bind _ = _
  rw [show goComp (compB G call tg c e env) (xs.map enc) [] S = _ from this]
  cases mapO g xs with
  | none => rfl
  | some rs => simp [ll]
theorem part_str {l : List Nat} {b : Str} (h : l.length ≤ 1000000) (hb : b.length = 1) : bmD .partition (.str (tx l)) [.str b] S = .ok (.tup [.str (Txt.partition (tx l) b).1, .str (Txt.partition (tx l) b).2.1, .str (Txt.partition (tx l) b).2.2]) S := by
  show R.of (if b.length ≠ 0 ∧ (tx l).length ≤ SZ then some _ else none) S = _
  rw [if_pos ⟨by omega, by rw [len_tx]; unfold SZ; omega⟩]; rfl
def txD (l : List Nat) : D := .str (tx l)
instance : Okf txD := ⟨fun _ => rfl, fun _ => rfl⟩
theorem split_str {l : List Nat} {b : Str} {s : Nat} (h : l.length ≤ 1000000) (hb : b.length = 1) (ey : TL.tl b = [s]) (hs : s < 256) : bmD .split (.str (tx l)) [.str b] S = .ok (ll txD (spC s l)) S := by
  show R.of (if b.length ≠ 0 ∧ (tx l).length + 2 ≤ SZ then some (D.lst ((Txt.split (tx l) b).map D.str)) else none) S = _
  rw [if_pos ⟨by omega, by rw [len_tx]; unfold SZ; omega⟩, split_tx ey hs, List.map_map]; rfl
theorem l_dash : ("-" : Str).length = 1 := by decide +kernel
theorem l_comma : ("," : Str).length = 1 := by decide +kernel
theorem l_blank : (" " : Str).length = 1 := by decide +kernel
theorem t_dash : TL.tl ("-" : Str) = [45] := by decide +kernel
theorem t_comma : TL.tl ("," : Str) = [44] := by decide +kernel
theorem t_blank : TL.tl (" " : Str) = [32] := by decide +kernel
theorem dash_ne : (("-" : Str) = "") = False := by simp; decide +kernel
theorem emp_tx : Str.empty = tx [] := rfl
theorem tx_e0 {l : List Nat} : (tx l = ("" : Str)) = (l = []) := by rw [tx_0, tx_inj]
theorem bindT_3 {a b c : Nat} {x y z : D} {env : Env} : bindT (.many [a, b, c]) (.tup [x, y, z]) env = some (((env.set a (some x)).set b (some y)).set c (some z)) := rfl
end
end PL

set_option Elab.async false
set_option linter.all false
set_option maxRecDepth 100000
set_option maxHeartbeats 1000000
/-! PMT: the texts of asks, what asks mean. -/
namespace PL
open PySem
section
variable {G : Tab} {call : Calls} {env : Env} {S : Store} {k : Nat}
theorem fmt_nL {i : Int} (h0 : 0 ≤ i) (h : i < 1000000000) : fmtD (.int i) = some (tx (nL i)) := by rw [fmt_int h0 h, txtI_nL]
theorem tx_cat (l : List Nat) (r : List D) : catD (.str (tx l) :: r) = (catD r).map fun y => tx l ++ y := rfl
theorem dash_cat (r : List D) : catD (.str "-" :: r) = (catD r).map fun y => tx [45] ++ y := by rw [tx_dash]; rfl
theorem nil_cat : catD [] = some (tx []) := rfl
theorem join_tx {y : Str} {ls : List (List Nat)} {s : List Nat} (ey : TL.tl y = s) : Txt.join y (ls.map tx) = tx (TL.joinL s ls) := by
  refine TL.ext_tl ?_
  rw [TL.join_eq, TL.tl_join, ey, List.map_map, tl_tx]
  congr 1
  exact (List.map_congr_left fun p _ => rfl).trans (List.map_id _)
/-! the law's own reader -/
end
/-! ### what asks mean -/
section
variable {G : Tab} {call : Calls} {env : Env} {S : Store} {k : Nat}
end
end PL

set_option Elab.async false
set_option linter.all false
set_option maxRecDepth 100000
set_option maxHeartbeats 1000000
/-! PMU: the law's own asks; told or refused. -/
namespace PL
open PySem

section
variable {G : Tab} {call : Calls} {env : Env} {S : Store} {k : Nat}
end
end PL

set_option Elab.async false
set_option linter.all false
set_option maxRecDepth 100000
set_option maxHeartbeats 1000000
/-! PMV: answers as bytes; what is received of any bytes. -/
namespace PL
open PySem
abbrev i_text_bytes : Nat := 57
/-- text_bytes: text 0 sign 1 -/
def b_text_bytes : T := (.ret (.bf .tuple (.cons (.comp .plain (.var 0) (.one 1) .emp (.bm .find (.glb 7) (.cons (.var 1) .nil))) .nil)))
def f_text_bytes : Fn := ⟨true, 1, 2, b_text_bytes⟩
abbrev i_bytes_text : Nat := 58
/-- bytes_text: some 0 one 1 -/
def b_bytes_text : T := (.ifs (.val (.bf .any (.cons (.comp .plain (.var 0) (.one 1) .emp (.cmp .ge (.var 1) (.bf .len (.cons (.glb 7) .nil)))) .nil)))
  (.rais 0)
  .nil
  (.ret (.bm .join (.con (.str "")) (.cons (.comp .plain (.var 0) (.one 1) .emp (.ix (.glb 7) (.var 1))) .nil))))
def f_bytes_text : Fn := ⟨true, 1, 2, b_bytes_text⟩
class HasM (G : Tab) (c m : Nat) (f : outParam Nat) : Prop where
  h : G.meth c m = some f
class HasI (G : Tab) (c : Nat) (f : outParam Nat) : Prop where
  h : G.init c = some f
@[simp] theorem meth_of {G : Tab} {c m f : Nat} [h : HasM G c m f] : G.meth c m = some f := h.h
@[simp] theorem init_of {G : Tab} {c f : Nat} [h : HasI G c f] : G.init c = some f := h.h
/-! ### signs as bytes -/
def sgnL : List Nat := [48, 49, 50, 51, 52, 53, 54, 55, 56, 57, 97, 98, 99, 100, 101, 102, 103, 104, 105, 106, 107, 108, 109, 110, 111, 112, 113, 114, 115, 116, 117, 118, 119, 120, 121, 122, 32, 45, 44, 10]
theorem sgn_tl : (("0123456789abcdefghijklmnopqrstuvwxyz -,\n" : Str)).cps.toList = sgnL := by decide +kernel
theorem sgn_len : ("0123456789abcdefghijklmnopqrstuvwxyz -,\n" : Str).length = 40 := by decide +kernel
def sbN (c : Nat) : Nat := if 48 ≤ c ∧ c ≤ 57 then c - 48 else if 97 ≤ c ∧ c ≤ 122 then c - 87 else if c = 32 then 36 else if c = 45 then 37 else if c = 44 then 38 else 39
def sbI (c : Nat) : Int := (sbN c : Nat)
def bsI (x : Int) : Nat := sgnL.getD x.toNat 0
theorem find_sgn : ∀ c ∈ sgnL, Txt.find "0123456789abcdefghijklmnopqrstuvwxyz -,\n" (sg c) = sbI c := by decide +kernel
theorem bs_sb : ∀ c ∈ sgnL, bsI (sbI c) = c ∧ 0 ≤ sbI c ∧ sbI c < 40 := by decide +kernel
abbrev tb (l : List Nat) : List Int := l.map sbI
abbrev Sgn (l : List Nat) : Prop := ∀ c ∈ l, c ∈ sgnL
/-! ### reading -/
inductive Row where
  | bad | more | ok (t : List Nat)
abbrev Hd : Type := Int × Int × Int
abbrev Part : Type := Int × List Int
def hdD (h : Hd) : D := .tup [.int h.1, .int h.2.1, .int h.2.2]
def partD (p : Part) : D := .tup [.int p.1, tl .int p.2]
instance : Okf hdD := ⟨fun _ => rfl, fun _ => rfl⟩
instance : Okf partD := ⟨fun p => by simp [partD, noRef, noRefs], fun p => by simp [partD, scl, scls]⟩
inductive Stand where
  | more | whole | bad
deriving DecidableEq
def codes : List Int := [200, 206, 404, 412, 416]
inductive PR where
  | stop (st : Stand) | last (p : Part) (st : Stand) | next (p : Part) (r : List Int)
section
variable {G : Tab} {call : Calls} {env : Env} {S : Store} {k : Nat}
abbrev SIG : Str := "0123456789abcdefghijklmnopqrstuvwxyz -,\n"
theorem joinL_nil : ∀ l : List Nat, TL.joinL [] (l.map fun c => [c]) = l
  | [] => rfl
  | [c] => rfl
  | c :: d :: l => by
    have := joinL_nil (d :: l)
    rw [List.map_cons, List.map_cons]
    show [c] ++ ([] ++ TL.joinL [] ([d] :: l.map fun c => [c])) = _
    rw [List.map_cons] at this
    rw [this]; rfl
theorem t_emp : TL.tl ("" : Str) = [] := by decide +kernel
theorem join_sgs {l : List Nat} (h : l.length ≤ 9000) : bmD .join (.str "") [.lst (l.map sgD)] S = .ok (.str (tx l)) S := by
  have e : l.map sgD = ((l.map fun c => [c]).map tx).map D.str := by rw [List.map_map, List.map_map]; rfl
  rw [e, join_lst (by decide) (by simp; omega) (by
    intro y hy
    obtain ⟨z, hz, rfl⟩ := List.mem_map.mp hy
    obtain ⟨c, hc, rfl⟩ := List.mem_map.mp hz
    rw [len_tx]; simp), join_tx t_emp, joinL_nil]
theorem r_text_bytes [h : Has G i_text_bytes f_text_bytes] [h7 : HasC G 7 (.str SIG)] {l : List Nat} (hl : l.length ≤ 100000) (hs : Sgn l) : run G (k + 1) i_text_bytes [.str (tx l)] S = .ok (tl .int (tb l)) S := by
  refine pure_W (h := h) rfl rfl (by simp [frzAs]; rfl) ?_
  simp only [b_text_bytes, startE, x_ret, e_bf, e_cons, e_nil]
  rw [ev_compG (enc := sgD) (xs := l) (d := .str (tx l)) .int sbI]
  rotate_left
  · simp
  · simp
  · unfold SZ; omega
  · intro c hc
    have := find_sgn c (hs c hc)
    simp [compB, sgD, find_str, this]
  simp
theorem r_bytes_text [h : Has G i_bytes_text f_bytes_text] [h7 : HasC G 7 (.str SIG)] {xs : List Int} (hl : xs.length ≤ 9000) (h0 : ∀ x ∈ xs, 0 ≤ x) : run G (k + 1) i_bytes_text [tl .int xs] S = if (xs.any fun x => decide (40 ≤ x)) = true then .ex 0 S else .ok (.str (tx (xs.map bsI))) S := by
  have l7 : ∀ S, bfD .len [.str SIG] S = some (.int 40) := fun S => by rw [len_str (by rw [sgn_len]; decide), sgn_len]; rfl
  refine pure_W (h := h) rfl rfl (by simp [frzAs]; rfl) ?_
  simp only [b_bytes_text, startE, x_ifs, e_val, e_bf, e_cons, e_nil]
  rw [ev_compM (enc := D.int) (xs := xs) (d := tl .int xs) (fun x => .bl (decide (40 ≤ x)))]
  rotate_left
  · simp
  · simp
  · unfold SZ; omega
  · intro c hc
    simp [compB, l7]
  have an : ∀ S, bfD .any [.lst (xs.map fun x => .bl (decide (40 ≤ x)))] S = some (.bl (xs.any fun x => decide (40 ≤ x))) := fun S => any_ll
  simp only [R.bind_ok, toTup_tup, an, R.of_some, mapT_ok, truthy_bl, R.stm_ok]
  cases hq : (xs.any fun x => decide (40 ≤ x)) with
  | true => simp
  | false =>
    have hb : ∀ x ∈ xs, x < 40 := fun x hx => by
      have := List.any_eq_false.mp hq x hx
      simpa using this
    simp only [Bool.false_eq_true, if_false, x_nil, RS.andThen_nx, x_ret, e_bm, e_con, e_cons, e_nil, R.bind_ok, ok_join, if_true]
    rw [ev_compM (enc := D.int) (xs := xs) (d := tl .int xs) (fun x => sgD (bsI x))]
    rotate_left
    · simp
    · simp
    · unfold SZ; omega
    · intro x hx
      have b0 := h0 x hx
      have b1 := hb x hx
      have ix : ∀ S, getD_ (.str SIG) (.int x) S = some (.str (sg (bsI x))) := fun S => by
        rw [ix_str (by rw [sgn_len]; decide) b0 (by rw [sgn_len]; omega), sgn_tl]; rfl
      simp [compB, ix, sgD]
    have e : xs.map (fun x => sgD (bsI x)) = (xs.map bsI).map sgD := by rw [List.map_map]; rfl
    have jn := join_sgs (S := []) (l := xs.map bsI) (by simp; omega)
    rw [e]
    simp [-List.map_map, jn]
end
end PL

set_option Elab.async false
set_option linter.all false
set_option maxRecDepth 100000
set_option maxHeartbeats 1000000
/-! PMW: parts, what is received. -/
namespace PL
open PySem

section
variable {G : Tab} {call : Calls} {env : Env} {S : Store} {k : Nat}
end
end PL

set_option Elab.async false
set_option linter.all false
set_option maxRecDepth 100000
set_option maxHeartbeats 1000000
/-! PMX: answers as bytes; what is received of a beginning. -/
namespace PL
open PySem
structure Ans where
  c : Int
  m : Int
  z : Int
  ps : List Part
/-- numbers of an answer's row -/
def OkN (i : Int) : Prop := 0 ≤ i ∧ i < 1000000000
structure OkA (A : Ans) : Prop where
  c : A.c ∈ codes
  m : 0 ≤ A.m ∧ A.m < 2147483647
  z : OkN A.z
  k : A.ps.length ≤ 100
  p : ∀ p ∈ A.ps, 0 ≤ p.1 ∧ p.1 + p.2.length ≤ A.z ∧ p.2.length ≤ 4000 ∧ Byt p.2
/-! signs -/
theorem sgn_app {a b : List Nat} (ha : Sgn a) (hb : Sgn b) : Sgn (a ++ b) := fun c h => (List.mem_append.mp h).elim (ha c) (hb c)
theorem sgn_cons {a : Nat} {b : List Nat} (ha : a ∈ sgnL) (hb : Sgn b) : Sgn (a :: b) := fun c h => (List.mem_cons.mp h).elim (fun e => e ▸ ha) (hb c)
theorem sgn_nL {i : Int} (h : 0 ≤ i) : Sgn (nL i) := fun c hc => by
  rw [nL_eq h] at hc
  have := TL.numL_digits _ c hc
  have h1 := this.1
  have h2 := this.2
  have : ∀ c < 58, 48 ≤ c → c ∈ sgnL := by decide
  exact this c (by omega) h1
theorem hex_sgn : ∀ c ∈ hexd, c ∈ sgnL := by decide
theorem mkT_hex {m : Int} (h : 0 ≤ m) : ∀ c ∈ mkT m, c ∈ hexd := by
  have d := dgs h
  have d0 := d 1 (by decide)
  rw [Int.ediv_one] at d0
  intro c hc
  simp only [mkT, List.mem_cons, List.not_mem_nil, or_false] at hc
  rcases hc with rfl | rfl | rfl | rfl | rfl | rfl | rfl | rfl
  · exact (d 268435456 (by decide)).2
  · exact (d 16777216 (by decide)).2
  · exact (d 1048576 (by decide)).2
  · exact (d 65536 (by decide)).2
  · exact (d 4096 (by decide)).2
  · exact (d 256 (by decide)).2
  · exact (d 16 (by decide)).2
  · exact d0.2
theorem sgn_mkT {m : Int} (h : 0 ≤ m) : Sgn (mkT m) := fun c hc => hex_sgn c (mkT_hex h c hc)
/-! splitting at blanks -/
/-! rows -/
theorem tb_lt {t : List Nat} (hs : Sgn t) : ∀ x ∈ tb t, 0 ≤ x ∧ x < 40 := by
  intro x hx
  obtain ⟨c, hc, rfl⟩ := List.mem_map.mp hx
  exact (bs_sb c (hs c hc)).2
theorem bs_tb {t : List Nat} (hs : Sgn t) : (tb t).map bsI = t := by
  rw [List.map_map]
  exact (List.map_congr_left fun c hc => (bs_sb c (hs c hc)).1).trans (List.map_id _)
/-! what is received -/
end PL

set_option Elab.async false
set_option linter.all false
set_option maxRecDepth 100000
set_option maxHeartbeats 1000000
/-! PMY: runs of answer_bytes, of the law's own answers. -/
namespace PL
open PySem

section
variable {G : Tab} {call : Calls} {env : Env} {S : Store} {k : Nat}
theorem fmt_str {l : List Nat} (h : l.length ≤ 1000000) : fmtD (.str (tx l)) = some (tx l) := by
  show (if (tx l).length ≤ 1000000 then some (tx l) else none) = _
  rw [if_pos (by rw [len_tx]; exact h)]
end
end PL

set_option Elab.async false
set_option linter.all false
set_option maxRecDepth 100000
set_option maxHeartbeats 1000000
/-! PMZ: runs of the law's own answers and dues. -/
namespace PL
open PySem

section
variable {G : Tab} {call : Calls} {env : Env} {S : Store} {k : Nat}
end
end PL

set_option Elab.async false
set_option linter.all false
set_option maxRecDepth 100000
set_option maxHeartbeats 1000000
/-! PN0: the bytes of answers: how many, none below 0; what is received, compared. -/
namespace PL
open PySem
section
variable {G : Tab} {call : Calls} {env : Env} {S : Store} {k : Nat}
theorem x_asgV {P : RS → Prop} {i : Nat} {e : E} {k : T} {d : D} {S1 : Store} (he : ev G call e env S = .ok d S1) (hk : Sat P (exT G call k (env.set i (some d)) S1)) : Sat P (exT G call (.asg i e k) env S) := by
  rw [x_asg, he]
  exact hk
/-- an if that is passed by -/
theorem x_ifsF {P : RS → Prop} {c : E} {a k : T} {S' : Store} (hc : mapT (ev G call c env S) = .ok false S') (hk : Sat P (exT G call k env S')) : Sat P (exT G call (.ifs c a .nil k) env S) := by
  rw [x_ifs, hc]
  exact hk
theorem mul_tup1 {a : Int} {n : Nat} (h : n ≤ 1000) : bop .mul (.tup [.int a]) (.int n) S = some (tl .int (List.replicate n a)) := by
  have e : (List.replicate n [D.int a]).flatten = (List.replicate n a).map .int := by
    induction n with
    | zero => rfl
    | succ n ih => rw [List.replicate_succ, List.flatten_cons, ih (by omega)]; rfl
  show (if (-1000 : Int) ≤ n ∧ (n : Int) ≤ 1000 ∧ [D.int a].length ≤ 1000 ∧ [D.int a] ≠ [] then some (D.tup (List.replicate (n : Int).toNat [D.int a]).flatten) else none) = _
  rw [if_pos ⟨by omega, by omega, by simp, by simp⟩, Int.toNat_natCast, e]; rfl
end
end PL

set_option Elab.async false
set_option linter.all false
set_option maxRecDepth 100000
set_option maxHeartbeats 1000000
/-! PN2: files by names; sources. -/
namespace PL
open PySem
/-! ### files by names -/
abbrev Fs : Type := List (Str × List Int)
def encF (fs : Fs) : List (Ky × D) := fs.map fun p => (.inr p.1, tl .int p.2)
def getF (fs : Fs) (n : Str) : Option (List Int) := match fs with
  | [] => none
  | p :: r => if p.1 = n then some p.2 else getF r n
def hasF (fs : Fs) (n : Str) : Bool := fs.any fun p => decide (p.1 = n)
def setF (fs : Fs) (n : Str) (b : List Int) : Fs := if hasF fs n = true then fs.map fun p => if p.1 = n then (p.1, b) else p else fs ++ [(n, b)]
def delF (fs : Fs) (n : Str) : Fs := fs.filter fun p => decide (p.1 ≠ n)
def namesF (fs : Fs) : List Str := fs.map (·.1)
theorem getK_enc (n : Str) : ∀ fs : Fs, getK (encF fs) (.inr n) = (getF fs n).map (tl .int)
  | [] => rfl
  | p :: r => by
    have ih := getK_enc n r
    simp only [encF, List.map_cons, getK, getF, Sum.inr.injEq] at ih ⊢
    by_cases h : p.1 = n
    · rw [if_pos h, if_pos h]; rfl
    · rw [if_neg h, if_neg h]; exact ih
theorem any_enc (n : Str) (fs : Fs) : ((encF fs).any fun e => decide (e.1 = .inr n)) = hasF fs n := by
  unfold encF hasF
  rw [List.any_map]
  congr 1
  funext p
  simp
theorem setK_enc (n : Str) (b : List Int) (fs : Fs) : setK (encF fs) (.inr n) (tl .int b) = encF (setF fs n b) := by
  unfold setK setF
  rw [any_enc]
  cases h : hasF fs n with
  | true =>
    simp only [if_true]
    unfold encF
    rw [List.map_map, List.map_map]
    refine List.map_congr_left fun p _ => ?_
    simp only [Function.comp, Sum.inr.injEq]
    by_cases h : p.1 = n
    · rw [if_pos h, if_pos h]
    · rw [if_neg h, if_neg h]
  | false =>
    simp only [Bool.false_eq_true, if_false]
    unfold encF
    rw [List.map_append]; rfl
theorem delK_enc (n : Str) (fs : Fs) : delK (encF fs) (.inr n) = encF (delF fs n) := by
  unfold delK delF encF
  rw [List.filter_map]
  congr 1
  refine List.filter_congr fun p _ => ?_
  simp
theorem keysS_enc : ∀ fs : Fs, keysS (encF fs) = some (namesF fs)
  | [] => rfl
  | p :: r => by
    have := keysS_enc r
    simp only [encF, namesF, List.map_cons, keysS] at this ⊢
    rw [this]; rfl
theorem keysI_enc (p : Str × List Int) (r : Fs) : keysI (encF (p :: r)) = none := rfl
theorem encF_len (fs : Fs) : (encF fs).length = fs.length := by simp [encF]
theorem hasF_iff (fs : Fs) (n : Str) : hasF fs n = (getF fs n).isSome := by
  induction fs with
  | nil => rfl
  | cons p r ih =>
    simp only [hasF, List.any_cons, getF] at ih ⊢
    by_cases h : p.1 = n
    · simp [h]
    · rw [if_neg h, ← ih]; simp [h]
theorem getF_app (n m : Str) (b : List Int) : ∀ fs : Fs, getF (fs ++ [(n, b)]) m = match getF fs m with | some x => some x | none => if n = m then some b else none
  | [] => rfl
  | p :: r => by
    simp only [List.cons_append, getF]
    by_cases h : p.1 = m
    · rw [if_pos h, if_pos h]
    · rw [if_neg h, if_neg h, getF_app n m b r]
theorem getF_upd (n m : Str) (b : List Int) : ∀ fs : Fs, getF (fs.map fun p => if p.1 = n then (p.1, b) else p) m = if n = m then (getF fs n).map (fun _ => b) else getF fs m
  | [] => by simp [getF]
  | p :: r => by
    have ih := getF_upd n m b r
    simp only [List.map_cons, getF]
    by_cases h : p.1 = n
    · rw [if_pos h]
      simp only
      by_cases h2 : p.1 = m
      · rw [if_pos h2, if_pos h, if_pos (h ▸ h2)]; rfl
      · rw [if_neg h2, ih, if_neg (h ▸ h2), if_neg h2, if_neg (fun e => h2 (h.trans e))]
    · rw [if_neg h]
      by_cases h2 : p.1 = m
      · rw [if_pos h2, if_neg (fun e => h (h2.trans e.symm)), if_pos h2]
      · rw [if_neg h2, ih, if_neg h, if_neg h2]
theorem getF_set (fs : Fs) (n m : Str) (b : List Int) : getF (setF fs n b) m = if n = m then some b else getF fs m := by
  unfold setF
  cases h : hasF fs n with
  | true =>
    simp only [if_true]
    rw [getF_upd]
    rw [hasF_iff] at h
    by_cases e : n = m
    · rw [if_pos e, if_pos e]
      obtain ⟨x, hx⟩ := Option.isSome_iff_exists.mp h
      rw [hx]; rfl
    · rw [if_neg e, if_neg e]
  | false =>
    simp only [Bool.false_eq_true, if_false]
    rw [getF_app]
    rw [hasF_iff] at h
    by_cases e : n = m
    · subst e
      cases hx : getF fs n with
      | none => simp
      | some x => rw [hx] at h; cases h
    · rw [if_neg e, if_neg e]
      cases getF fs m <;> rfl
theorem getF_del (fs : Fs) (n m : Str) : getF (delF fs n) m = if n = m then none else getF fs m := by
  induction fs with
  | nil => simp [delF, getF]
  | cons p r ih =>
    simp only [delF, List.filter_cons] at ih ⊢
    by_cases h : p.1 = n
    · simp only [h, ne_eq, not_true_eq_false, decide_false, Bool.false_eq_true, if_false]
      rw [ih]
      by_cases e : n = m
      · rw [if_pos e, if_pos e]
      · rw [if_neg e, if_neg e]
        simp only [getF]
        rw [if_neg (fun q => e (h.symm.trans q))]
    · simp only [ne_eq, h, not_false_eq_true, decide_true, if_true, getF]
      by_cases e : p.1 = m
      · rw [if_pos e, if_pos e, if_neg (fun q => h (e.trans q.symm))]
      · rw [if_neg e, if_neg e, ih]
theorem delF_len (fs : Fs) (n : Str) : (delF fs n).length ≤ fs.length := List.length_filter_le _ _
/-- all names of a list are among these -/
def SubF (fs : Fs) (ns : List Str) : Prop := (namesF fs).Nodup ∧ ∀ n ∈ namesF fs, n ∈ ns
theorem names_set (fs : Fs) (n : Str) (b : List Int) : namesF (setF fs n b) = if hasF fs n = true then namesF fs else namesF fs ++ [n] := by
  unfold setF namesF
  split
  · rw [List.map_map]
    refine List.map_congr_left fun p _ => ?_
    simp only [Function.comp]
    split <;> rfl
  · rw [List.map_append]; rfl
theorem names_del (fs : Fs) (n : Str) : namesF (delF fs n) = (namesF fs).filter fun m => decide (m ≠ n) := by
  unfold delF namesF
  rw [List.filter_map]; rfl
theorem hasF_mem (fs : Fs) (n : Str) : hasF fs n = true ↔ n ∈ namesF fs := by
  unfold hasF namesF
  rw [List.any_eq_true, List.mem_map]
  exact ⟨fun ⟨p, h1, h2⟩ => ⟨p, h1, of_decide_eq_true h2⟩, fun ⟨p, h1, h2⟩ => ⟨p, h1, decide_eq_true h2⟩⟩
theorem sub_set {fs : Fs} {ns : List Str} {n : Str} {b : List Int} (h : SubF fs ns) (hn : n ∈ ns) : SubF (setF fs n b) ns := by
  unfold SubF
  rw [names_set]
  split
  · exact h
  · rename_i q
    rw [hasF_mem] at q
    refine ⟨List.nodup_append.mpr ⟨h.1, by simp, fun x hx y hy e => q (by rw [List.mem_singleton.mp hy] at e; exact e ▸ hx)⟩, fun m hm => ?_⟩
    rcases List.mem_append.mp hm with hm | hm
    · exact h.2 m hm
    · rw [List.mem_singleton.mp hm]; exact hn
theorem sub_del {fs : Fs} {ns : List Str} {n : Str} (h : SubF fs ns) : SubF (delF fs n) ns := by
  unfold SubF
  rw [names_del]
  exact ⟨h.1.filter _, fun m hm => h.2 m (List.mem_filter.mp hm).1⟩
theorem nodup_len {α : Type} : ∀ {l m : List α}, l.Nodup → (∀ x ∈ l, x ∈ m) → l.length ≤ m.length
  | [], _, _, _ => Nat.zero_le _
  | x :: l, m, hn, h => by
    obtain ⟨a, b, rfl⟩ := List.append_of_mem (h x (by simp))
    have hn := List.nodup_cons.mp hn
    have := nodup_len (l := l) (m := a ++ b) hn.2 fun y hy => by
      have := h y (by simp [hy])
      rcases List.mem_append.mp this with q | q
      · exact List.mem_append.mpr (.inl q)
      · rcases List.mem_cons.mp q with q | q
        · exact absurd (q ▸ hy) hn.1
        · exact List.mem_append.mpr (.inr q)
    simp only [List.length_append, List.length_cons] at *
    omega
theorem set_same {α : Type} {S : List α} {m : Nat} {v : α} (h : S[m]? = some v) : S.set m v = S := by
  refine List.ext_getElem? fun i => ?_
  rw [List.getElem?_set]
  split
  · rename_i e
    subst e
    rw [if_pos (List.getElem?_eq_some_iff.mp h).1, h]
  · rfl
theorem sub_len {fs : Fs} {ns : List Str} (h : SubF fs ns) : fs.length ≤ ns.length := by
  have := nodup_len h.1 h.2
  simpa [namesF] using this
section
variable {G : Tab} {call : Calls} {env : Env} {S : Store} {k : Nat}
theorem dinR_enc {m : Nat} {fs : Fs} {n : Str} (h : S[m]? = some (.dct (encF fs))) : dinD (.str n) (.ref m) S = some (getF fs n).isSome := by
  simp only [dinD, dctOf, h, keyOf, Option.map_some, getK_enc, Option.isSome_map]
theorem dixR_enc {m : Nat} {fs : Fs} {n : Str} {b : List Int} (h : S[m]? = some (.dct (encF fs))) (hb : getF fs n = some b) : dixD (.ref m) (.str n) S = some (tl .int b) := by
  simp only [dixD, dctOf, h, keyOf, Option.bind_some, getK_enc, hb, Option.map_some]
theorem setR_enc {m : Nat} {fs : Fs} {n : Str} {b : List Int} (h : S[m]? = some (.dct (encF fs))) (hl : fs.length ≤ 1000) : setIx (.ref m) (.str n) (tl .int b) S = some (S.set m (.dct (encF (setF fs n b)))) := by
  simp only [setIx, h, encF_len, keyOf, Option.map_some, setK_enc]
  rw [if_pos (by unfold SZ; omega)]
theorem popR_ok {m : Nat} {kvs : List (Ky × D)} (h : S[m]? = some (.dct kvs)) : bmOk .pop (.ref m) S = true := by simp only [bmOk, isDctR, h]
theorem pop1R_enc {m : Nat} {fs : Fs} {n : Str} {b : List Int} (h : S[m]? = some (.dct (encF fs))) (hb : getF fs n = some b) : bmD .pop (.ref m) [.str n] S = .ok (tl .int b) (S.set m (.dct (encF (delF fs n)))) := by
  simp only [bmD, h, keyOf, getK_enc, delK_enc, hb, Option.map_some]
theorem delF_none {fs : Fs} {n : Str} (h : getF fs n = none) : delF fs n = fs := by
  unfold delF
  rw [List.filter_eq_self]
  intro p hp
  have : hasF fs n = false := by rw [hasF_iff, h]; rfl
  have := List.any_eq_false.mp this p hp
  simpa using this
def srtF (fs : Fs) : List Str := sortBy leS (namesF fs)
theorem sortR_enc {m : Nat} {fs : Fs} (h : S[m]? = some (.dct (encF fs))) (hl : fs.length ≤ 60) : bfD .sorted [.ref m] S = some (ll .str (srtF fs)) := by
  have hq : seqOf (.ref m) S = none := by simp only [seqOf, lstOf, h]
  have hd : dctOf (.ref m) S = some (encF fs) := by simp only [dctOf, h]
  simp only [bfD, sortF, hq, hd]
  cases fs with
  | nil =>
    have : (0 : Nat) ≤ SZ := Nat.zero_le _
    simp [encF, keysI]
    rfl
  | cons p r =>
    rw [keysI_enc, keysS_enc]
    simp only
    rw [if_pos (by simp [namesF]; simp at hl; omega)]
    rfl
/-- a source in the store -/
structure SrcAt (S : Store) (n m : Nat) (fs : Fs) : Prop where
  o : S[n]? = some (.ins 1 [(5, .ref m)])
  d : S[m]? = some (.dct (encF fs))
theorem SrcAt.cl {n m : Nat} {fs : Fs} (h : SrcAt S n m fs) : clsD (.ref n) S = some 1 := by simp only [clsD, h.o]
theorem SrcAt.f5 {n m : Nat} {fs : Fs} (h : SrcAt S n m fs) : fldD (.ref n) 5 S = some (.ref m) := by simp only [fldD, h.o]; rfl
/-- S' is S and more -/
def Keep (S S' : Store) : Prop := S.length ≤ S'.length ∧ ∀ i, i < S.length → S'[i]? = S[i]?
theorem Keep.refl (S : Store) : Keep S S := ⟨Nat.le_refl _, fun _ _ => rfl⟩
theorem Keep.trans {A B C : Store} (h : Keep A B) (h' : Keep B C) : Keep A C := ⟨Nat.le_trans h.1 h'.1, fun i hi => (h'.2 i (Nat.lt_of_lt_of_le hi h.1)).trans (h.2 i hi)⟩
theorem Keep.at {A B : Store} (h : Keep A B) {n : Nat} {o : Ob} (ha : A[n]? = some o) : B[n]? = some o := (h.2 n (List.getElem?_eq_some_iff.mp ha).1).trans ha
theorem SrcAt.keep {n m : Nat} {fs : Fs} {S' : Store} (h : SrcAt S n m fs) (k : Keep S S') : SrcAt S' n m fs := ⟨k.at h.o, k.at h.d⟩
end
end PL

set_option Elab.async false
set_option linter.all false
set_option maxRecDepth 100000
set_option maxHeartbeats 1000000
/-! PN3: disks. -/
namespace PL
open PySem
abbrev i_Disk_init : Nat := 106
/-- Disk_init: self 0 stops 1 -/
def b_Disk_init : T := (.fldS 2 (.var 0) 5 .dict0
  (.fldS 2 (.var 0) 6 (.var 1)
  .nil))
def f_Disk_init : Fn := ⟨false, 2, 2, b_Disk_init⟩
abbrev i_Disk_files : Nat := 114
/-- Disk_files: self 0 -/
def b_Disk_files : T := (.ret (.bf .tuple (.cons (.bf .sorted (.cons (.fld 2 (.var 0) 5) .nil)) .nil)))
def f_Disk_files : Fn := ⟨false, 1, 1, b_Disk_files⟩
abbrev i_Disk_step : Nat := 107
/-- Disk_step: self 0 -/
def b_Disk_step : T := (.ifs (.val (.fld 2 (.var 0) 6))
  (.ifs (.cmp .eq (.ix (.fld 2 (.var 0) 6) (.con (.int 0))) (.con (.int 0)))
  (.fldS 2 (.var 0) 6 (.sl (.fld 2 (.var 0) 6) (.con (.int 1)) .emp)
  (.rais 2))
  .nil
  (.fldS 2 (.var 0) 6 (.bin .add (.tup (.cons (.bin .sub (.ix (.fld 2 (.var 0) 6) (.con (.int 0))) (.con (.int 1))) .nil)) (.sl (.fld 2 (.var 0) 6) (.con (.int 1)) .emp))
  .nil))
  .nil
  .nil)
def f_Disk_step : Fn := ⟨false, 1, 1, b_Disk_step⟩
abbrev i_Disk_make : Nat := 109
/-- Disk_make: self 0 name 1 size 2 -/
def b_Disk_make : T := (.exp (.meth 2 (.var 0) 8 .nil)
  (.setI (.fld 2 (.var 0) 5) (.var 1) (.bin .mul (.tup (.cons (.con (.int 0)) .nil)) (.var 2))
  .nil))
def f_Disk_make : Fn := ⟨false, 3, 3, b_Disk_make⟩
abbrev i_Disk_need : Nat := 108
/-- Disk_need: self 0 name 1 -/
def b_Disk_need : T := (.ifs (.din true (.var 1) (.fld 2 (.var 0) 5))
  (.rais 3)
  .nil
  .nil)
def f_Disk_need : Fn := ⟨false, 2, 2, b_Disk_need⟩
abbrev i_Disk_put_at : Nat := 110
/-- Disk_put_at: self 0 name 1 place 2 some 3 k 4 one 5 body 6 -/
def b_Disk_put_at : T := (.exp (.meth 2 (.var 0) 9 (.cons (.var 1) .nil))
  (.for_ .enum (.cons (.var 3) .nil) (.many [4, 5])
  (.exp (.meth 2 (.var 0) 8 .nil)
  (.asg 6 (.dix (.fld 2 (.var 0) 5) (.var 1))
  (.setI (.fld 2 (.var 0) 5) (.var 1) (.bin .add (.bin .add (.sl (.var 6) .emp (.bin .add (.var 2) (.var 4))) (.tup (.cons (.var 5) .nil))) (.sl (.var 6) (.bin .add (.bin .add (.var 2) (.var 4)) (.con (.int 1))) .emp))
  .nil)))
  .nil))
def f_Disk_put_at : Fn := ⟨false, 4, 7, b_Disk_put_at⟩
abbrev i_Disk_rename : Nat := 111
/-- Disk_rename: self 0 name 1 goal 2 body 3 -/
def b_Disk_rename : T := (.exp (.meth 2 (.var 0) 9 (.cons (.var 1) .nil))
  (.exp (.meth 2 (.var 0) 8 .nil)
  (.asg 3 (.bm .pop (.fld 2 (.var 0) 5) (.cons (.var 1) .nil))
  (.setI (.fld 2 (.var 0) 5) (.var 2) (.var 3)
  .nil))))
def f_Disk_rename : Fn := ⟨false, 3, 4, b_Disk_rename⟩
abbrev i_Disk_drop : Nat := 112
/-- Disk_drop: self 0 name 1 -/
def b_Disk_drop : T := (.exp (.meth 2 (.var 0) 9 (.cons (.var 1) .nil))
  (.exp (.meth 2 (.var 0) 8 .nil)
  (.exp (.bm .pop (.fld 2 (.var 0) 5) (.cons (.var 1) .nil))
  .nil)))
def f_Disk_drop : Fn := ⟨false, 2, 2, b_Disk_drop⟩
abbrev i_Disk_body : Nat := 113
/-- Disk_body: self 0 name 1 -/
def b_Disk_body : T := (.exp (.meth 2 (.var 0) 9 (.cons (.var 1) .nil))
  (.ret (.dix (.fld 2 (.var 0) 5) (.var 1))))
def f_Disk_body : Fn := ⟨false, 2, 2, b_Disk_body⟩

/-! ### a disk in the store -/
abbrev dskO (m : Nat) (st : List Int) : Ob := .ins 2 [(5, .ref m), (6, tl .int st)]
/-- the store with this disk in it -/
def WD (S : Store) (n m : Nat) (fs : Fs) (st : List Int) : Store := (S.set n (dskO m st)).set m (.dct (encF fs))
/-- places for a disk -/
structure Pl (S : Store) (n m : Nat) : Prop where
  ne : n ≠ m
  n : n < S.length
  m : m < S.length
section
variable {S : Store} {n m i : Nat} {fs fs' : Fs} {st st' : List Int} {v : Ob}
@[simp] theorem WD_len : (WD S n m fs st).length = S.length := by simp [WD]
theorem WD_o (h : Pl S n m) : (WD S n m fs st)[n]? = some (dskO m st) := by
  unfold WD
  rw [List.getElem?_set_ne (fun e => h.ne e.symm), List.getElem?_set_self h.n]
theorem WD_d (h : Pl S n m) : (WD S n m fs st)[m]? = some (.dct (encF fs)) := by
  unfold WD
  rw [List.getElem?_set_self (by rw [List.length_set]; exact h.m)]
theorem WD_i (h1 : i ≠ n) (h2 : i ≠ m) : (WD S n m fs st)[i]? = S[i]? := by
  unfold WD
  rw [List.getElem?_set_ne (fun e => h2 e.symm), List.getElem?_set_ne (fun e => h1 e.symm)]
theorem WD_setd : (WD S n m fs st).set m (.dct (encF fs')) = WD S n m fs' st := by
  unfold WD; rw [List.set_set]
theorem WD_seto (h : Pl S n m) : (WD S n m fs st).set n (dskO m st') = WD S n m fs st' := by
  unfold WD
  rw [List.set_comm _ _ (fun e => h.ne e.symm), List.set_set]
theorem WD_set (h1 : i ≠ n) (h2 : i ≠ m) : (WD S n m fs st).set i v = WD (S.set i v) n m fs st := by
  unfold WD
  rw [List.set_comm _ _ (fun e => h2 e.symm), List.set_comm _ _ (fun e => h1 e.symm)]
theorem WD_app (h : Pl S n m) (T : Store) : WD S n m fs st ++ T = WD (S ++ T) n m fs st := by
  unfold WD
  rw [List.set_append_left _ _ h.n, List.set_append_left _ _ (by rw [List.length_set]; exact h.m)]
theorem WD_self (ho : S[n]? = some (dskO m st)) (hd : S[m]? = some (.dct (encF fs))) : WD S n m fs st = S := by
  unfold WD
  rw [set_same ho, set_same hd]
theorem Pl.app (h : Pl S n m) (T : Store) : Pl (S ++ T) n m := ⟨h.ne, by rw [List.length_append]; have := h.n; omega, by rw [List.length_append]; have := h.m; omega⟩
theorem Pl.set (h : Pl S n m) : Pl (S.set i v) n m := ⟨h.ne, by rw [List.length_set]; exact h.n, by rw [List.length_set]; exact h.m⟩
theorem Pl.wd (h : Pl S n m) : Pl (WD S n m fs st) n m := ⟨h.ne, by rw [WD_len]; exact h.n, by rw [WD_len]; exact h.m⟩
theorem WD_cl (h : Pl S n m) : clsD (.ref n) (WD S n m fs st) = some 2 := by simp only [clsD, WD_o h]
theorem WD_f5 (h : Pl S n m) : fldD (.ref n) 5 (WD S n m fs st) = some (.ref m) := by simp only [fldD, WD_o h]; rfl
theorem WD_f6 (h : Pl S n m) : fldD (.ref n) 6 (WD S n m fs st) = some (tl .int st) := by simp only [fldD, WD_o h]; rfl
theorem WD_s6 (h : Pl S n m) : setFld (.ref n) 6 (tl .int st') (WD S n m fs st) = some (WD S n m fs st') := by
  simp only [setFld, WD_o h]
  rw [if_pos (by simp)]
  show some ((WD S n m fs st).set n (dskO m st')) = _
  rw [WD_seto h]
end
/-- one step: does it stop? -/
def stepS : List Int → Bool × List Int
  | [] => (false, [])
  | c :: r => if c = 0 then (true, r) else (false, (c - 1) :: r)
def put1 (b : List Int) (p : Nat) (x : Int) : List Int := b.take p ++ [x] ++ b.drop (p + 1)
def putF (nm : Str) : Nat → List Int → Fs → List Int → Bool × Fs × List Int
  | _, [], fs, st => (false, fs, st)
  | p, x :: r, fs, st => match stepS st with
    | (true, st') => (true, fs, st')
    | (false, st') => putF nm (p + 1) r (setF fs nm (put1 ((getF fs nm).getD []) p x)) st'
/-- what a deed told: done, or stopped -/
def dskR (S : Store) (n m : Nat) (q : Bool × Fs × List Int) : R D := if q.1 then .ex 2 (WD S n m q.2.1 q.2.2) else .ok .non (WD S n m q.2.1 q.2.2)
section
variable {G : Tab} {call : Calls} {env : Env} {S : Store} {k n m : Nat} {fs : Fs} {st : List Int} {nm : Str}
theorem r_Disk_step [h : Has G i_Disk_step f_Disk_step] (hp : Pl S n m) (hl : st.length ≤ 1000) : run G (k + 1) i_Disk_step [.ref n] (WD S n m fs st) = dskR S n m ((stepS st).1, fs, (stepS st).2) := by
  refine imp_W (h := h) rfl rfl ?_
  simp only [b_Disk_step, startE]
  have c := WD_cl (fs := fs) (st := st) hp
  have f6 := WD_f6 (fs := fs) (st := st) hp
  cases st with
  | nil => simp [c, f6, stepS, dskR]
  | cons x r =>
    have s6 := fun st' => WD_s6 (fs := fs) (st := x :: r) (st' := st') hp
    have i0 : ∀ S, getD_ (tl .int (x :: r)) (.int 0) S = some (.int x) := fun S => by rw [ix_tl, atI_nn (by decide)]; rfl
    have cd : cutD (x :: r) (some 1) none = r := by rw [cut_from (by decide)]; rfl
    by_cases h0 : x = 0
    · subst h0
      simp [c, f6, i0, -ix_tl, isEmp, part, cd, s6, stepS, dskR]
    · have ad : ∀ S, bop .add (.tup [.int (x - 1)]) (tl .int r) S = some (tl .int ((x - 1) :: r)) := fun S => add_tl (xs := [x - 1]) (by simp at hl; simp [SZ]; omega)
      simp [c, f6, i0, -ix_tl, h0, isEmp, part, cd, ad, s6, stepS, dskR]
theorem r_Disk_need [h : Has G i_Disk_need f_Disk_need] (hp : Pl S n m) : run G (k + 1) i_Disk_need [.ref n, .str nm] (WD S n m fs st) = if (getF fs nm).isSome then .ok .non (WD S n m fs st) else .ex 3 (WD S n m fs st) := by
  refine imp_W (h := h) rfl rfl ?_
  simp only [b_Disk_need, startE]
  have c := WD_cl (fs := fs) (st := st) hp
  have f5 := WD_f5 (fs := fs) (st := st) hp
  have di := dinR_enc (n := nm) (WD_d (fs := fs) (st := st) hp)
  cases hb : getF fs nm with
  | none => rw [hb] at di; simp [c, f5, di]
  | some b => rw [hb] at di; simp [c, f5, di]
theorem r_Disk_body [h : Has G i_Disk_body f_Disk_body] [hn : Has G i_Disk_need f_Disk_need] [hm : HasM G 2 9 i_Disk_need] (hp : Pl S n m) : run G (k + 2) i_Disk_body [.ref n, .str nm] (WD S n m fs st) = match getF fs nm with | some b => .ok (tl .int b) (WD S n m fs st) | none => .ex 3 (WD S n m fs st) := by
  have rn := r_Disk_need (G := G) (k := k) (fs := fs) (st := st) (nm := nm) hp
  refine imp_W (h := h) rfl rfl ?_
  simp only [b_Disk_body, startE]
  have c := WD_cl (fs := fs) (st := st) hp
  have f5 := WD_f5 (fs := fs) (st := st) hp
  cases hb : getF fs nm with
  | none => rw [hb] at rn; simp at rn; simp [c, rn]
  | some b =>
    rw [hb] at rn; simp at rn
    have dx := dixR_enc (WD_d (fs := fs) (st := st) hp) hb
    simp [c, f5, rn, dx]
theorem r_Disk_files [h : Has G i_Disk_files f_Disk_files] (hp : Pl S n m) (hl : fs.length ≤ 60) : run G (k + 1) i_Disk_files [.ref n] (WD S n m fs st) = .ok (tl .str (srtF fs)) (WD S n m fs st) := by
  refine imp_W (h := h) rfl rfl ?_
  have c := WD_cl (fs := fs) (st := st) hp
  have f5 := WD_f5 (fs := fs) (st := st) hp
  simp [b_Disk_files, startE, c, f5, sortR_enc (WD_d hp) hl]
theorem r_Disk_make [h : Has G i_Disk_make f_Disk_make] [hs : Has G i_Disk_step f_Disk_step] [hm : HasM G 2 8 i_Disk_step] (hp : Pl S n m) (hl : st.length ≤ 1000) (hf : fs.length ≤ 900) {z : Nat} (hz : z ≤ 1000) :
    run G (k + 2) i_Disk_make [.ref n, .str nm, .int z] (WD S n m fs st) = dskR S n m ((stepS st).1, if (stepS st).1 then fs else setF fs nm (List.replicate z 0), (stepS st).2) := by
  have rs := r_Disk_step (G := G) (k := k) (fs := fs) (st := st) hp hl
  refine imp_W (h := h) rfl rfl ?_
  simp only [b_Disk_make, startE]
  have c := WD_cl (fs := fs) (st := st) hp
  generalize stepS st = q at *
  obtain ⟨b, st'⟩ := q
  have c' := WD_cl (fs := fs) (st := st') hp
  have f5 := WD_f5 (fs := fs) (st := st') hp
  cases b with
  | true => simp [dskR] at rs; simp [c, rs, dskR]
  | false =>
    simp [dskR] at rs
    have mt : ∀ S, bop .mul (.tup [.int 0]) (.int z) S = some (tl .int (List.replicate z 0)) := fun S => mul_tup1 hz
    have si := setR_enc (n := nm) (b := List.replicate z 0) (WD_d (fs := fs) (st := st') hp) (by omega)
    rw [WD_setd] at si
    simp [c, rs, mt, c', f5, si, dskR]
theorem r_Disk_rename [h : Has G i_Disk_rename f_Disk_rename] [hn : Has G i_Disk_need f_Disk_need] [hm9 : HasM G 2 9 i_Disk_need] [hs : Has G i_Disk_step f_Disk_step] [hm : HasM G 2 8 i_Disk_step] (hp : Pl S n m) (hl : st.length ≤ 1000) (hf : fs.length ≤ 900) {goal : Str} :
    run G (k + 2) i_Disk_rename [.ref n, .str nm, .str goal] (WD S n m fs st) = match getF fs nm with
      | none => .ex 3 (WD S n m fs st)
      | some b => dskR S n m ((stepS st).1, if (stepS st).1 then fs else setF (delF fs nm) goal b, (stepS st).2) := by
  have rs := r_Disk_step (G := G) (k := k) (fs := fs) (st := st) hp hl
  have rn := r_Disk_need (G := G) (k := k) (fs := fs) (st := st) (nm := nm) hp
  refine imp_W (h := h) rfl rfl ?_
  simp only [b_Disk_rename, startE]
  have c := WD_cl (fs := fs) (st := st) hp
  cases hb : getF fs nm with
  | none => rw [hb] at rn; simp at rn; simp [c, rn]
  | some b =>
    rw [hb] at rn; simp at rn
    generalize stepS st = q at *
    obtain ⟨t, st'⟩ := q
    have c' := WD_cl (fs := fs) (st := st') hp
    have f5 := WD_f5 (fs := fs) (st := st') hp
    cases t with
    | true => simp [dskR] at rs; simp [c, rn, rs, dskR]
    | false =>
      simp [dskR] at rs
      have po := popR_ok (WD_d (fs := fs) (st := st') hp)
      have pp := pop1R_enc (WD_d (fs := fs) (st := st') hp) hb
      rw [WD_setd] at pp
      have c2 := WD_cl (fs := delF fs nm) (st := st') hp
      have f52 := WD_f5 (fs := delF fs nm) (st := st') hp
      have si := setR_enc (n := goal) (b := b) (WD_d (fs := delF fs nm) (st := st') hp) (by have := delF_len fs nm; omega)
      rw [WD_setd] at si
      simp [c, rn, rs, c', f5, po, pp, c2, f52, si, dskR]
theorem r_Disk_drop [h : Has G i_Disk_drop f_Disk_drop] [hn : Has G i_Disk_need f_Disk_need] [hm9 : HasM G 2 9 i_Disk_need] [hs : Has G i_Disk_step f_Disk_step] [hm : HasM G 2 8 i_Disk_step] (hp : Pl S n m) (hl : st.length ≤ 1000) :
    run G (k + 2) i_Disk_drop [.ref n, .str nm] (WD S n m fs st) = match getF fs nm with
      | none => .ex 3 (WD S n m fs st)
      | some b => dskR S n m ((stepS st).1, if (stepS st).1 then fs else delF fs nm, (stepS st).2) := by
  have rs := r_Disk_step (G := G) (k := k) (fs := fs) (st := st) hp hl
  have rn := r_Disk_need (G := G) (k := k) (fs := fs) (st := st) (nm := nm) hp
  refine imp_W (h := h) rfl rfl ?_
  simp only [b_Disk_drop, startE]
  have c := WD_cl (fs := fs) (st := st) hp
  cases hb : getF fs nm with
  | none => rw [hb] at rn; simp at rn; simp [c, rn]
  | some b =>
    rw [hb] at rn; simp at rn
    generalize stepS st = q at *
    obtain ⟨t, st'⟩ := q
    have c' := WD_cl (fs := fs) (st := st') hp
    have f5 := WD_f5 (fs := fs) (st := st') hp
    cases t with
    | true => simp [dskR] at rs; simp [c, rn, rs, dskR]
    | false =>
      simp [dskR] at rs
      have po := popR_ok (WD_d (fs := fs) (st := st') hp)
      have pp := pop1R_enc (WD_d (fs := fs) (st := st') hp) hb
      rw [WD_setd] at pp
      simp [c, rn, rs, c', f5, po, pp, dskR]
theorem stepS_len (st : List Int) : (stepS st).2.length ≤ st.length := by
  cases st with
  | nil => simp [stepS]
  | cons c r => simp only [stepS]; split <;> simp
theorem r_Disk_put_at [h : Has G i_Disk_put_at f_Disk_put_at] [hn : Has G i_Disk_need f_Disk_need] [hm9 : HasM G 2 9 i_Disk_need] [hs : Has G i_Disk_step f_Disk_step] [hm : HasM G 2 8 i_Disk_step] (hp : Pl S n m) (hl : st.length ≤ 1000) (hf : fs.length ≤ 900) {p : Nat} {xs : List Int} (hx : xs.length ≤ 5000) (hb : ∀ b, getF fs nm = some b → b.length ≤ 5000) :
    run G (k + 2) i_Disk_put_at [.ref n, .str nm, .int p, tl .int xs] (WD S n m fs st) = match getF fs nm with
      | none => .ex 3 (WD S n m fs st)
      | some _ => dskR S n m (putF nm p xs fs st) := by
  have rs := fun fs (st : List Int) (hl : st.length ≤ 1000) => r_Disk_step (G := G) (k := k) (fs := fs) (st := st) hp hl
  have rn := r_Disk_need (G := G) (k := k) (fs := fs) (st := st) (nm := nm) hp
  refine imp_W (h := h) rfl rfl ?_
  simp only [b_Disk_put_at, startE]
  generalize run G (k + 1) = call at *
  have c := fun fs st => WD_cl (fs := fs) (st := st) hp
  have f5 := fun fs st => WD_f5 (fs := fs) (st := st) hp
  cases hg : getF fs nm with
  | none => rw [hg] at rn; simp at rn; simp [c, rn]
  | some b0 =>
    rw [hg] at rn; simp at rn
    have hb0 := hb b0 hg
    simp only
    generalize hfin : putF nm p xs fs st = fin
    simp [c, rn]
    refine x_forW (fun j e s => ∃ fs' st' b, s = WD S n m fs' st' ∧ st'.length ≤ 1000 ∧ fs'.length ≤ 900 ∧ getF fs' nm = some b ∧ b.length ≤ 5000 + j ∧ putF nm (p + j) (xs.drop j) fs' st' = fin ∧ ∃ t4 t5 t6, e = [some (.ref n), some (.str nm), some (.int p), some (tl .int xs), t4, t5, t6]) (enc := fun k => D.tup [.int (k : Nat), .int (xs.getD k 0)]) (xs := List.range xs.length) (d := .tup [tl .int xs]) ?_ ?_ ?_ ?_ ?_
    · simp
    · exact mkIt_enumG (f := D.int) 0
    · exact ⟨fs, st, b0, rfl, hl, hf, hg, by omega, by simpa using hfin, _, _, _, rfl⟩
    · rintro j x _ _ hj ⟨fs', st', b, rfl, hl', hf', hg', hb', hfin', t4, t5, t6, rfl⟩
      obtain ⟨rfl, lt⟩ := range_get hj
      have dr : xs.drop x = xs.getD x 0 :: xs.drop (x + 1) := by
        rw [List.drop_eq_getElem_cons lt, List.getD_eq_getElem?_getD, List.getElem?_eq_getElem lt]; rfl
      rw [dr] at hfin'
      simp only [putF] at hfin'
      have rs' := rs fs' st' hl'
      have sl := stepS_len st'
      generalize stepS st' = q at *
      obtain ⟨t, st2⟩ := q
      cases t with
      | true =>
        simp only at hfin'
        subst hfin'
        simp [dskR] at rs'
        simp [turnB, c, rs', dskR]
      | false =>
        simp only [hg', Option.getD_some] at hfin'
        simp [dskR] at rs'
        have dx := dixR_enc (WD_d (fs := fs') (st := st2) hp) hg'
        have c1 : cutD b none (some ((p : Int) + (x : Int))) = b.take (p + x) := by rw [cut_to (by omega)]; congr 1
        have c2 : cutD b (some ((p : Int) + (x : Int) + 1)) none = b.drop (p + x + 1) := by rw [cut_from (by omega)]; congr 1
        have pl : (put1 b (p + x) (xs.getD x 0)).length ≤ b.length + 1 := by
          simp only [put1, List.length_append, List.length_take, List.length_drop, List.length_cons, List.length_nil]; omega
        have a1 : ∀ S, bop .add (tl .int (b.take (p + x))) (.tup [.int (xs.getD x 0)]) S = some (tl .int (b.take (p + x) ++ [xs.getD x 0])) := fun S => add_tl1 rfl (by rw [List.length_take]; unfold SZ; omega)
        have a2 : ∀ S, bop .add (tl .int (b.take (p + x) ++ [xs.getD x 0])) (tl .int (b.drop (p + x + 1))) S = some (tl .int (put1 b (p + x) (xs.getD x 0))) := fun S => add_tl (by rw [List.length_append, List.length_take, List.length_drop]; simp [SZ]; omega)
        have si := setR_enc (n := nm) (b := put1 b (p + x) (xs.getD x 0)) (WD_d (fs := fs') (st := st2) hp) (by omega)
        rw [WD_setd] at si
        have fl : (setF fs' nm (put1 b (p + x) (xs.getD x 0))).length ≤ 900 := by
          have : hasF fs' nm = true := by rw [hasF_iff, hg']; rfl
          unfold setF; rw [if_pos this, List.length_map]; exact hf'
        generalize hv : xs.getD x 0 = v at *
        simp [turnB, c, f5, rs', dx, isEmp, part, c1, c2, a1, a2, si, -List.append_assoc]
        exact ⟨_, _, rfl, by simp only at sl; omega, fl, _, by rw [getF_set, if_pos rfl], by omega, hfin'⟩
    rintro _ _ ⟨fs', st', b, rfl, hl', hf', hg', hb', hfin', t4, t5, t6, rfl⟩
    rw [List.length_range, List.drop_length] at hfin'
    simp only [putF] at hfin'
    subst hfin'
    simp [dskR]
end
end PL

set_option Elab.async false
set_option linter.all false
set_option maxRecDepth 100000
set_option maxHeartbeats 1000000
/-! PN4: notes. -/
namespace PL
open PySem
abbrev i_note_bytes : Nat := 121
/-- note_bytes: mark 0 size 1 have 2 -/
def b_note_bytes : T := (.ret (.call i_text_bytes (.cons (.fstr (.cons (.fmt (.call i_mark_text (.cons (.var 0) .nil))) (.cons (.con (.str " ")) (.cons (.fmt (.var 1)) (.cons (.con (.str " ")) (.cons (.fmt (.call i_range_text (.cons (.var 2) .nil))) .nil)))))) .nil)))
def f_note_bytes : Fn := ⟨true, 3, 3, b_note_bytes⟩
abbrev i_read_pair : Nat := 122
/-- read_pair: text 0 front 1 gap 2 behind 3 begin 4 last 5 -/
def b_read_pair : T := (.asgT [1, 2, 3] (.bm .partition (.var 0) (.cons (.con (.str "-")) .nil))
  (.asg 4 (.call i_number_of (.cons (.var 1) .nil))
  (.asg 5 (.call i_number_of (.cons (.var 3) .nil))
  (.ifs (.or (.cmp .eq (.var 2) (.con (.str ""))) (.or (.isn (.var 4)) (.one (.isn (.var 5)))))
  (.rais 0)
  .nil
  (.ret (.tup (.cons (.var 4) (.cons (.bin .add (.var 5) (.con (.int 1))) .nil))))))))
def f_read_pair : Fn := ⟨true, 1, 6, b_read_pair⟩
abbrev i_read_note : Nat := 123
/-- read_note: some 0 words 1 mark 2 size 3 have 4 part 5 begin 6 end 7 one 8 two 9 -/
def b_read_note : T := (.asg 1 (.bm .split (.call i_bytes_text (.cons (.var 0) .nil)) (.cons (.con (.str " ")) .nil))
  (.ifs (.cmp .ne (.bf .len (.cons (.var 1) .nil)) (.con (.int 3)))
  (.rais 0)
  .nil
  (.asg 2 (.call i_read_mark (.cons (.ix (.var 1) (.con (.int 0))) .nil))
  (.asg 3 (.call i_number_of (.cons (.ix (.var 1) (.con (.int 1))) .nil))
  (.asg 4 (.tup .nil)
  (.ifs (.cmp .ne (.ix (.var 1) (.con (.int 2))) (.con (.str "")))
  (.asg 4 (.bf .tuple (.cons (.comp .plain (.bm .split (.ix (.var 1) (.con (.int 2))) (.cons (.con (.str ",")) .nil)) (.one 5) .emp (.call i_read_pair (.cons (.var 5) .nil))) .nil))
  .nil)
  .nil
  (.ifs (.or (.isn (.var 3)) (.or (.val (.bf .any (.cons (.comp .plain (.var 4) (.many [6, 7]) .emp (.cmp .gt (.var 7) (.var 3))) .nil))) (.one (.cmp .ne (.call i_note_bytes (.cons (.var 2) (.cons (.var 3) (.cons (.var 4) .nil)))) (.var 0)))))
  (.rais 0)
  .nil
  (.ifs (.nt (.val (.bf .all (.cons (.comp .zip (.cons (.sl (.var 4) .emp (.neg (.con (.int 1)))) (.cons (.sl (.var 4) (.con (.int 1)) .emp) .nil)) (.many [8, 9]) .emp (.cmp .lt (.ix (.var 8) (.con (.int 1))) (.ix (.var 9) (.con (.int 0))))) .nil))))
  (.rais 0)
  .nil
  (.ifs (.nt (.val (.bf .all (.cons (.comp .plain (.var 4) (.many [6, 7]) .emp (.cmp .lt (.var 6) (.var 7))) .nil))))
  (.rais 0)
  .nil
  (.ret (.tup (.cons (.var 2) (.cons (.var 3) (.cons (.var 4) .nil))))))))))))))
def f_read_note : Fn := ⟨true, 1, 10, b_read_note⟩
/-- the text of a pair -/
def pairL (p : PI) : List Nat := nL p.1 ++ 45 :: nL (p.2 - 1)
structure OkQ (p : PI) : Prop where
  a : 0 ≤ p.1
  b : p.1 < 1000000000
  c : 1 ≤ p.2
  d : p.2 ≤ 1000000000
abbrev rngL (ps : List PI) : List Nat := TL.joinL [44] (ps.map pairL)
def noteL (m s : Int) (ps : List PI) : List Nat := mkT m ++ 32 :: (nL s ++ 32 :: rngL ps)
theorem pairL_len {p : PI} (h : OkQ p) : (pairL p).length ≤ 19 := by
  have h1 := nL_len h.a h.b
  have h2 := nL_len (i := p.2 - 1) (by have := h.c; omega) (by have := h.d; omega)
  simp only [pairL, List.length_append, List.length_cons]; omega
theorem rngL_len : ∀ {ps : List PI}, (∀ p ∈ ps, OkQ p) → (rngL ps).length ≤ 20 * ps.length
  | [], _ => by simp [rngL, TL.joinL]
  | [i], ho => by
    have h1 := pairL_len (ho i (by simp))
    simp [rngL, TL.joinL]; omega
  | i :: j :: is, ho => by
    have h1 := pairL_len (ho i (by simp))
    have h2 := rngL_len (ps := j :: is) fun q hq => ho q (by simp [List.mem_cons.mp hq])
    have e : rngL (i :: j :: is) = pairL i ++ ([44] ++ rngL (j :: is)) := rfl
    rw [e]
    simp only [List.length_append, List.length_cons, List.length_nil] at *
    omega
theorem sgn_pairL {p : PI} (h : OkQ p) : Sgn (pairL p) := sgn_app (sgn_nL h.a) (sgn_cons (by decide) (sgn_nL (by have := h.c; omega)))
theorem sgn_rngL : ∀ {ps : List PI}, (∀ p ∈ ps, OkQ p) → Sgn (rngL ps)
  | [], _ => by intro c h; simp [rngL, TL.joinL] at h
  | [i], ho => by
    have h1 := sgn_pairL (ho i (by simp))
    simpa [rngL, TL.joinL] using h1
  | i :: j :: is, ho => by
    have h1 := sgn_pairL (ho i (by simp))
    have h2 := sgn_rngL (ps := j :: is) fun q hq => ho q (by simp [List.mem_cons.mp hq])
    have e : rngL (i :: j :: is) = pairL i ++ (44 :: rngL (j :: is)) := rfl
    rw [e]
    exact sgn_app h1 (sgn_cons (by decide) h2)
theorem sgn_noteL {m s : Int} {ps : List PI} (hm : 0 ≤ m) (hs : 0 ≤ s) (ho : ∀ p ∈ ps, OkQ p) : Sgn (noteL m s ps) :=
  sgn_app (sgn_mkT hm) (sgn_cons (by decide) (sgn_app (sgn_nL hs) (sgn_cons (by decide) (sgn_rngL ho))))
theorem noteL_len {m s : Int} {ps : List PI} (hs : 0 ≤ s) (hs' : s < 1000000000) (ho : ∀ p ∈ ps, OkQ p) : (noteL m s ps).length ≤ 20 * ps.length + 20 := by
  have h1 := nL_len hs hs'
  have h2 := rngL_len ho
  have h3 : (mkT m).length = 8 := rfl
  simp only [noteL, List.length_append, List.length_cons, h3]; omega
section
variable {G : Tab} {call : Calls} {env : Env} {S : Store} {k : Nat}
theorem r_rng [h : Has G i_range_text f_range_text] {ps : List PI} (ho : ∀ p ∈ ps, OkQ p) (hl : ps.length ≤ 4001) : run G (k + 1) i_range_text [tl pairD ps] S = .ok (.str (tx (rngL ps))) S := by
  refine pure_W (h := h) rfl rfl (by simp [frzAs]; rfl) ?_
  simp only [b_range_text, startE, x_ret, e_bm, e_con, e_cons, e_nil, R.bind_ok, ok_join, if_true]
  rw [ev_compM (enc := pairD) (xs := ps) (d := tl pairD ps) fun p => .str (tx (pairL p))]
  rotate_left
  · simp
  · simp
  · unfold SZ; omega
  · intro p hp
    have o := ho p hp
    have f1 := fmt_nL (i := p.1) o.a o.b
    have f2 := fmt_nL (i := p.2 - 1) (by have := o.c; omega) (by have := o.d; omega)
    simp [compB, f1, f2, tx_cat, dash_cat, nil_cat, tx_app, pairL]
  have e : ps.map (fun p => D.str (tx (pairL p))) = ((ps.map pairL).map tx).map D.str := by rw [List.map_map, List.map_map]; rfl
  rw [e]
  simp only [R.bind_ok, toTup_tup]
  rw [join_lst (by decide) (by simp; omega) (by
    intro y hy
    obtain ⟨l, hl, rfl⟩ := List.mem_map.mp hy
    obtain ⟨i, hi, rfl⟩ := List.mem_map.mp hl
    have := pairL_len (ho i hi)
    rw [len_tx]; omega), join_tx t_comma]
  simp only [R.stm_ok, sat_finP_rt, frzR_str, R.of_some]
theorem r_note_bytes [h : Has G i_note_bytes f_note_bytes] [ht : Has G i_text_bytes f_text_bytes] [hm : Has G i_mark_text f_mark_text] [hr : Has G i_range_text f_range_text] [h7 : HasC G 7 (.str SIG)] [h2 : HasC G 2 (.str "0123456789abcdef")] [h3 : HasC G 3 (.int 8)]
    {m s : Int} {ps : List PI} (h0 : 0 ≤ m) (hs : 0 ≤ s) (hs' : s < 1000000000) (ho : ∀ p ∈ ps, OkQ p) (hl : ps.length ≤ 4001) :
    run G (k + 2) i_note_bytes [.int m, .int s, tl pairD ps] S = .ok (tl .int (tb (noteL m s ps))) S := by
  have r1 : ∀ S, run G (k + 1) i_mark_text [.int m] S = .ok (.str (tx (mkT m))) S := fun S => r_mark_text h0
  have r2 := fun S => r_rng (G := G) (k := k) (S := S) ho hl
  have r3 : ∀ S, run G (k + 1) i_text_bytes [.str (tx (noteL m s ps))] S = .ok (tl .int (tb (noteL m s ps))) S := fun S => r_text_bytes (by have := noteL_len (m := m) hs hs' ho; omega) (sgn_noteL h0 hs ho)
  have f1 := fmt_nL hs hs'
  have fm := fmt_str (l := mkT m) (by show 8 ≤ 1000000; decide)
  have fr := fmt_str (l := rngL ps) (by have := rngL_len ho; omega)
  refine pure_W (h := h) rfl rfl (by simp [frzAs]; rfl) ?_
  simp only [b_note_bytes, startE]
  generalize run G (k + 1) = call at *
  have e : catD [.str (tx (mkT m)), .str " ", .str (tx (nL s)), .str " ", .str (tx (rngL ps))] = some (tx (noteL m s ps)) := by
    rw [tx_blank]
    simp [tx_cat, nil_cat, tx_app, noteL]
  simp [r1, r2, f1, fm, fr, r3, e]
end
end PL

set_option pp.maxSteps 800
set_option Elab.async false
set_option linter.all false
set_option maxRecDepth 100000
set_option maxHeartbeats 1000000
/-! PN5: notes read. -/
namespace PL
open PySem
theorem dg_hv : ∀ c ∈ hexd, dg (hv c).toNat = c := by decide +kernel
theorem read_back {l : List Nat} {m : Int} (h : readF (tx l) = some m) : 0 ≤ m ∧ m < 2147483647 ∧ mkT m = l := by
  unfold readF at h
  split at h
  · rename_i q
    obtain ⟨q1, q2⟩ := q
    rw [len_tx] at q1
    split at h
    · cases h
    · rename_i q3
      have e : hexV l = m := Option.some.inj h
      have q3 : hexV l < 2147483647 := by
        have : ¬ hexV l ≥ 2147483647 := q3
        omega
      have hin : ∀ c ∈ l, c ∈ hexd := fun c hc => of_decide_eq_true (List.all_eq_true.mp q2 c hc)
      match l, q1, hin, e, q3 with
      | [a, b, c, d, e', f, g, i], _, hin, e, q3 =>
        have w := fun c hc => hv_nn c (hin c hc)
        have u := fun c hc => dg_hv c (hin c hc)
        have a1 := w a (by simp); have a2 := u a (by simp)
        have b1 := w b (by simp); have b2 := u b (by simp)
        have c1 := w c (by simp); have c2 := u c (by simp)
        have d1 := w d (by simp); have d2 := u d (by simp)
        have e1 := w e' (by simp); have e2 := u e' (by simp)
        have f1 := w f (by simp); have f2 := u f (by simp)
        have g1 := w g (by simp); have g2 := u g (by simp)
        have i1 := w i (by simp); have i2 := u i (by simp)
        simp only [hexV, List.foldl_cons, List.foldl_nil] at e q3
        generalize hv a = va at *
        generalize hv b = vb at *
        generalize hv c = vc at *
        generalize hv d = vd at *
        generalize hv e' = ve at *
        generalize hv f = vf at *
        generalize hv g = vg at *
        generalize hv i = vi at *
        refine ⟨by omega, by omega, ?_⟩
        unfold mkT
        rw [show m / 268435456 % 16 = va by omega, show m / 16777216 % 16 = vb by omega, show m / 1048576 % 16 = vc by omega, show m / 65536 % 16 = vd by omega, show m / 4096 % 16 = ve by omega, show m / 256 % 16 = vf by omega, show m / 16 % 16 = vg by omega, show m % 16 = vi by omega]
        rw [a2, b2, c2, d2, e2, f2, g2, i2]
  · cases h
def prP : Option Int → Option Int → Option PI
  | some x, some y => some (x, y + 1)
  | _, _ => none
def prO (a b : List Nat) : Option PI := prP (numO a) (numO b)
def rdPair (l : List Nat) : Option PI := match TL.par [45] [] l with
  | none => none
  | some (a, b) => prO a b
def haveO (w : List Nat) : Option (List PI) := if w = [] then some [] else mapO rdPair (spC 44 w)
def sepB (ps : List PI) : Bool := (ps.dropLast.zip (ps.drop 1)).all fun q => decide (q.1.2 < q.2.1)
def goodB (xs : List Int) (m s : Int) (ps : List PI) : Bool := !(ps.any fun p => decide (s < p.2)) && decide (tb (noteL m s ps) = xs) && sepB ps && ps.all fun p => decide (p.1 < p.2)
def noteA (xs : List Int) : Option Int → Option Int → Option (List PI) → Option (Int × Int × List PI)
  | some m, some s, some ps => if goodB xs m s ps = true then some (m, s, ps) else none
  | _, _, _ => none
def noteW (xs : List Int) : List (List Nat) → Option (Int × Int × List PI)
  | [a, b, c] => noteA xs (readF (tx a)) (numO b) (haveO c)
  | _ => none
def noteO (xs : List Int) : Option (Int × Int × List PI) := if (xs.any fun x => decide (40 ≤ x)) = true then none else noteW xs (spC 32 (xs.map bsI))
def noteD (n : Int × Int × List PI) : D := .tup [.int n.1, .int n.2.1, tl pairD n.2.2]
theorem scl_noteD (n : Int × Int × List PI) : scl (noteD n) = true := by simp [noteD, scl, scls]
theorem prO_ok {a b : List Nat} {p : PI} (h : prO a b = some p) : OkQ p ∧ pairL p = a ++ 45 :: b := by
  unfold prO at h
  cases ha : numO a with
  | none => rw [ha] at h; cases h
  | some x =>
    cases hb : numO b with
    | none => rw [ha, hb] at h; cases h
    | some y =>
      rw [ha, hb] at h
      have := Option.some.inj h
      subst this
      obtain ⟨a1, a2, a3⟩ := numO_back ha
      obtain ⟨b1, b2, b3⟩ := numO_back hb
      refine ⟨⟨a1, a2, by simp only; omega, by simp only; omega⟩, ?_⟩
      simp only [pairL]
      rw [show y + 1 - 1 = y by omega, ← a3, ← b3]
theorem rdPair_ok {l : List Nat} {p : PI} (h : rdPair l = some p) : OkQ p ∧ pairL p = l := by
  unfold rdPair at h
  cases hp : TL.par [45] [] l with
  | none => rw [hp] at h; cases h
  | some q =>
    obtain ⟨a, b⟩ := q
    rw [hp] at h
    obtain ⟨h1, h2⟩ := prO_ok h
    exact ⟨h1, by rw [h2]; simpa using (par_some 45 _ [] a b hp).symm⟩
theorem have_ok {w : List Nat} {ps : List PI} (h : haveO w = some ps) : (∀ p ∈ ps, OkQ p) ∧ ps.length ≤ w.length + 1 := by
  unfold haveO at h
  split at h
  · cases Option.some.inj h; simp
  · refine ⟨?_, by rw [mapO_len h]; exact (spC_len 44 w).1⟩
    have key : ∀ (xs : List (List Nat)) (ys : List PI), mapO rdPair xs = some ys → ∀ y ∈ ys, OkQ y := by
      intro xs
      induction xs with
      | nil => intro ys h y hy; cases Option.some.inj h; cases hy
      | cons x xs ih =>
        intro ys h y hy
        unfold mapO at h
        cases hx : rdPair x with
        | none => rw [hx] at h; cases h
        | some z =>
          rw [hx] at h
          cases hm : mapO rdPair xs with
          | none => rw [hm] at h; cases h
          | some zs =>
            rw [hm] at h
            cases Option.some.inj h
            rcases List.mem_cons.mp hy with rfl | hy
            · exact (rdPair_ok hx).1
            · exact ih zs hm y hy
    exact key _ _ h
section
variable {G : Tab} {call : Calls} {env : Env} {S : Store} {k : Nat}
theorem r_read_pair [h : Has G i_read_pair f_read_pair] [hn : Has G i_number_of f_number_of] [h4 : HasC G 4 (.str "0123456789")] [h5 : HasC G 5 (.int 9)] {l : List Nat} (hx : l.length ≤ 1000000) :
    run G (k + 2) i_read_pair [txD l] S = exO 0 pairD (rdPair l) S := by
  have rn : ∀ (y : List Nat) S, y.length ≤ 1000000 → run G (k + 1) i_number_of [.str (tx y)] S = .ok (opD .int (numO y)) S := fun y S h => r_number_of h
  have pt := fun S => part_str (S := S) hx l_dash
  rw [part_tx t_dash] at pt
  unfold txD
  refine pure_W (h := h) rfl rfl (by simp [frzAs]; rfl) ?_
  simp only [b_read_pair, startE]
  unfold rdPair
  cases hp : TL.par [45] [] l with
  | none =>
    rw [hp] at pt
    simp only [emp_tx] at pt ⊢
    have r1 := fun S => rn l S hx
    have r2 := fun S => rn [] S (by decide)
    rw [numO_nil] at r2
    simp [pt, r1, r2, tx_e0, opD]
  | some p =>
    obtain ⟨a, b⟩ := p
    have hap := par_some 45 _ [] a b hp
    have ln := congrArg List.length hap
    simp only [List.nil_append, List.length_append, List.length_cons] at ln
    rw [hp] at pt
    simp only at pt ⊢
    have r1 := fun S => rn a S (by omega)
    have r2 := fun S => rn b S (by omega)
    unfold prO
    cases ha : numO a with
    | none => rw [ha] at r1; simp [pt, r1, r2, dash_ne, opD, prP]
    | some v =>
      rw [ha] at r1
      cases hb : numO b with
      | none => rw [hb] at r2; simp [pt, r1, r2, dash_ne, opD, prP]
      | some w =>
        rw [hb] at r2
        have sy := (numO_back hb).2.1
        simp [pt, r1, r2, dash_ne, opD, prP, pairD, scl, scls]
theorem r_read_note [h : Has G i_read_note f_read_note] [hb : Has G i_bytes_text f_bytes_text] [hrp : Has G i_read_pair f_read_pair] [hn : Has G i_number_of f_number_of] [hrm : Has G i_read_mark f_read_mark] [hnb : Has G i_note_bytes f_note_bytes] [ht : Has G i_text_bytes f_text_bytes] [hm : Has G i_mark_text f_mark_text] [hr : Has G i_range_text f_range_text] [h0 : HasC G 0 (.int 2147483647)] [h2 : HasC G 2 (.str "0123456789abcdef")] [h3 : HasC G 3 (.int 8)] [h4 : HasC G 4 (.str "0123456789")] [h5 : HasC G 5 (.int 9)] [h7 : HasC G 7 (.str SIG)]
    {xs : List Int} (hl : xs.length ≤ 4000) (hx : ∀ x ∈ xs, 0 ≤ x) : run G (k + 3) i_read_note [tl .int xs] S = exO 0 noteD (noteO xs) S := by
  have rbt := fun S => r_bytes_text (G := G) (k := k + 1) (S := S) (xs := xs) (by omega) hx
  have rn : ∀ (y : List Nat) S, y.length ≤ 1000000 → run G (k + 2) i_number_of [.str (tx y)] S = .ok (opD .int (numO y)) S := fun y S h => r_number_of h
  have rm : ∀ (y : List Nat) S, y.length ≤ 1000000 → run G (k + 2) i_read_mark [.str (tx y)] S = exO 0 D.int (readF (tx y)) S := fun y S h => by
    have := r_read_mark (G := G) (k := k + 1) (S := S) (x := tx y) (by rw [len_tx]; exact h)
    rw [this]
    cases readF (tx y) <;> rfl
  have rp : ∀ (y : List Nat) S, y.length ≤ 1000000 → run G (k + 2) i_read_pair [txD y] S = exO 0 pairD (rdPair y) S := fun y S h => r_read_pair h
  have rnb : ∀ (m s : Int) (ps : List PI) S, 0 ≤ m → 0 ≤ s → s < 1000000000 → (∀ p ∈ ps, OkQ p) → ps.length ≤ 4001 → run G (k + 2) i_note_bytes [.int m, .int s, tl pairD ps] S = .ok (tl .int (tb (noteL m s ps))) S := fun m s ps S a b c d e => r_note_bytes a b c d e
  refine pure_W (h := h) rfl rfl (by simp [frzAs]; rfl) ?_
  simp only [b_read_note, startE]
  generalize run G (k + 2) = call at *
  unfold noteO
  cases hq : (xs.any fun x => decide (40 ≤ x)) with
  | true =>
    rw [hq] at rbt
    simp only [if_true] at rbt ⊢
    simp [rbt]
  | false =>
    rw [hq] at rbt
    simp only [Bool.false_eq_true, if_false] at rbt ⊢
    have sp := fun S => split_str (S := S) (l := xs.map bsI) (by rw [List.length_map]; omega) l_blank t_blank (by decide)
    have sl := spC_len 32 (xs.map bsI)
    rw [List.length_map] at sl
    generalize spC 32 (xs.map bsI) = ws at *
    by_cases h3w : ws.length = 3
    · match ws, h3w with
      | [a, b, c], _ =>
        obtain ⟨sl1, sl2⟩ := sl
        have la := sl2 a (by simp)
        have lb := sl2 b (by simp)
        have lc := sl2 c (by simp)
        have e0 : ∀ S, getD_ (ll txD [a, b, c]) (.int 0) S = some (.str (tx a)) := fun S => rfl
        have e1 : ∀ S, getD_ (ll txD [a, b, c]) (.int 1) S = some (.str (tx b)) := fun S => rfl
        have e2 : ∀ S, getD_ (ll txD [a, b, c]) (.int 2) S = some (.str (tx c)) := fun S => rfl
        have r1 := fun S => rm a S (by omega)
        have r2 := fun S => rn b S (by omega)
        simp only [noteW]
        refine x_asgV (d := ll txD [a, b, c]) (S1 := []) (by simp [rbt, sp]) ?_
        refine x_ifsF (S' := []) (by simp) ?_
        cases ha : readF (tx a) with
        | none =>
          rw [ha] at r1
          simp [e0, -ix_ll, r1, noteA]
        | some m =>
          rw [ha] at r1
          obtain ⟨m0, m1, _⟩ := read_back ha
          refine x_asgV (d := .int m) (S1 := []) (by simp [e0, -ix_ll, r1]) ?_
          refine x_asgV (d := opD .int (numO b)) (S1 := []) (by simp [e1, -ix_ll, r2]) ?_
          refine x_asgV (d := tl pairD []) (S1 := []) (by simp; rfl) ?_
          cases hh : haveO c with
          | none =>
            have nc : c ≠ [] := fun e => by rw [haveO, if_pos e] at hh; cases hh
            rw [haveO, if_neg nc] at hh
            have spc := fun S => split_str (S := S) (l := c) (by omega) l_comma t_comma (by decide)
            have sc := spC_len 44 c
            generalize spC 44 c = cs at *
            have cm : ∀ env : Env, env[1]? = some (some (ll txD [a, b, c])) → 5 < env.length → ev G call (.comp .plain (.bm .split (.ix (.var 1) (.con (.int 2))) (.cons (.con (.str ",")) .nil)) (.one 5) .emp (.call i_read_pair (.cons (.var 5) .nil))) env [] = exO 0 (ll pairD) (mapO rdPair cs) [] := fun env e1' el => by
              refine ev_compX (fo := pairD) (enc := txD) (xs := cs) (d := ll txD cs) rdPair (by simp [e1', e2, -ix_ll, spc]) mkIt_ll (by unfold SZ; omega) fun y hy => ?_
              have := rp y [] (by have := sc.2 y hy; omega)
              cases hr : rdPair y with
              | none => rw [hr] at this; simp [compB, this, el]
              | some i => rw [hr] at this; simp [compB, this, el]
            rw [hh] at cm
            have na : noteA xs (some m) (numO b) none = none := by cases numO b <;> rfl
            rw [na]
            simp [e2, -ix_ll, tx_e0, nc, cm]
          | some ps =>
            obtain ⟨ok, lp⟩ := have_ok hh
            have lp' : ps.length ≤ 4001 := by omega
            refine x_ifsW (t := !decide (c = [])) (S' := []) (fun e s => s = [] ∧ ∃ t5 t6 t7 t8 t9, e = [some (tl .int xs), some (ll txD [a, b, c]), some (.int m), some (opD .int (numO b)), some (tl pairD ps), t5, t6, t7, t8, t9]) (by simp [e2, -ix_ll, tx_e0]) ?_ ?_ ?_
            · intro hc
              have nc : c ≠ [] := by simpa using hc
              rw [haveO, if_neg nc] at hh
              have spc := fun S => split_str (S := S) (l := c) (by omega) l_comma t_comma (by decide)
              have sc := spC_len 44 c
              generalize spC 44 c = cs at *
              have cm : ∀ env : Env, env[1]? = some (some (ll txD [a, b, c])) → 5 < env.length → ev G call (.comp .plain (.bm .split (.ix (.var 1) (.con (.int 2))) (.cons (.con (.str ",")) .nil)) (.one 5) .emp (.call i_read_pair (.cons (.var 5) .nil))) env [] = exO 0 (ll pairD) (mapO rdPair cs) [] := fun env e1' el => by
                refine ev_compX (fo := pairD) (enc := txD) (xs := cs) (d := ll txD cs) rdPair (by simp [e1', e2, -ix_ll, spc]) mkIt_ll (by unfold SZ; omega) fun y hy => ?_
                have := rp y [] (by have := sc.2 y hy; omega)
                cases hr : rdPair y with
                | none => rw [hr] at this; simp [compB, this, el]
                | some i => rw [hr] at this; simp [compB, this, el]
              rw [hh] at cm
              refine x_asgV (d := tl pairD ps) (S1 := []) (by simp [cm]) ?_
              simp
            · intro hc
              have nc : c = [] := by simpa using hc
              subst nc
              rw [haveO, if_pos rfl] at hh
              cases Option.some.inj hh
              simp
            rintro _ s ⟨hs, t5, t6, t7, t8, t9, rfl⟩
            rw [hs]
            cases hnb' : numO b with
            | none => simp [noteA, opD]
            | some sz =>
              obtain ⟨s0, s1, _⟩ := numO_back hnb'
              have r3 := fun S => rnb m sz ps S m0 s0 s1 ok lp'
              have ca : ∀ t6 t7, ev G call (.comp .plain (.var 4) (.many [6, 7]) .emp (.cmp .gt (.var 7) (.var 3))) [some (tl .int xs), some (ll txD [a, b, c]), some (.int m), some (opD .int (some sz)), some (tl pairD ps), t5, t6, t7, t8, t9] [] = .ok (.lst (ps.map fun p => .bl (decide (sz < p.2)))) [] := fun t6 t7 =>
                ev_compM (enc := pairD) (xs := ps) (d := tl pairD ps) (fun p => .bl (decide (sz < p.2))) (by simp) (by simp) (by unfold SZ; omega) fun p hp => by simp [compB, opD]
              have cb : ev G call (.comp .zip (.cons (.sl (.var 4) .emp (.neg (.con (.int 1)))) (.cons (.sl (.var 4) (.con (.int 1)) .emp) .nil)) (.many [8, 9]) .emp (.cmp .lt (.ix (.var 8) (.con (.int 1))) (.ix (.var 9) (.con (.int 0))))) [some (tl .int xs), some (ll txD [a, b, c]), some (.int m), some (opD .int (some sz)), some (tl pairD ps), t5, t6, t7, t8, t9] [] = .ok (.lst ((ps.dropLast.zip (ps.drop 1)).map fun q => .bl (decide (q.1.2 < q.2.1)))) [] := by
                have c1 : cutD ps (some 1) none = ps.drop 1 := by rw [cut_from (by decide)]; rfl
                exact ev_compM (ik := .zip) (enc := fun q : PI × PI => D.tup [pairD q.1, pairD q.2]) (xs := ps.dropLast.zip (ps.drop 1)) (d := .tup [tl pairD ps.dropLast, tl pairD (ps.drop 1)]) (fun q => .bl (decide (q.1.2 < q.2.1))) (by simp [isEmp, part, negD, cut_butlast, c1]) mkIt_ziptl (by
                  rw [List.length_zip, List.length_dropLast]; unfold SZ; omega) fun q hq => by simp [compB, pairD, ix0_tup, ix1_tup]
              have cc : ∀ t6 t7, ev G call (.comp .plain (.var 4) (.many [6, 7]) .emp (.cmp .lt (.var 6) (.var 7))) [some (tl .int xs), some (ll txD [a, b, c]), some (.int m), some (opD .int (some sz)), some (tl pairD ps), t5, t6, t7, t8, t9] [] = .ok (.lst (ps.map fun p => .bl (decide (p.1 < p.2)))) [] := fun t6 t7 =>
                ev_compM (enc := pairD) (xs := ps) (d := tl pairD ps) (fun p => .bl (decide (p.1 < p.2))) (by simp) (by simp) (by unfold SZ; omega) fun p hp => by simp [compB]
              have ba : ∀ S, bfD .any [.lst (ps.map fun p => .bl (decide (sz < p.2)))] S = some (.bl (ps.any fun p => decide (sz < p.2))) := fun S => any_ll
              have bb : ∀ S, bfD .all [.lst ((ps.dropLast.zip (ps.drop 1)).map fun q => .bl (decide (q.1.2 < q.2.1)))] S = some (.bl (sepB ps)) := fun S => all_ll
              have bc : ∀ S, bfD .all [.lst (ps.map fun p => .bl (decide (p.1 < p.2)))] S = some (.bl (ps.all fun p => decide (p.1 < p.2))) := fun S => all_ll
              have ft : ∀ n, frzR [] (noteD n) = some (noteD n) := fun n => frzR_scl (scl_noteD n)
              simp only [noteA]
              simp only [opD] at ca cb cc ⊢
              have ft' := ft (m, sz, ps)
              simp only [noteD] at ft'
              by_cases hN : tb (noteL m sz ps) = xs
              · rw [hN] at r3
                cases hA : (ps.any fun p => decide (sz < p.2)) <;> cases hB : sepB ps <;> cases hC : (ps.all fun p => decide (p.1 < p.2)) <;> rw [hA] at ba <;> rw [hB] at bb <;> rw [hC] at bc <;> simp only [goodB, hA, hB, hC, hN, decide_true, Bool.not_true, Bool.not_false, Bool.and_true, Bool.and_false, Bool.true_and, Bool.false_and, Bool.false_eq_true, if_true, if_false] <;> simp [-List.any_eq_true, -List.all_eq_true, -List.drop_one, ca, ba, cb, bb, cc, bc, r3, noteD, ft']
              · cases hA : (ps.any fun p => decide (sz < p.2)) <;> rw [hA] at ba <;> simp only [goodB, hA, hN, decide_false, Bool.not_true, Bool.not_false, Bool.and_true, Bool.and_false, Bool.true_and, Bool.false_and, Bool.false_eq_true, if_true, if_false] <;> simp [ca, ba, r3, hN]
    · have nw : noteW xs ws = none := by
        match ws, h3w with
        | [], _ => rfl
        | [_], _ => rfl
        | [_, _], _ => rfl
        | [_, _, _], h => exact absurd rfl h
        | _ :: _ :: _ :: _ :: _, _ => rfl
      have h3' : ¬ (ws.length : Int) = 3 := by omega
      rw [nw]
      simp [rbt, sp, h3']
end
end PL

set_option Elab.async false
set_option linter.all false
set_option maxRecDepth 100000
set_option maxHeartbeats 1000000
/-! PN6: notes of cells; told. -/
namespace PL
open PySem
theorem nl_free {i : Int} {s : Nat} (h0 : 0 ≤ i) (h : s < 48 ∨ 57 < s) : s ∉ nL i := txtI_free h0 h
theorem pairL_free {p : PI} (h : OkQ p) : 44 ∉ pairL p ∧ 32 ∉ pairL p := by
  have c := h.c
  constructor
  · intro hm
    simp only [pairL, List.mem_append, List.mem_cons] at hm
    rcases hm with hm | hm | hm
    · exact nl_free h.a (by omega) hm
    · exact absurd hm (by decide)
    · exact nl_free (by omega) (by omega) hm
  · intro hm
    simp only [pairL, List.mem_append, List.mem_cons] at hm
    rcases hm with hm | hm | hm
    · exact nl_free h.a (by omega) hm
    · exact absurd hm (by decide)
    · exact nl_free (by omega) (by omega) hm
theorem rd_pairL {p : PI} (h : OkQ p) : rdPair (pairL p) = some p := by
  have e := TL.par_part1 (S := []) (rest := nL (p.2 - 1)) (acc := []) (txtI_free (s := 45) h.a (by omega))
  simp only [List.nil_append, List.cons_append] at e
  unfold rdPair pairL
  rw [e]
  have c := h.c
  have d := h.d
  simp only [prO, numO_txt h.a h.b, numO_txt (i := p.2 - 1) (by omega) (by omega), prP]
  rw [show p.2 - 1 + 1 = p.2 by omega]
theorem rngL_free : ∀ {ps : List PI}, (∀ p ∈ ps, OkQ p) → 32 ∉ rngL ps
  | [], _ => by simp [rngL, TL.joinL]
  | [i], ho => by
    have h1 := (pairL_free (ho i (by simp))).2
    simpa [rngL, TL.joinL] using h1
  | i :: j :: is, ho => by
    have h1 := (pairL_free (ho i (by simp))).2
    have h2 := rngL_free (ps := j :: is) fun q hq => ho q (by simp [List.mem_cons.mp hq])
    have e : rngL (i :: j :: is) = pairL i ++ (44 :: rngL (j :: is)) := rfl
    rw [e]
    intro hm
    simp only [List.mem_append, List.mem_cons] at hm
    rcases hm with hm | hm | hm
    · exact h1 hm
    · exact absurd hm (by decide)
    · exact h2 hm
theorem have_rngL {ps : List PI} (ho : ∀ p ∈ ps, OkQ p) : haveO (rngL ps) = some ps := by
  by_cases hp : ps = []
  · subst hp; rfl
  · have ne : rngL ps ≠ [] := by
      match ps, hp with
      | [p], _ => simp [rngL, TL.joinL, pairL]
      | p :: q :: r, _ =>
        have e : rngL (p :: q :: r) = pairL p ++ (44 :: rngL (q :: r)) := rfl
        rw [e]; simp
    rw [haveO, if_neg ne]
    have e : spC 44 (rngL ps) = ps.map pairL := TL.spl_join (by simpa using hp) (by
      intro l hl
      obtain ⟨q, hq, rfl⟩ := List.mem_map.mp hl
      exact (pairL_free (ho q hq)).1)
    rw [e]
    exact mapO_some fun p hp => rd_pairL (ho p hp)
theorem mkT_free {m : Int} (h : 0 ≤ m) : 32 ∉ mkT m := fun hm => by
  have := mkT_hex h 32 hm
  exact absurd this (by decide)
theorem spl_note {m s : Int} {ps : List PI} (h0 : 0 ≤ m) (hs : 0 ≤ s) (ho : ∀ p ∈ ps, OkQ p) : spC 32 (noteL m s ps) = [mkT m, nL s, rngL ps] := by
  have e : noteL m s ps = TL.joinL [32] [mkT m, nL s, rngL ps] := by simp [noteL, TL.joinL]
  rw [e]
  exact TL.spl_join (by simp) (by
    intro p hp
    simp only [List.mem_cons, List.not_mem_nil, or_false] at hp
    rcases hp with rfl | rfl | rfl
    · exact mkT_free h0
    · exact nl_free hs (by omega)
    · exact rngL_free ho)
theorem sep_zip : ∀ {ps : List PI}, Can ps → ∀ q ∈ ps.dropLast.zip (ps.drop 1), q.1.2 < q.2.1
  | [], _, q, hq => by simp at hq
  | [p], _, q, hq => by simp at hq
  | p :: p' :: r, hc, q, hq => by
    simp only [List.dropLast_cons_cons, List.drop_succ_cons, List.drop_zero, List.zip_cons_cons, List.mem_cons] at hq
    obtain ⟨_, h2, h3⟩ := can_cons.mp hc
    rcases hq with rfl | hq
    · exact h2 p' (by simp)
    · exact sep_zip (ps := p' :: r) h3 q (by simpa using hq)
theorem note_rt {m s : Int} {ps : List PI} (h0 : 0 ≤ m) (h1 : m < 2147483647) (hs : 0 ≤ s) (hs' : s < 1000000000) (ho : ∀ p ∈ ps, OkQ p) (hc : Can ps) (hb : ∀ p ∈ ps, p.2 ≤ s) : noteO (tb (noteL m s ps)) = some (m, s, ps) := by
  have sg := sgn_noteL h0 hs ho
  have an : ((tb (noteL m s ps)).any fun x => decide (40 ≤ x)) = false := by
    rw [List.any_eq_false]
    intro x hx
    have := tb_lt sg x hx
    simp; omega
  rw [noteO, an, bs_tb sg, spl_note h0 hs ho]
  simp only [Bool.false_eq_true, if_false, noteW]
  have r1 : readF (tx (mkT m)) = some m := read_mk h0 h1
  rw [r1, numO_txt hs hs', have_rngL ho]
  have g : goodB (tb (noteL m s ps)) m s ps = true := by
    have g1 : (ps.any fun p => decide (s < p.2)) = false := by
      rw [List.any_eq_false]
      intro p hp
      have := hb p hp
      simp; omega
    have g2 : sepB ps = true := List.all_eq_true.mpr fun q hq => decide_eq_true (sep_zip hc q hq)
    have g3 : (ps.all fun p => decide (p.1 < p.2)) = true := List.all_eq_true.mpr fun p hp => decide_eq_true (hc.2 p hp)
    rw [goodB, g1, g2, g3]
    simp
  rw [noteA, if_pos g]
section
variable {G : Tab} {call : Calls} {env : Env} {S : Store} {k : Nat}
end
end PL

set_option Elab.async false
set_option linter.all false
set_option maxRecDepth 100000
set_option maxHeartbeats 1000000
/-! PNF: haulers: traces of what is done on a disk; the methods. -/
namespace PL
open PySem
abbrev i_Hauler_there : Nat := 134
/-- Hauler_there: self 0 end 1 -/
def b_Hauler_there : T := (.ret (.cmp .inn (.bin .add (.fld 3 (.var 0) 7) (.var 1)) (.meth 2 (.fld 3 (.var 0) 8) 14 .nil)))
def f_Hauler_there : Fn := ⟨false, 2, 2, b_Hauler_there⟩
abbrev i_Hauler_init : Nat := 135
/-- Hauler_init: self 0 disk 1 name 2 -/
def b_Hauler_init : T := (.fldS 3 (.var 0) 8 (.var 1)
  (.fldS 3 (.var 0) 7 (.var 2)
  (.fldS 3 (.var 0) 9 (.con .non)
  (.ifs (.and (.val (.meth 3 (.var 0) 15 (.cons (.con (.str ".note")) .nil))) (.one (.val (.meth 3 (.var 0) 15 (.cons (.con (.str ".part")) .nil)))))
  (.fldS 3 (.var 0) 9 (.call i_read_note (.cons (.meth 2 (.var 1) 13 (.cons (.bin .add (.var 2) (.con (.str ".note"))) .nil)) .nil))
  .nil)
  .nil
  .nil))))
def f_Hauler_init : Fn := ⟨false, 3, 3, b_Hauler_init⟩
abbrev i_l_piece : Nat := 146
/-- l_piece: _body 0 _cell_here 1 _begin 2 _end 3 -/
def b_l_piece : T := (.asg 2 (.call i_l_d (.cons (.var 1) (.cons (.con (.int 1)) (.cons (.bin .add (.bf .len (.cons (.var 0) .nil)) (.con (.int 1))) .nil))))
  (.asg 3 (.bf .min (.cons (.bf .len (.cons (.var 0) .nil)) (.cons (.bin .add (.var 2) (.call i_l_d (.cons (.var 1) (.cons (.con (.int 97)) (.cons (.con (.int 40)) .nil))))) .nil)))
  (.ret (.tup (.cons (.var 2) (.cons (.sl (.var 0) (.var 2) (.var 3)) .nil))))))
def f_l_piece : Fn := ⟨true, 2, 4, b_l_piece⟩
abbrev i_Hauler_need : Nat := 136
/-- Hauler_need: self 0 -/
def b_Hauler_need : T := (.ifs (.isn (.fld 3 (.var 0) 9))
  (.rais 4)
  .nil
  .nil)
def f_Hauler_need : Fn := ⟨false, 1, 1, b_Hauler_need⟩
abbrev i_Hauler_lacks_2 : Nat := 224
/-- Hauler_lacks_2: self 0 -/
def b_Hauler_lacks_2 : T := (.exp (.meth 3 (.var 0) 9 .nil)
  (.ret (.call i_without (.cons (.tup (.cons (.tup (.cons (.con (.int 0)) (.cons (.ix (.fld 3 (.var 0) 9) (.con (.int 1))) .nil))) .nil)) (.cons (.ix (.fld 3 (.var 0) 9) (.con (.int 2))) .nil)))))
def f_Hauler_lacks_2 : Fn := ⟨false, 1, 1, b_Hauler_lacks_2⟩
abbrev i_Hauler_write_note : Nat := 137
/-- Hauler_write_note: self 0 mark 1 size 2 have 3 some 4 -/
def b_Hauler_write_note : T := (.asg 4 (.call i_note_bytes (.cons (.var 1) (.cons (.var 2) (.cons (.var 3) .nil))))
  (.exp (.meth 2 (.fld 3 (.var 0) 8) 10 (.cons (.bin .add (.fld 3 (.var 0) 7) (.con (.str ".new"))) (.cons (.bf .len (.cons (.var 4) .nil)) .nil)))
  (.exp (.meth 2 (.fld 3 (.var 0) 8) 11 (.cons (.bin .add (.fld 3 (.var 0) 7) (.con (.str ".new"))) (.cons (.con (.int 0)) (.cons (.var 4) .nil))))
  (.exp (.meth 2 (.fld 3 (.var 0) 8) 12 (.cons (.bin .add (.fld 3 (.var 0) 7) (.con (.str ".new"))) (.cons (.bin .add (.fld 3 (.var 0) 7) (.con (.str ".note"))) .nil)))
  (.fldS 3 (.var 0) 9 (.tup (.cons (.var 1) (.cons (.var 2) (.cons (.var 3) .nil))))
  .nil)))))
def f_Hauler_write_note : Fn := ⟨false, 4, 5, b_Hauler_write_note⟩
abbrev i_Hauler_take_2 : Nat := 225
/-- Hauler_take_2: self 0 begin 1 some 2 mark 3 size 4 have 5 more 6 low 7 high 8 -/
def b_Hauler_take_2 : T := (.exp (.meth 3 (.var 0) 9 .nil)
  (.asgT [3, 4, 5] (.fld 3 (.var 0) 9)
  (.asg 6 (.call i_both (.cons (.tup (.cons (.tup (.cons (.var 1) (.cons (.bin .add (.var 1) (.bf .len (.cons (.var 2) .nil))) .nil))) .nil)) (.cons (.meth 3 (.var 0) 17 .nil) .nil)))
  (.for_ .plain (.var 6) (.many [7, 8])
  (.exp (.meth 2 (.fld 3 (.var 0) 8) 11 (.cons (.bin .add (.fld 3 (.var 0) 7) (.con (.str ".part"))) (.cons (.var 7) (.cons (.sl (.var 2) (.bin .sub (.var 7) (.var 1)) (.bin .sub (.var 8) (.var 1))) .nil))))
  .nil)
  (.ifs (.val (.var 6))
  (.exp (.meth 3 (.var 0) 16 (.cons (.var 3) (.cons (.var 4) (.cons (.call i_together (.cons (.var 5) (.cons (.var 6) .nil))) .nil))))
  .nil)
  .nil
  (.ret (.call i_count (.cons (.var 6) .nil))))))))
def f_Hauler_take_2 : Fn := ⟨false, 3, 9, b_Hauler_take_2⟩
abbrev i_Hauler_have : Nat := 139
/-- Hauler_have: self 0 -/
def b_Hauler_have : T := (.exp (.meth 3 (.var 0) 9 .nil)
  (.ret (.ix (.fld 3 (.var 0) 9) (.con (.int 2)))))
def f_Hauler_have : Fn := ⟨false, 1, 1, b_Hauler_have⟩
abbrev i_Hauler_begin : Nat := 138
/-- Hauler_begin: self 0 mark 1 size 2 -/
def b_Hauler_begin : T := (.ifs (.and (.ntn (.fld 3 (.var 0) 9)) (.one (.cmp .eq (.sl (.fld 3 (.var 0) 9) .emp (.con (.int 2))) (.tup (.cons (.var 1) (.cons (.var 2) .nil))))))
  (.ret (.con (.bl true)))
  .nil
  (.fldS 3 (.var 0) 9 (.con .non)
  (.ifs (.val (.meth 3 (.var 0) 15 (.cons (.con (.str ".note")) .nil)))
  (.exp (.meth 2 (.fld 3 (.var 0) 8) 4 (.cons (.bin .add (.fld 3 (.var 0) 7) (.con (.str ".note"))) .nil))
  .nil)
  .nil
  (.exp (.meth 2 (.fld 3 (.var 0) 8) 10 (.cons (.bin .add (.fld 3 (.var 0) 7) (.con (.str ".part"))) (.cons (.var 2) .nil)))
  (.exp (.meth 3 (.var 0) 16 (.cons (.var 1) (.cons (.var 2) (.cons (.tup .nil) .nil))))
  (.ret (.con (.bl false))))))))
def f_Hauler_begin : Fn := ⟨false, 3, 3, b_Hauler_begin⟩
/-! ### how far a disk goes: the steps done, one by one -/
def adv (T : Nat) : List Int → (Nat × List Int) ⊕ List Int
  | [] => .inr []
  | a :: r => if 0 ≤ a ∧ a < T then .inl (a.toNat, r) else .inr ((a - T) :: r)
theorem adv_0 (st : List Int) : adv 0 st = .inr st := by
  cases st with
  | nil => rfl
  | cons a r => simp only [adv]; rw [if_neg (by omega)]; simp
theorem adv_1 (st : List Int) : adv 1 st = if (stepS st).1 = true then .inl (0, (stepS st).2) else .inr (stepS st).2 := by
  cases st with
  | nil => rfl
  | cons a r =>
    by_cases h : a = 0
    · subst h; rfl
    · have e : stepS (a :: r) = (false, (a - 1) :: r) := by simp only [stepS]; rw [if_neg h]
      rw [e]
      simp only [adv]
      rw [if_neg (by omega)]; rfl
theorem adv_add (T U : Nat) (st : List Int) : adv (T + U) st = match adv T st with
    | .inl x => .inl x
    | .inr s => match adv U s with
      | .inl (j, r) => .inl (T + j, r)
      | .inr s' => .inr s' := by
  cases st with
  | nil => rfl
  | cons a r =>
    simp only [adv]
    by_cases h : 0 ≤ a ∧ a < T
    · rw [if_pos h, if_pos (by omega)]
    · rw [if_neg h]
      simp only [adv]
      by_cases h2 : 0 ≤ a ∧ a < ((T + U : Nat) : Int)
      · rw [if_pos h2, if_pos (by omega)]
        simp only [Sum.inl.injEq, Prod.mk.injEq, and_true]; omega
      · rw [if_neg h2, if_neg (by omega)]
        simp only [Sum.inr.injEq, List.cons.injEq, and_true]; omega
theorem adv_len {T : Nat} {st s : List Int} (h : adv T st = .inr s) : s.length = st.length := by
  cases st with
  | nil => simp only [adv, Sum.inr.injEq] at h; rw [← h]
  | cons a r =>
    simp only [adv] at h
    split at h
    · cases h
    · rw [← Sum.inr.inj h]; rfl
theorem adv_stop {T j : Nat} {st s : List Int} (h : adv T st = .inl (j, s)) : j < T ∧ s.length + 1 = st.length := by
  cases st with
  | nil => cases h
  | cons a r =>
    simp only [adv] at h
    split at h
    · have := Sum.inl.inj h
      simp only [Prod.mk.injEq] at this
      obtain ⟨rfl, rfl⟩ := this
      exact ⟨by omega, rfl⟩
    · cases h

/-! ### a hauler in the store -/
structure Nt where
  m : Int
  z : Nat
  h : List PI
def ntD (s : Nt) : D := .tup [.int s.m, .int s.z, tl pairD s.h]
instance : Okf ntD := ⟨fun s => by simp [ntD, noRef, noRefs], fun s => by simp [ntD, scl, scls]⟩
abbrev hauO (n : Nat) (nm : Str) (hs : Option Nt) : Ob := .ins 3 [(8, .ref n), (7, .str nm), (9, opD ntD hs)]
/-- where things stand: the store's rest, disk, its files, hauler, name -/
structure Wrl where
  S : Store
  n : Nat
  m : Nat
  p : Nat
  nm : Str
structure Wrl.Ok (w : Wrl) : Prop where
  pl : Pl w.S w.n w.m
  pn : w.p ≠ w.n
  pm : w.p ≠ w.m
  p : w.p < w.S.length
  l : w.nm.length ≤ 100
def Wrl.at (w : Wrl) (fs : Fs) (st : List Int) (hs : Option Nt) : Store := WD (w.S.set w.p (hauO w.n w.nm hs)) w.n w.m fs st
section
variable {w : Wrl} {fs fs' : Fs} {st st' : List Int} {hs hs' : Option Nt}
theorem at_pl (ok : w.Ok) : Pl (w.S.set w.p (hauO w.n w.nm hs)) w.n w.m := ok.pl.set
@[simp] theorem at_len : (w.at fs st hs).length = w.S.length := by unfold Wrl.at; rw [WD_len, List.length_set]
theorem at_o (ok : w.Ok) : (w.at fs st hs)[w.p]? = some (hauO w.n w.nm hs) := by
  unfold Wrl.at
  rw [WD_i ok.pn ok.pm, List.getElem?_set_self ok.p]
theorem at_i {i : Nat} (h1 : i ≠ w.n) (h2 : i ≠ w.m) (h3 : i ≠ w.p) : (w.at fs st hs)[i]? = w.S[i]? := by
  unfold Wrl.at
  rw [WD_i h1 h2, List.getElem?_set_ne (fun e => h3 e.symm)]
theorem at_cl (ok : w.Ok) : clsD (.ref w.p) (w.at fs st hs) = some 3 := by simp only [clsD, at_o ok]
theorem at_f8 (ok : w.Ok) : fldD (.ref w.p) 8 (w.at fs st hs) = some (.ref w.n) := by simp only [fldD, at_o ok]; rfl
theorem at_f7 (ok : w.Ok) : fldD (.ref w.p) 7 (w.at fs st hs) = some (.str w.nm) := by simp only [fldD, at_o ok]; rfl
theorem at_f9 (ok : w.Ok) : fldD (.ref w.p) 9 (w.at fs st hs) = some (opD ntD hs) := by simp only [fldD, at_o ok]; rfl
theorem at_s9 (ok : w.Ok) : setFld (.ref w.p) 9 (opD ntD hs') (w.at fs st hs) = some (w.at fs st hs') := by
  simp only [setFld, at_o ok]
  rw [if_pos (by simp)]
  show some ((w.at fs st hs).set w.p (hauO w.n w.nm hs')) = _
  unfold Wrl.at
  rw [WD_set ok.pn ok.pm, List.set_set]
theorem at_cd (ok : w.Ok) : clsD (.ref w.n) (w.at fs st hs) = some 2 := WD_cl (at_pl ok)
end
/-- what came of a deed: it stopped somewhere on its way, or was done -/
def Out (w : Wrl) (tr : List Fs) (d : D) (fs' : Fs) (hs' : Option Nt) (st : List Int) (r : R D) : Prop := match adv tr.length st with
  | .inl (j, s) => ∃ f hs, tr[j]? = some f ∧ r = .ex 2 (w.at f s hs)
  | .inr s => r = .ok d (w.at fs' s hs')
def Tr (w : Wrl) (f : Store → R D) (fs : Fs) (hs : Option Nt) (tr : List Fs) (d : D) (fs' : Fs) (hs' : Option Nt) : Prop := ∀ st, st.length ≤ 1000 → Out w tr d fs' hs' st (f (w.at fs st hs))
def putTr (x : Str) : Nat → List Int → Fs → List Fs
  | _, [], _ => []
  | p, a :: r, fs => fs :: putTr x (p + 1) r (setF fs x (put1 ((getF fs x).getD []) p a))
def putE (x : Str) : Nat → List Int → Fs → Fs
  | _, [], fs => fs
  | p, a :: r, fs => putE x (p + 1) r (setF fs x (put1 ((getF fs x).getD []) p a))
theorem putTr_len (x : Str) : ∀ (p : Nat) (xs : List Int) (fs : Fs), (putTr x p xs fs).length = xs.length
  | _, [], _ => rfl
  | p, a :: r, fs => by simp only [putTr, List.length_cons, putTr_len x (p + 1) r]
theorem putF_adv (x : Str) : ∀ (xs : List Int) (p : Nat) (fs : Fs) (st : List Int), match adv xs.length st with
    | .inl (j, s) => ∃ f, (putTr x p xs fs)[j]? = some f ∧ putF x p xs fs st = (true, f, s)
    | .inr s => putF x p xs fs st = (false, putE x p xs fs, s)
  | [], p, fs, st => by rw [List.length_nil, adv_0]; rfl
  | a :: r, p, fs, st => by
    rw [List.length_cons, Nat.add_comm, adv_add, adv_1]
    have ih := putF_adv x r (p + 1) (setF fs x (put1 ((getF fs x).getD []) p a)) (stepS st).2
    simp only [putF]
    generalize stepS st = q at *
    obtain ⟨t, s⟩ := q
    cases t with
    | true => exact ⟨fs, rfl, rfl⟩
    | false =>
      simp only [Bool.false_eq_true, if_false]
      simp only at ih
      cases h : adv r.length s with
      | inl jr =>
        obtain ⟨j, r'⟩ := jr
        rw [h] at ih
        obtain ⟨f, h1, h2⟩ := ih
        exact ⟨f, by rw [Nat.add_comm]; simpa [putTr] using h1, h2⟩
      | inr s' =>
        rw [h] at ih
        exact ih
section
variable {G : Tab} {call : Calls} {env : Env} {k : Nat} {w : Wrl} {fs fs' : Fs} {hs hs' : Option Nt} {x : Str}
theorem t_make [h : Has G i_Disk_make f_Disk_make] [hd : Has G i_Disk_step f_Disk_step] [hm : HasM G 2 8 i_Disk_step] (ok : w.Ok) (hf : fs.length ≤ 900) {z : Nat} (hz : z ≤ 1000) :
    Tr w (run G (k + 2) i_Disk_make [.ref w.n, .str x, .int z]) fs hs [fs] .non (setF fs x (List.replicate z 0)) hs := fun st hl => by
  have := r_Disk_make (G := G) (k := k) (fs := fs) (st := st) (nm := x) (at_pl (hs := hs) ok) hl hf hz
  unfold Out Wrl.at
  rw [this, List.length_singleton, adv_1]
  unfold dskR
  cases hq : (stepS st).1 with
  | true => exact ⟨fs, hs, rfl, rfl⟩
  | false => rfl
theorem t_rename [h : Has G i_Disk_rename f_Disk_rename] [hn : Has G i_Disk_need f_Disk_need] [hm9 : HasM G 2 9 i_Disk_need] [hd : Has G i_Disk_step f_Disk_step] [hm : HasM G 2 8 i_Disk_step] (ok : w.Ok) (hf : fs.length ≤ 900) {goal : Str} {b : List Int} (hb : getF fs x = some b) :
    Tr w (run G (k + 2) i_Disk_rename [.ref w.n, .str x, .str goal]) fs hs [fs] .non (setF (delF fs x) goal b) hs := fun st hl => by
  have := r_Disk_rename (G := G) (k := k) (fs := fs) (st := st) (nm := x) (goal := goal) (at_pl (hs := hs) ok) hl hf
  rw [hb] at this
  simp only at this
  unfold Out Wrl.at
  rw [this, List.length_singleton, adv_1]
  unfold dskR
  cases hq : (stepS st).1 with
  | true => exact ⟨fs, hs, rfl, rfl⟩
  | false => rfl
theorem t_drop [h : Has G i_Disk_drop f_Disk_drop] [hn : Has G i_Disk_need f_Disk_need] [hm9 : HasM G 2 9 i_Disk_need] [hd : Has G i_Disk_step f_Disk_step] [hm : HasM G 2 8 i_Disk_step] (ok : w.Ok) {b : List Int} (hb : getF fs x = some b) :
    Tr w (run G (k + 2) i_Disk_drop [.ref w.n, .str x]) fs hs [fs] .non (delF fs x) hs := fun st hl => by
  have := r_Disk_drop (G := G) (k := k) (fs := fs) (st := st) (nm := x) (at_pl (hs := hs) ok) hl
  rw [hb] at this
  simp only at this
  unfold Out Wrl.at
  rw [this, List.length_singleton, adv_1]
  unfold dskR
  cases hq : (stepS st).1 with
  | true => exact ⟨fs, hs, rfl, rfl⟩
  | false => rfl
theorem t_put [h : Has G i_Disk_put_at f_Disk_put_at] [hn : Has G i_Disk_need f_Disk_need] [hm9 : HasM G 2 9 i_Disk_need] [hd : Has G i_Disk_step f_Disk_step] [hm : HasM G 2 8 i_Disk_step] (ok : w.Ok) (hf : fs.length ≤ 900) {p : Nat} {xs : List Int} (hx : xs.length ≤ 5000) {b : List Int} (hb : getF fs x = some b) (hbl : b.length ≤ 5000) :
    Tr w (run G (k + 2) i_Disk_put_at [.ref w.n, .str x, .int p, tl .int xs]) fs hs (putTr x p xs fs) .non (putE x p xs fs) hs := fun st hl => by
  have := r_Disk_put_at (G := G) (k := k) (fs := fs) (st := st) (nm := x) (p := p) (at_pl (hs := hs) ok) hl hf hx (fun b' h' => by rw [hb] at h'; rw [← Option.some.inj h']; exact hbl)
  rw [hb] at this
  simp only at this
  have pa := putF_adv x xs p fs st
  unfold Out Wrl.at
  rw [this, putTr_len]
  cases hq : adv xs.length st with
  | inl jr =>
    obtain ⟨j, r⟩ := jr
    rw [hq] at pa
    obtain ⟨f, h1, h2⟩ := pa
    exact ⟨f, hs, h1, by rw [h2]; rfl⟩
  | inr s =>
    rw [hq] at pa
    simp only at pa ⊢
    rw [pa]; rfl
/-! ### statements with steps -/
theorem imp_P {S : Store} {P : R D → Prop} {i k np nl : Nat} {b : T} {as : List D} {F : Fn} [h : Has G i F] (hF : F = ⟨false, np, nl, b⟩) (hl : as.length = np) (he : Sat (fun rs => P (finI rs)) (exT G (run G k) b (startE nl as) S)) :
    P (run G (k + 1) i as S) := by
  have hg : G.fns i = some ⟨false, np, nl, b⟩ := hF ▸ h.h
  have : run G (k + 1) i as S = finI (exT G (run G k) b (startE nl as) S) := by
    simp only [run, hg]
    rw [if_neg (by simpa using hl)]
    simp only [Bool.false_eq_true, if_false]
    cases exT G (run G k) b (startE nl as) S <;> rfl
  rw [this]
  exact he
theorem out_seq {tr1 tr2 : List Fs} {d1 d : D} {fs1 : Fs} {hs1 : Option Nt} {st : List Int} {r1 r : R D} (h1 : Out w tr1 d1 fs1 hs1 st r1)
    (hx : ∀ S, r1 = .ex 2 S → r = .ex 2 S) (hk : ∀ s, adv tr1.length st = .inr s → Out w tr2 d fs' hs' s r) : Out w (tr1 ++ tr2) d fs' hs' st r := by
  unfold Out at h1 ⊢
  rw [List.length_append, adv_add]
  cases h : adv tr1.length st with
  | inl jr =>
    obtain ⟨j, s⟩ := jr
    rw [h] at h1
    obtain ⟨f, hs2, e1, e2⟩ := h1
    exact ⟨f, hs2, by rw [List.getElem?_append_left (List.getElem?_eq_some_iff.mp e1).1]; exact e1, hx _ e2⟩
  | inr s =>
    have := hk s h
    unfold Out at this
    simp only
    cases h2 : adv tr2.length s with
    | inl jr =>
      obtain ⟨j, s2⟩ := jr
      rw [h2] at this
      obtain ⟨f, hs2, e1, e2⟩ := this
      exact ⟨f, hs2, by rw [List.getElem?_append_right (by omega)]; simpa using e1, e2⟩
    | inr s2 =>
      rw [h2] at this
      exact this
theorem out_ok {d : D} {st : List Int} {r : R D} (h : r = .ok d (w.at fs' st hs')) : Out w [] d fs' hs' st r := by
  unfold Out
  rw [List.length_nil, adv_0]; exact h
theorem out_inr {tr : List Fs} {d : D} {st s : List Int} {r : R D} (h : Out w tr d fs' hs' st r) (ha : adv tr.length st = .inr s) : r = .ok d (w.at fs' s hs') := by
  unfold Out at h
  rw [ha] at h
  exact h
abbrev Fo (w : Wrl) (tr : List Fs) (d : D) (fs' : Fs) (hs' : Option Nt) (st : List Int) : RS → Prop := fun rs => Out w tr d fs' hs' st (finI rs)
/-- a deed as a statement -/
theorem x_expT {e : E} {k : T} {f : Store → R D} {fs1 : Fs} {hs1 : Option Nt} {st : List Int} {tr1 tr2 : List Fs} {d1 d : D} (he : ev G call e env (w.at fs st hs) = f (w.at fs st hs)) (hf : Tr w f fs hs tr1 d1 fs1 hs1) (hl : st.length ≤ 1000)
    (hk : ∀ s, s.length ≤ 1000 → Sat (Fo w tr2 d fs' hs' s) (exT G call k env (w.at fs1 s hs1))) : Sat (Fo w (tr1 ++ tr2) d fs' hs' st) (exT G call (.exp e k) env (w.at fs st hs)) := by
  have ho := hf st hl
  rw [x_exp, he]
  refine out_seq ho (fun S e => by rw [e]; rfl) fun s ha => ?_
  rw [out_inr ho ha]
  exact hk s (by rw [adv_len ha]; exact hl)
theorem x_expV {S S1 : Store} {P : RS → Prop} {e : E} {k : T} {d : D} (he : ev G call e env S = .ok d S1) (hk : Sat P (exT G call k env S1)) : Sat P (exT G call (.exp e k) env S) := by
  rw [x_exp, he]
  exact hk
/-! ### names -/
theorem app_inj {a b c : Str} (h : a ++ b = a ++ c) : b = c := by
  have := congrArg TL.tl h
  rw [TL.tl_append, TL.tl_append] at this
  exact TL.ext_tl (List.append_cancel_left this)
abbrev nP (nm : Str) : Str := nm ++ ".part"
abbrev nN (nm : Str) : Str := nm ++ ".note"
abbrev nW (nm : Str) : Str := nm ++ ".new"
theorem l_part : (".part" : Str).length = 5 := by decide +kernel
theorem l_note : (".note" : Str).length = 5 := by decide +kernel
theorem l_new : (".new" : Str).length = 4 := by decide +kernel
theorem PN_ne (nm : Str) : nP nm ≠ nN nm := fun e => absurd (app_inj e) (by decide +kernel)
theorem PW_ne (nm : Str) : nP nm ≠ nW nm := fun e => absurd (app_inj e) (by decide +kernel)
theorem NW_ne (nm : Str) : nN nm ≠ nW nm := fun e => absurd (app_inj e) (by decide +kernel)
theorem memF_str (a : Str) : ∀ xs : List Str, memF (.str a) (xs.map .str) = some (decide (a ∈ xs))
  | [] => by simp [memF]
  | x :: xs => by
    simp only [List.map_cons, memF, flatEq, memF_str a xs]
    congr 1
    by_cases h : x = a
    · subst h; simp
    · have h' : ¬ a = x := fun e => h e.symm
      simp [h, h']
theorem in_tlS {a : Str} {xs : List Str} {S : Store} : cop .inn (.str a) (tl .str xs) S = some (decide (a ∈ xs)) := memF_str a xs
theorem mem_srtF {fs : Fs} {a : Str} : (a ∈ srtF fs) ↔ (getF fs a).isSome = true := by
  unfold srtF
  rw [(sortBy_perm leS (namesF fs)).mem_iff, ← hasF_mem, hasF_iff]
theorem dec_mem {fs : Fs} {a : Str} : decide (a ∈ srtF fs) = (getF fs a).isSome := by
  cases h : (getF fs a).isSome with
  | true => exact decide_eq_true (mem_srtF.mpr h)
  | false => exact decide_eq_false fun hh => by rw [mem_srtF, h] at hh; cases hh
/-! ### the methods -/
theorem r_there [h : Has G i_Hauler_there f_Hauler_there] [hf : Has G i_Disk_files f_Disk_files] [hm : HasM G 2 14 i_Disk_files] (ok : w.Ok) (hl : fs.length ≤ 60) {e : Str} (he : e.length ≤ 100) {st : List Int} :
    run G (k + 2) i_Hauler_there [.ref w.p, .str e] (w.at fs st hs) = .ok (.bl (getF fs (w.nm ++ e)).isSome) (w.at fs st hs) := by
  have rf : run G (k + 1) i_Disk_files [.ref w.n] (w.at fs st hs) = .ok (tl .str (srtF fs)) (w.at fs st hs) := r_Disk_files (at_pl ok) hl
  have c := at_cl (fs := fs) (st := st) (hs := hs) ok
  have f7 := at_f7 (fs := fs) (st := st) (hs := hs) ok
  have f8 := at_f8 (fs := fs) (st := st) (hs := hs) ok
  have cd := at_cd (fs := fs) (st := st) (hs := hs) ok
  have l := ok.l
  have ad : ∀ S, bop .add (.str w.nm) (.str e) S = some (.str (w.nm ++ e)) := fun S => add_str (by omega)
  refine imp_W (h := h) rfl rfl ?_
  simp only [b_Hauler_there, startE]
  have dm := dec_mem (fs := fs) (a := w.nm ++ e)
  simp [c, f7, f8, cd, ad, rf, in_tlS, dm]
theorem r_hneed [h : Has G i_Hauler_need f_Hauler_need] (ok : w.Ok) {st : List Int} : run G (k + 1) i_Hauler_need [.ref w.p] (w.at fs st hs) = match hs with | some _ => .ok .non (w.at fs st hs) | none => .ex 4 (w.at fs st hs) := by
  have c := at_cl (fs := fs) (st := st) (hs := hs) ok
  have f9 := at_f9 (fs := fs) (st := st) (hs := hs) ok
  refine imp_W (h := h) rfl rfl ?_
  simp only [b_Hauler_need, startE]
  cases hs with
  | none => simp [c, f9, opD, isNonD]
  | some s => simp [c, f9, opD, isNonD, ntD]
end
end PL

set_option Elab.async false
set_option linter.all false
set_option maxRecDepth 100000
set_option maxHeartbeats 1000000
/-! PNG: what haulers do, by files. -/
namespace PL
open PySem
/-! ### bytes put into a file -/
def ovl (P : List Int) (p : Nat) (ys : List Int) : List Int := P.take p ++ ys ++ P.drop (p + ys.length)
theorem put1_ovl {P : List Int} {p : Nat} {a : Int} {r : List Int} (h : p + (r.length + 1) ≤ P.length) : ovl (put1 P p a) (p + 1) r = ovl P p (a :: r) := by
  have e1 : (P.take p).length = p := by rw [List.length_take]; omega
  have e2 : (put1 P p a).take (p + 1) = P.take p ++ [a] := by
    unfold put1
    rw [List.take_append_of_le_length (by simp [e1]), List.take_of_length_le (by simp [e1])]
  have e3 : (put1 P p a).drop (p + 1 + r.length) = P.drop (p + (r.length + 1)) := by
    unfold put1
    rw [List.drop_append, List.drop_eq_nil_of_le (by simp; omega), List.nil_append, List.length_append, e1, List.length_singleton, List.drop_drop]
    congr 1; omega
  unfold ovl
  rw [e2, e3]
  simp
theorem put1_len' {b : List Int} {p : Nat} {x : Int} (h : p < b.length) : (put1 b p x).length = b.length := by
  simp only [put1, List.length_append, List.length_take, List.length_drop, List.length_cons, List.length_nil]; omega
theorem ovl_len {P ys : List Int} {p : Nat} (h : p + ys.length ≤ P.length) : (ovl P p ys).length = P.length := by
  simp only [ovl, List.length_append, List.length_take, List.length_drop]; omega
theorem ovl_at {P ys : List Int} {p : Nat} (h : p + ys.length ≤ P.length) (i : Nat) : (ovl P p ys)[i]? = if p ≤ i ∧ i < p + ys.length then ys[i - p]? else P[i]? := by
  have e1 : (P.take p).length = p := by rw [List.length_take]; omega
  unfold ovl
  rw [List.append_assoc]
  by_cases h1 : i < p
  · rw [List.getElem?_append_left (by omega), if_neg (by omega), List.getElem?_take]
    simp [h1]
  · rw [List.getElem?_append_right (by omega), e1]
    by_cases h2 : i - p < ys.length
    · rw [List.getElem?_append_left h2, if_pos (by omega)]
    · rw [List.getElem?_append_right (by omega), if_neg (by omega), List.getElem?_drop]
      congr 1; omega
theorem ovl_all {P ys : List Int} (h : P.length = ys.length) : ovl P 0 ys = ys := by
  unfold ovl
  rw [List.drop_eq_nil_of_le (by omega)]
  simp
theorem get_putE (x y : Str) : ∀ (xs : List Int) (p : Nat) (fs : Fs) (b : List Int), getF fs x = some b → p + xs.length ≤ b.length → getF (putE x p xs fs) y = if x = y then some (ovl b p xs) else getF fs y
  | [], p, fs, b, hb, hl => by
    simp only [putE]
    by_cases h : x = y
    · subst h
      rw [if_pos rfl, hb]
      simp [ovl]
    · rw [if_neg h]
  | a :: r, p, fs, b, hb, hl => by
    simp only [List.length_cons] at hl
    simp only [putE, hb, Option.getD_some]
    rw [get_putE x y r (p + 1) _ (put1 b p a) (by rw [getF_set, if_pos rfl]) (by rw [put1_len' (by omega)]; omega), put1_ovl hl, getF_set]
    by_cases h : x = y
    · rw [if_pos h, if_pos h]
    · rw [if_neg h, if_neg h, if_neg h]
theorem names_setH {fs : Fs} {x : Str} {b c : List Int} (h : getF fs x = some b) : namesF (setF fs x c) = namesF fs := by
  rw [names_set, if_pos (by rw [hasF_iff, h]; rfl)]
theorem names_putE (x : Str) : ∀ (xs : List Int) (p : Nat) (fs : Fs) (b : List Int), getF fs x = some b → namesF (putE x p xs fs) = namesF fs
  | [], _, _, _, _ => rfl
  | a :: r, p, fs, b, hb => by
    simp only [putE]
    rw [names_putE x r (p + 1) _ _ (by rw [getF_set, if_pos rfl]), names_setH hb]
/-- what stands on the disk while bytes are put -/
theorem mem_putTr (x : Str) : ∀ (xs : List Int) (p : Nat) (fs : Fs) (b : List Int), getF fs x = some b → p + xs.length ≤ b.length → ∀ f ∈ putTr x p xs fs, namesF f = namesF fs ∧ (∀ y, x ≠ y → getF f y = getF fs y) ∧ ∃ c, getF f x = some c ∧ c.length = b.length ∧ ∀ i : Nat, ¬ (p ≤ i ∧ i < p + xs.length) → c[i]? = b[i]?
  | [], _, _, _, _, _, f, hf => by cases hf
  | a :: r, p, fs, b, hb, hl, f, hf => by
    simp only [List.length_cons] at hl
    simp only [putTr, List.mem_cons, hb, Option.getD_some] at hf
    rcases hf with rfl | hf
    · exact ⟨rfl, fun _ _ => rfl, b, hb, rfl, fun _ _ => rfl⟩
    · obtain ⟨h1, h2, c, h3, h4, h5⟩ := mem_putTr x r (p + 1) _ (put1 b p a) (by rw [getF_set, if_pos rfl]) (by rw [put1_len' (by omega)]; omega) f hf
      refine ⟨h1.trans (names_setH hb), fun y hy => (h2 y hy).trans (by rw [getF_set, if_neg hy]), c, h3, h4.trans (put1_len' (by omega)), fun i hi => ?_⟩
      simp only [List.length_cons] at hi
      rw [h5 i (by omega)]
      have e : put1 b p a = ovl b p [a] := by simp [put1, ovl]
      rw [e, ovl_at (by simp; omega), if_neg (by simp; omega)]
/-! ### notes -/
theorem can_half : ∀ {ps : List PI} {lo hi : Int}, Can ps → (∀ p ∈ ps, lo ≤ p.1 ∧ p.2 ≤ hi) → lo ≤ hi + 1 → 2 * (ps.length : Int) ≤ hi - lo + 1
  | [], lo, hi, _, _, h => by simp; omega
  | p :: r, lo, hi, hc, hb, h => by
    obtain ⟨h1, h2, h3⟩ := can_cons.mp hc
    have b := hb p (by simp)
    have := can_half (ps := r) (lo := p.2 + 1) (hi := hi) h3 (fun q hq => ⟨by have := h2 q hq; omega, (hb q (by simp [hq])).2⟩) (by omega)
    rw [List.length_cons]; omega
structure NtOk (s : Nt) : Prop where
  m0 : 0 ≤ s.m
  m1 : s.m < 2147483647
  z : s.z ≤ 95
  c : Can s.h
  b : ∀ p ∈ s.h, 0 ≤ p.1 ∧ p.2 ≤ s.z
abbrev noteB (s : Nt) : List Int := tb (noteL s.m s.z s.h)
theorem NtOk.q {s : Nt} (o : NtOk s) : ∀ p ∈ s.h, OkQ p := fun p hp => by
  have h1 := o.b p hp
  have h2 := o.c.2 p hp
  have h3 := o.z
  exact ⟨h1.1, by omega, by omega, by omega⟩
theorem NtOk.hl {s : Nt} (o : NtOk s) : s.h.length ≤ 48 := by
  have := can_half (lo := 0) (hi := s.z) o.c o.b (by omega)
  have := o.z
  omega
theorem noteB_len {s : Nt} (o : NtOk s) : (noteB s).length ≤ 980 := by
  have h1 := noteL_len (m := s.m) (s := s.z) (by omega) (by have := o.z; omega) o.q
  have h2 := o.hl
  show (tb (noteL s.m s.z s.h)).length ≤ 980
  unfold tb
  rw [List.length_map]; omega
theorem noteB_nn {s : Nt} (o : NtOk s) : ∀ x ∈ noteB s, 0 ≤ x := fun x hx => (tb_lt (sgn_noteL o.m0 (by omega) o.q) x hx).1
theorem noteB_rt {s : Nt} (o : NtOk s) : noteO (noteB s) = some (s.m, (s.z : Int), s.h) := note_rt o.m0 o.m1 (by omega) (by have := o.z; omega) o.q o.c fun p hp => (o.b p hp).2
/-! ### a note written -/
structure Res where
  d : D
  tr : List Fs
  fs : Fs
  hs : Option Nt
abbrev TrR (w : Wrl) (f : Store → R D) (fs : Fs) (hs : Option Nt) (r : Res) : Prop := Tr w f fs hs r.tr r.d r.fs r.hs
def wn1 (nm : Str) (fs : Fs) (B : List Int) : Fs := setF fs (nW nm) (List.replicate B.length 0)
def wn2 (nm : Str) (fs : Fs) (B : List Int) : Fs := putE (nW nm) 0 B (wn1 nm fs B)
def wnTr (nm : Str) (fs : Fs) (B : List Int) : List Fs := [fs] ++ (putTr (nW nm) 0 B (wn1 nm fs B) ++ ([wn2 nm fs B] ++ []))
def wnE (nm : Str) (fs : Fs) (B : List Int) : Fs := setF (delF (wn2 nm fs B) (nW nm)) (nN nm) B
/-- the names that a hauler uses, among others -/
structure Nms (nm : Str) (NS : List Str) : Prop where
  a : nm ∈ NS
  p : nP nm ∈ NS
  n : nN nm ∈ NS
  w : nW nm ∈ NS
  l : NS.length ≤ 50
theorem get_wn1 {nm : Str} {fs : Fs} {B : List Int} (y : Str) : getF (wn1 nm fs B) y = if nW nm = y then some (List.replicate B.length 0) else getF fs y := getF_set _ _ _ _
theorem get_wn2 {nm : Str} {fs : Fs} {B : List Int} (y : Str) : getF (wn2 nm fs B) y = if nW nm = y then some B else getF fs y := by
  unfold wn2
  rw [get_putE (nW nm) y B 0 _ (List.replicate B.length 0) (by rw [get_wn1, if_pos rfl]) (by simp), ovl_all (by simp), get_wn1]
  by_cases h : nW nm = y
  · rw [if_pos h, if_pos h]
  · rw [if_neg h, if_neg h, if_neg h]
theorem get_wnE {nm : Str} {fs : Fs} {B : List Int} (y : Str) : getF (wnE nm fs B) y = if nN nm = y then some B else if nW nm = y then none else getF fs y := by
  unfold wnE
  rw [getF_set, getF_del, get_wn2]
  by_cases h : nN nm = y
  · rw [if_pos h, if_pos h]
  · rw [if_neg h, if_neg h]
    by_cases h' : nW nm = y
    · rw [if_pos h', if_pos h']
    · rw [if_neg h', if_neg h', if_neg h']
theorem sub_names {fs gs : Fs} {NS : List Str} (h : SubF fs NS) (e : namesF gs = namesF fs) : SubF gs NS := ⟨by rw [e]; exact h.1, by rw [e]; exact h.2⟩
theorem sub_wn1 {nm : Str} {fs : Fs} {B : List Int} {NS : List Str} (hn : Nms nm NS) (h : SubF fs NS) : SubF (wn1 nm fs B) NS := sub_set h hn.w
theorem sub_wn2 {nm : Str} {fs : Fs} {B : List Int} {NS : List Str} (hn : Nms nm NS) (h : SubF fs NS) : SubF (wn2 nm fs B) NS :=
  sub_names (sub_wn1 hn h) (names_putE _ _ _ _ (List.replicate B.length 0) (by rw [get_wn1, if_pos rfl]))
theorem sub_wnE {nm : Str} {fs : Fs} {B : List Int} {NS : List Str} (hn : Nms nm NS) (h : SubF fs NS) : SubF (wnE nm fs B) NS := sub_set (sub_del (sub_wn2 hn h)) hn.n
/-- while a note is written all but .new stays -/
theorem mem_wnTr {nm : Str} {fs : Fs} {B : List Int} {NS : List Str} (hn : Nms nm NS) (h : SubF fs NS) : ∀ f ∈ wnTr nm fs B, SubF f NS ∧ ∀ y, nW nm ≠ y → getF f y = getF fs y := fun f hf => by
  simp only [wnTr, List.mem_append, List.mem_singleton, List.not_mem_nil, or_false] at hf
  rcases hf with rfl | hf | rfl
  · exact ⟨h, fun _ _ => rfl⟩
  · obtain ⟨h1, h2, _⟩ := mem_putTr (nW nm) B 0 (wn1 nm fs B) (List.replicate B.length 0) (by rw [get_wn1, if_pos rfl]) (by simp) f hf
    exact ⟨sub_names (sub_wn1 hn h) h1, fun y hy => by rw [h2 y hy, get_wn1, if_neg hy]⟩
  · exact ⟨sub_wn2 hn h, fun y hy => by rw [get_wn2, if_neg hy]⟩
section
variable {G : Tab} {call : Calls} {env : Env} {k : Nat} {w : Wrl} {fs fs' : Fs} {hs hs' : Option Nt} {x : Str} {NS : List Str} {s : Nt}
theorem x_fld9 {P : RS → Prop} {e : E} {k : T} {st : List Int} {i : Nat} (ok : w.Ok) (hi : env[i]? = some (some (.ref w.p))) (he : ev G call e env (w.at fs st hs) = .ok (opD ntD hs') (w.at fs st hs)) (hk : Sat P (exT G call k env (w.at fs st hs'))) :
    Sat P (exT G call (.fldS 3 (.var i) 9 e k) env (w.at fs st hs)) := by
  have c := at_cl (fs := fs) (st := st) (hs := hs) ok
  have s9 := at_s9 (fs := fs) (st := st) (hs := hs) (hs' := hs') ok
  rw [x_fldS, he]
  simp only [R.stm_ok, e_var, hi, c, if_true, s9]
  exact hk
theorem x_retP {P : RS → Prop} {S S1 : Store} {e : E} {d : D} (he : ev G call e env S = .ok d S1) (hk : P (.rt d S1)) : Sat P (exT G call (.ret e) env S) := by
  rw [x_ret, he]
  exact hk
/-- an if that hands back -/
theorem x_ifsR {P : RS → Prop} {S S' : Store} {c : E} {a b k : T} (hc : mapT (ev G call c env S) = .ok true S') (he : ∃ d S2, exT G call a env S' = .rt d S2 ∧ P (.rt d S2)) : Sat P (exT G call (.ifs c a b k) env S) := by
  rw [x_ifs, hc]
  obtain ⟨d, S2, h1, h2⟩ := he
  simp only [R.stm_ok, if_true, h1]
  exact h2
theorem x_ifT {c e : E} {k : T} {t : Bool} {f : Store → R D} {fs1 : Fs} {hs1 : Option Nt} {st : List Int} {tr1 tr2 : List Fs} {d1 d : D} (hc : mapT (ev G call c env (w.at fs st hs)) = .ok t (w.at fs st hs))
    (he : ev G call e env (w.at fs st hs) = f (w.at fs st hs)) (hf : t = true → Tr w f fs hs tr1 d1 fs1 hs1) (h0 : t = false → tr1 = [] ∧ fs1 = fs ∧ hs1 = hs) (hl : st.length ≤ 1000)
    (hk : ∀ s, s.length ≤ 1000 → Sat (Fo w tr2 d fs' hs' s) (exT G call k env (w.at fs1 s hs1))) : Sat (Fo w (tr1 ++ tr2) d fs' hs' st) (exT G call (.ifs c (.exp e .nil) .nil k) env (w.at fs st hs)) := by
  rw [x_ifs, hc]
  simp only [R.stm_ok]
  cases t with
  | false =>
    obtain ⟨rfl, rfl, rfl⟩ := h0 rfl
    exact hk st hl
  | true =>
    have := x_expT (k := .nil) (tr2 := []) (d := .non) (fs' := fs1) (hs' := hs1) he (hf rfl) hl fun s _ => by
      show Out w [] .non fs1 hs1 s _
      exact out_ok rfl
    simp only [if_true]
    have ho := hf rfl st hl
    rw [x_exp, he]
    refine out_seq ho (fun S e => by rw [e]; rfl) fun s ha => ?_
    rw [out_inr ho ha]
    exact hk s (by rw [adv_len ha]; exact hl)
theorem t_write_note [h : Has G i_Hauler_write_note f_Hauler_write_note] [hnb : Has G i_note_bytes f_note_bytes] [ht : Has G i_text_bytes f_text_bytes] [hmt : Has G i_mark_text f_mark_text] [hr : Has G i_range_text f_range_text] [h7 : HasC G 7 (.str SIG)] [h2 : HasC G 2 (.str "0123456789abcdef")] [h3 : HasC G 3 (.int 8)]
    [hmk : Has G i_Disk_make f_Disk_make] [hd : Has G i_Disk_step f_Disk_step] [hm8 : HasM G 2 8 i_Disk_step] [hpa : Has G i_Disk_put_at f_Disk_put_at] [hn : Has G i_Disk_need f_Disk_need] [hm9 : HasM G 2 9 i_Disk_need] [hre : Has G i_Disk_rename f_Disk_rename]
    [hm10 : HasM G 2 10 i_Disk_make] [hm11 : HasM G 2 11 i_Disk_put_at] [hm12 : HasM G 2 12 i_Disk_rename] (ok : w.Ok) (o : NtOk s) (hns : Nms w.nm NS) (hf : SubF fs NS) :
    Tr w (run G (k + 3) i_Hauler_write_note [.ref w.p, .int s.m, .int s.z, tl pairD s.h]) fs hs (wnTr w.nm fs (noteB s)) .non (wnE w.nm fs (noteB s)) (some s) := fun st hl => by
  have rn : ∀ S, run G (k + 2) i_note_bytes [.int s.m, .int s.z, tl pairD s.h] S = .ok (tl .int (noteB s)) S := fun S => r_note_bytes (G := G) (k := k) (S := S) (m := s.m) (s := s.z) (ps := s.h) o.m0 (by omega) (by have := o.z; omega) o.q (by have := o.hl; omega)
  have bl := noteB_len o
  generalize hB : noteB s = B at *
  have fl : ∀ {g : Fs}, SubF g NS → g.length ≤ 900 := fun hg => by have := sub_len hg; have := hns.l; omega
  have t1 := fun hs => t_make (G := G) (k := k) (x := nW w.nm) (hs := hs) ok (fl hf) (z := B.length) (by omega)
  have g1 : getF (wn1 w.nm fs B) (nW w.nm) = some (List.replicate B.length 0) := by rw [get_wn1, if_pos rfl]
  have t2 := fun hs => t_put (G := G) (k := k) (x := nW w.nm) (hs := hs) (p := 0) (xs := B) ok (fl (sub_wn1 (B := B) hns hf)) (by omega) g1 (by rw [List.length_replicate]; omega)
  have t3 := fun hs => t_rename (G := G) (k := k) (x := nW w.nm) (hs := hs) (goal := nN w.nm) (b := B) ok (fl (sub_wn2 (B := B) hns hf)) (by rw [get_wn2, if_pos rfl])
  have c := fun fs st hs => at_cl (w := w) (fs := fs) (st := st) (hs := hs) ok
  have f7 := fun fs st hs => at_f7 (w := w) (fs := fs) (st := st) (hs := hs) ok
  have f8 := fun fs st hs => at_f8 (w := w) (fs := fs) (st := st) (hs := hs) ok
  have cd := fun fs st hs => at_cd (w := w) (fs := fs) (st := st) (hs := hs) ok
  have l := ok.l
  have adW : ∀ S, bop .add (.str w.nm) (.str ".new") S = some (.str (nW w.nm)) := fun S => add_str (by rw [l_new]; omega)
  have adN : ∀ S, bop .add (.str w.nm) (.str ".note") S = some (.str (nN w.nm)) := fun S => add_str (by rw [l_note]; omega)
  refine imp_P (P := Out w _ _ _ _ st) (h := h) rfl rfl ?_
  simp only [b_Hauler_write_note, startE]
  refine x_asgV (d := tl .int B) (S1 := w.at fs st hs) (by simp [rn]) ?_
  generalize run G (k + 2) = call at *
  show Sat (Fo w ([fs] ++ (putTr (nW w.nm) 0 B (wn1 w.nm fs B) ++ ([wn2 w.nm fs B] ++ []))) .non (wnE w.nm fs B) (some s) st) _
  refine x_expT (by simp [c, f7, f8, cd, adW]) (t1 hs) hl fun st hl => ?_
  refine x_expT (by simp [c, f7, f8, cd, adW]) (t2 hs) hl fun st hl => ?_
  refine x_expT (by simp [c, f7, f8, cd, adW, adN]) (t3 hs) hl fun st hl => ?_
  refine x_fld9 (hs' := some s) ok (by simp) (by simp [opD, ntD]) ?_
  show Out w [] .non (wnE w.nm fs B) (some s) st _
  exact out_ok rfl
end
end PL

set_option Elab.async false
set_option linter.all false
set_option maxRecDepth 100000
set_option maxHeartbeats 1000000
/-! PNH: begin, have, lacks, take. -/
namespace PL
open PySem
theorem eq_2 {a b c d : Int} {S : Store} : cop .eq (.tup [.int a, .int b]) (.tup [.int c, .int d]) S = some (decide (a = c ∧ b = d)) := by
  have : cop .eq (tl .int [a, b]) (tl .int [c, d]) S = some (decide ([a, b] = [c, d])) := eq_tlI
  show cop .eq (tl .int [a, b]) (tl .int [c, d]) S = _
  rw [this]
  simp
def hit (hs : Option Nt) (m : Int) (z : Nat) : Bool := match hs with
  | some s => decide (s.m = m ∧ s.z = z)
  | none => false
def dTr (x : Str) (fs : Fs) : List Fs := if (getF fs x).isSome = true then [fs] else []
def bg2 (nm : Str) (fs : Fs) (z : Nat) : Fs := setF (delF fs (nN nm)) (nP nm) (List.replicate z 0)
def bgR (nm : Str) (fs : Fs) (hs : Option Nt) (m : Int) (z : Nat) : Res := if hit hs m z = true then ⟨.bl true, [], fs, hs⟩ else
  ⟨.bl false, dTr (nN nm) fs ++ ([delF fs (nN nm)] ++ (wnTr nm (bg2 nm fs z) (noteB ⟨m, z, []⟩) ++ [])), wnE nm (bg2 nm fs z) (noteB ⟨m, z, []⟩), some ⟨m, z, []⟩⟩
theorem okN_0 {m : Int} {z : Nat} (h0 : 0 ≤ m) (h1 : m < 2147483647) (hz : z ≤ 95) : NtOk ⟨m, z, []⟩ := ⟨h0, h1, hz, can_nil, by simp⟩
/-- what lacks -/
def lacF (s : Nt) : List PI := tidyF (woF [(0, (s.z : Int))] s.h)
theorem lac_in {s : Nt} (o : NtOk s) (x : Int) : inR (lacF s) x ↔ (0 ≤ x ∧ x < s.z) ∧ ¬ inR s.h x := by
  rw [lacF, tidy_in, wo_in _ _ o.c]
  simp [inR]
theorem lac_can (s : Nt) : Can (lacF s) := tidy_can _
theorem in_of {ps : List PI} (hc : Can ps) {lo hi : Int} (h : ∀ x, inR ps x → lo ≤ x ∧ x < hi) : ∀ p ∈ ps, lo ≤ p.1 ∧ p.2 ≤ hi := fun p hp => by
  have hp2 := hc.2 p hp
  have h1 := h p.1 ⟨p, hp, Int.le_refl _, hp2⟩
  have h2 := h (p.2 - 1) ⟨p, hp, by omega, by omega⟩
  omega
theorem lac_b {s : Nt} (o : NtOk s) : ∀ p ∈ lacF s, 0 ≤ p.1 ∧ p.2 ≤ s.z := in_of (lac_can s) fun x hx => ((lac_in o x).mp hx).1
theorem lac_len {s : Nt} (o : NtOk s) : (lacF s).length ≤ 48 := by
  have := can_half (lo := 0) (hi := s.z) (lac_can s) (lac_b o) (by omega)
  have := o.z
  omega
/-! ### pieces taken -/
def morF (s : Nt) (b n : Nat) : List PI := tidyF (botF [((b : Int), (b : Int) + (n : Int))] (lacF s))
def newN (s : Nt) (b n : Nat) : Nt := ⟨s.m, s.z, tidyF (s.h ++ morF s b n)⟩
theorem mor_can (s : Nt) (b n : Nat) : Can (morF s b n) := tidy_can _
theorem mor_in {s : Nt} (o : NtOk s) (b n : Nat) (x : Int) : inR (morF s b n) x ↔ ((b : Int) ≤ x ∧ x < b + n) ∧ (0 ≤ x ∧ x < s.z) ∧ ¬ inR s.h x := by
  rw [morF, tidy_in, bot_in, lac_in o]
  simp [inR]
theorem mor_b {s : Nt} (o : NtOk s) {b n : Nat} : ∀ p ∈ morF s b n, ((b : Int) ≤ p.1 ∧ 0 ≤ p.1) ∧ p.1 < p.2 ∧ p.2 ≤ b + n ∧ p.2 ≤ s.z := fun p hp => by
  have h1 := in_of (mor_can s b n) (lo := b) (hi := b + n) (fun x hx => ((mor_in o b n x).mp hx).1) p hp
  have h2 := in_of (mor_can s b n) (lo := 0) (hi := s.z) (fun x hx => ((mor_in o b n x).mp hx).2.1) p hp
  have h3 := (mor_can s b n).2 p hp
  omega
theorem mor_len {s : Nt} (o : NtOk s) {b n : Nat} : (morF s b n).length ≤ 48 := by
  have := can_half (lo := 0) (hi := s.z) (mor_can s b n) (fun p hp => by have := mor_b o p hp; omega) (by omega)
  have := o.z
  omega
theorem in_app {a b : List PI} {x : Int} : inR (a ++ b) x ↔ inR a x ∨ inR b x := by
  simp only [inR, List.mem_append]
  constructor
  · rintro ⟨p, hp | hp, h⟩
    · exact Or.inl ⟨p, hp, h⟩
    · exact Or.inr ⟨p, hp, h⟩
  · rintro (⟨p, hp, h⟩ | ⟨p, hp, h⟩)
    · exact ⟨p, Or.inl hp, h⟩
    · exact ⟨p, Or.inr hp, h⟩
theorem new_in {s : Nt} (o : NtOk s) (b n : Nat) (x : Int) : inR (newN s b n).h x ↔ inR s.h x ∨ (((b : Int) ≤ x ∧ x < b + n) ∧ (0 ≤ x ∧ x < s.z)) := by
  show inR (tidyF (s.h ++ morF s b n)) x ↔ _
  rw [tidy_in, in_app, mor_in o]
  by_cases h : inR s.h x <;> simp [h]
theorem h_in {s : Nt} (o : NtOk s) {x : Int} (h : inR s.h x) : 0 ≤ x ∧ x < s.z := by
  obtain ⟨p, hp, h1, h2⟩ := h
  have := o.b p hp
  omega
theorem okN_new {s : Nt} (o : NtOk s) (b n : Nat) : NtOk (newN s b n) := ⟨o.m0, o.m1, o.z, tidy_can _, in_of (tidy_can _) fun x hx => by
  rcases (new_in o b n x).mp hx with h | h
  · exact h_in o h
  · exact h.2⟩
def pcs (b : Nat) (xs : List Int) (p : PI) : List Int := (xs.drop (p.1.toNat - b)).take (p.2.toNat - p.1.toNat)
def tkTr (x : Str) (b : Nat) (xs : List Int) : List PI → Fs → List Fs
  | [], _ => []
  | p :: r, fs => putTr x p.1.toNat (pcs b xs p) fs ++ tkTr x b xs r (putE x p.1.toNat (pcs b xs p) fs)
def tkE (x : Str) (b : Nat) (xs : List Int) (more : List PI) (fs : Fs) : Fs := more.foldl (fun fs p => putE x p.1.toNat (pcs b xs p) fs) fs
/-- a piece's places fit -/
structure Fit (b n L : Nat) (p : PI) : Prop where
  a : (b : Int) ≤ p.1
  l : p.1 < p.2
  e : p.2 ≤ (b : Int) + n
  m : p.2 ≤ L
theorem pcs_len {b : Nat} {xs : List Int} {L : Nat} {p : PI} (h : Fit b xs.length L p) : (pcs b xs p).length = p.2.toNat - p.1.toNat := by
  have := h.a; have := h.l; have := h.e
  simp only [pcs, List.length_take, List.length_drop]; omega
theorem pcs_at {b : Nat} {xs : List Int} {L : Nat} {p : PI} (h : Fit b xs.length L p) {i : Nat} (h1 : p.1 ≤ i) (h2 : (i : Int) < p.2) : (pcs b xs p)[i - p.1.toNat]? = xs[i - b]? := by
  have := h.a; have := h.l; have := h.e
  simp only [pcs, List.getElem?_take, List.getElem?_drop]
  rw [if_pos (by omega)]
  congr 1; omega
theorem mor_fit {s : Nt} (o : NtOk s) {b n : Nat} : ∀ p ∈ morF s b n, Fit b n s.z p := fun p hp => by
  have := mor_b o p hp
  exact ⟨by omega, by omega, by omega, by omega⟩
def putAll (b : Nat) (xs : List Int) (more : List PI) (P : List Int) : List Int := more.foldl (fun P p => ovl P p.1.toNat (pcs b xs p)) P
theorem putAll_len {b : Nat} {xs : List Int} : ∀ {more : List PI} {P : List Int}, (∀ p ∈ more, Fit b xs.length P.length p) → (putAll b xs more P).length = P.length
  | [], _, _ => rfl
  | p :: r, P, h => by
    have hp := h p (by simp)
    have pl := pcs_len hp
    have := hp.m; have := hp.l; have := hp.a
    have e : (ovl P p.1.toNat (pcs b xs p)).length = P.length := ovl_len (by omega)
    show (putAll b xs r (ovl P p.1.toNat (pcs b xs p))).length = _
    rw [putAll_len (b := b) (xs := xs) (more := r) (fun q hq => by rw [e]; exact h q (by simp [hq])), e]
theorem putAll_at {b : Nat} {xs : List Int} : ∀ {more : List PI} {P : List Int}, (∀ p ∈ more, Fit b xs.length P.length p) → ∀ i : Nat, (inR more i → (putAll b xs more P)[i]? = xs[i - b]?) ∧ (¬ inR more i → (putAll b xs more P)[i]? = P[i]?)
  | [], P, _, i => ⟨fun ⟨p, hp, _⟩ => absurd hp (by simp), fun _ => rfl⟩
  | p :: r, P, h, i => by
    have hp := h p (by simp)
    have pl := pcs_len hp
    have hm := hp.m; have hl := hp.l; have ha := hp.a
    have e : (ovl P p.1.toNat (pcs b xs p)).length = P.length := ovl_len (by omega)
    have oa := ovl_at (P := P) (ys := pcs b xs p) (p := p.1.toNat) (by omega) i
    obtain ⟨h1, h2⟩ := putAll_at (b := b) (xs := xs) (more := r) (P := ovl P p.1.toNat (pcs b xs p)) (fun q hq => by rw [e]; exact h q (by simp [hq])) i
    have ic : inR (p :: r) i ↔ (p.1 ≤ (i : Int) ∧ (i : Int) < p.2) ∨ inR r i := by simp [inR]
    show (_ → (putAll b xs r _)[i]? = _) ∧ (_ → (putAll b xs r _)[i]? = _)
    by_cases hr : inR r i
    · exact ⟨fun _ => h1 hr, fun hn => absurd (ic.mpr (Or.inr hr)) hn⟩
    · rw [h2 hr, oa]
      by_cases hpi : p.1 ≤ (i : Int) ∧ (i : Int) < p.2
      · refine ⟨fun _ => ?_, fun hn => absurd (ic.mpr (Or.inl hpi)) hn⟩
        rw [if_pos (by omega), pcs_at hp hpi.1 hpi.2]
      · refine ⟨fun hi => absurd (ic.mp hi) (by simp [hpi, hr]), fun _ => ?_⟩
        rw [if_neg (by omega)]
theorem get_tkE (x y : Str) {b : Nat} {xs : List Int} : ∀ {more : List PI} {fs : Fs} {P : List Int}, getF fs x = some P → (∀ p ∈ more, Fit b xs.length P.length p) → getF (tkE x b xs more fs) y = if x = y then some (putAll b xs more P) else getF fs y
  | [], fs, P, hg, _ => by
    show getF fs y = _
    by_cases h : x = y
    · subst h; rw [if_pos rfl, hg]; rfl
    · rw [if_neg h]
  | p :: r, fs, P, hg, h => by
    have hp := h p (by simp)
    have pl := pcs_len hp
    have hm := hp.m; have hl := hp.l; have ha := hp.a
    have e : (ovl P p.1.toNat (pcs b xs p)).length = P.length := ovl_len (by omega)
    have g := fun y => get_putE x y (pcs b xs p) p.1.toNat fs P hg (by omega)
    show getF (tkE x b xs r (putE x p.1.toNat (pcs b xs p) fs)) y = _
    rw [get_tkE x y (more := r) (P := ovl P p.1.toNat (pcs b xs p)) (by rw [g, if_pos rfl]) (fun q hq => by rw [e]; exact h q (by simp [hq]))]
    by_cases hxy : x = y
    · rw [if_pos hxy, if_pos hxy]; rfl
    · rw [if_neg hxy, if_neg hxy, g, if_neg hxy]
theorem names_tkE (x : Str) {b : Nat} {xs : List Int} : ∀ {more : List PI} {fs : Fs} {P : List Int}, getF fs x = some P → (∀ p ∈ more, Fit b xs.length P.length p) → namesF (tkE x b xs more fs) = namesF fs
  | [], _, _, _, _ => rfl
  | p :: r, fs, P, hg, h => by
    have hp := h p (by simp)
    have pl := pcs_len hp
    have hm := hp.m; have hl := hp.l; have ha := hp.a
    have e : (ovl P p.1.toNat (pcs b xs p)).length = P.length := ovl_len (by omega)
    show namesF (tkE x b xs r (putE x p.1.toNat (pcs b xs p) fs)) = _
    rw [names_tkE x (more := r) (P := ovl P p.1.toNat (pcs b xs p)) (by rw [get_putE x x (pcs b xs p) p.1.toNat fs P hg (by omega), if_pos rfl]) (fun q hq => by rw [e]; exact h q (by simp [hq])), names_putE _ _ _ _ _ hg]
theorem mem_tkTr (x : Str) {b : Nat} {xs : List Int} : ∀ {more : List PI} {fs : Fs} {P : List Int}, getF fs x = some P → (∀ p ∈ more, Fit b xs.length P.length p) → ∀ f ∈ tkTr x b xs more fs, namesF f = namesF fs ∧ (∀ y, x ≠ y → getF f y = getF fs y) ∧ ∃ c, getF f x = some c ∧ c.length = P.length ∧ ∀ i : Nat, ¬ inR more i → c[i]? = P[i]?
  | [], _, _, _, _, f, hf => by cases hf
  | p :: r, fs, P, hg, h, f, hf => by
    have hp := h p (by simp)
    have pl := pcs_len hp
    have hm := hp.m; have hl := hp.l; have ha := hp.a
    have e : (ovl P p.1.toNat (pcs b xs p)).length = P.length := ovl_len (by omega)
    have ic : ∀ i : Nat, inR (p :: r) i ↔ (p.1 ≤ (i : Int) ∧ (i : Int) < p.2) ∨ inR r i := fun i => by simp [inR]
    simp only [tkTr, List.mem_append] at hf
    rcases hf with hf | hf
    · obtain ⟨h1, h2, c, h3, h4, h5⟩ := mem_putTr x (pcs b xs p) p.1.toNat fs P hg (by omega) f hf
      refine ⟨h1, h2, c, h3, h4, fun i hi => h5 i fun hh => hi ((ic i).mpr (Or.inl (by omega)))⟩
    · have g := fun y => get_putE x y (pcs b xs p) p.1.toNat fs P hg (by omega)
      obtain ⟨h1, h2, c, h3, h4, h5⟩ := mem_tkTr x (more := r) (fs := putE x p.1.toNat (pcs b xs p) fs) (P := ovl P p.1.toNat (pcs b xs p)) (by rw [g, if_pos rfl]) (fun q hq => by rw [e]; exact h q (by simp [hq])) f hf
      refine ⟨h1.trans (names_putE _ _ _ _ _ hg), fun y hy => by rw [h2 y hy, g, if_neg hy], c, h3, h4.trans e, fun i hi => ?_⟩
      rw [h5 i fun hh => hi ((ic i).mpr (Or.inr hh)), ovl_at (by omega), if_neg]
      intro hh
      exact hi ((ic i).mpr (Or.inl (by omega)))
/-! ### a loop of deeds -/
def trs {β : Type} (stp : Fs → β → Fs) (trc : Fs → β → List Fs) : List β → Fs → List Fs
  | [], _ => []
  | p :: r, fs => trc fs p ++ trs stp trc r (stp fs p)
def NRt (Q : Env → Prop) : RS → Prop
  | .nx e _ => Q e
  | .rt _ _ => False
  | _ => True
section
variable {G : Tab} {call : Calls} {env : Env} {k : Nat} {w : Wrl} {fs fs' : Fs} {hs hs' : Option Nt} {x : Str} {NS : List Str} {s : Nt}
theorem goFor_T {β : Type} {body : D → Env → Store → RS} {enc : β → D} {g : Env → Store → RS} {stp : Fs → β → Fs} {trc : Fs → β → List Fs} {I : Nat → Fs → Prop} {Q : Env → Prop} {n : Nat} {tr2 : List Fs} {d : D} :
    ∀ (ps : List β) (i : Nat) (fs : Fs) (env : Env) (st : List Int), I i fs → Q env → st.length ≤ 1000 →
    (∀ j p fs env st, ps[j]? = some p → I (i + j) fs → Q env → st.length ≤ 1000 → Out w (trc fs p) .non (stp fs p) hs st (finI (body (enc p) env (w.at fs st hs))) ∧ NRt Q (body (enc p) env (w.at fs st hs)) ∧ I (i + j + 1) (stp fs p)) →
    i + ps.length = n → (∀ env s, Q env → s.length ≤ 1000 → I n (ps.foldl stp fs) → Sat (Fo w tr2 d fs' hs' s) (g env (w.at (ps.foldl stp fs) s hs))) →
    Sat (Fo w (trs stp trc ps fs ++ tr2) d fs' hs' st) ((goFor body (ps.map enc) env (w.at fs st hs)).andThen g)
  | [], i, fs, env, st, h0, hq, hl, _, hn, hk => by
    subst hn
    exact hk env st hq hl h0
  | p :: r, i, fs, env, st, h0, hq, hl, h, hn, hk => by
    obtain ⟨h1, h2, h3⟩ := h 0 p fs env st rfl h0 hq hl
    simp only [List.map_cons, goFor, trs]
    rw [List.append_assoc]
    refine out_seq h1 (fun S e => ?_) fun s ha => ?_
    · cases hb : body (enc p) env (w.at fs st hs) with
      | nx e' S' => rw [hb] at e; cases e
      | rt d' S' => rw [hb] at e; cases e
      | ex c e' S' => rw [hb] at e; simp only [finI, R.ex.injEq] at e; rw [e.1, e.2]; rfl
      | bad => rw [hb] at e; cases e
    · have ho := out_inr h1 ha
      cases hb : body (enc p) env (w.at fs st hs) with
      | rt d' S' => rw [hb] at h2; exact h2.elim
      | ex c e' S' => rw [hb] at ho; cases ho
      | bad => rw [hb] at ho; cases ho
      | nx e' S' =>
        rw [hb] at h2 ho
        simp only [finI, R.ok.injEq] at ho
        rw [ho.2]
        simp only [RS.andThen_nx]
        refine goFor_T (I := I) (Q := Q) (n := n) r (i + 1) (stp fs p) e' s h3 h2 (by rw [adv_len ha]; exact hl) (fun j p' fs1 env1 st1 hj hi hq1 hl1 => ?_) (by rw [← hn, List.length_cons]; omega) hk
        have := h (j + 1) p' fs1 env1 st1 (by simpa using hj) (by rw [show i + (j + 1) = i + 1 + j by omega]; exact hi) hq1 hl1
        rw [show i + (j + 1) + 1 = i + 1 + j + 1 by omega] at this
        exact this
theorem x_forT {β : Type} {ik : IK} {src : E} {b k : T} {tg : Tg} {enc : β → D} {ps : List β} {dd d : D} (stp : Fs → β → Fs) (trc : Fs → β → List Fs) (I : Nat → Fs → Prop) (Q : Env → Prop) {tr2 : List Fs} {st : List Int}
    (he : ev G call src env (w.at fs st hs) = .ok dd (w.at fs st hs)) (hi : mkIt ik (srcL ik dd) (w.at fs st hs) = some (.items (ps.map enc))) (h0 : I 0 fs) (hq : Q env) (hl : st.length ≤ 1000)
    (h : ∀ j p fs env st, ps[j]? = some p → I j fs → Q env → st.length ≤ 1000 → Out w (trc fs p) .non (stp fs p) hs st (finI (turnB G call b tg (enc p) env (w.at fs st hs))) ∧ NRt Q (turnB G call b tg (enc p) env (w.at fs st hs)) ∧ I (j + 1) (stp fs p))
    (hk : ∀ env s, Q env → s.length ≤ 1000 → I ps.length (ps.foldl stp fs) → Sat (Fo w tr2 d fs' hs' s) (exT G call k env (w.at (ps.foldl stp fs) s hs))) :
    Sat (Fo w (trs stp trc ps fs ++ tr2) d fs' hs' st) (exT G call (.for_ ik src tg b k) env (w.at fs st hs)) := by
  rw [x_for_eq, he]
  simp only [R.stm_ok, hi, goForI]
  refine goFor_T (I := I) (Q := Q) ps 0 fs env st h0 hq hl (fun j p fs1 env1 st1 hj hI hq1 hl1 => ?_) (Nat.zero_add _) hk
  rw [Nat.zero_add] at hI ⊢
  exact h j p fs1 env1 st1 hj hI hq1 hl1
theorem nrt_exp {Q : Env → Prop} {S : Store} {e : E} (h : Q env) : NRt Q (exT G call (.exp e .nil) env S) := by
  rw [x_exp]
  cases ev G call e env S with
  | ok d S' => exact h
  | ex c S' => trivial
  | bad => trivial
theorem tkTr_trs (b : Nat) (xs : List Int) : ∀ (more : List PI) (fs : Fs), tkTr x b xs more fs = trs (fun fs p => putE x p.1.toNat (pcs b xs p) fs) (fun fs p => putTr x p.1.toNat (pcs b xs p) fs) more fs
  | [], _ => rfl
  | p :: r, fs => by simp only [tkTr, trs, tkTr_trs b xs r]
/-! ### begin, have, lacks -/
theorem t_begin [h : Has G i_Hauler_begin f_Hauler_begin] [hw : Has G i_Hauler_write_note f_Hauler_write_note] [hth : Has G i_Hauler_there f_Hauler_there] [hnb : Has G i_note_bytes f_note_bytes] [ht : Has G i_text_bytes f_text_bytes] [hmt : Has G i_mark_text f_mark_text] [hr : Has G i_range_text f_range_text] [h7 : HasC G 7 (.str SIG)] [h2 : HasC G 2 (.str "0123456789abcdef")] [h3 : HasC G 3 (.int 8)]
    [hmk : Has G i_Disk_make f_Disk_make] [hd : Has G i_Disk_step f_Disk_step] [hm8 : HasM G 2 8 i_Disk_step] [hpa : Has G i_Disk_put_at f_Disk_put_at] [hn : Has G i_Disk_need f_Disk_need] [hm9 : HasM G 2 9 i_Disk_need] [hre : Has G i_Disk_rename f_Disk_rename]
    [hm10 : HasM G 2 10 i_Disk_make] [hm11 : HasM G 2 11 i_Disk_put_at] [hm12 : HasM G 2 12 i_Disk_rename] [hdr : Has G i_Disk_drop f_Disk_drop] [hm4 : HasM G 2 4 i_Disk_drop] [hfi : Has G i_Disk_files f_Disk_files] [hm14 : HasM G 2 14 i_Disk_files]
    [hm15 : HasM G 3 15 i_Hauler_there] [hm16 : HasM G 3 16 i_Hauler_write_note] (ok : w.Ok) {m : Int} {z : Nat} (h0 : 0 ≤ m) (h1 : m < 2147483647) (hz : z ≤ 95) (hns : Nms w.nm NS) (hf : SubF fs NS) :
    TrR w (run G (k + 4) i_Hauler_begin [.ref w.p, .int m, .int z]) fs hs (bgR w.nm fs hs m z) := fun st hl => by
  have l := ok.l
  have fl : ∀ {g : Fs}, SubF g NS → g.length ≤ 50 := fun hg => by have := sub_len hg; have := hns.l; omega
  have c := fun fs st hs => at_cl (w := w) (fs := fs) (st := st) (hs := hs) ok
  have f7 := fun fs st hs => at_f7 (w := w) (fs := fs) (st := st) (hs := hs) ok
  have f8 := fun fs st hs => at_f8 (w := w) (fs := fs) (st := st) (hs := hs) ok
  have f9 := fun fs st hs => at_f9 (w := w) (fs := fs) (st := st) (hs := hs) ok
  have cd := fun fs st hs => at_cd (w := w) (fs := fs) (st := st) (hs := hs) ok
  have adP : ∀ S, bop .add (.str w.nm) (.str ".part") S = some (.str (nP w.nm)) := fun S => add_str (by rw [l_part]; omega)
  have adN : ∀ S, bop .add (.str w.nm) (.str ".note") S = some (.str (nN w.nm)) := fun S => add_str (by rw [l_note]; omega)
  have rt := fun st hs => r_there (G := G) (k := k + 1) (w := w) (fs := fs) (hs := hs) (e := ".note") (st := st) ok (by have := fl hf; omega) (by rw [l_note]; decide)
  have sd : SubF (delF fs (nN w.nm)) NS := sub_del hf
  have sb : SubF (bg2 w.nm fs z) NS := sub_set sd hns.p
  have t1 : ∀ hs, (getF fs (nN w.nm)).isSome = true → Tr w (run G (k + 3) i_Disk_drop [.ref w.n, .str (nN w.nm)]) fs hs [fs] .non (delF fs (nN w.nm)) hs := fun hs hh => by
    obtain ⟨b, hb⟩ := Option.isSome_iff_exists.mp hh
    exact t_drop (k := k + 1) ok hb
  have t2 := fun hs => t_make (G := G) (k := k + 1) (x := nP w.nm) (hs := hs) ok (fs := delF fs (nN w.nm)) (by have := fl sd; omega) (z := z) (by omega)
  have t3 := fun hs => t_write_note (G := G) (k := k) (hs := hs) (s := ⟨m, z, []⟩) ok (okN_0 h0 h1 hz) hns sb
  refine imp_P (P := Out w _ _ _ _ st) (h := h) rfl rfl ?_
  simp only [b_Hauler_begin, startE]
  generalize run G (k + 3) = call at *
  by_cases hh : hit hs m z = true
  · unfold bgR
    rw [if_pos hh]
    cases hs with
    | none => cases hh
    | some s =>
      have e : s.m = m ∧ s.z = z := of_decide_eq_true hh
      refine x_ifsR (S' := w.at fs st (some s)) ?_ ⟨.bl true, w.at fs st (some s), rfl, ?_⟩
      · have cu : cutD [D.int s.m, D.int s.z, tl pairD s.h] none (some 2) = [D.int s.m, D.int s.z] := by rw [cut_to (by decide)]; rfl
        have sl : ∀ S, slD (ntD s) none (some 2) S = some (.tup [.int s.m, .int s.z]) := fun S => by
          show some (D.tup (cutD [D.int s.m, D.int s.z, tl pairD s.h] none (some 2))) = _
          rw [cu]
        have nn : isNonD (ntD s) = false := rfl
        simp [c, f9, opD, isEmp, part, sl, eq_2, e.1, e.2, nn, -sl_tup]
      · exact out_ok rfl
  · unfold bgR
    rw [if_neg hh]
    refine x_ifsF (S' := w.at fs st hs) ?_ ?_
    · cases hs with
      | none => simp [c, f9, opD, isNonD]
      | some s =>
        have e : ¬ (s.m = m ∧ s.z = z) := fun e => hh (decide_eq_true e)
        have e' : ¬ (s.m = m ∧ (s.z : Int) = z) := fun h => e ⟨h.1, by omega⟩
        have cu : cutD [D.int s.m, D.int s.z, tl pairD s.h] none (some 2) = [D.int s.m, D.int s.z] := by rw [cut_to (by decide)]; rfl
        have sl : ∀ S, slD (ntD s) none (some 2) S = some (.tup [.int s.m, .int s.z]) := fun S => by
          show some (D.tup (cutD [D.int s.m, D.int s.z, tl pairD s.h] none (some 2))) = _
          rw [cu]
        have nn : isNonD (ntD s) = false := rfl
        have ee : ∀ S, cop .eq (.tup [.int s.m, .int s.z]) (.tup [.int m, .int z]) S = some false := fun S => by rw [eq_2, decide_eq_false e']
        simp [c, f9, opD, isEmp, part, sl, ee, nn, -sl_tup]
    refine x_fld9 (hs' := none) ok (by simp) (by simp [opD]) ?_
    refine x_ifT (t := (getF fs (nN w.nm)).isSome) (f := call i_Disk_drop [.ref w.n, .str (nN w.nm)]) (tr1 := dTr (nN w.nm) fs) (fs1 := delF fs (nN w.nm)) (hs1 := none) (d1 := .non) (by simp [c, rt]) (by simp [c, f7, f8, cd, adN]) (fun hh => by unfold dTr; rw [if_pos hh]; exact t1 none hh) (fun hh => by
      have hn : getF fs (nN w.nm) = none := by cases hg : getF fs (nN w.nm) with | none => rfl | some b => rw [hg] at hh; cases hh
      exact ⟨by unfold dTr; rw [hh]; rfl, delF_none hn, rfl⟩) hl fun st hl => ?_
    refine x_expT (f := call i_Disk_make [.ref w.n, .str (nP w.nm), .int z]) (by simp [c, f7, f8, cd, adP]) (t2 none) hl fun st hl => ?_
    refine x_expT (f := call i_Hauler_write_note [.ref w.p, .int m, .int z, tl pairD []]) (by simp [c]; rfl) (t3 none) hl fun st hl => ?_
    exact x_retP (d := .bl false) (S1 := w.at (wnE w.nm (bg2 w.nm fs z) (noteB ⟨m, z, []⟩)) st (some ⟨m, z, []⟩)) (by simp) (out_ok rfl)
theorem r_hhave [h : Has G i_Hauler_have f_Hauler_have] [hn : Has G i_Hauler_need f_Hauler_need] [hm : HasM G 3 9 i_Hauler_need] (ok : w.Ok) {st : List Int} : run G (k + 2) i_Hauler_have [.ref w.p] (w.at fs st hs) = match hs with | some s => .ok (tl pairD s.h) (w.at fs st hs) | none => .ex 4 (w.at fs st hs) := by
  have c := at_cl (fs := fs) (st := st) (hs := hs) ok
  have f9 := at_f9 (fs := fs) (st := st) (hs := hs) ok
  have rn := r_hneed (G := G) (k := k) (fs := fs) (hs := hs) (st := st) ok
  refine imp_W (h := h) rfl rfl ?_
  simp only [b_Hauler_have, startE]
  cases hs with
  | none => simp at rn; simp [c, rn]
  | some s =>
    simp at rn
    have i2 : ∀ S, getD_ (ntD s) (.int 2) S = some (tl pairD s.h) := fun S => ix2_tup
    simp [c, rn, f9, opD, i2]
theorem r_hlacks [h : Has G i_Hauler_lacks_2 f_Hauler_lacks_2] [hn : Has G i_Hauler_need f_Hauler_need] [hm : HasM G 3 9 i_Hauler_need] [hw : Has G i_without f_without] [ht : Has G i_tidied f_tidied] (ok : w.Ok) {st : List Int} (ho : ∀ s, hs = some s → NtOk s) : run G (k + 3) i_Hauler_lacks_2 [.ref w.p] (w.at fs st hs) = match hs with | some s => .ok (tl pairD (lacF s)) (w.at fs st hs) | none => .ex 4 (w.at fs st hs) := by
  have c := at_cl (fs := fs) (st := st) (hs := hs) ok
  have f9 := at_f9 (fs := fs) (st := st) (hs := hs) ok
  have rn := r_hneed (G := G) (k := k + 1) (fs := fs) (hs := hs) (st := st) ok
  refine imp_W (h := h) rfl rfl ?_
  simp only [b_Hauler_lacks_2, startE]
  cases hs with
  | none => simp at rn; simp [c, rn]
  | some s =>
    simp at rn
    have o := ho s rfl
    have i1 : ∀ S, getD_ (ntD s) (.int 1) S = some (.int s.z) := fun S => ix1_tup
    have i2 : ∀ S, getD_ (ntD s) (.int 2) S = some (tl pairD s.h) := fun S => ix2_tup
    have rw : ∀ S, run G (k + 2) i_without [.tup [.tup [.int 0, .int s.z]], tl pairD s.h] S = .ok (tl pairD (lacF s)) S := fun S => r_without (a := [(0, (s.z : Int))]) (by have := o.hl; simp; omega)
    simp [c, rn, f9, opD, i1, i2, rw]
end
end PL

set_option Elab.async false
set_option linter.all false
set_option maxRecDepth 100000
set_option maxHeartbeats 1000000
/-! PNI: take, is_done, finish, begin_anew; haulers made. -/
namespace PL
open PySem
def tkR (nm : Str) (fs : Fs) (s : Nt) (b : Nat) (xs : List Int) : Res :=
  ⟨.int (width (morF s b xs.length)), tkTr (nP nm) b xs (morF s b xs.length) fs ++ ((if morF s b xs.length = [] then [] else wnTr nm (tkE (nP nm) b xs (morF s b xs.length) fs) (noteB (newN s b xs.length))) ++ []),
    if morF s b xs.length = [] then tkE (nP nm) b xs (morF s b xs.length) fs else wnE nm (tkE (nP nm) b xs (morF s b xs.length) fs) (noteB (newN s b xs.length)), some (if morF s b xs.length = [] then s else newN s b xs.length)⟩
section
variable {G : Tab} {call : Calls} {env : Env} {k : Nat} {w : Wrl} {fs fs' : Fs} {hs hs' : Option Nt} {x : Str} {NS : List Str} {s : Nt}
theorem sub_tkE {b : Nat} {xs : List Int} {more : List PI} {P : List Int} (hg : getF fs x = some P) (h : ∀ p ∈ more, Fit b xs.length P.length p) (hf : SubF fs NS) : SubF (tkE x b xs more fs) NS := sub_names hf (names_tkE x hg h)
theorem t_take [h : Has G i_Hauler_take_2 f_Hauler_take_2] [hla : Has G i_Hauler_lacks_2 f_Hauler_lacks_2] [hne : Has G i_Hauler_need f_Hauler_need] [hbo : Has G i_both f_both] [hto : Has G i_together f_together] [hco : Has G i_count f_count] [hwo : Has G i_without f_without] [hti : Has G i_tidied f_tidied] [hw : Has G i_Hauler_write_note f_Hauler_write_note] [hnb : Has G i_note_bytes f_note_bytes] [ht : Has G i_text_bytes f_text_bytes] [hmt : Has G i_mark_text f_mark_text] [hr : Has G i_range_text f_range_text] [h7 : HasC G 7 (.str SIG)] [h2 : HasC G 2 (.str "0123456789abcdef")] [h3 : HasC G 3 (.int 8)]
    [hmk : Has G i_Disk_make f_Disk_make] [hd : Has G i_Disk_step f_Disk_step] [hm8 : HasM G 2 8 i_Disk_step] [hpa : Has G i_Disk_put_at f_Disk_put_at] [hn : Has G i_Disk_need f_Disk_need] [hm9 : HasM G 2 9 i_Disk_need] [hre : Has G i_Disk_rename f_Disk_rename]
    [hm10 : HasM G 2 10 i_Disk_make] [hm11 : HasM G 2 11 i_Disk_put_at] [hm12 : HasM G 2 12 i_Disk_rename] [hm39 : HasM G 3 9 i_Hauler_need] [hm317 : HasM G 3 17 i_Hauler_lacks_2] [hm16 : HasM G 3 16 i_Hauler_write_note] (ok : w.Ok) (o : NtOk s) {P : List Int} (hP : getF fs (nP w.nm) = some P) (hz : P.length = s.z) {b : Nat} {xs : List Int} (hx : xs.length ≤ 1000) (hns : Nms w.nm NS) (hf : SubF fs NS) :
    TrR w (run G (k + 4) i_Hauler_take_2 [.ref w.p, .int b, tl .int xs]) fs (some s) (tkR w.nm fs s b xs) := fun st hl => by
  have l := ok.l
  have fl : ∀ {g : Fs}, SubF g NS → g.length ≤ 50 := fun hg => by have := sub_len hg; have := hns.l; omega
  have c := fun fs st hs => at_cl (w := w) (fs := fs) (st := st) (hs := hs) ok
  have f7 := fun fs st hs => at_f7 (w := w) (fs := fs) (st := st) (hs := hs) ok
  have f8 := fun fs st hs => at_f8 (w := w) (fs := fs) (st := st) (hs := hs) ok
  have f9 := fun fs st hs => at_f9 (w := w) (fs := fs) (st := st) (hs := hs) ok
  have cd := fun fs st hs => at_cd (w := w) (fs := fs) (st := st) (hs := hs) ok
  have adP : ∀ S, bop .add (.str w.nm) (.str ".part") S = some (.str (nP w.nm)) := fun S => add_str (by rw [l_part]; omega)
  have rn : ∀ st, run G (k + 3) i_Hauler_need [.ref w.p] (w.at fs st (some s)) = .ok .non (w.at fs st (some s)) := fun st => r_hneed (k := k + 2) ok
  have rl : ∀ st, run G (k + 3) i_Hauler_lacks_2 [.ref w.p] (w.at fs st (some s)) = .ok (tl pairD (lacF s)) (w.at fs st (some s)) := fun st => r_hlacks (hs := some s) ok fun t ht => by rw [← Option.some.inj ht]; exact o
  have rb : ∀ S, run G (k + 3) i_both [.tup [.tup [.int b, .int ((b : Int) + (xs.length : Int))]], tl pairD (lacF s)] S = .ok (tl pairD (morF s b xs.length)) S := fun S => r_both (k := k + 1) (a := [((b : Int), (b : Int) + (xs.length : Int))]) (by have := lac_len o; simp; omega)
  have ml := mor_len o (b := b) (n := xs.length)
  have rt : ∀ S, run G (k + 3) i_together [tl pairD s.h, tl pairD (morF s b xs.length)] S = .ok (tl pairD (newN s b xs.length).h) S := fun S => r_together (k := k + 1) (by have := o.hl; omega)
  have rc : ∀ S, run G (k + 3) i_count [tl pairD (morF s b xs.length)] S = .ok (.int (width (morF s b xs.length))) S := fun S => r_count (k := k + 2) (by omega)
  have fit : ∀ p ∈ morF s b xs.length, Fit b xs.length P.length p := by rw [hz]; exact mor_fit o
  have se : SubF (tkE (nP w.nm) b xs (morF s b xs.length) fs) NS := sub_tkE hP fit hf
  have tn := fun hs => t_write_note (G := G) (k := k) (hs := hs) (s := newN s b xs.length) ok (okN_new o b xs.length) hns se
  have tp : ∀ (j : Nat) (p : PI) (fs1 : Fs), (morF s b xs.length)[j]? = some p → SubF fs1 NS ∧ (∃ P1, getF fs1 (nP w.nm) = some P1 ∧ P1.length = s.z) → Tr w (run G (k + 3) i_Disk_put_at [.ref w.n, .str (nP w.nm), .int p.1, tl .int (pcs b xs p)]) fs1 (some s) (putTr (nP w.nm) p.1.toNat (pcs b xs p) fs1) .non (putE (nP w.nm) p.1.toNat (pcs b xs p) fs1) (some s) := fun j p fs1 hj hI => by
    obtain ⟨h1, P1, h2, h3⟩ := hI
    have ft := mor_fit o p (List.mem_of_getElem? hj)
    have pl := pcs_len ft
    have := o.z
    have h0 := ft.a; have := ft.l; have := ft.m
    have e : ((p.1.toNat : Nat) : Int) = p.1 := Int.toNat_of_nonneg (by omega)
    have := t_put (G := G) (k := k + 1) (x := nP w.nm) (hs := some s) (p := p.1.toNat) (xs := pcs b xs p) ok (by have := fl h1; omega) (by omega) h2 (by omega)
    rwa [e] at this
  have cu : ∀ (j : Nat) (p : PI), (morF s b xs.length)[j]? = some p → cutD xs (some (p.1 - (b : Int))) (some (p.2 - (b : Int))) = pcs b xs p := fun j p hj => by
    have ft := mor_fit o p (List.mem_of_getElem? hj)
    have h0 := ft.a; have := ft.l
    rw [cut_both (by omega) (by omega)]
    unfold pcs
    rw [show (p.1 - (b : Int)).toNat = p.1.toNat - b by omega, show (p.2 - (b : Int)).toNat - (p.1.toNat - b) = p.2.toNat - p.1.toNat by omega]
  refine imp_P (P := Out w _ _ _ _ st) (h := h) rfl rfl ?_
  simp only [b_Hauler_take_2, startE]
  generalize run G (k + 3) = call at *
  unfold tkR
  generalize hmo : morF s b xs.length = mo at *
  have bt : ∀ env, bindT (.many [3, 4, 5]) (ntD s) env = some (((env.set 3 (some (.int s.m))).set 4 (some (.int s.z))).set 5 (some (tl pairD s.h))) := fun env => bindT_3
  refine x_expV (S1 := w.at fs st (some s)) (d := .non) (by simp [c, rn]) ?_
  have e1 : ev G call (.fld 3 (.var 0) 9) [some (.ref w.p), some (.int b), some (tl .int xs), none, none, none, none, none, none] (w.at fs st (some s)) = .ok (ntD s) (w.at fs st (some s)) := by simp [c, f9, opD]
  show Sat _ (exT G call (.asgT [3, 4, 5] _ _) [some (.ref w.p), some (.int b), some (tl .int xs), none, none, none, none, none, none] _)
  rw [x_asgT, e1]
  simp only [R.stm_ok, bt]
  refine x_asgV (S1 := w.at fs st (some s)) (d := tl pairD mo) (by simp [c, rl, rb]) ?_
  rw [tkTr_trs]
  refine x_forT (enc := pairD) (ps := mo) (dd := tl pairD mo) (fun fs p => putE (nP w.nm) p.1.toNat (pcs b xs p) fs) (fun fs p => putTr (nP w.nm) p.1.toNat (pcs b xs p) fs) (fun j fs => SubF fs NS ∧ ∃ P1, getF fs (nP w.nm) = some P1 ∧ P1.length = s.z) (fun env => ∃ t7 t8, env = [some (.ref w.p), some (.int b), some (tl .int xs), some (.int s.m), some (.int s.z), some (tl pairD s.h), some (tl pairD mo), t7, t8]) (by simp) (by simp) ⟨hf, P, hP, hz⟩ ⟨_, _, rfl⟩ hl ?_ ?_
  · rintro j p fs1 _ st1 hj hI ⟨t7, t8, rfl⟩ hl1
    have t := tp j p fs1 hj hI
    have cc := cu j p hj
    refine ⟨?_, ?_, ?_⟩
    · simp only [turnB, bindT_pair]
      have := x_expT (k := .nil) (env := [some (.ref w.p), some (.int b), some (tl .int xs), some (.int s.m), some (.int s.z), some (tl pairD s.h), some (tl pairD mo), some (.int p.1), some (.int p.2)]) (e := .meth 2 (.fld 3 (.var 0) 8) 11 (.cons (.bin .add (.fld 3 (.var 0) 7) (.con (.str ".part"))) (.cons (.var 7) (.cons (.sl (.var 2) (.bin .sub (.var 7) (.var 1)) (.bin .sub (.var 8) (.var 1))) .nil)))) (tr2 := []) (d := .non) (G := G) (call := call) (f := call i_Disk_put_at [.ref w.n, .str (nP w.nm), .int p.1, tl .int (pcs b xs p)]) (by simp [c, f7, f8, cd, adP, isEmp, part, cc]) t hl1 fun s1 hs1 => out_ok rfl
      rw [List.append_nil] at this
      exact this
    · exact nrt_exp (Q := fun env => ∃ t7 t8, env = [some (.ref w.p), some (.int b), some (tl .int xs), some (.int s.m), some (.int s.z), some (tl pairD s.h), some (tl pairD mo), t7, t8]) ⟨some (.int p.1), some (.int p.2), rfl⟩
    · obtain ⟨h1, P1, h2, h3⟩ := hI
      have ft := fit p (List.mem_of_getElem? hj)
      have pl := pcs_len ft
      have := ft.a; have := ft.l; have := ft.m
      refine ⟨sub_names h1 (names_putE _ _ _ _ _ h2), ovl P1 p.1.toNat (pcs b xs p), by rw [get_putE _ _ _ _ _ _ h2 (by omega), if_pos rfl], by rw [ovl_len (by omega), h3]⟩
  · rintro _ st1 ⟨t7, t8, rfl⟩ hl1 hI
    have hfo : mo.foldl (fun fs p => putE (nP w.nm) p.1.toNat (pcs b xs p) fs) fs = tkE (nP w.nm) b xs mo fs := rfl
    rw [hfo]
    generalize hfe : tkE (nP w.nm) b xs mo fs = fe at *
    refine x_ifT (t := decide (mo ≠ [])) (f := call i_Hauler_write_note [.ref w.p, .int s.m, .int s.z, tl pairD (newN s b xs.length).h]) (fs1 := if mo = [] then fe else wnE w.nm fe (noteB (newN s b xs.length))) (hs1 := some (if mo = [] then s else newN s b xs.length)) (d1 := .non) ?_ (by simp [c, rt]) (fun hh => ?_) (fun hh => ?_) hl1 fun st2 hl2 => ?_
    · cases mo <;> simp
    · have hm : ¬ mo = [] := of_decide_eq_true hh
      rw [if_neg hm, if_neg hm, if_neg hm]
      exact tn (some s)
    · have hm : mo = [] := by simpa using hh
      rw [if_pos hm, if_pos hm, if_pos hm]
      exact ⟨rfl, rfl, rfl⟩
    · exact x_retP (d := .int (width mo)) (S1 := w.at (if mo = [] then fe else wnE w.nm fe (noteB (newN s b xs.length))) st2 (some (if mo = [] then s else newN s b xs.length))) (by simp [rc]) (out_ok rfl)
end
end PL

set_option Elab.async false
set_option linter.all false
set_option maxRecDepth 100000
set_option maxHeartbeats 1000000
/-! PNJ: haulers made; the disk's bodies; places counted. -/
namespace PL
open PySem
def hs0 (nm : Str) (fs : Fs) : Option Nt := match getF fs (nN nm), getF fs (nP nm) with
  | some B, some _ => (noteO B).map fun n => ⟨n.1, n.2.1.toNat, n.2.2⟩
  | _, _ => none
/-- where note and part are there, the note is one of such a part -/
def Cns (nm : Str) (fs : Fs) : Prop := ∀ B P, getF fs (nN nm) = some B → getF fs (nP nm) = some P → ∃ s, NtOk s ∧ B = noteB s ∧ P.length = s.z
theorem hs0_some {nm : Str} {fs : Fs} {s : Nt} {P : List Int} (o : NtOk s) (hN : getF fs (nN nm) = some (noteB s)) (hP : getF fs (nP nm) = some P) : hs0 nm fs = some s := by
  unfold hs0
  rw [hN, hP]
  simp only [noteB_rt o, Option.map_some]
  cases s; rfl
theorem hs0_none {nm : Str} {fs : Fs} (h : getF fs (nN nm) = none ∨ getF fs (nP nm) = none) : hs0 nm fs = none := by
  unfold hs0
  rcases h with h | h
  · rw [h]
  · rw [h]
    cases getF fs (nN nm) <;> rfl
section
variable {G : Tab} {call : Calls} {env : Env} {k : Nat} {w : Wrl} {fs fs' : Fs} {hs hs' : Option Nt} {x nm : Str} {NS : List Str} {s : Nt} {S : Store} {n m p : Nat} {st : List Int}
theorem wd_setF {f c : Nat} {v : D} {l : List (Nat × D)} (hn : p ≠ n) (hm : p ≠ m) (hl : p < S.length) (hll : l.length < 1000) : setFld (.ref p) f v (WD (S.set p (.ins c l)) n m fs st) = some (WD (S.set p (.ins c (fldPut l f v))) n m fs st) := by
  have : (WD (S.set p (.ins c l)) n m fs st)[p]? = some (.ins c l) := by rw [WD_i hn hm, List.getElem?_set_self hl]
  simp only [setFld, this]
  rw [if_pos hll]
  rw [WD_set hn hm, List.set_set]
theorem wd_clF {c : Nat} {l : List (Nat × D)} (hn : p ≠ n) (hm : p ≠ m) (hl : p < S.length) : clsD (.ref p) (WD (S.set p (.ins c l)) n m fs st) = some c := by
  have : (WD (S.set p (.ins c l)) n m fs st)[p]? = some (.ins c l) := by rw [WD_i hn hm, List.getElem?_set_self hl]
  simp only [clsD, this]
theorem r_hinit [h : Has G i_Hauler_init f_Hauler_init] [hth : Has G i_Hauler_there f_Hauler_there] [hf : Has G i_Disk_files f_Disk_files] [hm14 : HasM G 2 14 i_Disk_files] [hm15 : HasM G 3 15 i_Hauler_there] [hdb : Has G i_Disk_body f_Disk_body] [hm13 : HasM G 2 13 i_Disk_body] [hdn : Has G i_Disk_need f_Disk_need] [hm9 : HasM G 2 9 i_Disk_need]
    [hrd : Has G i_read_note f_read_note] [hb : Has G i_bytes_text f_bytes_text] [hrp : Has G i_read_pair f_read_pair] [hn : Has G i_number_of f_number_of] [hrm : Has G i_read_mark f_read_mark] [hnb : Has G i_note_bytes f_note_bytes] [ht : Has G i_text_bytes f_text_bytes] [hm : Has G i_mark_text f_mark_text] [hr : Has G i_range_text f_range_text] [h0 : HasC G 0 (.int 2147483647)] [h2 : HasC G 2 (.str "0123456789abcdef")] [h3 : HasC G 3 (.int 8)] [h4 : HasC G 4 (.str "0123456789")] [h5 : HasC G 5 (.int 9)] [h7 : HasC G 7 (.str SIG)]
    (hp : Pl S n m) (hi : S[p]? = some (.ins 3 [])) (hpn : p ≠ n) (hpm : p ≠ m) (hl : nm.length ≤ 100) (hc : Cns nm fs) (hfl : fs.length ≤ 60) :
    run G (k + 4) i_Hauler_init [.ref p, .ref n, .str nm] (WD S n m fs st) = .ok .non (Wrl.at ⟨S, n, m, p, nm⟩ fs st (hs0 nm fs)) := by
  have pl : p < S.length := (List.getElem?_eq_some_iff.mp hi).1
  obtain ⟨w, hw⟩ : ∃ w : Wrl, w = ⟨S, n, m, p, nm⟩ := ⟨_, rfl⟩
  have ok : w.Ok := by subst hw; exact ⟨hp, hpn, hpm, pl, hl⟩
  have e0 : WD S n m fs st = WD (S.set p (.ins 3 [])) n m fs st := by rw [set_same hi]
  have e3 : WD (S.set p (.ins 3 [(8, .ref n), (7, .str nm), (9, .non)])) n m fs st = w.at fs st none := by subst hw; rfl
  have rt : ∀ (e : Str) st hs, e.length ≤ 5 → run G (k + 3) i_Hauler_there [.ref p, .str e] (w.at fs st hs) = .ok (.bl (getF fs (nm ++ e)).isSome) (w.at fs st hs) := fun e st hs he => by
    have := r_there (G := G) (k := k + 1) (w := w) (fs := fs) (hs := hs) (e := e) (st := st) ok hfl (by omega)
    subst hw; exact this
  have rb : run G (k + 3) i_Disk_body [.ref n, .str (nN nm)] (w.at fs st none) = match getF fs (nN nm) with | some b => .ok (tl .int b) (w.at fs st none) | none => .ex 3 (w.at fs st none) := by
    have := r_Disk_body (G := G) (k := k + 1) (fs := fs) (st := st) (nm := nN nm) (at_pl (hs := none) ok)
    subst hw; exact this
  have c := at_cl (fs := fs) (st := st) (hs := none) ok
  have cd := at_cd (fs := fs) (st := st) (hs := none) ok
  have adN : ∀ S, bop .add (.str nm) (.str ".note") S = some (.str (nN nm)) := fun S => add_str (by rw [l_note]; omega)
  have rtn := rt ".note" st none (by rw [l_note]; decide)
  have rtp := rt ".part" st none (by rw [l_part]; decide)
  refine imp_W (h := h) rfl rfl ?_
  rw [e0]
  simp only [b_Hauler_init, startE]
  have c0 := fun l => wd_clF (S := S) (n := n) (m := m) (p := p) (fs := fs) (st := st) (c := 3) (l := l) hpn hpm pl
  have s1 : setFld (.ref p) 8 (.ref n) (WD (S.set p (.ins 3 [])) n m fs st) = some (WD (S.set p (.ins 3 [(8, .ref n)])) n m fs st) := wd_setF hpn hpm pl (by simp)
  have s2 : setFld (.ref p) 7 (.str nm) (WD (S.set p (.ins 3 [(8, .ref n)])) n m fs st) = some (WD (S.set p (.ins 3 [(8, .ref n), (7, .str nm)])) n m fs st) := wd_setF hpn hpm pl (by simp)
  have s3 : setFld (.ref p) 9 .non (WD (S.set p (.ins 3 [(8, .ref n), (7, .str nm)])) n m fs st) = some (w.at fs st none) := by
    rw [← e3]; exact wd_setF hpn hpm pl (by simp)
  have ew : w.p = p := by subst hw; rfl
  have ewn : w.n = n := by subst hw; rfl
  have ewm : w.nm = nm := by subst hw; rfl
  rw [ew] at c
  rw [ewn] at cd
  have fin : ∀ e hs', finI (RS.nx e (w.at fs st hs')) = .ok .non (w.at fs st hs') := fun _ _ => rfl
  rw [← hw]
  by_cases hh : (getF fs (nN nm)).isSome = true ∧ (getF fs (nP nm)).isSome = true
  · obtain ⟨B, hB⟩ := Option.isSome_iff_exists.mp hh.1
    obtain ⟨P, hP⟩ := Option.isSome_iff_exists.mp hh.2
    obtain ⟨s, o, e, l⟩ := hc B P hB hP
    subst e
    rw [hB] at rb rtn
    rw [hP] at rtp
    simp only [Option.isSome_some] at rb rtn rtp
    have rr : ∀ S, run G (k + 3) i_read_note [tl .int (noteB s)] S = .ok (ntD s) S := fun S => by
      have := r_read_note (G := G) (k := k) (S := S) (xs := noteB s) (by have := noteB_len o; omega) (noteB_nn o)
      rw [noteB_rt o] at this
      exact this
    have s9 := at_s9 (fs := fs) (st := st) (hs := none) (hs' := some s) ok
    rw [ew] at s9
    rw [hs0_some o hB hP]
    simp only [opD] at s9
    simp [c0, s1, s2, s3, c, cd, rtn, rtp, rb, adN, rr, s9]
  · have hz : hs0 nm fs = none := hs0_none (by
      cases h1 : getF fs (nN nm) with
      | none => exact Or.inl rfl
      | some B =>
        cases h2 : getF fs (nP nm) with
        | none => exact Or.inr rfl
        | some P => rw [h1, h2] at hh; exact absurd ⟨rfl, rfl⟩ hh)
    rw [hz]
    cases h1 : getF fs (nN nm) with
    | none =>
      rw [h1] at rtn
      simp only [Option.isSome_none] at rtn
      simp [c0, s1, s2, s3, c, rtn]
    | some B =>
      cases h2 : getF fs (nP nm) with
      | none =>
        rw [h1] at rtn
        rw [h2] at rtp
        simp only [Option.isSome_none, Option.isSome_some] at rtn rtp
        simp [c0, s1, s2, s3, c, rtn, rtp]
      | some P => rw [h1, h2] at hh; exact absurd ⟨rfl, rfl⟩ hh
end
end PL

set_option Elab.async false
set_option linter.all false
set_option maxRecDepth 100000
set_option maxHeartbeats 1000000
/-! PNK: the disk's bodies; pieces; places counted. -/
namespace PL
open PySem
/-! ### places counted -/
theorem mor_nil {s : Nt} (o : NtOk s) {b n : Nat} : morF s b n = [] ↔ ∀ x : Int, (b : Int) ≤ x → x < b + n → x < s.z → inR s.h x := by
  constructor
  · intro h x h0 h1 h2
    refine Classical.byContradiction fun hn => ?_
    have := (mor_in o b n x).mpr ⟨⟨h0, h1⟩, ⟨by omega, h2⟩, hn⟩
    rw [h] at this
    obtain ⟨p, hp, _⟩ := this
    cases hp
  · intro h
    cases hl : morF s b n with
    | nil => rfl
    | cons p r =>
      have hc := (mor_can s b n).2 p (by rw [hl]; simp)
      have := (mor_in o b n p.1).mp ⟨p, by rw [hl]; simp, Int.le_refl _, hc⟩
      exact absurd (h p.1 this.1.1 this.1.2 this.2.1.2) this.2.2
/-- the hauler's note behind a piece -/
def tkS (s : Nt) (b n : Nat) : Nt := if morF s b n = [] then s else newN s b n
theorem tkS_ok {s : Nt} (o : NtOk s) (b n : Nat) : NtOk (tkS s b n) := by
  unfold tkS; split
  · exact o
  · exact okN_new o b n
theorem tkS_m (s : Nt) (b n : Nat) : (tkS s b n).m = s.m := by unfold tkS; split <;> rfl
theorem tkS_z (s : Nt) (b n : Nat) : (tkS s b n).z = s.z := by unfold tkS; split <;> rfl
theorem tkS_in {s : Nt} (o : NtOk s) (b n : Nat) (x : Int) : inR (tkS s b n).h x ↔ inR s.h x ∨ (((b : Int) ≤ x ∧ x < b + n) ∧ (0 ≤ x ∧ x < s.z)) := by
  unfold tkS; split
  · rename_i h
    constructor
    · exact Or.inl
    · rintro (h1 | ⟨⟨a, b⟩, c, d⟩)
      · exact h1
      · exact (mor_nil o).mp h x a b d
  · exact new_in o b n x
/-- files behind a piece -/
def tkG (nm : Str) (fs : Fs) (s : Nt) (b : Nat) (xs : List Int) : Fs := if morF s b xs.length = [] then tkE (nP nm) b xs (morF s b xs.length) fs else wnE nm (tkE (nP nm) b xs (morF s b xs.length) fs) (noteB (newN s b xs.length))
/-- a hauler is begun: files and note agree -/
structure Bgn (nm : Str) (NS : List Str) (fs : Fs) (s : Nt) (P : List Int) : Prop where
  o : NtOk s
  f : SubF fs NS
  p : getF fs (nP nm) = some P
  z : P.length = s.z
  n : getF fs (nN nm) = some (noteB s)
theorem Bgn.hs {nm : Str} {NS : List Str} {fs : Fs} {s : Nt} {P : List Int} (b : Bgn nm NS fs s P) : hs0 nm fs = some s := hs0_some b.o b.n b.p
theorem Bgn.cns {nm : Str} {NS : List Str} {fs : Fs} {s : Nt} {P : List Int} (b : Bgn nm NS fs s P) : Cns nm fs := fun B Q hB hQ => by
  rw [b.n] at hB; rw [b.p] at hQ
  cases hB; cases hQ
  exact ⟨s, b.o, rfl, b.z⟩
def tkP (s : Nt) (b : Nat) (xs P : List Int) : List Int := putAll b xs (morF s b xs.length) P
theorem tkG_get {nm : Str} {NS : List Str} {fs : Fs} {s : Nt} {P : List Int} (B : Bgn nm NS fs s P) (b : Nat) (xs : List Int) (y : Str) :
    getF (tkG nm fs s b xs) y = if nP nm = y then some (tkP s b xs P) else if nN nm = y then some (noteB (tkS s b xs.length)) else if nW nm = y then (if morF s b xs.length = [] then getF fs y else none) else getF fs y := by
  have fit : ∀ p ∈ morF s b xs.length, Fit b xs.length P.length p := by rw [B.z]; exact mor_fit B.o
  have g := fun y => get_tkE (nP nm) y (more := morF s b xs.length) B.p fit
  unfold tkG tkS
  by_cases h : morF s b xs.length = []
  · rw [if_pos h, if_pos h, if_pos h, g]
    by_cases h1 : nP nm = y
    · rw [if_pos h1, if_pos h1]; rfl
    · rw [if_neg h1, if_neg h1]
      by_cases h2 : nN nm = y
      · rw [if_pos h2, ← h2, B.n]
      · rw [if_neg h2]
        split <;> rfl
  · rw [if_neg h, if_neg h, if_neg h, get_wnE, g]
    by_cases h1 : nP nm = y
    · subst h1
      rw [if_neg (fun e => PN_ne nm e.symm), if_neg (fun e => PW_ne nm e.symm), if_pos rfl, if_pos rfl]; rfl
    · rw [if_neg h1, if_neg h1]
theorem tk_bgn {nm : Str} {NS : List Str} {fs : Fs} {s : Nt} {P : List Int} (hns : Nms nm NS) (B : Bgn nm NS fs s P) (b : Nat) (xs : List Int) : Bgn nm NS (tkG nm fs s b xs) (tkS s b xs.length) (tkP s b xs P) := by
  have fit : ∀ p ∈ morF s b xs.length, Fit b xs.length P.length p := by rw [B.z]; exact mor_fit B.o
  refine ⟨tkS_ok B.o b _, ?_, by rw [tkG_get B, if_pos rfl], ?_, by rw [tkG_get B, if_neg (PN_ne nm), if_pos rfl]⟩
  · unfold tkG
    split
    · exact sub_tkE B.p fit B.f
    · exact sub_wnE hns (sub_tkE B.p fit B.f)
  · rw [tkS_z]
    unfold tkP
    rw [putAll_len fit, B.z]
theorem tkP_at {nm : Str} {NS : List Str} {fs : Fs} {s : Nt} {P : List Int} (B : Bgn nm NS fs s P) (b : Nat) (xs : List Int) (i : Nat) : (tkP s b xs P)[i]? = if inR (morF s b xs.length) i then xs[i - b]? else P[i]? := by
  have fit : ∀ p ∈ morF s b xs.length, Fit b xs.length P.length p := by rw [B.z]; exact mor_fit B.o
  obtain ⟨h1, h2⟩ := putAll_at fit i
  unfold tkP
  by_cases h : inR (morF s b xs.length) i
  · rw [if_pos h]; exact h1 h
  · rw [if_neg h]; exact h2 h
/-! ### begun anew -/
theorem bg2_get {nm : Str} {fs : Fs} {z : Nat} (y : Str) : getF (bg2 nm fs z) y = if nP nm = y then some (List.replicate z 0) else if nN nm = y then none else getF fs y := by
  unfold bg2
  rw [getF_set, getF_del]
def bgG (nm : Str) (fs : Fs) (m : Int) (z : Nat) : Fs := wnE nm (bg2 nm fs z) (noteB ⟨m, z, []⟩)
theorem bgG_get {nm : Str} {fs : Fs} {m : Int} {z : Nat} (y : Str) : getF (bgG nm fs m z) y = if nN nm = y then some (noteB ⟨m, z, []⟩) else if nW nm = y then none else if nP nm = y then some (List.replicate z 0) else getF fs y := by
  unfold bgG
  rw [get_wnE, bg2_get]
  by_cases h1 : nN nm = y
  · rw [if_pos h1, if_pos h1]
  · rw [if_neg h1, if_neg h1, if_neg h1]
theorem bg_bgn {nm : Str} {NS : List Str} {fs : Fs} {m : Int} {z : Nat} (hns : Nms nm NS) (h0 : 0 ≤ m) (h1 : m < 2147483647) (hz : z ≤ 95) (hf : SubF fs NS) : Bgn nm NS (bgG nm fs m z) ⟨m, z, []⟩ (List.replicate z 0) :=
  ⟨okN_0 h0 h1 hz, sub_wnE hns (sub_set (sub_del hf) hns.p), by rw [bgG_get, if_neg (fun e => PN_ne nm e.symm), if_neg (fun e => PW_ne nm e.symm), if_pos rfl], by simp, by rw [bgG_get, if_pos rfl]⟩
/-! ### finished, done -/
/-! ### the disk's bodies in a dict -/
section
variable {G : Tab} {call : Calls} {env : Env} {k : Nat} {fs fs' : Fs} {x nm : Str} {NS : List Str} {s : Nt} {S : Store} {n m p : Nat} {st : List Int}
/-! ### dicts that are alike -/
/-! ### pieces -/
def pcE (B : List Int) (c : Int) : Nat := (min (B.length : Int) (dF c 1 ((B.length : Int) + 1) + dF c 97 40)).toNat
def pcB (B : List Int) (c : Int) : Nat := (dF c 1 ((B.length : Int) + 1)).toNat
def pcX (B : List Int) (c : Int) : List Int := (B.drop (pcB B c)).take (pcE B c - pcB B c)
theorem r_l_piece [h : Has G i_l_piece f_l_piece] [hd : Has G i_l_d f_l_d] {B : List Int} {c : Int} : run G (k + 2) i_l_piece [tl .int B, .int c] S = .ok (.tup [.int (pcB B c), tl .int (pcX B c)]) S := by
  refine pure_rt (h := h) (S' := []) rfl rfl (by simp [frzAs]) ?_ (frzR_scl (by simp [scl, scls]))
  have h1 := dF_nn c 1 (m := (B.length : Int) + 1) (by omega)
  have h2 := dF_nn c 97 (m := 40) (by decide)
  have r1 : ∀ S, run G (k + 1) i_l_d [.int c, .int 1, .int ((B.length : Int) + 1)] S = .ok (.int (dF c 1 ((B.length : Int) + 1))) S := fun S => r_d (by omega)
  have r2 : ∀ S, run G (k + 1) i_l_d [.int c, .int 97, .int 40] S = .ok (.int (dF c 97 40)) S := fun S => r_d (by omega)
  have e1 : ((pcB B c : Nat) : Int) = dF c 1 ((B.length : Int) + 1) := Int.toNat_of_nonneg h1
  have e2 : ((pcE B c : Nat) : Int) = min (B.length : Int) (dF c 1 ((B.length : Int) + 1) + dF c 97 40) := Int.toNat_of_nonneg (by omega)
  have mn : ∀ S, bfD .min [.int (B.length : Int), .int (dF c 1 ((B.length : Int) + 1) + dF c 97 40)] S = some (.int (min (B.length : Int) (dF c 1 ((B.length : Int) + 1) + dF c 97 40))) := fun S => by
    rw [bf_min]; congr 2; split <;> omega
  have cu : cutD B (some (dF c 1 ((B.length : Int) + 1))) (some (min (B.length : Int) (dF c 1 ((B.length : Int) + 1) + dF c 97 40))) = pcX B c := by
    rw [cut_both h1 (by omega)]; rfl
  simp [b_l_piece, startE, r1, r2, mn, isEmp, part, cu, e1, -bf_min]
theorem pc_in (B : List Int) (c : Int) : pcB B c ≤ pcE B c ∧ pcE B c ≤ B.length := by
  have h1 := dF_nn c 1 (m := (B.length : Int) + 1) (by omega)
  have h2 := dF_nn c 97 (m := 40) (by decide)
  have h3 : dF c 1 ((B.length : Int) + 1) < (B.length : Int) + 1 := dF_hi (by omega)
  unfold pcB pcE
  omega
end
end PL

set_option Elab.async false
set_option linter.all false
set_option maxRecDepth 100000
set_option maxHeartbeats 1000000
/-! PNL: disks and haulers made in a store; finish without a beginning. -/
namespace PL
open PySem
section
variable {G : Tab} {call : Calls} {env : Env} {k : Nat} {w : Wrl} {fs fs' : Fs} {hs hs' : Option Nt} {x nm : Str} {NS : List Str} {s : Nt} {S : Store} {n m p : Nat} {st : List Int}
theorem Wrl.Ok.app (ok : w.Ok) (T : Store) : Wrl.Ok { w with S := w.S ++ T } := ⟨ok.pl.app T, ok.pn, ok.pm, by have := ok.p; simp only [List.length_append]; omega, ok.l⟩
theorem Wrl.Ok.set (ok : w.Ok) {i : Nat} {v : Ob} : Wrl.Ok { w with S := w.S.set i v } := ⟨ok.pl.set, ok.pn, ok.pm, by rw [List.length_set]; exact ok.p, ok.l⟩
/-- a disk made -/
theorem r_dinit [h : Has G i_Disk_init f_Disk_init] : run G (k + 1) i_Disk_init [.ref S.length, tl .int st] (S ++ [.ins 2 []]) = .ok .non (S ++ [dskO (S.length + 1) st, .dct []]) := by
  refine imp_W (h := h) rfl rfl ?_
  have g0 : (S ++ [Ob.ins 2 []])[S.length]? = some (.ins 2 []) := by simp
  have c0 : clsD (.ref S.length) (S ++ [Ob.ins 2 []] ++ [.dct []]) = some 2 := by simp [clsD]
  have s1 : setFld (.ref S.length) 5 (.ref (S.length + 1)) (S ++ [Ob.ins 2 []] ++ [.dct []]) = some (S ++ [.ins 2 [(5, .ref (S.length + 1))], .dct []]) := by
    simp [setFld, fldPut]
  have c1 : clsD (.ref S.length) (S ++ [.ins 2 [(5, .ref (S.length + 1))], .dct []]) = some 2 := by simp [clsD]
  have s2 : setFld (.ref S.length) 6 (tl .int st) (S ++ [.ins 2 [(5, .ref (S.length + 1))], .dct []]) = some (S ++ [dskO (S.length + 1) st, .dct []]) := by
    simp [setFld, fldPut]
  have ll : (S ++ [Ob.ins 2 []]).length = S.length + 1 := by simp
  have ap : S ++ [Ob.ins 2 []] ++ [.dct []] = S ++ ([Ob.ins 2 []] ++ [.dct []]) := by simp
  simp only [b_Disk_init, startE, x_fldS, e_dict0, R.stm_ok, ll, e_var]
  simp only [List.map_cons, List.map_nil, List.cons_append, List.getElem?_cons_zero, R.stm_ok, c0, if_true, s1, List.getElem?_cons_succ, c1, s2]
  rfl
theorem dsk_at : S ++ [dskO (S.length + 1) st, .dct []] = WD (S ++ [dskO (S.length + 1) st, .dct []]) S.length (S.length + 1) [] st :=
  (WD_self (by simp) (by simp [encF])).symm
theorem e_mkD {e : E} [hi : HasI G 2 i_Disk_init] (he : ev G call e env S = .ok (tl .int st) S) (rd : ∀ S : Store, call i_Disk_init [.ref S.length, tl .int st] (S ++ [.ins 2 []]) = .ok .non (S ++ [dskO (S.length + 1) st, .dct []])) :
    ev G call (.mk 2 (.cons e .nil)) env S = .ok (.ref S.length) (WD (S ++ [dskO (S.length + 1) st, .dct []]) S.length (S.length + 1) [] st) := by
  rw [← dsk_at]
  simp [he, rd]
end
end PL

set_option Elab.async false
set_option linter.all false
set_option maxRecDepth 100000
set_option maxHeartbeats 1000000
/-! PNM: haulers without stops, in short. -/
namespace PL
open PySem
/-! all that haulers lean on, in one -/
class HauG (G : Tab) : Prop where
  f_Disk_step : Has G i_Disk_step f_Disk_step
  f_Disk_need : Has G i_Disk_need f_Disk_need
  f_Disk_make : Has G i_Disk_make f_Disk_make
  f_Disk_put_at : Has G i_Disk_put_at f_Disk_put_at
  f_Disk_rename : Has G i_Disk_rename f_Disk_rename
  f_Disk_drop : Has G i_Disk_drop f_Disk_drop
  f_Disk_body : Has G i_Disk_body f_Disk_body
  f_Disk_files : Has G i_Disk_files f_Disk_files
  f_Disk_init : Has G i_Disk_init f_Disk_init
  f_Hauler_init : Has G i_Hauler_init f_Hauler_init
  f_Hauler_there : Has G i_Hauler_there f_Hauler_there
  f_Hauler_need : Has G i_Hauler_need f_Hauler_need
  f_Hauler_write_note : Has G i_Hauler_write_note f_Hauler_write_note
  f_Hauler_begin : Has G i_Hauler_begin f_Hauler_begin
  f_Hauler_lacks_2 : Has G i_Hauler_lacks_2 f_Hauler_lacks_2
  f_Hauler_take_2 : Has G i_Hauler_take_2 f_Hauler_take_2
  f_mark_of : Has G i_mark_of f_mark_of
  f_mark_text : Has G i_mark_text f_mark_text
  f_read_mark : Has G i_read_mark f_read_mark
  f_tidied : Has G i_tidied f_tidied
  f_together : Has G i_together f_together
  f_both : Has G i_both f_both
  f_without : Has G i_without f_without
  f_count : Has G i_count f_count
  f_range_text : Has G i_range_text f_range_text
  f_number_of : Has G i_number_of f_number_of
  f_text_bytes : Has G i_text_bytes f_text_bytes
  f_bytes_text : Has G i_bytes_text f_bytes_text
  f_note_bytes : Has G i_note_bytes f_note_bytes
  f_read_pair : Has G i_read_pair f_read_pair
  f_read_note : Has G i_read_note f_read_note
  m_Disk_step : HasM G 2 8 i_Disk_step
  m_Disk_need : HasM G 2 9 i_Disk_need
  m_Disk_make : HasM G 2 10 i_Disk_make
  m_Disk_put_at : HasM G 2 11 i_Disk_put_at
  m_Disk_rename : HasM G 2 12 i_Disk_rename
  m_Disk_drop : HasM G 2 4 i_Disk_drop
  m_Disk_body : HasM G 2 13 i_Disk_body
  m_Disk_files : HasM G 2 14 i_Disk_files
  m_Hauler_there : HasM G 3 15 i_Hauler_there
  m_Hauler_need : HasM G 3 9 i_Hauler_need
  m_Hauler_write_note : HasM G 3 16 i_Hauler_write_note
  m_Hauler_begin : HasM G 3 18 i_Hauler_begin
  m_Hauler_lacks_2 : HasM G 3 17 i_Hauler_lacks_2
  m_Hauler_take_2 : HasM G 3 19 i_Hauler_take_2
  i_Disk_init : HasI G 2 i_Disk_init
  i_Hauler_init : HasI G 3 i_Hauler_init
  c_0 : HasC G 0 (.int 2147483647)
  c_1 : HasC G 1 (.int 257)
  c_2 : HasC G 2 (.str "0123456789abcdef")
  c_3 : HasC G 3 (.int 8)
  c_4 : HasC G 4 (.str "0123456789")
  c_5 : HasC G 5 (.int 9)
  c_7 : HasC G 7 (.str SIG)
instance {G : Tab} [h : HauG G] : Has G i_Disk_step f_Disk_step := h.f_Disk_step
instance {G : Tab} [h : HauG G] : Has G i_Disk_need f_Disk_need := h.f_Disk_need
instance {G : Tab} [h : HauG G] : Has G i_Disk_make f_Disk_make := h.f_Disk_make
instance {G : Tab} [h : HauG G] : Has G i_Disk_put_at f_Disk_put_at := h.f_Disk_put_at
instance {G : Tab} [h : HauG G] : Has G i_Disk_rename f_Disk_rename := h.f_Disk_rename
instance {G : Tab} [h : HauG G] : Has G i_Disk_drop f_Disk_drop := h.f_Disk_drop
instance {G : Tab} [h : HauG G] : Has G i_Disk_body f_Disk_body := h.f_Disk_body
instance {G : Tab} [h : HauG G] : Has G i_Disk_files f_Disk_files := h.f_Disk_files
instance {G : Tab} [h : HauG G] : Has G i_Disk_init f_Disk_init := h.f_Disk_init
instance {G : Tab} [h : HauG G] : Has G i_Hauler_init f_Hauler_init := h.f_Hauler_init
instance {G : Tab} [h : HauG G] : Has G i_Hauler_there f_Hauler_there := h.f_Hauler_there
instance {G : Tab} [h : HauG G] : Has G i_Hauler_need f_Hauler_need := h.f_Hauler_need
instance {G : Tab} [h : HauG G] : Has G i_Hauler_write_note f_Hauler_write_note := h.f_Hauler_write_note
instance {G : Tab} [h : HauG G] : Has G i_Hauler_begin f_Hauler_begin := h.f_Hauler_begin
instance {G : Tab} [h : HauG G] : Has G i_Hauler_lacks_2 f_Hauler_lacks_2 := h.f_Hauler_lacks_2
instance {G : Tab} [h : HauG G] : Has G i_Hauler_take_2 f_Hauler_take_2 := h.f_Hauler_take_2
instance {G : Tab} [h : HauG G] : Has G i_mark_of f_mark_of := h.f_mark_of
instance {G : Tab} [h : HauG G] : Has G i_mark_text f_mark_text := h.f_mark_text
instance {G : Tab} [h : HauG G] : Has G i_read_mark f_read_mark := h.f_read_mark
instance {G : Tab} [h : HauG G] : Has G i_tidied f_tidied := h.f_tidied
instance {G : Tab} [h : HauG G] : Has G i_together f_together := h.f_together
instance {G : Tab} [h : HauG G] : Has G i_both f_both := h.f_both
instance {G : Tab} [h : HauG G] : Has G i_without f_without := h.f_without
instance {G : Tab} [h : HauG G] : Has G i_count f_count := h.f_count
instance {G : Tab} [h : HauG G] : Has G i_range_text f_range_text := h.f_range_text
instance {G : Tab} [h : HauG G] : Has G i_number_of f_number_of := h.f_number_of
instance {G : Tab} [h : HauG G] : Has G i_text_bytes f_text_bytes := h.f_text_bytes
instance {G : Tab} [h : HauG G] : Has G i_bytes_text f_bytes_text := h.f_bytes_text
instance {G : Tab} [h : HauG G] : Has G i_note_bytes f_note_bytes := h.f_note_bytes
instance {G : Tab} [h : HauG G] : Has G i_read_pair f_read_pair := h.f_read_pair
instance {G : Tab} [h : HauG G] : Has G i_read_note f_read_note := h.f_read_note
instance {G : Tab} [h : HauG G] : HasM G 2 8 i_Disk_step := h.m_Disk_step
instance {G : Tab} [h : HauG G] : HasM G 2 9 i_Disk_need := h.m_Disk_need
instance {G : Tab} [h : HauG G] : HasM G 2 10 i_Disk_make := h.m_Disk_make
instance {G : Tab} [h : HauG G] : HasM G 2 11 i_Disk_put_at := h.m_Disk_put_at
instance {G : Tab} [h : HauG G] : HasM G 2 12 i_Disk_rename := h.m_Disk_rename
instance {G : Tab} [h : HauG G] : HasM G 2 4 i_Disk_drop := h.m_Disk_drop
instance {G : Tab} [h : HauG G] : HasM G 2 13 i_Disk_body := h.m_Disk_body
instance {G : Tab} [h : HauG G] : HasM G 2 14 i_Disk_files := h.m_Disk_files
instance {G : Tab} [h : HauG G] : HasM G 3 15 i_Hauler_there := h.m_Hauler_there
instance {G : Tab} [h : HauG G] : HasM G 3 9 i_Hauler_need := h.m_Hauler_need
instance {G : Tab} [h : HauG G] : HasM G 3 16 i_Hauler_write_note := h.m_Hauler_write_note
instance {G : Tab} [h : HauG G] : HasM G 3 18 i_Hauler_begin := h.m_Hauler_begin
instance {G : Tab} [h : HauG G] : HasM G 3 17 i_Hauler_lacks_2 := h.m_Hauler_lacks_2
instance {G : Tab} [h : HauG G] : HasM G 3 19 i_Hauler_take_2 := h.m_Hauler_take_2
instance {G : Tab} [h : HauG G] : HasI G 2 i_Disk_init := h.i_Disk_init
instance {G : Tab} [h : HauG G] : HasI G 3 i_Hauler_init := h.i_Hauler_init
instance {G : Tab} [h : HauG G] : HasC G 0 (.int 2147483647) := h.c_0
instance {G : Tab} [h : HauG G] : HasC G 1 (.int 257) := h.c_1
instance {G : Tab} [h : HauG G] : HasC G 2 (.str "0123456789abcdef") := h.c_2
instance {G : Tab} [h : HauG G] : HasC G 3 (.int 8) := h.c_3
instance {G : Tab} [h : HauG G] : HasC G 4 (.str "0123456789") := h.c_4
instance {G : Tab} [h : HauG G] : HasC G 5 (.int 9) := h.c_5
instance {G : Tab} [h : HauG G] : HasC G 7 (.str SIG) := h.c_7
section
variable {G : Tab} [hg : HauG G] {call : Calls} {env : Env} {k : Nat} {w : Wrl} {fs fs' : Fs} {hs hs' : Option Nt} {x nm : Str} {NS : List Str} {s : Nt} {S : Store} {n m p : Nat} {st : List Int} {P : List Int}
theorem q_have [h : Has G i_Hauler_have f_Hauler_have] (ok : w.Ok) : run G (k + 2) i_Hauler_have [.ref w.p] (w.at fs st (some s)) = .ok (tl pairD s.h) (w.at fs st (some s)) := r_hhave (hs := some s) ok
end
end PL

set_option Elab.async false
set_option linter.all false
set_option maxRecDepth 100000
set_option maxHeartbeats 1000000
/-! PNN: right pieces; what comes of them. -/
namespace PL
open PySem
abbrev NSf (nm : Str) : List Str := [nm, nP nm, nN nm, nW nm]
theorem nms_f (nm : Str) : Nms nm (NSf nm) := ⟨by simp, by simp, by simp, by simp, by simp⟩
theorem sub_nil (NS : List Str) : SubF [] NS := ⟨by simp [namesF], by simp [namesF]⟩
def pcD (p : Nat × List Int) : D := .tup [.int p.1, tl .int p.2]
/-- a piece of B -/
structure GP (B : List Int) (p : Nat × List Int) : Prop where
  l : p.1 + p.2.length ≤ B.length
  e : ∀ i : Nat, p.1 ≤ i → i < p.1 + p.2.length → p.2[i - p.1]? = B[i]?
theorem gp_of {B : List Int} {b e : Nat} (h : b ≤ e) (h' : e ≤ B.length) : GP B (b, (B.drop b).take (e - b)) ∧ ((B.drop b).take (e - b)).length = e - b := by
  have l : ((B.drop b).take (e - b)).length = e - b := by simp only [List.length_take, List.length_drop]; omega
  refine ⟨⟨by rw [l]; simp only; omega, fun i h1 h2 => ?_⟩, l⟩
  rw [l] at h2
  simp only at h1 h2 ⊢
  rw [List.getElem?_take, if_pos (by omega), List.getElem?_drop]
  congr 1; omega
theorem gp_pc (B : List Int) (c : Int) : GP B (pcB B c, pcX B c) := (gp_of (pc_in B c).1 (pc_in B c).2).1
/-- what is there is as in B -/
def Gd (B : List Int) (s : Nt) (P : List Int) : Prop := ∀ i : Nat, inR s.h i → P[i]? = B[i]?
theorem gd_take {nm : Str} {NS : List Str} {fs : Fs} {s : Nt} {P B : List Int} (b : Bgn nm NS fs s P) (hz : s.z = B.length) (g : Gd B s P) {p : Nat × List Int} (h : GP B p) : Gd B (tkS s p.1 p.2.length) (tkP s p.1 p.2 P) := fun i hi => by
  rw [tkP_at b]
  by_cases hm : inR (morF s p.1 p.2.length) i
  · rw [if_pos hm]
    obtain ⟨h1, _, _⟩ := (mor_in b.o _ _ _).mp hm
    exact h.e i (by omega) (by omega)
  · rw [if_neg hm]
    refine g i ?_
    rcases (tkS_in b.o _ _ _).mp hi with h1 | ⟨h1, h2⟩
    · exact h1
    · refine Classical.byContradiction fun hn => hm ((mor_in b.o _ _ _).mpr ⟨h1, h2, hn⟩)
theorem gd_nil {B : List Int} {m : Int} {z : Nat} {P : List Int} : Gd B ⟨m, z, []⟩ P := fun i ⟨p, hp, _⟩ => by cases hp
theorem mark_rng (B : List Int) : 0 ≤ markF B ∧ markF B < 2147483647 := markF_lt B
section
variable {G : Tab} [hg : HauG G] {call : Calls} {env : Env} {k : Nat} {w : Wrl} {fs fs' : Fs} {hs hs' : Option Nt} {x nm : Str} {NS : List Str} {s : Nt} {S : Store} {n m p : Nat} {st : List Int} {P : List Int}
theorem setI_D {i : Nat} {K : List Int} {y : Int} (h : S[i]? = some (.dct (K.map fun i => (.inl i, .bl true)))) (hl : K.length ≤ 100000) : setIx (.ref i) (.int y) (.bl true) S = some (S.set i (.dct ((putU K y).map fun i => (.inl i, .bl true)))) := by
  simp only [setIx, h, keyOf, Option.map_some]
  rw [if_pos (by simp [SZ]; omega), setK_pl]
theorem din_D {i : Nat} {K : List Int} {y : Int} (h : S[i]? = some (.dct (K.map fun i => (.inl i, .bl true)))) : dinD (.int y) (.ref i) S = some (decide (y ∈ K)) := by
  simp only [dinD, dctOf, h, keyOf, Option.map_some]
  rw [getK_pl]
  by_cases h : y ∈ K <;> simp [h]
end
end PL

set_option Elab.async false
set_option linter.all false
set_option maxRecDepth 100000
set_option maxHeartbeats 1000000
/-! PNV: where a take, a beginning may stop. -/
namespace PL
open PySem
section
variable {nm : Str} {NS : List Str} {fs : Fs} {s : Nt} {P : List Int}
theorem tk_tr (hns : Nms nm NS) (b : Bgn nm NS fs s P) (bb : Nat) (ys : List Int) : ∀ f ∈ (tkR nm fs s bb ys).tr, ∃ c, Bgn nm NS f s c ∧ (∀ i : Nat, inR s.h i → c[i]? = P[i]?) ∧ ∀ y, y ≠ nP nm → y ≠ nW nm → getF f y = getF fs y := by
  intro f hf
  have fit : ∀ p ∈ morF s bb ys.length, Fit bb ys.length P.length p := by rw [b.z]; exact mor_fit b.o
  have g := fun y => get_tkE (nP nm) y (more := morF s bb ys.length) b.p fit
  have off : ∀ i : Nat, inR s.h i → ¬ inR (morF s bb ys.length) i := fun i h1 h2 => ((mor_in b.o _ _ _).mp h2).2.2 h1
  simp only [tkR, List.append_nil, List.mem_append] at hf
  rcases hf with hf | hf
  · obtain ⟨h1, h2, c, h3, h4, h5⟩ := mem_tkTr (nP nm) b.p fit f hf
    exact ⟨c, ⟨b.o, sub_names b.f h1, h3, by rw [h4, b.z], by rw [h2 _ (PN_ne nm), b.n]⟩, fun i hi => h5 i (off i hi), fun y hy _ => h2 y fun e => hy e.symm⟩
  · by_cases hm : morF s bb ys.length = []
    · rw [if_pos hm] at hf; cases hf
    · rw [if_neg hm] at hf
      obtain ⟨h1, h2⟩ := mem_wnTr hns (sub_tkE b.p fit b.f) f hf
      refine ⟨putAll bb ys (morF s bb ys.length) P, ⟨b.o, h1, by rw [h2 _ (fun e => PW_ne nm e.symm), g, if_pos rfl], by rw [putAll_len fit, b.z], by rw [h2 _ (fun e => NW_ne nm e.symm), g, if_neg (PN_ne nm), b.n]⟩, fun i hi => (putAll_at fit i).2 (off i hi), fun y hy hy' => by rw [h2 y (fun e => hy' e.symm), g, if_neg (fun e => hy e.symm)]⟩
/-- while a file is begun anew there is no note, or nothing is done yet -/
theorem bg_tr (hns : Nms nm NS) (hf : SubF fs NS) {hs : Option Nt} {m : Int} {z : Nat} : ∀ f ∈ (bgR nm fs hs m z).tr, SubF f NS ∧ (f = fs ∨ getF f (nN nm) = none) ∧ (∀ y, y ≠ nP nm → y ≠ nW nm → y ≠ nN nm → getF f y = getF fs y) := by
  intro f hfm
  unfold bgR at hfm
  split at hfm
  · cases hfm
  · simp only [List.append_nil, List.mem_append, List.mem_singleton] at hfm
    rcases hfm with hfm | rfl | hfm
    · unfold dTr at hfm
      split at hfm
      · rw [List.mem_singleton.mp hfm]; exact ⟨hf, Or.inl rfl, fun y _ _ _ => rfl⟩
      · cases hfm
    · exact ⟨sub_del hf, Or.inr (by rw [getF_del, if_pos rfl]), fun y _ _ h => by rw [getF_del, if_neg (fun e => h e.symm)]⟩
    · obtain ⟨h1, h2⟩ := mem_wnTr hns (show SubF (bg2 nm fs z) NS from sub_set (sub_del hf) hns.p) f hfm
      refine ⟨h1, Or.inr (by rw [h2 _ (fun e => NW_ne nm e.symm), bg2_get, if_neg (PN_ne nm), if_pos rfl]), fun y h3 h4 h5 => by rw [h2 y (fun e => h4 e.symm), bg2_get, if_neg (fun e => h3 e.symm), if_neg (fun e => h5 e.symm)]⟩
end
end PL
namespace PL
open PySem
abbrev i_l_begun : Nat := 148
/-- l_begun: _disk 0 _body 1 _hauler 2 -/
def b_l_begun : T := (.asg 2 (.con .non)
  (.whl (.isn (.var 2))
  (.asg 2 (.mk 3 (.cons (.var 0) (.cons (.con (.str "f")) .nil)))
  (.tr (.exp (.meth 3 (.var 2) 18 (.cons (.call i_mark_of (.cons (.var 1) .nil)) (.cons (.bf .len (.cons (.var 1) .nil)) .nil)))
  .nil)
  [2]
  (.asg 2 (.con .non)
  .nil)
  .nil))
  (.ret (.var 2))))
def f_l_begun : Fn := ⟨false, 2, 3, b_l_begun⟩
abbrev i_l_took : Nat := 149
/-- l_took: _hauler 0 _piece_here 1 _took_here 2 -/
def b_l_took : T := (.asg 2 (.con (.bl false))
  (.tr (.exp (.meth 3 (.var 0) 19 (.cons (.ix (.var 1) (.con (.int 0))) (.cons (.ix (.var 1) (.con (.int 1))) .nil)))
  (.asg 2 (.con (.bl true))
  .nil))
  [2]
  (.asg 2 (.con (.bl false))
  .nil)
  (.ret (.var 2))))
def f_l_took : Fn := ⟨false, 2, 3, b_l_took⟩
abbrev i_law_k26_2 : Nat := 241
/-- law_k26_2: _script 0 _cell_here 1 _body 2 _k 3 _stops 4 _disk 5 _hauler 6 _whole 7 _pieces 8 _tries 9 _part 10 _have 11 _begin 12 _end 13 _place 14 _more 15 -/
def b_law_k26_2 : T := (.asg 1 (.call i_l_cell (.cons (.var 0) (.cons (.con (.int 0)) .nil)))
  (.asg 2 (.tup .nil)
  (.for_ .rng1 (.cons (.bin .add (.call i_l_d (.cons (.var 1) (.cons (.con (.int 1)) (.cons (.con (.int 40)) .nil)))) (.con (.int 1))) .nil) (.one 3)
  (.asg 2 (.bin .add (.var 2) (.tup (.cons (.bin .add (.bin .mod (.bin .add (.bin .fdiv (.call i_l_cell (.cons (.var 0) (.cons (.bin .add (.con (.int 1)) (.bin .mod (.var 3) (.con (.int 3)))) .nil))) (.bin .add (.var 3) (.con (.int 1)))) (.var 3)) (.con (.int 255))) (.con (.int 1))) .nil)))
  .nil)
  (.asg 4 (.bf .tuple (.cons (.comp .plain (.sl (.var 0) (.con (.int 4)) (.bin .add (.con (.int 4)) (.call i_l_d (.cons (.var 1) (.cons (.con (.int 40)) (.cons (.con (.int 7)) .nil)))))) (.one 15) .emp (.bin .mod (.bin .fdiv (.var 15) (.con (.int 3))) (.ix (.lst (.cons (.con (.int 4)) (.cons (.con (.int 40)) (.cons (.con (.int 120)) .nil)))) (.bin .mod (.var 15) (.con (.int 3)))))) .nil))
  (.asg 5 (.mk 2 (.cons (.var 4) .nil))
  (.asg 6 (.call i_l_begun (.cons (.var 5) (.cons (.var 2) .nil)))
  (.asg 7 .dict0
  (.asg 8 (.comp .plain (.sl (.var 0) (.con (.int 10)) (.con (.int 20))) (.one 15) .emp (.call i_l_piece (.cons (.var 2) (.cons (.var 15) .nil))))
  (.asg 9 (.con (.int 0))
  (.whl (.and (.val (.var 8)) (.one (.cmp .lt (.var 9) (.con (.int 20)))))
  (.asg 9 (.bin .add (.var 9) (.con (.int 1)))
  (.ifs (.val (.call i_l_took (.cons (.var 6) (.cons (.ix (.var 8) (.con (.int 0))) .nil))))
  (.for_ .rng2 (.cons (.ix (.ix (.var 8) (.con (.int 0))) (.con (.int 0))) (.cons (.bin .add (.ix (.ix (.var 8) (.con (.int 0))) (.con (.int 0))) (.bf .len (.cons (.ix (.ix (.var 8) (.con (.int 0))) (.con (.int 1))) .nil))) .nil)) (.one 14)
  (.setI (.var 7) (.var 14) (.con (.bl true))
  .nil)
  (.asg 8 (.sl (.var 8) (.con (.int 1)) .emp)
  .nil))
  .nil
  (.asg 6 (.call i_l_begun (.cons (.var 5) (.cons (.var 2) .nil)))
  (.asg 10 (.meth 2 (.var 5) 13 (.cons (.con (.str "f.part")) .nil))
  (.asg 11 .dict0
  (.for_ .plain (.meth 3 (.var 6) 20 .nil) (.many [12, 13])
  (.for_ .rng2 (.cons (.var 12) (.cons (.var 13) .nil)) (.one 14)
  (.setI (.var 11) (.var 14) (.con (.bl true))
  (.ifs (.cmp .ne (.ix (.var 10) (.var 14)) (.ix (.var 2) (.var 14)))
  (.ret (.con (.bl false)))
  .nil
  .nil))
  .nil)
  (.ifs (.val (.comp .keysR (.var 7) (.one 14) (.din true (.var 14) (.var 11)) (.var 14)))
  (.ret (.con (.bl false)))
  .nil
  .nil)))))))
  (.ret (.nt (.var 8)))))))))))))
def f_law_k26_2 : Fn := ⟨true, 1, 16, b_law_k26_2⟩
def Gt : Tab := ⟨lookN [(i_mark_of, f_mark_of), (i_mark_text, f_mark_text), (i_read_mark, f_read_mark), (i_tidied, f_tidied), (i_together, f_together), (i_both, f_both), (i_without, f_without), (i_count, f_count), (i_range_text, f_range_text), (i_number_of, f_number_of), (i_text_bytes, f_text_bytes), (i_bytes_text, f_bytes_text), (i_note_bytes, f_note_bytes), (i_read_pair, f_read_pair), (i_read_note, f_read_note), (i_Hauler_init, f_Hauler_init), (i_Hauler_there, f_Hauler_there), (i_Hauler_need, f_Hauler_need), (i_Hauler_write_note, f_Hauler_write_note), (i_Hauler_begin, f_Hauler_begin), (i_Hauler_have, f_Hauler_have), (i_Hauler_lacks_2, f_Hauler_lacks_2), (i_Hauler_take_2, f_Hauler_take_2), (i_Disk_init, f_Disk_init), (i_Disk_step, f_Disk_step), (i_Disk_need, f_Disk_need), (i_Disk_make, f_Disk_make), (i_Disk_put_at, f_Disk_put_at), (i_Disk_rename, f_Disk_rename), (i_Disk_drop, f_Disk_drop), (i_Disk_body, f_Disk_body), (i_Disk_files, f_Disk_files), (i_l_d, f_l_d), (i_l_cell, f_l_cell), (i_l_piece, f_l_piece), (i_l_begun, f_l_begun), (i_l_took, f_l_took), (i_law_k26_2, f_law_k26_2)], lookN [(0, (.int 2147483647)), (1, (.int 257)), (2, (.str "0123456789abcdef")), (3, (.int 8)), (4, (.str "0123456789")), (5, (.int 9)), (7, (.str "0123456789abcdefghijklmnopqrstuvwxyz -,\n"))], fun c m => (lookN [(3, [(15, i_Hauler_there), (9, i_Hauler_need), (16, i_Hauler_write_note), (18, i_Hauler_begin), (20, i_Hauler_have), (17, i_Hauler_lacks_2), (19, i_Hauler_take_2)]), (2, [(8, i_Disk_step), (9, i_Disk_need), (10, i_Disk_make), (11, i_Disk_put_at), (12, i_Disk_rename), (4, i_Disk_drop), (13, i_Disk_body), (14, i_Disk_files)])] c).bind fun l => lookN l m, lookN [(3, i_Hauler_init), (2, i_Disk_init)], [0, 4, 3, 2]⟩
instance : Has Gt i_mark_of f_mark_of := ⟨rfl⟩
instance : Has Gt i_mark_text f_mark_text := ⟨rfl⟩
instance : Has Gt i_read_mark f_read_mark := ⟨rfl⟩
instance : Has Gt i_tidied f_tidied := ⟨rfl⟩
instance : Has Gt i_together f_together := ⟨rfl⟩
instance : Has Gt i_both f_both := ⟨rfl⟩
instance : Has Gt i_without f_without := ⟨rfl⟩
instance : Has Gt i_count f_count := ⟨rfl⟩
instance : Has Gt i_range_text f_range_text := ⟨rfl⟩
instance : Has Gt i_number_of f_number_of := ⟨rfl⟩
instance : Has Gt i_text_bytes f_text_bytes := ⟨rfl⟩
instance : Has Gt i_bytes_text f_bytes_text := ⟨rfl⟩
instance : Has Gt i_note_bytes f_note_bytes := ⟨rfl⟩
instance : Has Gt i_read_pair f_read_pair := ⟨rfl⟩
instance : Has Gt i_read_note f_read_note := ⟨rfl⟩
instance : Has Gt i_Hauler_init f_Hauler_init := ⟨rfl⟩
instance : Has Gt i_Hauler_there f_Hauler_there := ⟨rfl⟩
instance : Has Gt i_Hauler_need f_Hauler_need := ⟨rfl⟩
instance : Has Gt i_Hauler_write_note f_Hauler_write_note := ⟨rfl⟩
instance : Has Gt i_Hauler_begin f_Hauler_begin := ⟨rfl⟩
instance : Has Gt i_Hauler_have f_Hauler_have := ⟨rfl⟩
instance : Has Gt i_Hauler_lacks_2 f_Hauler_lacks_2 := ⟨rfl⟩
instance : Has Gt i_Hauler_take_2 f_Hauler_take_2 := ⟨rfl⟩
instance : Has Gt i_Disk_init f_Disk_init := ⟨rfl⟩
instance : Has Gt i_Disk_step f_Disk_step := ⟨rfl⟩
instance : Has Gt i_Disk_need f_Disk_need := ⟨rfl⟩
instance : Has Gt i_Disk_make f_Disk_make := ⟨rfl⟩
instance : Has Gt i_Disk_put_at f_Disk_put_at := ⟨rfl⟩
instance : Has Gt i_Disk_rename f_Disk_rename := ⟨rfl⟩
instance : Has Gt i_Disk_drop f_Disk_drop := ⟨rfl⟩
instance : Has Gt i_Disk_body f_Disk_body := ⟨rfl⟩
instance : Has Gt i_Disk_files f_Disk_files := ⟨rfl⟩
instance : Has Gt i_l_d f_l_d := ⟨rfl⟩
instance : Has Gt i_l_cell f_l_cell := ⟨rfl⟩
instance : Has Gt i_l_piece f_l_piece := ⟨rfl⟩
instance : Has Gt i_l_begun f_l_begun := ⟨rfl⟩
instance : Has Gt i_l_took f_l_took := ⟨rfl⟩
instance : Has Gt i_law_k26_2 f_law_k26_2 := ⟨rfl⟩
instance : HasC Gt 0 (.int 2147483647) := ⟨rfl⟩
instance : HasC Gt 1 (.int 257) := ⟨rfl⟩
instance : HasC Gt 2 (.str "0123456789abcdef") := ⟨rfl⟩
instance : HasC Gt 3 (.int 8) := ⟨rfl⟩
instance : HasC Gt 4 (.str "0123456789") := ⟨rfl⟩
instance : HasC Gt 5 (.int 9) := ⟨rfl⟩
instance : HasC Gt 7 (.str "0123456789abcdefghijklmnopqrstuvwxyz -,\n") := ⟨rfl⟩
abbrev LI : Nat := i_law_k26_2
abbrev KK : Nat := 12
end PL
namespace PL
open PySem
instance : HasM Gt 3 15 i_Hauler_there := ⟨rfl⟩
instance : HasM Gt 3 9 i_Hauler_need := ⟨rfl⟩
instance : HasM Gt 3 16 i_Hauler_write_note := ⟨rfl⟩
instance : HasM Gt 3 18 i_Hauler_begin := ⟨rfl⟩
instance : HasM Gt 3 20 i_Hauler_have := ⟨rfl⟩
instance : HasM Gt 3 17 i_Hauler_lacks_2 := ⟨rfl⟩
instance : HasM Gt 3 19 i_Hauler_take_2 := ⟨rfl⟩
instance : HasM Gt 2 8 i_Disk_step := ⟨rfl⟩
instance : HasM Gt 2 9 i_Disk_need := ⟨rfl⟩
instance : HasM Gt 2 10 i_Disk_make := ⟨rfl⟩
instance : HasM Gt 2 11 i_Disk_put_at := ⟨rfl⟩
instance : HasM Gt 2 12 i_Disk_rename := ⟨rfl⟩
instance : HasM Gt 2 4 i_Disk_drop := ⟨rfl⟩
instance : HasM Gt 2 13 i_Disk_body := ⟨rfl⟩
instance : HasM Gt 2 14 i_Disk_files := ⟨rfl⟩
instance : HasI Gt 3 i_Hauler_init := ⟨rfl⟩
instance : HasI Gt 2 i_Disk_init := ⟨rfl⟩
instance : HauG Gt := by constructor <;> infer_instance
abbrev nf : Str := "f"
abbrev NS4 : List Str := NSf nf
def plk (ks : List Int) : List (Ky × D) := ks.map fun i => (.inl i, .bl true)
/-- the keys of a dict of the store, tested -/
theorem ev_compK {G : Tab} {call : Calls} {env : Env} {S : Store} {n : Nat} {K : List Int} {src c e : E} {tg : Tg} {p : Int → Bool} (f : Int → D) (hs : ev G call src env S = .ok (.ref n) S) (hi : S[n]? = some (.dct (plk K))) (hl : K.length ≤ SZ)
    (h : ∀ x ∈ K, compB G call tg c e env (.int x) (S.set n (.lck (plk K))) = .ok (if p x then some (f x) else none) (S.set n (.lck (plk K)))) :
    ev G call (.comp .keysR src tg c e) env S = .ok (.lst ((K.filter p).map f)) S := by
  have ks : (plk K).map (fun q => kyD q.1) = K.map D.int := by unfold plk; rw [List.map_map]; rfl
  have m : mkIt .keysR [.ref n] S = some (.lkd n (K.map D.int) (plk K)) := by
    show (match S[n]? with
      | some (.dct kvs) => some (Itr.lkd n (kvs.map fun (p : Ky × D) => kyD p.1) kvs)
      | _ => none) = _
    rw [hi]
    simp only [ks]
  have g : goComp (qk .keysR (compB G call tg c e env)) (K.map D.int) [] (S.set n (.lck (plk K))) = .ok ((K.filter p).map f) (S.set n (.lck (plk K))) :=
    goComp_filter hl fun x hx => qk_ok (h x hx)
  show (ev G call src env S).bind _ = _
  rw [hs]
  simp only [R.bind_ok]
  show (match mkIt .keysR [.ref n] S with
    | some it => (goIt it (qk .keysR (compB G call tg c e env)) S).bind fun ys S => R.ok (D.lst ys) S
    | none => .bad) = _
  rw [m]
  simp only [goIt, g, unlL, unlS]
  rw [List.getElem?_set_self (List.getElem?_eq_some_iff.mp hi).1]
  simp only [List.set_set, R.bind_ok]
  rw [set_same hi]
@[simp] theorem isNon_ref6 {n : Nat} : isNonD (.ref n) = false := rfl
/-! ### whatever stops: the note tells what is there -/
structure Z1 (B K : List Int) (fs : Fs) (s : Nt) (P : List Int) : Prop where
  b : Bgn nf NS4 fs s P
  m : s.m = markF B
  z : s.z = B.length
  g : Gd B s P
  k : ∀ x ∈ K, inR s.h x
structure Z0 (B K : List Int) (fs : Fs) : Prop where
  f : SubF fs NS4
  h : (∃ s P, Z1 B K fs s P) ∨ (K = [] ∧ (getF fs (nN nf) = none ∨ getF fs (nP nf) = none))
theorem Z0.hs {B K : List Int} {fs : Fs} (z : Z0 B K fs) : Cns nf fs ∧ ((∃ s P, Z1 B K fs s P ∧ hs0 nf fs = some s) ∨ (K = [] ∧ hs0 nf fs = none)) := by
  rcases z.h with ⟨s, P, h⟩ | ⟨h1, h2⟩
  · exact ⟨h.b.cns, .inl ⟨s, P, h, h.b.hs⟩⟩
  · refine ⟨fun nb P e1 e2 => ?_, .inr ⟨h1, hs0_none h2⟩⟩
    rcases h2 with h2 | h2
    · rw [h2] at e1; cases e1
    · rw [h2] at e2; cases e2
/-- a hauler that has begun, in the store -/
structure Hw6 (σ : Store) (p : Nat) (fs : Fs) (st : List Int) (s : Nt) : Prop where
  a : σ[0]? = some (dskO 1 st)
  b : σ[1]? = some (.dct (encF fs))
  c : σ[p]? = some (hauO 0 nf (some s))
  p0 : p ≠ 0
  p1 : p ≠ 1
theorem w_ok6 {σ : Store} {p : Nat} {o0 o1 op : Ob} (h0 : σ[0]? = some o0) (h1 : σ[1]? = some o1) (hp : σ[p]? = some op) (p0 : p ≠ 0) (p1 : p ≠ 1) : Wrl.Ok ⟨σ, 0, 1, p, nf⟩ :=
  ⟨⟨show (0 : Nat) ≠ 1 by decide, (List.getElem?_eq_some_iff.mp h0).1, (List.getElem?_eq_some_iff.mp h1).1⟩, p0, p1, (List.getElem?_eq_some_iff.mp hp).1, show nf.length ≤ 100 by decide +kernel⟩
theorem Hw6.at {σ : Store} {p : Nat} {fs : Fs} {st : List Int} {s : Nt} (h : Hw6 σ p fs st s) : Wrl.at ⟨σ, 0, 1, p, nf⟩ fs st (some s) = σ := by
  show WD (σ.set p (hauO 0 nf (some s))) 0 1 fs st = σ
  rw [set_same h.c, WD_self h.a h.b]
theorem Hw6.ok {σ : Store} {p : Nat} {fs : Fs} {st : List Int} {s : Nt} (h : Hw6 σ p fs st s) : Wrl.Ok ⟨σ, 0, 1, p, nf⟩ := w_ok6 h.a h.b h.c h.p0 h.p1
theorem hw_of {σ : Store} {p : Nat} {fs : Fs} {st : List Int} {s : Nt} (ok : Wrl.Ok ⟨σ, 0, 1, p, nf⟩) : Hw6 (Wrl.at ⟨σ, 0, 1, p, nf⟩ fs st (some s)) p fs st s :=
  ⟨WD_o (at_pl ok), WD_d (at_pl ok), at_o ok, ok.pn, ok.pm⟩
theorem at_k6 {σ : Store} {p : Nat} {fs : Fs} {st : List Int} {hs : Option Nt} {i : Nat} (h0 : i ≠ 0) (h1 : i ≠ 1) (h2 : i ≠ p) : (Wrl.at ⟨σ, 0, 1, p, nf⟩ fs st hs)[i]? = σ[i]? := at_i (w := ⟨σ, 0, 1, p, nf⟩) h0 h1 h2
theorem at_len6 {σ : Store} {p : Nat} {fs : Fs} {st : List Int} {hs : Option Nt} : (Wrl.at ⟨σ, 0, 1, p, nf⟩ fs st hs).length = σ.length := at_len (w := ⟨σ, 0, 1, p, nf⟩)
theorem x_trN {G : Tab} {call : Calls} {env env' : Env} {S S' : Store} {P : RS → Prop} {cs : List Nat} {b h k : T} (hb : exT G call b env S = .nx env' S') (hk : Sat P (exT G call k env' S')) : Sat P (exT G call (.tr b cs h k) env S) := by
  rw [x_tr, hb]
  exact hk
theorem x_trE {G : Tab} {call : Calls} {env env' env2 : Env} {S S' S2 : Store} {P : RS → Prop} {cs : List Nat} {b h k : T} {c : Nat} (hb : exT G call b env S = .ex c env' S') (h1 : c ∈ G.exs) (h2 : c ∈ cs) (hh : exT G call h env' S' = .nx env2 S2) (hk : Sat P (exT G call k env2 S2)) : Sat P (exT G call (.tr b cs h k) env S) := by
  rw [x_tr, hb]
  simp only [if_pos h1, if_pos h2, hh, RS.calm_nx, RS.andThen_nx]
  exact hk
theorem r_begun {k : Nat} {σ : Store} {fs : Fs} {st B K : List Int} (h0 : σ[0]? = some (dskO 1 st)) (h1 : σ[1]? = some (.dct (encF fs))) (hst : st.length ≤ 1000) (bl : B.length ≤ 95) (z : Z0 B K fs) :
    ∃ (σ' : Store) (p : Nat) (fs' : Fs) (st' : List Int) (s : Nt) (P : List Int), run Gt (k + 5) i_l_begun [.ref 0, tl .int B] σ = .ok (.ref p) σ' ∧ Hw6 σ' p fs' st' s ∧ σ.length ≤ p ∧ (∀ i, i < σ.length → i ≠ 0 → i ≠ 1 → σ'[i]? = σ[i]?) ∧ Z1 B K fs' s P ∧ st'.length ≤ st.length := by
  obtain ⟨Pr, hPr⟩ : ∃ Pr : R D → Prop, Pr = fun r => ∃ (σ' : Store) (p : Nat) (fs' : Fs) (st' : List Int) (s : Nt) (P : List Int), r = .ok (.ref p) σ' ∧ Hw6 σ' p fs' st' s ∧ σ.length ≤ p ∧ (∀ i, i < σ.length → i ≠ 0 → i ≠ 1 → σ'[i]? = σ[i]?) ∧ Z1 B K fs' s P ∧ st'.length ≤ st.length := ⟨_, rfl⟩
  have goal : Pr (run Gt (k + 5) i_l_begun [.ref 0, tl .int B] σ) := by
    have mB := mark_rng B
    have rmk : ∀ S, run Gt (k + 4) i_mark_of [tl .int B] S = .ok (.int (markF B)) S := fun S => r_mark_of (k := k + 3)
    have rhi : ∀ (S : Store) fs st, Pl S 0 1 → Cns nf fs → fs.length ≤ 60 → run Gt (k + 4) i_Hauler_init [.ref S.length, .ref 0, .str nf] (WD (S ++ [.ins 3 []]) 0 1 fs st) = .ok .non (Wrl.at ⟨S ++ [.ins 3 []], 0, 1, S.length, nf⟩ fs st (hs0 nf fs)) := fun S fs st hp hc hl =>
      r_hinit (k := k) (hp.app _) (by simp) (by have := hp.n; omega) (by have := hp.m; omega) (by decide +kernel) hc hl
    have tb : ∀ (w : Wrl) fs hs, w.Ok → w.nm = nf → SubF fs NS4 → TrR w (run Gt (k + 4) i_Hauler_begin [.ref w.p, .int (markF B), .int B.length]) fs hs (bgR w.nm fs hs (markF B) B.length) := fun w fs hs ok hnm hf =>
      t_begin (G := Gt) (k := k) (fs := fs) (hs := hs) (NS := NS4) ok mB.1 mB.2 bl (by rw [hnm]; exact nms_f nf) hf
    refine imp_P (P := Pr) (k := k + 4) (F := f_l_begun) (h := ⟨rfl⟩) rfl rfl ?_
    simp only [b_l_begun, startE]
    generalize run Gt (k + 4) = call at *
    refine x_asgV (d := .non) (S1 := σ) (by simp) ?_
    simp only [List.set_cons_succ, List.set_cons_zero, List.map_cons, List.map_nil, List.cons_append, List.nil_append, List.length_cons, List.length_nil, Nat.reduceSub, Nat.reduceAdd, List.replicate_succ, List.replicate_zero]
    obtain ⟨I, hI⟩ : ∃ I : Nat → Env → Store → Prop, I = fun (m : Nat) e σ' => ∃ (fs' : Fs) (st' : List Int), st'.length ≤ st.length ∧ (∀ i, i < σ.length → i ≠ 0 → i ≠ 1 → σ'[i]? = σ[i]?) ∧ σ.length ≤ σ'.length ∧
      ((m = st'.length + 1 ∧ σ'[0]? = some (dskO 1 st') ∧ σ'[1]? = some (.dct (encF fs')) ∧ Z0 B K fs' ∧ e = [some (.ref 0), some (tl .int B), some .non]) ∨ (m = 0 ∧ ∃ (p : Nat) (s : Nt) (P : List Int), Hw6 σ' p fs' st' s ∧ σ.length ≤ p ∧ Z1 B K fs' s P ∧ e = [some (.ref 0), some (tl .int B), some (.ref p)])) := ⟨_, rfl⟩
    refine x_whlW I (m0 := st.length + 1) ?_ (by omega) ?_
    · rw [hI]
      exact ⟨fs, st, Nat.le_refl _, fun _ _ _ _ => rfl, Nat.le_refl _, .inl ⟨rfl, h0, h1, z, rfl⟩⟩
    · intro m e σ' hm
      rw [hI] at hm
      obtain ⟨fs', st', l1, kp, l2, h⟩ := hm
      rcases h with ⟨rfl, g0, g1, z', rfl⟩ | ⟨rfl, p, s, P, hw, lp, z1, rfl⟩
      · refine ⟨true, σ', by simp, ?_⟩
        rw [if_pos rfl]
        obtain ⟨hc, hz⟩ := z'.hs
        have la := (List.getElem?_eq_some_iff.mp g0).1
        have lb := (List.getElem?_eq_some_iff.mp g1).1
        have pl : Pl σ' 0 1 := ⟨by decide, la, lb⟩
        have hr1 := rhi σ' fs' st' pl hc (Nat.le_trans (sub_len z'.f) (by decide))
        rw [← WD_app pl, WD_self g0 g1] at hr1
        have ok : Wrl.Ok ⟨σ' ++ [.ins 3 []], 0, 1, σ'.length, nf⟩ := w_ok6 (o0 := dskO 1 st') (o1 := .dct (encF fs')) (op := .ins 3 []) (by rw [List.getElem?_append_left la]; exact g0) (by rw [List.getElem?_append_left lb]; exact g1) (by simp) (by omega) (by omega)
        have kp2 : ∀ f s hs i, i < σ.length → i ≠ 0 → i ≠ 1 → (Wrl.at ⟨σ' ++ [.ins 3 []], 0, 1, σ'.length, nf⟩ f s hs)[i]? = σ[i]? := fun f s hs i hi h0 h1 => by
          rw [at_k6 h0 h1 (by omega), List.getElem?_append_left (by omega)]
          exact kp i hi h0 h1
        have ln2 : ∀ f s hs, (Wrl.at ⟨σ' ++ [.ins 3 []], 0, 1, σ'.length, nf⟩ f s hs).length = σ'.length + 1 := fun f s hs => by rw [at_len6]; simp
        have tr := tb ⟨σ' ++ [.ins 3 []], 0, 1, σ'.length, nf⟩ fs' (hs0 nf fs') ok rfl z'.f st' (by omega)
        have cl := fun f s hs => at_cl (w := ⟨σ' ++ [.ins 3 []], 0, 1, σ'.length, nf⟩) (fs := f) (st := s) (hs := hs) ok
        simp only at tr cl
        have g2 : 2 ∈ Gt.exs := by decide
        refine x_asgV (d := .ref σ'.length) (S1 := Wrl.at ⟨σ' ++ [.ins 3 []], 0, 1, σ'.length, nf⟩ fs' st' (hs0 nf fs')) (by simp [hr1]) ?_
        simp only [List.set_cons_succ, List.set_cons_zero]
        unfold Out at tr
        obtain ⟨E1, hE1⟩ : ∃ E1 : Env, E1 = [some (.ref 0), some (tl .int B), some (.ref σ'.length)] := ⟨_, rfl⟩
        rcases hz with ⟨s, P, z1, hs⟩ | ⟨hK, hs⟩
        · rw [hs] at tr ⊢
          have eh : bgR nf fs' (some s) (markF B) B.length = ⟨.bl true, [], fs', some s⟩ := by
            have hh : hit (some s) (markF B) B.length = true := decide_eq_true ⟨z1.m, z1.z⟩
            unfold bgR
            rw [if_pos hh]
          rw [eh] at tr
          simp only [List.length_nil, adv_0] at tr
          refine x_trN (env' := [some (.ref 0), some (tl .int B), some (.ref σ'.length)]) (S' := Wrl.at ⟨σ' ++ [.ins 3 []], 0, 1, σ'.length, nf⟩ fs' st' (some s)) (by simp [cl, rmk, tr]) ?_
          show ∃ m', m' < st'.length + 1 ∧ I m' _ _
          refine ⟨0, by omega, ?_⟩
          rw [hI]
          exact ⟨fs', st', l1, fun i hi h0 h1 => kp2 _ _ _ i hi h0 h1, by rw [ln2]; omega, .inr ⟨rfl, σ'.length, s, P, hw_of ok, l2, z1, rfl⟩⟩
        · rw [hs] at tr ⊢
          have er : (bgR nf fs' none (markF B) B.length).fs = bgG nf fs' (markF B) B.length ∧ (bgR nf fs' none (markF B) B.length).hs = some ⟨markF B, B.length, []⟩ ∧ (bgR nf fs' none (markF B) B.length).d = .bl false := by
            unfold bgR
            rw [if_neg (by simp [hit])]
            exact ⟨rfl, rfl, rfl⟩
          rw [er.1, er.2.1, er.2.2] at tr
          cases ha : adv (bgR nf fs' none (markF B) B.length).tr.length st' with
          | inl js =>
            obtain ⟨j, s'⟩ := js
            rw [ha] at tr
            obtain ⟨f, hs', hf, hr⟩ := tr
            obtain ⟨b1, b2, _⟩ := bg_tr (nms_f nf) z'.f f (List.mem_of_getElem? hf)
            have sl := (adv_stop ha).2
            refine x_trE (c := 2) (env' := [some (.ref 0), some (tl .int B), some (.ref σ'.length)]) (S' := Wrl.at ⟨σ' ++ [.ins 3 []], 0, 1, σ'.length, nf⟩ f s' hs') (env2 := [some (.ref 0), some (tl .int B), some .non]) (S2 := Wrl.at ⟨σ' ++ [.ins 3 []], 0, 1, σ'.length, nf⟩ f s' hs') (by simp [cl, rmk, hr]) g2 (by simp) (by simp) ?_
            show ∃ m', m' < st'.length + 1 ∧ I m' _ _
            refine ⟨s'.length + 1, by omega, ?_⟩
            rw [hI]
            refine ⟨f, s', by omega, fun i hi h0 h1 => kp2 _ _ _ i hi h0 h1, by rw [ln2]; omega, .inl ⟨rfl, WD_o (at_pl ok), WD_d (at_pl ok), ⟨b1, .inr ⟨hK, ?_⟩⟩, rfl⟩⟩
            rcases b2 with rfl | b2
            · rcases z'.h with ⟨s, P, q⟩ | ⟨_, q⟩
              · rw [q.b.hs] at hs; cases hs
              · exact q
            · exact .inl b2
          | inr s' =>
            rw [ha] at tr
            have sl := adv_len ha
            refine x_trN (env' := [some (.ref 0), some (tl .int B), some (.ref σ'.length)]) (S' := Wrl.at ⟨σ' ++ [.ins 3 []], 0, 1, σ'.length, nf⟩ (bgG nf fs' (markF B) B.length) s' (some ⟨markF B, B.length, []⟩)) (by simp [cl, rmk, tr]) ?_
            show ∃ m', m' < st'.length + 1 ∧ I m' _ _
            refine ⟨0, by omega, ?_⟩
            rw [hI]
            refine ⟨_, s', by omega, fun i hi h0 h1 => kp2 _ _ _ i hi h0 h1, by rw [ln2]; omega, .inr ⟨rfl, σ'.length, _, _, hw_of ok, l2, ⟨bg_bgn (nms_f nf) mB.1 mB.2 bl z'.f, rfl, rfl, gd_nil, fun x hx => ?_⟩, rfl⟩⟩
            rw [hK] at hx; cases hx
      · refine ⟨false, σ', by simp, ?_⟩
        rw [if_neg (by decide)]
        refine x_retP (d := .ref p) (S1 := σ') (by simp) ?_
        show Pr (.ok (.ref p) σ')
        rw [hPr]
        exact ⟨σ', p, fs', st', s, P, rfl, hw, lp, kp, z1, l1⟩
  rw [hPr] at goal
  exact goal
theorem r_took {k : Nat} {σ : Store} {p : Nat} {fs : Fs} {st B K : List Int} {s : Nt} {P : List Int} (hw : Hw6 σ p fs st s) (z : Z1 B K fs s P) (hst : st.length ≤ 1000) (bl : B.length ≤ 95) {b : Nat} {xs : List Int} (gp : GP B (b, xs)) :
    ∃ σ' : Store, σ'.length = σ.length ∧ (∀ i, i ≠ 0 → i ≠ 1 → i ≠ p → σ'[i]? = σ[i]?) ∧
      ((run Gt (k + 5) i_l_took [.ref p, pcD (b, xs)] σ = .ok (.bl true) σ' ∧ ∃ (fs' : Fs) (st' : List Int) (s' : Nt) (P' : List Int), σ'[0]? = some (dskO 1 st') ∧ σ'[1]? = some (.dct (encF fs')) ∧ Z1 B K fs' s' P' ∧ (∀ x : Int, (b : Int) ≤ x → x < (b : Int) + xs.length → inR s'.h x) ∧ st'.length = st.length) ∨
       (run Gt (k + 5) i_l_took [.ref p, pcD (b, xs)] σ = .ok (.bl false) σ' ∧ ∃ (fs' : Fs) (st' : List Int), σ'[0]? = some (dskO 1 st') ∧ σ'[1]? = some (.dct (encF fs')) ∧ Z0 B K fs' ∧ st'.length + 1 = st.length)) := by
  have ok := hw.ok
  have gl := gp.l
  simp only at gl
  have tr := t_take (G := Gt) (k := k) (fs := fs) (b := b) (xs := xs) (NS := NS4) ok z.b.o z.b.p z.b.z (by omega) (nms_f nf) z.b.f st hst
  have cl := fun f s hs => at_cl (w := ⟨σ, 0, 1, p, nf⟩) (fs := f) (st := s) (hs := hs) ok
  simp only at tr cl
  have cl0 := cl fs st (some s)
  rw [hw.at] at tr cl0
  have g2 : 2 ∈ Gt.exs := by decide
  unfold Out at tr
  cases ha : adv (tkR nf fs s b xs).tr.length st with
  | inl js =>
    obtain ⟨j, s'⟩ := js
    rw [ha] at tr
    obtain ⟨f, hs', hf, hr⟩ := tr
    obtain ⟨c, b1, b2, _⟩ := tk_tr (nms_f nf) z.b b xs f (List.mem_of_getElem? hf)
    have sl := (adv_stop ha).2
    refine ⟨Wrl.at ⟨σ, 0, 1, p, nf⟩ f s' hs', at_len6, fun i h0 h1 h2 => at_k6 h0 h1 h2, .inr ⟨?_, f, s', WD_o (at_pl ok), WD_d (at_pl ok), ⟨b1.f, .inl ⟨s, c, b1, z.m, z.z, fun i hi => by rw [b2 i hi]; exact z.g i hi, z.k⟩⟩, sl⟩⟩
    refine imp_W (k := k + 4) (F := f_l_took) (h := ⟨rfl⟩) rfl rfl ?_
    simp only [b_l_took, startE]
    generalize run Gt (k + 4) = call at *
    refine x_asgV (d := .bl false) (S1 := σ) (by simp) ?_
    refine x_trE (c := 2) (env' := [some (.ref p), some (pcD (b, xs)), some (.bl false)]) (S' := Wrl.at ⟨σ, 0, 1, p, nf⟩ f s' hs') (env2 := [some (.ref p), some (pcD (b, xs)), some (.bl false)]) (S2 := Wrl.at ⟨σ, 0, 1, p, nf⟩ f s' hs') (by simp [cl0, pcD, ix0_tup, ix1_tup, hr]) g2 (by simp) (by simp) ?_
    exact x_retP (d := .bl false) (S1 := _) (by simp) rfl
  | inr s' =>
    rw [ha] at tr
    have sl := adv_len ha
    have e1 : (tkR nf fs s b xs).fs = tkG nf fs s b xs ∧ (tkR nf fs s b xs).hs = some (tkS s b xs.length) ∧ (tkR nf fs s b xs).d = .int (width (morF s b xs.length)) := ⟨rfl, rfl, rfl⟩
    rw [e1.1, e1.2.1, e1.2.2] at tr
    refine ⟨Wrl.at ⟨σ, 0, 1, p, nf⟩ (tkG nf fs s b xs) s' (some (tkS s b xs.length)), at_len6, fun i h0 h1 h2 => at_k6 h0 h1 h2, .inl ⟨?_, _, s', _, _, WD_o (at_pl ok), WD_d (at_pl ok), ⟨tk_bgn (nms_f nf) z.b b xs, (tkS_m _ _ _).trans z.m, (tkS_z _ _ _).trans z.z, gd_take z.b z.z z.g gp, fun x hx => (tkS_in z.b.o _ _ x).mpr (.inl (z.k x hx))⟩, fun x h1 h2 => (tkS_in z.b.o _ _ x).mpr (.inr ⟨⟨h1, h2⟩, by omega, by rw [z.z]; omega⟩), sl⟩⟩
    refine imp_W (k := k + 4) (F := f_l_took) (h := ⟨rfl⟩) rfl rfl ?_
    simp only [b_l_took, startE]
    generalize run Gt (k + 4) = call at *
    refine x_asgV (d := .bl false) (S1 := σ) (by simp) ?_
    refine x_trN (env' := [some (.ref p), some (pcD (b, xs)), some (.bl true)]) (S' := Wrl.at ⟨σ, 0, 1, p, nf⟩ (tkG nf fs s b xs) s' (some (tkS s b xs.length))) (by simp [cl0, pcD, ix0_tup, ix1_tup, tr]) ?_
    exact x_retP (d := .bl true) (S1 := _) (by simp) rfl
theorem x_setV6 {G : Tab} {call : Calls} {env : Env} {S S' : Store} {P : RS → Prop} {o i e : E} {k : T} {v x y : D} (he : ev G call e env S = .ok v S) (ho : ev G call o env S = .ok x S) (hi : ev G call i env S = .ok y S) (hs : setIx x y v S = some S') (hk : Sat P (exT G call k env S')) : Sat P (exT G call (.setI o i e k) env S) := by
  rw [x_setI, he]
  simp only [R.stm_ok, ho, hi, hs]
  exact hk
theorem set_last6 {S : Store} {a b : Ob} : (S ++ [a]).set S.length b = S ++ [b] := by
  rw [List.set_append_right _ _ (Nat.le_refl _), Nat.sub_self]; rfl
def stF (x : Int) : Int := x / 3 % (if x % 3 = 0 then 4 else if x % 3 = 1 then 40 else 120)
theorem law_true : ∀ ns : List Int, ns.length ≤ 63 → run Gt KK LI [.scr ns] [] = .ok (.bl true) [] := by
  intro ns hn
  have rd : ∀ (c p m : Int), 0 < m → ∃ v : Nat, (v : Int) < m ∧ ∀ S, run Gt 11 i_l_d [.int c, .int p, .int m] S = .ok (.int v) S := fun c p m h => by
    obtain ⟨v, hv⟩ := Int.eq_ofNat_of_zero_le (dF_lo (c := c) (p := p) (m := m) h)
    have := dF_hi (c := c) (p := p) (m := m) h
    exact ⟨v, by omega, fun S => hv ▸ r_d h⟩
  have rc : ∀ (i : Int), 0 ≤ i → ∃ v, ∀ S, run Gt 11 i_l_cell [.scr ns, .int i] S = .ok (.int v) S := fun i hi => ⟨_, fun S => r_cell hi⟩
  have rdi : ∀ (st : List Int) (S : Store), run Gt 11 i_Disk_init [.ref S.length, tl .int st] (S ++ [.ins 2 []]) = .ok .non (S ++ [dskO (S.length + 1) st, .dct []]) := fun st S => r_dinit (k := 10)
  have rpc : ∀ (B : List Int) c S, run Gt 11 i_l_piece [tl .int B, .int c] S = .ok (pcD (pcB B c, pcX B c)) S := fun B c S => r_l_piece (k := 9)
  have rbg := fun (σ : Store) (fs : Fs) (st B K : List Int) (h0 : σ[0]? = some (dskO 1 st)) (h1 : σ[1]? = some (.dct (encF fs))) (hst : st.length ≤ 1000) (bl : B.length ≤ 95) (z : Z0 B K fs) => r_begun (k := 6) h0 h1 hst bl z
  have rtk := fun (σ : Store) (p : Nat) (fs : Fs) (st B K : List Int) (s : Nt) (P : List Int) (hw : Hw6 σ p fs st s) (z : Z1 B K fs s P) (hst : st.length ≤ 1000) (bl : B.length ≤ 95) (b : Nat) (xs : List Int) (gp : GP B (b, xs)) => r_took (k := 6) hw z hst bl gp
  have rbo : ∀ (σ : Store) (fs : Fs) (st P : List Int), σ[0]? = some (dskO 1 st) → σ[1]? = some (.dct (encF fs)) → getF fs (nP nf) = some P → run Gt 11 i_Disk_body [.ref 0, .str "f.part"] σ = .ok (tl .int P) σ := fun σ fs st P h0 h1 hP => by
    have enP : nP nf = "f.part" := by decide +kernel
    have pl : Pl σ 0 1 := ⟨by decide, (List.getElem?_eq_some_iff.mp h0).1, (List.getElem?_eq_some_iff.mp h1).1⟩
    have : run Gt 11 i_Disk_body [.ref 0, .str (nP nf)] (WD σ 0 1 fs st) = match getF fs (nP nf) with | some b => .ok (tl .int b) (WD σ 0 1 fs st) | none => .ex 3 (WD σ 0 1 fs st) := r_Disk_body (k := 9) pl
    rw [hP, WD_self h0 h1, enP] at this
    exact this
  have rhv : ∀ (σ : Store) (p : Nat) (fs : Fs) (st : List Int) (s : Nt), Hw6 σ p fs st s → run Gt 11 i_Hauler_have [.ref p] σ = .ok (tl pairD s.h) σ ∧ clsD (.ref p) σ = some 3 := fun σ p fs st s hw => by
    have r := q_have (G := Gt) (k := 9) (fs := fs) (st := st) (s := s) hw.ok
    have c := at_cl (fs := fs) (st := st) (hs := some s) hw.ok
    simp only at r c
    rw [hw.at] at r c
    exact ⟨r, c⟩
  refine pure_W (k := 11) (F := f_law_k26_2) rfl rfl rfl ?_
  generalize hrun : run Gt 11 = call at *
  clear hrun
  simp only [b_law_k26_2, startE]
  obtain ⟨c, hc⟩ := rc 0 (by decide)
  obtain ⟨v1, l1, d1⟩ := rd c 1 40 (by decide)
  obtain ⟨v2, l2, d2⟩ := rd c 40 7 (by decide)
  refine x_asgV (d := .int c) (S1 := []) (by simp [hc]) ?_
  refine x_asgV (d := tl .int []) (S1 := []) (by simp [tl]) ?_
  simp only [List.set_cons_succ, List.set_cons_zero, List.map_cons, List.map_nil, List.cons_append, List.nil_append, List.length_cons, List.length_nil, Nat.reduceSub, Nat.reduceAdd, List.replicate_succ, List.replicate_zero]
  obtain ⟨J, hJ⟩ : ∃ J : Nat → Env → Store → Prop, J = fun (j : Nat) e σ => σ = [] ∧ ∃ (B : List Int) (t3 : Option D), B.length = j ∧ e = [some (.scr ns), some (.int c), some (tl .int B), t3, none, none, none, none, none, none, none, none, none, none, none, none] := ⟨_, rfl⟩
  refine x_forW J (enc := fun k : Nat => D.int (k : Int)) (xs := List.range (v1 + 1)) (d := .tup [.int ((v1 : Int) + 1)]) ?_ ?_ ?_ ?_ ?_
  · simp [d1]
  · rw [srcL_rng1, toTup_tup, mkIt_rng1 (b62_of (by omega) (by omega)), show ((v1 : Int) + 1).toNat = v1 + 1 by omega, rngD_map]
  · rw [hJ]; exact ⟨rfl, [], none, rfl, rfl⟩
  · rintro j x _ σ hj hI
    rw [hJ] at hI
    obtain ⟨rfl, B, t3, bl, rfl⟩ := hI
    obtain ⟨rfl, lt⟩ := range_get hj
    simp only [turnB, bindT, List.set_cons_succ, List.set_cons_zero]
    obtain ⟨v, hv⟩ := rc (1 + (x : Int) % 3) (by omega)
    have f1 : ∀ S, bop .fdiv (.int v) (.int ((x : Int) + 1)) S = some (.int (v / ((x : Int) + 1))) := fun S => bop_fdiv_int (by omega) (by omega)
    have m3 : ∀ S, bop .mod (.int (x : Int)) (.int 3) S = some (.int ((x : Int) % 3)) := fun S => bop_mod_int (by decide)
    have m255 : ∀ (a : Int) S, bop .mod (.int a) (.int 255) S = some (.int (a % 255)) := fun a S => bop_mod_int (by decide)
    have ad : ∀ S, bop .add (tl .int B) (.tup [.int ((v / ((x : Int) + 1) + (x : Int)) % 255 + 1)]) S = some (tl .int (B ++ [(v / ((x : Int) + 1) + (x : Int)) % 255 + 1])) := fun S => add_tl1 rfl (by unfold SZ; omega)
    refine x_asgV (d := tl .int (B ++ [(v / ((x : Int) + 1) + (x : Int)) % 255 + 1])) (S1 := []) (by simp [m3, hv, f1, m255, ad]) ?_
    show J (x + 1) _ _
    rw [hJ]
    exact ⟨rfl, _, _, by rw [List.length_append, List.length_singleton, bl], rfl⟩
  rintro _ _ hI
  rw [hJ] at hI
  obtain ⟨rfl, B, t3, bl, rfl⟩ := hI
  rw [List.length_range] at bl
  have bl : B.length ≤ 40 := by omega
  clear hJ J
  have sl1 : ∀ S, slD (.scr ns) (some 4) (some (4 + (v2 : Int))) S = some (ll .int (cutD ns (some 4) (some (4 + (v2 : Int))))) := fun S => by simp
  obtain ⟨ms, hms⟩ : ∃ ms, ms = cutD ns (some 4) (some (4 + (v2 : Int))) := ⟨_, rfl⟩
  have ml : ms.length ≤ 6 := by rw [hms, cut_both (by decide) (by omega), List.length_take]; omega
  rw [← hms] at sl1
  obtain ⟨st0, hst0⟩ : ∃ st0, st0 = ms.map stF := ⟨_, rfl⟩
  have sl0 : st0.length ≤ 6 := by rw [hst0, List.length_map]; exact ml
  have cm1 : ev Gt call (.comp .plain (.sl (.var 0) (.con (.int 4)) (.bin .add (.con (.int 4)) (.call i_l_d (.cons (.var 1) (.cons (.con (.int 40)) (.cons (.con (.int 7)) .nil)))))) (.one 15) .emp (.bin .mod (.bin .fdiv (.var 15) (.con (.int 3))) (.ix (.lst (.cons (.con (.int 4)) (.cons (.con (.int 40)) (.cons (.con (.int 120)) .nil)))) (.bin .mod (.var 15) (.con (.int 3)))))) [some (.scr ns), some (.int c), some (tl .int B), t3, none, none, none, none, none, none, none, none, none, none, none, none] [] = .ok (ll .int st0) [] := by
    rw [hst0]
    refine ev_compG (enc := D.int) (xs := ms) (d := ll .int ms) .int stF (by simp [isEmp, part, d2, sl1, -sl_scr]) (by simp) (by unfold SZ; omega) fun x _ => ?_
    have f3 : ∀ S, bop .fdiv (.int x) (.int 3) S = some (.int (x / 3)) := fun S => bop_fdiv_int (by decide) (by decide)
    have m3 : ∀ S, bop .mod (.int x) (.int 3) S = some (.int (x % 3)) := fun S => bop_mod_int (by decide)
    have m4 : ∀ S, bop .mod (.int (x / 3)) (.int 4) S = some (.int (x / 3 % 4)) := fun S => bop_mod_int (by decide)
    have m40 : ∀ S, bop .mod (.int (x / 3)) (.int 40) S = some (.int (x / 3 % 40)) := fun S => bop_mod_int (by decide)
    have m120 : ∀ S, bop .mod (.int (x / 3)) (.int 120) S = some (.int (x / 3 % 120)) := fun S => bop_mod_int (by decide)
    rcases (by omega : x % 3 = 0 ∨ x % 3 = 1 ∨ x % 3 = 2) with e | e | e
    · rw [e] at m3; simp [compB, f3, m3, m4, ix_lst, atI_nn, stF, e]
    · rw [e] at m3; simp [compB, f3, m3, m40, ix_lst, atI_nn, stF, e]
    · rw [e] at m3; simp [compB, f3, m3, m120, ix_lst, atI_nn, stF, e]
  refine x_asgV (d := tl .int st0) (S1 := []) ?_ ?_
  · rw [ev_bf1, cm1]
    simp
  clear cm1 sl1 hms hst0 d1 d2 hc rc rd
  simp only [List.set_cons_succ, List.set_cons_zero]
  have e0 : ([] : Store) ++ [dskO (0 + 1) st0, .dct []] = WD [dskO 1 st0, .dct []] 0 1 [] st0 := dsk_at (S := [])
  refine x_asgV (d := .ref 0) (S1 := WD [dskO 1 st0, .dct []] 0 1 [] st0) (e_mkD (S := []) (st := st0) (by simp) (rdi st0)) ?_
  have eW : WD [dskO 1 st0, .dct []] 0 1 [] st0 = [dskO 1 st0, .dct []] := rfl
  rw [eW]
  obtain ⟨σ1, p1, fs1, st1, s1, P1, b1, hw1, lp1, kp1, z1, ls1⟩ := rbg [dskO 1 st0, .dct []] [] st0 B [] rfl rfl (by omega) (by omega) ⟨sub_nil _, .inr ⟨rfl, .inl rfl⟩⟩
  refine x_asgV (d := .ref p1) (S1 := σ1) (by simp [b1]) ?_
  refine x_asgV (d := .ref σ1.length) (S1 := σ1 ++ [.dct []]) (by simp) ?_
  simp only [List.set_cons_succ, List.set_cons_zero]
  obtain ⟨qs, hqs⟩ : ∃ qs, qs = cutD ns (some 10) (some 20) := ⟨_, rfl⟩
  have ql : qs.length ≤ 10 := by rw [hqs, cut_both (by decide) (by decide), List.length_take]; omega
  obtain ⟨ps0, hps0⟩ : ∃ ps0, ps0 = qs.map fun c => (pcB B c, pcX B c) := ⟨_, rfl⟩
  have pl0 : ps0.length ≤ 10 := by rw [hps0, List.length_map]; exact ql
  have pg0 : ∀ q ∈ ps0, GP B q := fun q hq => by
    rw [hps0] at hq
    obtain ⟨c, _, rfl⟩ := List.mem_map.mp hq
    exact gp_pc B c
  have cm2 : ev Gt call (.comp .plain (.sl (.var 0) (.con (.int 10)) (.con (.int 20))) (.one 15) .emp (.call i_l_piece (.cons (.var 2) (.cons (.var 15) .nil)))) [some (.scr ns), some (.int c), some (tl .int B), t3, some (tl .int st0), some (.ref 0), some (.ref p1), some (.ref σ1.length), none, none, none, none, none, none, none, none] (σ1 ++ [.dct []]) = .ok (ll pcD ps0) (σ1 ++ [.dct []]) := by
    rw [hps0]
    refine ev_compG (enc := D.int) (xs := qs) (d := ll .int qs) pcD (fun c => (pcB B c, pcX B c)) (by rw [hqs]; simp [isEmp, part]) (by simp) (by unfold SZ; omega) fun x _ => ?_
    simp [compB, rpc]
  refine x_asgV cm2 ?_
  refine x_asgV (d := .int ((0 : Nat) : Int)) (S1 := σ1 ++ [.dct []]) (by simp) ?_
  clear cm2 hps0 hqs rpc rdi
  simp only [List.set_cons_succ, List.set_cons_zero]
  obtain ⟨h, hh⟩ : ∃ h, h = σ1.length := ⟨_, rfl⟩
  have a1 := (List.getElem?_eq_some_iff.mp hw1.a).1
  have b1' := (List.getElem?_eq_some_iff.mp hw1.b).1
  have c1' := (List.getElem?_eq_some_iff.mp hw1.c).1
  obtain ⟨I, hI⟩ : ∃ I : Nat → Env → Store → Prop, I = fun (m : Nat) e σ => ∃ (p : Nat) (fs : Fs) (st : List Int) (s : Nt) (P K : List Int) (ps : List (Nat × List Int)) (tr : Nat) (t10 t11 t12 t13 t14 : Option D), m = ps.length + st.length ∧ Hw6 σ p fs st s ∧ Z1 B K fs s P ∧ σ[h]? = some (.dct (plk K)) ∧ h ≠ p ∧ K.length + 100 * ps.length ≤ 1000 ∧ (∀ q ∈ ps, GP B q) ∧ tr + ps.length + st.length ≤ 16 ∧
    e = [some (.scr ns), some (.int c), some (tl .int B), t3, some (tl .int st0), some (.ref 0), some (.ref p), some (.ref h), some (ll pcD ps), some (.int tr), t10, t11, t12, t13, t14, none] := ⟨_, rfl⟩
  refine x_whlW I (m0 := ps0.length + st1.length) ?_ (by omega) ?_
  · rw [hI]
    refine ⟨p1, fs1, st1, s1, P1, [], ps0, 0, none, none, none, none, none, rfl, ⟨?_, ?_, ?_, hw1.p0, hw1.p1⟩, z1, ?_, by omega, by simp; omega, pg0, by omega, by rw [hh]⟩
    · rw [List.getElem?_append_left a1]; exact hw1.a
    · rw [List.getElem?_append_left b1']; exact hw1.b
    · rw [List.getElem?_append_left c1']; exact hw1.c
    · rw [hh]; simp [plk]
  have h01 : h ≠ 0 ∧ h ≠ 1 := by omega
  clear hw1 z1 kp1 b1 lp1
  intro m e σ hm
  rw [hI] at hm
  obtain ⟨p, fs, st, s, P, K, ps, tr, t10, t11, t12, t13, t14, rfl, hw, z, hk, hp, lk, pg, lt, rfl⟩ := hm
  cases ps with
  | nil =>
    refine ⟨false, σ, by simp, ?_⟩
    rw [if_neg (by decide)]
    exact x_retP (d := .bl true) (S1 := σ) (by simp) rfl
  | cons q r =>
  obtain ⟨b, xs⟩ := q
  have gq : GP B (b, xs) := pg _ (by simp)
  have gl := gq.l
  simp only at gl
  have lt' : (tr : Int) < 20 := by simp only [List.length_cons] at lt; omega
  refine ⟨true, σ, by simp [lt'], ?_⟩
  rw [if_pos rfl]
  refine x_asgV (d := .int ((tr : Int) + 1)) (S1 := σ) (by simp) ?_
  simp only [List.set_cons_succ, List.set_cons_zero]
  have i0 : ∀ S, getD_ (ll pcD ((b, xs) :: r)) (.int 0) S = some (.tup [.int b, tl .int xs]) := fun S => by rw [ix_ll, atI_nn (by decide)]; rfl
  obtain ⟨σ2, l2, k2, hT⟩ := rtk σ p fs st B K s P hw z (by simp only [List.length_cons] at lt; omega) (by omega) b xs gq
  simp only [pcD] at hT
  have hk2 : σ2[h]? = some (.dct (plk K)) := by rw [k2 h h01.1 h01.2 hp]; exact hk
  have lh2 := (List.getElem?_eq_some_iff.mp hk2).1
  obtain ⟨Q, hQ⟩ : ∃ Q : Env → Store → Prop, Q = fun e s' => ∃ (fs' : Fs) (st' K' : List Int) (ps' : List (Nat × List Int)) (t14 : Option D), s'[0]? = some (dskO 1 st') ∧ s'[1]? = some (.dct (encF fs')) ∧ Z0 B K' fs' ∧ s'[h]? = some (.dct (plk K')) ∧ K'.length + 100 * ps'.length ≤ 1000 ∧ (∀ q ∈ ps', GP B q) ∧ ps'.length + st'.length + 1 = ((b, xs) :: r).length + st.length ∧
    e = [some (.scr ns), some (.int c), some (tl .int B), t3, some (tl .int st0), some (.ref 0), some (.ref p), some (.ref h), some (ll pcD ps'), some (.int ((tr : Int) + 1)), t10, t11, t12, t13, t14, none] := ⟨_, rfl⟩
  obtain ⟨t, ht⟩ : ∃ t : Bool, (t = true ∧ call i_l_took [.ref p, .tup [.int b, tl .int xs]] σ = .ok (.bl true) σ2 ∧ ∃ (fs' : Fs) (st' : List Int) (s' : Nt) (P' : List Int), σ2[0]? = some (dskO 1 st') ∧ σ2[1]? = some (.dct (encF fs')) ∧ Z1 B K fs' s' P' ∧ (∀ x : Int, (b : Int) ≤ x → x < (b : Int) + xs.length → inR s'.h x) ∧ st'.length = st.length) ∨ (t = false ∧ call i_l_took [.ref p, .tup [.int b, tl .int xs]] σ = .ok (.bl false) σ2 ∧ ∃ (fs' : Fs) (st' : List Int), σ2[0]? = some (dskO 1 st') ∧ σ2[1]? = some (.dct (encF fs')) ∧ Z0 B K fs' ∧ st'.length + 1 = st.length) := by
    rcases hT with ⟨h1, h2⟩ | ⟨h1, h2⟩
    · exact ⟨true, .inl ⟨rfl, h1, h2⟩⟩
    · exact ⟨false, .inr ⟨rfl, h1, h2⟩⟩
  refine x_ifsW (t := t) (S' := σ2) Q ?_ ?_ ?_ ?_
  · rcases ht with ⟨rfl, h1, _⟩ | ⟨rfl, h1, _⟩
    · simp [i0, h1]
    · simp [i0, h1]
  · rintro rfl
    rcases ht with ⟨_, h1, fs', st', s', P', g0, g1, z', gx, sl⟩ | ⟨h, _⟩
    rotate_left
    · cases h
    obtain ⟨J, hJ⟩ : ∃ J : Nat → Env → Store → Prop, J = fun (j : Nat) e s => ∃ (K' : List Int) (t14 : Option D), s = σ2.set h (.dct (plk K')) ∧ (∀ x ∈ K', x ∈ K ∨ ((b : Int) ≤ x ∧ x < (b : Int) + (j : Int))) ∧ K'.length ≤ K.length + j ∧ e = [some (.scr ns), some (.int c), some (tl .int B), t3, some (tl .int st0), some (.ref 0), some (.ref p), some (.ref h), some (ll pcD ((b, xs) :: r)), some (.int ((tr : Int) + 1)), t10, t11, t12, t13, t14, none] := ⟨_, rfl⟩
    refine x_forW J (enc := D.int) (xs := upL ((b : Int), (b : Int) + xs.length)) (d := .tup [.int b, .int ((b : Int) + xs.length)]) ?_ ?_ ?_ ?_ ?_
    · simp [i0, ix0_tup, ix1_tup]
    · exact mkIt_rng2 (p := ((b : Int), (b : Int) + xs.length)) (by simp only; omega) (by simp only; omega) (by simp only; omega) (by simp only; omega)
    · rw [hJ]
      exact ⟨K, t14, by rw [set_same hk2], fun x hx => .inl hx, by omega, rfl⟩
    · rintro j x _ s1 hj hI'
      rw [hJ] at hI'
      obtain ⟨K', t14, rfl, q1, q2, rfl⟩ := hI'
      obtain ⟨rfl, jl⟩ : x = (b : Int) + (j : Int) ∧ (j : Int) < xs.length := by
        have jl := (List.getElem?_eq_some_iff.mp hj).1
        rw [upL_len] at jl
        simp only at jl
        unfold upL at hj
        rw [List.getElem?_map] at hj
        rw [List.getElem?_range (by simp only; omega)] at hj
        simp only [Option.map_some, Option.some.injEq] at hj
        exact ⟨by omega, by omega⟩
      simp only [turnB, bindT, List.set_cons_succ, List.set_cons_zero]
      have si := setI_D (S := σ2.set h (.dct (plk K'))) (i := h) (K := K') (y := (b : Int) + (j : Int)) (by rw [List.getElem?_set_self lh2]; rfl) (by simp only [List.length_cons] at lk; omega)
      rw [List.set_set] at si
      refine x_setV6 (v := .bl true) (x := .ref h) (y := .int ((b : Int) + (j : Int))) (by simp) (by simp) (by simp) si ?_
      show J (j + 1) _ _
      rw [hJ]
      refine ⟨putU K' ((b : Int) + (j : Int)), _, rfl, fun x hx => ?_, ?_, rfl⟩
      · rcases putU_mem.mp hx with hx | hx
        · rcases q1 x hx with h | h
          · exact .inl h
          · exact .inr (by omega)
        · exact .inr (by omega)
      · have : (putU K' ((b : Int) + (j : Int))).length ≤ K'.length + 1 := by unfold putU; split <;> simp
        omega
    · rintro _ s1 hI'
      rw [hJ] at hI'
      obtain ⟨K', t14, rfl, q1, q2, rfl⟩ := hI'
      rw [upL_len] at q1 q2
      simp only at q1 q2
      have cu : cutD ((b, xs) :: r) (some 1) none = r := by rw [cut_from (by decide)]; rfl
      refine x_asgV (d := ll pcD r) (S1 := σ2.set h (.dct (plk K'))) (by simp [isEmp, part, cu]) ?_
      show Q _ _
      rw [hQ]
      refine ⟨fs', st', K', r, t14, ?_, ?_, ⟨z'.b.f, .inl ⟨s', P', z'.b, z'.m, z'.z, z'.g, fun x hx => ?_⟩⟩, List.getElem?_set_self lh2, ?_, fun q hq => pg q (by simp [hq]), ?_, rfl⟩
      · rw [List.getElem?_set_ne h01.1]; exact g0
      · rw [List.getElem?_set_ne h01.2]; exact g1
      · rcases q1 x hx with h | h
        · exact z'.k x h
        · exact gx x h.1 (by omega)
      · simp only [List.length_cons] at lk; omega
      · simp only [List.length_cons]; omega
  · rintro rfl
    rcases ht with ⟨h, _⟩ | ⟨_, h1, fs', st', g0, g1, z', sl⟩
    · cases h
    show Q _ _
    rw [hQ]
    exact ⟨fs', st', K, (b, xs) :: r, t14, g0, g1, z', hk2, lk, pg, by omega, rfl⟩
  intro e s' hq
  rw [hQ] at hq
  obtain ⟨fs', st', K', ps', t14, g0, g1, z', hk', lk', pg', lm, rfl⟩ := hq
  clear hQ Q ht hk2 hk z hw k2 l2 i0 gq
  obtain ⟨σ3, p3, fs3, st3, s3, P3, b3, hw3, lp3, kp3, z3, ls3⟩ := rbg s' fs' st' B K' g0 g1 (by simp only [List.length_cons] at lm lt; omega) (by omega) z'
  have lh' := (List.getElem?_eq_some_iff.mp hk').1
  have hk3 : σ3[h]? = some (.dct (plk K')) := by rw [kp3 h lh' h01.1 h01.2]; exact hk'
  have lh3 := (List.getElem?_eq_some_iff.mp hk3).1
  have c0 : clsD (.ref 0) σ3 = some 2 := by simp only [clsD, hw3.a]
  refine x_asgV (d := .ref p3) (S1 := σ3) (by simp [b3]) ?_
  refine x_asgV (d := tl .int P3) (S1 := σ3) (by simp [c0, rbo σ3 fs3 st3 P3 hw3.a hw3.b z3.b.p]) ?_
  refine x_asgV (d := .ref σ3.length) (S1 := σ3 ++ [.dct (plk [])]) (by simp [plk]) ?_
  simp only [List.set_cons_succ, List.set_cons_zero]
  have hwA : ∀ T, Hw6 (σ3 ++ T) p3 fs3 st3 s3 := fun T => ⟨by rw [List.getElem?_append_left (List.getElem?_eq_some_iff.mp hw3.a).1]; exact hw3.a, by rw [List.getElem?_append_left (List.getElem?_eq_some_iff.mp hw3.b).1]; exact hw3.b, by rw [List.getElem?_append_left (List.getElem?_eq_some_iff.mp hw3.c).1]; exact hw3.c, hw3.p0, hw3.p1⟩
  obtain ⟨hv1, hv2⟩ := rhv (σ3 ++ [.dct (plk [])]) p3 fs3 st3 s3 (hwA _)
  have hl48 := z3.b.o.hl
  have zz := z3.b.z
  obtain ⟨J, hJ⟩ : ∃ J : Nat → Env → Store → Prop, J = fun (j : Nat) e s => ∃ (H : List Int) (t12 t13 t14 : Option D), s = σ3 ++ [.dct (plk H)] ∧ H.length ≤ 100 * j ∧ (∀ x, inR (s3.h.take j) x → x ∈ H) ∧ e = [some (.scr ns), some (.int c), some (tl .int B), t3, some (tl .int st0), some (.ref 0), some (.ref p3), some (.ref h), some (ll pcD ps'), some (.int ((tr : Int) + 1)), some (tl .int P3), some (.ref σ3.length), t12, t13, t14, none] := ⟨_, rfl⟩
  refine x_forW J (enc := pairD) (xs := s3.h) (d := tl pairD s3.h) ?_ ?_ ?_ ?_ ?_
  · simp [hv1, hv2]
  · simp
  · rw [hJ]
    exact ⟨[], t12, t13, t14, rfl, by simp, fun x hx => (by obtain ⟨q, hq, _⟩ := hx; cases hq), rfl⟩
  · rintro j pq _ s1 hj hI'
    rw [hJ] at hI'
    obtain ⟨H, t12, t13, t14, rfl, q1, q2, rfl⟩ := hI'
    have pb := z3.b.o.b pq (List.mem_of_getElem? hj)
    have pc := z3.b.o.c.2 pq (List.mem_of_getElem? hj)
    have pin : ∀ x, pq.1 ≤ x → x < pq.2 → inR s3.h x := fun x h1 h2 => ⟨pq, List.mem_of_getElem? hj, h1, h2⟩
    have oz := z3.b.o.z
    have jl := (List.getElem?_eq_some_iff.mp hj).1
    simp only [turnB, bindT, bindL, pairD, List.set_cons_succ, List.set_cons_zero]
    obtain ⟨J2, hJ2⟩ : ∃ J : Nat → Env → Store → Prop, J = fun (i : Nat) e s => ∃ (H' : List Int) (t14 : Option D), s = σ3 ++ [.dct (plk H')] ∧ H'.length ≤ 100 * j + i ∧ (∀ x ∈ H, x ∈ H') ∧ (∀ x, pq.1 ≤ x → x < pq.1 + (i : Int) → x ∈ H') ∧ e = [some (.scr ns), some (.int c), some (tl .int B), t3, some (tl .int st0), some (.ref 0), some (.ref p3), some (.ref h), some (ll pcD ps'), some (.int ((tr : Int) + 1)), some (tl .int P3), some (.ref σ3.length), some (.int pq.1), some (.int pq.2), t14, none] := ⟨_, rfl⟩
    refine x_forW J2 (enc := D.int) (xs := upL pq) (d := .tup [.int pq.1, .int pq.2]) ?_ ?_ ?_ ?_ ?_
    · simp
    · exact mkIt_rng2 (by omega) (by omega) (by omega) (by omega)
    · rw [hJ2]
      exact ⟨H, t14, rfl, by omega, fun x hx => hx, fun x h1 h2 => by omega, rfl⟩
    · rintro i y _ s2 hi hI2
      rw [hJ2] at hI2
      obtain ⟨H', t14, rfl, r1, r2, r3, rfl⟩ := hI2
      obtain ⟨rfl, il⟩ : y = pq.1 + (i : Int) ∧ pq.1 + (i : Int) < pq.2 := by
        have il := (List.getElem?_eq_some_iff.mp hi).1
        rw [upL_len] at il
        unfold upL at hi
        rw [List.getElem?_map] at hi
        rw [List.getElem?_range (by omega)] at hi
        simp only [Option.map_some, Option.some.injEq] at hi
        exact ⟨by omega, by omega⟩
      simp only [turnB, bindT, List.set_cons_succ, List.set_cons_zero]
      have si := setI_D (S := σ3 ++ [.dct (plk H')]) (i := σ3.length) (K := H') (y := pq.1 + (i : Int)) (by simp [plk]) (by omega)
      rw [set_last6] at si
      refine x_setV6 (v := .bl true) (x := .ref σ3.length) (y := .int (pq.1 + (i : Int))) (by simp) (by simp) (by simp) si ?_
      have yB : (pq.1 + (i : Int)).toNat < B.length := by have := z3.z; omega
      have gB : L2.atI B (pq.1 + (i : Int)) = some B[(pq.1 + (i : Int)).toNat] := by rw [atI_nn (by omega)]; exact List.getElem?_eq_getElem yB
      have gP : L2.atI P3 (pq.1 + (i : Int)) = some B[(pq.1 + (i : Int)).toNat] := by
        rw [atI_nn (by omega), z3.g _ (by rw [Int.toNat_of_nonneg (by omega)]; exact pin _ (by omega) (by omega))]
        exact List.getElem?_eq_getElem yB
      refine x_ifsF (S' := σ3 ++ [.dct (plk (putU H' (pq.1 + (i : Int))))]) (by simp [gB, gP, plk]) ?_
      show J2 (i + 1) _ _
      rw [hJ2]
      refine ⟨putU H' (pq.1 + (i : Int)), _, rfl, ?_, fun x hx => putU_mem.mpr (.inl (r2 x hx)), fun x h1 h2 => ?_, rfl⟩
      · have : (putU H' (pq.1 + (i : Int))).length ≤ H'.length + 1 := by unfold putU; split <;> simp
        omega
      · by_cases e : x = pq.1 + (i : Int)
        · exact putU_mem.mpr (.inr e)
        · exact putU_mem.mpr (.inl (r3 x h1 (by omega)))
    · rintro _ s2 hI2
      rw [hJ2] at hI2
      obtain ⟨H', t14, rfl, r1, r2, r3, rfl⟩ := hI2
      rw [upL_len] at r1 r3
      show J (j + 1) _ _
      rw [hJ]
      refine ⟨H', _, _, _, rfl, by omega, fun x hx => ?_, rfl⟩
      obtain ⟨q, hq, h1, h2⟩ := hx
      rw [List.take_succ, hj] at hq
      rcases List.mem_append.mp hq with hq | hq
      · exact r2 x (q2 x ⟨q, hq, h1, h2⟩)
      · have : q = pq := by simpa using hq
        subst this
        exact r3 x h1 (by omega)
  rintro _ s1 hI'
  rw [hJ] at hI'
  obtain ⟨H, t12, t13, t14, rfl, q1, q2, rfl⟩ := hI'
  rw [List.take_length] at q2
  have all : K'.filter (fun x => !decide (x ∈ H)) = [] := List.filter_eq_nil_iff.mpr fun x hx => by simpa using q2 x (z3.k x hx)
  have hkT : (σ3 ++ [Ob.dct (plk H)])[h]? = some (.dct (plk K')) := by rw [List.getElem?_append_left lh3]; exact hk3
  have cm3 := ev_compK (G := Gt) (call := call) (env := [some (.scr ns), some (.int c), some (tl .int B), t3, some (tl .int st0), some (.ref 0), some (.ref p3), some (.ref h), some (ll pcD ps'), some (.int ((tr : Int) + 1)), some (tl .int P3), some (.ref σ3.length), t12, t13, t14, none]) (S := σ3 ++ [.dct (plk H)]) (n := h) (K := K') (src := .var 7) (c := .din true (.var 14) (.var 11)) (e := .var 14) (tg := .one 14) (p := fun x => !decide (x ∈ H)) D.int (by simp) hkT (by unfold SZ; omega) fun x hx => by
    have hv : ((σ3 ++ [Ob.dct (plk H)]).set h (.lck (plk K')))[σ3.length]? = some (.dct (H.map fun i => (.inl i, .bl true))) := by
      rw [List.getElem?_set_ne (by omega)]
      simp [plk]
    have dn := din_D (y := x) hv
    by_cases b1 : x ∈ H <;> simp [compB, dn, b1]
  rw [all] at cm3
  refine x_ifsF (S' := σ3 ++ [.dct (plk H)]) ?_ ?_
  · simp only [e_val, cm3]
    simp
  show ∃ m', m' < ((b, xs) :: r).length + st.length ∧ I m' _ _
  refine ⟨ps'.length + st3.length, by omega, ?_⟩
  rw [hI]
  exact ⟨p3, fs3, st3, s3, P3, K', ps', tr + 1, _, _, _, _, _, rfl, hwA _, z3, hkT, by omega, lk', pg', by simp only [List.length_cons] at lm lt ⊢; omega, by rw [Int.natCast_add]; rfl⟩
end PL
namespace PL
open PySem PySem.Spec PyProof.Rows L2
def topS (i : Nat) : Stmt := PySem.Challenge.pw_piecehaul_k26_whole_what_a_note_tells_is.main.body.getD i (.Pass ⟨0, 0, 0, 0⟩)
def Yt : Sx := ⟨lookN ([(i_mark_of, ("mark_of" : Str)), (i_mark_text, ("mark_text" : Str)), (i_read_mark, ("read_mark" : Str)), (i_tidied, ("tidied" : Str)), (i_together, ("together" : Str)), (i_both, ("both" : Str)), (i_without, ("without" : Str)), (i_count, ("count" : Str)), (i_range_text, ("range_text" : Str)), (i_number_of, ("number_of" : Str)), (i_text_bytes, ("text_bytes" : Str)), (i_bytes_text, ("bytes_text" : Str)), (i_note_bytes, ("note_bytes" : Str)), (i_read_pair, ("read_pair" : Str)), (i_read_note, ("read_note" : Str)), (i_l_d, ("_law_d" : Str)), (i_l_cell, ("_law_cell" : Str)), (i_l_piece, ("_law_piece" : Str)), (i_l_begun, ("_law_begun" : Str)), (i_l_took, ("_law_took" : Str)), (i_law_k26_2, ("law" : Str))] : List (Nat × Str)), lookN ([(0, ("PRIME" : Str)), (1, ("BASE" : Str)), (2, ("FIGURES_marks" : Str)), (3, ("LONG" : Str)), (4, ("FIGURES_asks" : Str)), (5, ("FIGURES_MOST" : Str)), (7, ("SIGNS" : Str))] : List (Nat × Str)), [("len" : Str), ("tuple" : Str), ("sorted" : Str), ("all" : Str), ("int" : Str), ("any" : Str), ("range" : Str), ("zip" : Str), ("enumerate" : Str), ("min" : Str), ("max" : Str), ("sum" : Str)], lookN ([(3, ("Hauler" : Str)), (2, ("Disk" : Str))] : List (Nat × Str)), fun c m => (lookN ([(3, [(15, ("there" : Str)), (9, ("need" : Str)), (16, ("write_note" : Str)), (18, ("begin" : Str)), (20, ("have" : Str)), (17, ("lacks" : Str)), (19, ("take" : Str))]), (2, [(8, ("step" : Str)), (9, ("need" : Str)), (10, ("make" : Str)), (11, ("put_at" : Str)), (12, ("rename" : Str)), (4, ("drop" : Str)), (13, ("body" : Str)), (14, ("files" : Str))])] : List (Nat × List (Nat × Str))) c).bind fun l => lookN l m, lookN ([(0, ("some" : Str)), (1, ("at" : Str)), (2, ("head" : Str)), (3, ("parts" : Str)), (4, ("stand" : Str)), (5, ("bodies" : Str)), (6, ("stops" : Str)), (7, ("name" : Str)), (8, ("disk" : Str)), (9, ("state" : Str)), (10, ("wanted" : Str)), (11, ("most" : Str)), (12, ("speeds" : Str)), (13, ("works" : Str)), (14, ("came" : Str)), (15, ("source" : Str)), (16, ("cuts" : Str)), (17, ("asked" : Str))] : List (Nat × Str)), lookN ([(0, ("BadText" : Str)), (4, ("NotYet" : Str)), (3, ("NoFile" : Str)), (2, ("Stopped" : Str))] : List (Nat × Str)), fun x => if x = (("Stopped" : Str) : Str) then some [2] else none⟩
def pst (i : Nat) : List Str := (lookN ([(i_mark_of, [("some" : Str)]), (i_mark_text, [("mark" : Str)]), (i_read_mark, [("text" : Str)]), (i_tidied, [("pairs" : Str)]), (i_together, [("one" : Str), ("other" : Str)]), (i_both, [("one" : Str), ("other" : Str)]), (i_without, [("one" : Str), ("other" : Str)]), (i_count, [("ranges" : Str)]), (i_range_text, [("ranges" : Str)]), (i_number_of, [("text" : Str)]), (i_text_bytes, [("text" : Str)]), (i_bytes_text, [("some" : Str)]), (i_note_bytes, [("mark" : Str), ("size" : Str), ("have" : Str)]), (i_read_pair, [("text" : Str)]), (i_read_note, [("some" : Str)]), (i_Hauler_init, [("self" : Str), ("disk" : Str), ("name" : Str)]), (i_Hauler_there, [("self" : Str), ("end" : Str)]), (i_Hauler_need, [("self" : Str)]), (i_Hauler_write_note, [("self" : Str), ("mark" : Str), ("size" : Str), ("have" : Str)]), (i_Hauler_begin, [("self" : Str), ("mark" : Str), ("size" : Str)]), (i_Hauler_have, [("self" : Str)]), (i_Hauler_lacks_2, [("self" : Str)]), (i_Hauler_take_2, [("self" : Str), ("begin" : Str), ("some" : Str)]), (i_Disk_init, [("self" : Str), ("stops" : Str)]), (i_Disk_step, [("self" : Str)]), (i_Disk_need, [("self" : Str), ("name" : Str)]), (i_Disk_make, [("self" : Str), ("name" : Str), ("size" : Str)]), (i_Disk_put_at, [("self" : Str), ("name" : Str), ("place" : Str), ("some" : Str)]), (i_Disk_rename, [("self" : Str), ("name" : Str), ("goal" : Str)]), (i_Disk_drop, [("self" : Str), ("name" : Str)]), (i_Disk_body, [("self" : Str), ("name" : Str)]), (i_Disk_files, [("self" : Str)]), (i_l_d, [("_law_cell_here" : Str), ("_law_place" : Str), ("_law_many" : Str)]), (i_l_cell, [("_law_script" : Str), ("_law_k" : Str)]), (i_l_piece, [("_law_body" : Str), ("_law_cell_here" : Str)]), (i_l_begun, [("_law_disk" : Str), ("_law_body" : Str)]), (i_l_took, [("_law_hauler" : Str), ("_law_piece_here" : Str)]), (i_law_k26_2, [("_law_script" : Str)])] : List (Nat × List Str)) i).getD []
abbrev s0 : Stmt := topS 12
def n0 : List Str := [("some" : Str), ("mark" : Str), ("one" : Str)]
theorem c0 : chkS Yt n0 (defScope s0) b_mark_of (defBody s0) = true := by decide +kernel
theorem z0 : FnScope n0 (pst i_mark_of) (defScope s0) := ⟨rfl, rfl, rfl, by decide +kernel, rfl, by decide +kernel, by decide +kernel⟩
abbrev s1 : Stmt := topS 13
def n1 : List Str := [("mark" : Str), ("text" : Str), ("left" : Str), ("k" : Str)]
theorem c1 : chkS Yt n1 (defScope s1) b_mark_text (defBody s1) = true := by decide +kernel
theorem z1 : FnScope n1 (pst i_mark_text) (defScope s1) := ⟨rfl, rfl, rfl, by decide +kernel, rfl, by decide +kernel, by decide +kernel⟩
abbrev s2 : Stmt := topS 14
def n2 : List Str := [("text" : Str), ("mark" : Str), ("sign" : Str)]
theorem c2 : chkS Yt n2 (defScope s2) b_read_mark (defBody s2) = true := by decide +kernel
theorem z2 : FnScope n2 (pst i_read_mark) (defScope s2) := ⟨rfl, rfl, rfl, by decide +kernel, rfl, by decide +kernel, by decide +kernel⟩
abbrev s3 : Stmt := topS 16
def n3 : List Str := [("pairs" : Str), ("found" : Str), ("begin" : Str), ("end" : Str)]
theorem c3 : chkS Yt n3 (defScope s3) b_tidied (defBody s3) = true := by decide +kernel
theorem z3 : FnScope n3 (pst i_tidied) (defScope s3) := ⟨rfl, rfl, rfl, by decide +kernel, rfl, by decide +kernel, by decide +kernel⟩
abbrev s4 : Stmt := topS 17
def n4 : List Str := [("one" : Str), ("other" : Str)]
theorem c4 : chkS Yt n4 (defScope s4) b_together (defBody s4) = true := by decide +kernel
theorem z4 : FnScope n4 (pst i_together) (defScope s4) := ⟨rfl, rfl, rfl, by decide +kernel, rfl, by decide +kernel, by decide +kernel⟩
abbrev s5 : Stmt := topS 18
def n5 : List Str := [("one" : Str), ("other" : Str), ("found" : Str), ("begin" : Str), ("end" : Str), ("low" : Str), ("high" : Str)]
theorem c5 : chkS Yt n5 (defScope s5) b_both (defBody s5) = true := by decide +kernel
theorem z5 : FnScope n5 (pst i_both) (defScope s5) := ⟨rfl, rfl, rfl, by decide +kernel, rfl, by decide +kernel, by decide +kernel⟩
abbrev s6 : Stmt := topS 19
def n6 : List Str := [("one" : Str), ("other" : Str), ("found" : Str), ("begin" : Str), ("end" : Str), ("at" : Str), ("low" : Str), ("high" : Str)]
theorem c6 : chkS Yt n6 (defScope s6) b_without (defBody s6) = true := by decide +kernel
theorem z6 : FnScope n6 (pst i_without) (defScope s6) := ⟨rfl, rfl, rfl, by decide +kernel, rfl, by decide +kernel, by decide +kernel⟩
abbrev s7 : Stmt := topS 20
def n7 : List Str := [("ranges" : Str), ("begin" : Str), ("end" : Str)]
theorem c7 : chkS Yt n7 (defScope s7) b_count (defBody s7) = true := by decide +kernel
theorem z7 : FnScope n7 (pst i_count) (defScope s7) := ⟨rfl, rfl, rfl, by decide +kernel, rfl, by decide +kernel, by decide +kernel⟩
abbrev s8 : Stmt := topS 21
def n8 : List Str := [("ranges" : Str), ("begin" : Str), ("end" : Str)]
theorem c8 : chkS Yt n8 (defScope s8) b_range_text (defBody s8) = true := by decide +kernel
theorem z8 : FnScope n8 (pst i_range_text) (defScope s8) := ⟨rfl, rfl, rfl, by decide +kernel, rfl, by decide +kernel, by decide +kernel⟩
abbrev s9 : Stmt := topS 25
def n9 : List Str := [("text" : Str), ("sign" : Str)]
theorem c9 : chkS Yt n9 (defScope s9) b_number_of (defBody s9) = true := by decide +kernel
theorem z9 : FnScope n9 (pst i_number_of) (defScope s9) := ⟨rfl, rfl, rfl, by decide +kernel, rfl, by decide +kernel, by decide +kernel⟩
abbrev s10 : Stmt := topS 28
def n10 : List Str := [("text" : Str), ("sign" : Str)]
theorem c10 : chkS Yt n10 (defScope s10) b_text_bytes (defBody s10) = true := by decide +kernel
theorem z10 : FnScope n10 (pst i_text_bytes) (defScope s10) := ⟨rfl, rfl, rfl, by decide +kernel, rfl, by decide +kernel, by decide +kernel⟩
abbrev s11 : Stmt := topS 29
def n11 : List Str := [("some" : Str), ("one" : Str)]
theorem c11 : chkS Yt n11 (defScope s11) b_bytes_text (defBody s11) = true := by decide +kernel
theorem z11 : FnScope n11 (pst i_bytes_text) (defScope s11) := ⟨rfl, rfl, rfl, by decide +kernel, rfl, by decide +kernel, by decide +kernel⟩
abbrev s12 : Stmt := topS 31
def n12 : List Str := [("mark" : Str), ("size" : Str), ("have" : Str)]
theorem c12 : chkS Yt n12 (defScope s12) b_note_bytes (defBody s12) = true := by decide +kernel
theorem z12 : FnScope n12 (pst i_note_bytes) (defScope s12) := ⟨rfl, rfl, rfl, by decide +kernel, rfl, by decide +kernel, by decide +kernel⟩
abbrev s13 : Stmt := topS 32
def n13 : List Str := [("text" : Str), ("front" : Str), ("gap" : Str), ("behind" : Str), ("begin" : Str), ("last" : Str)]
theorem c13 : chkS Yt n13 (defScope s13) b_read_pair (defBody s13) = true := by decide +kernel
theorem z13 : FnScope n13 (pst i_read_pair) (defScope s13) := ⟨rfl, rfl, rfl, by decide +kernel, rfl, by decide +kernel, by decide +kernel⟩
abbrev s14 : Stmt := topS 33
def n14 : List Str := [("some" : Str), ("words" : Str), ("mark" : Str), ("size" : Str), ("have" : Str), ("part" : Str), ("begin" : Str), ("end" : Str), ("one" : Str), ("two" : Str)]
theorem c14 : chkS Yt n14 (defScope s14) b_read_note (defBody s14) = true := by decide +kernel
theorem z14 : FnScope n14 (pst i_read_note) (defScope s14) := ⟨rfl, rfl, rfl, by decide +kernel, rfl, by decide +kernel, by decide +kernel⟩
abbrev s15 : Stmt := inClass (topS 35) 0
def n15 : List Str := [("self" : Str), ("disk" : Str), ("name" : Str)]
theorem c15 : chkS Yt n15 (defScope s15) b_Hauler_init (defBody s15) = true := by decide +kernel
theorem z15 : FnScope n15 (pst i_Hauler_init) (defScope s15) := ⟨rfl, rfl, rfl, by decide +kernel, rfl, by decide +kernel, by decide +kernel⟩
abbrev s16 : Stmt := inClass (topS 35) 1
def n16 : List Str := [("self" : Str), ("end" : Str)]
theorem c16 : chkS Yt n16 (defScope s16) b_Hauler_there (defBody s16) = true := by decide +kernel
theorem z16 : FnScope n16 (pst i_Hauler_there) (defScope s16) := ⟨rfl, rfl, rfl, by decide +kernel, rfl, by decide +kernel, by decide +kernel⟩
abbrev s17 : Stmt := inClass (topS 35) 2
def n17 : List Str := [("self" : Str)]
theorem c17 : chkS Yt n17 (defScope s17) b_Hauler_need (defBody s17) = true := by decide +kernel
theorem z17 : FnScope n17 (pst i_Hauler_need) (defScope s17) := ⟨rfl, rfl, rfl, by decide +kernel, rfl, by decide +kernel, by decide +kernel⟩
abbrev s18 : Stmt := inClass (topS 35) 3
def n18 : List Str := [("self" : Str), ("mark" : Str), ("size" : Str), ("have" : Str), ("some" : Str)]
theorem c18 : chkS Yt n18 (defScope s18) b_Hauler_write_note (defBody s18) = true := by decide +kernel
theorem z18 : FnScope n18 (pst i_Hauler_write_note) (defScope s18) := ⟨rfl, rfl, rfl, by decide +kernel, rfl, by decide +kernel, by decide +kernel⟩
abbrev s19 : Stmt := inClass (topS 35) 4
def n19 : List Str := [("self" : Str), ("mark" : Str), ("size" : Str)]
theorem c19 : chkS Yt n19 (defScope s19) b_Hauler_begin (defBody s19) = true := by decide +kernel
theorem z19 : FnScope n19 (pst i_Hauler_begin) (defScope s19) := ⟨rfl, rfl, rfl, by decide +kernel, rfl, by decide +kernel, by decide +kernel⟩
abbrev s20 : Stmt := inClass (topS 35) 5
def n20 : List Str := [("self" : Str)]
theorem c20 : chkS Yt n20 (defScope s20) b_Hauler_have (defBody s20) = true := by decide +kernel
theorem z20 : FnScope n20 (pst i_Hauler_have) (defScope s20) := ⟨rfl, rfl, rfl, by decide +kernel, rfl, by decide +kernel, by decide +kernel⟩
abbrev s21 : Stmt := inClass (topS 35) 6
def n21 : List Str := [("self" : Str)]
theorem c21 : chkS Yt n21 (defScope s21) b_Hauler_lacks_2 (defBody s21) = true := by decide +kernel
theorem z21 : FnScope n21 (pst i_Hauler_lacks_2) (defScope s21) := ⟨rfl, rfl, rfl, by decide +kernel, rfl, by decide +kernel, by decide +kernel⟩
abbrev s22 : Stmt := inClass (topS 35) 7
def n22 : List Str := [("self" : Str), ("begin" : Str), ("some" : Str), ("mark" : Str), ("size" : Str), ("have" : Str), ("more" : Str), ("low" : Str), ("high" : Str)]
theorem c22 : chkS Yt n22 (defScope s22) b_Hauler_take_2 (defBody s22) = true := by decide +kernel
theorem z22 : FnScope n22 (pst i_Hauler_take_2) (defScope s22) := ⟨rfl, rfl, rfl, by decide +kernel, rfl, by decide +kernel, by decide +kernel⟩
abbrev s23 : Stmt := inClass (topS 37) 0
def n23 : List Str := [("self" : Str), ("stops" : Str)]
theorem c23 : chkS Yt n23 (defScope s23) b_Disk_init (defBody s23) = true := by decide +kernel
theorem z23 : FnScope n23 (pst i_Disk_init) (defScope s23) := ⟨rfl, rfl, rfl, by decide +kernel, rfl, by decide +kernel, by decide +kernel⟩
abbrev s24 : Stmt := inClass (topS 37) 1
def n24 : List Str := [("self" : Str)]
theorem c24 : chkS Yt n24 (defScope s24) b_Disk_step (defBody s24) = true := by decide +kernel
theorem z24 : FnScope n24 (pst i_Disk_step) (defScope s24) := ⟨rfl, rfl, rfl, by decide +kernel, rfl, by decide +kernel, by decide +kernel⟩
abbrev s25 : Stmt := inClass (topS 37) 2
def n25 : List Str := [("self" : Str), ("name" : Str)]
theorem c25 : chkS Yt n25 (defScope s25) b_Disk_need (defBody s25) = true := by decide +kernel
theorem z25 : FnScope n25 (pst i_Disk_need) (defScope s25) := ⟨rfl, rfl, rfl, by decide +kernel, rfl, by decide +kernel, by decide +kernel⟩
abbrev s26 : Stmt := inClass (topS 37) 3
def n26 : List Str := [("self" : Str), ("name" : Str), ("size" : Str)]
theorem c26 : chkS Yt n26 (defScope s26) b_Disk_make (defBody s26) = true := by decide +kernel
theorem z26 : FnScope n26 (pst i_Disk_make) (defScope s26) := ⟨rfl, rfl, rfl, by decide +kernel, rfl, by decide +kernel, by decide +kernel⟩
abbrev s27 : Stmt := inClass (topS 37) 4
def n27 : List Str := [("self" : Str), ("name" : Str), ("place" : Str), ("some" : Str), ("k" : Str), ("one" : Str), ("body" : Str)]
theorem c27 : chkS Yt n27 (defScope s27) b_Disk_put_at (defBody s27) = true := by decide +kernel
theorem z27 : FnScope n27 (pst i_Disk_put_at) (defScope s27) := ⟨rfl, rfl, rfl, by decide +kernel, rfl, by decide +kernel, by decide +kernel⟩
abbrev s28 : Stmt := inClass (topS 37) 5
def n28 : List Str := [("self" : Str), ("name" : Str), ("goal" : Str), ("body" : Str)]
theorem c28 : chkS Yt n28 (defScope s28) b_Disk_rename (defBody s28) = true := by decide +kernel
theorem z28 : FnScope n28 (pst i_Disk_rename) (defScope s28) := ⟨rfl, rfl, rfl, by decide +kernel, rfl, by decide +kernel, by decide +kernel⟩
abbrev s29 : Stmt := inClass (topS 37) 6
def n29 : List Str := [("self" : Str), ("name" : Str)]
theorem c29 : chkS Yt n29 (defScope s29) b_Disk_drop (defBody s29) = true := by decide +kernel
theorem z29 : FnScope n29 (pst i_Disk_drop) (defScope s29) := ⟨rfl, rfl, rfl, by decide +kernel, rfl, by decide +kernel, by decide +kernel⟩
abbrev s30 : Stmt := inClass (topS 37) 7
def n30 : List Str := [("self" : Str), ("name" : Str)]
theorem c30 : chkS Yt n30 (defScope s30) b_Disk_body (defBody s30) = true := by decide +kernel
theorem z30 : FnScope n30 (pst i_Disk_body) (defScope s30) := ⟨rfl, rfl, rfl, by decide +kernel, rfl, by decide +kernel, by decide +kernel⟩
abbrev s31 : Stmt := inClass (topS 37) 8
def n31 : List Str := [("self" : Str)]
theorem c31 : chkS Yt n31 (defScope s31) b_Disk_files (defBody s31) = true := by decide +kernel
theorem z31 : FnScope n31 (pst i_Disk_files) (defScope s31) := ⟨rfl, rfl, rfl, by decide +kernel, rfl, by decide +kernel, by decide +kernel⟩
abbrev s32 : Stmt := topS 39
def n32 : List Str := [("_law_cell_here" : Str), ("_law_place" : Str), ("_law_many" : Str), ("_law_number" : Str)]
theorem c32 : chkS Yt n32 (defScope s32) b_l_d (defBody s32) = true := by decide +kernel
theorem z32 : FnScope n32 (pst i_l_d) (defScope s32) := ⟨rfl, rfl, rfl, by decide +kernel, rfl, by decide +kernel, by decide +kernel⟩
abbrev s33 : Stmt := topS 40
def n33 : List Str := [("_law_script" : Str), ("_law_k" : Str)]
theorem c33 : chkS Yt n33 (defScope s33) b_l_cell (defBody s33) = true := by decide +kernel
theorem z33 : FnScope n33 (pst i_l_cell) (defScope s33) := ⟨rfl, rfl, rfl, by decide +kernel, rfl, by decide +kernel, by decide +kernel⟩
abbrev s34 : Stmt := topS 41
def n34 : List Str := [("_law_body" : Str), ("_law_cell_here" : Str), ("_law_begin" : Str), ("_law_end" : Str)]
theorem c34 : chkS Yt n34 (defScope s34) b_l_piece (defBody s34) = true := by decide +kernel
theorem z34 : FnScope n34 (pst i_l_piece) (defScope s34) := ⟨rfl, rfl, rfl, by decide +kernel, rfl, by decide +kernel, by decide +kernel⟩
abbrev s35 : Stmt := topS 43
def n35 : List Str := [("_law_disk" : Str), ("_law_body" : Str), ("_law_hauler" : Str)]
theorem c35 : chkS Yt n35 (defScope s35) b_l_begun (defBody s35) = true := by decide +kernel
theorem z35 : FnScope n35 (pst i_l_begun) (defScope s35) := ⟨rfl, rfl, rfl, by decide +kernel, rfl, by decide +kernel, by decide +kernel⟩
abbrev s36 : Stmt := topS 44
def n36 : List Str := [("_law_hauler" : Str), ("_law_piece_here" : Str), ("_law_took_here" : Str)]
theorem c36 : chkS Yt n36 (defScope s36) b_l_took (defBody s36) = true := by decide +kernel
theorem z36 : FnScope n36 (pst i_l_took) (defScope s36) := ⟨rfl, rfl, rfl, by decide +kernel, rfl, by decide +kernel, by decide +kernel⟩
abbrev s37 : Stmt := topS 45
def n37 : List Str := [("_law_script" : Str), ("_law_cell_here" : Str), ("_law_body" : Str), ("_law_k" : Str), ("_law_stops" : Str), ("_law_disk" : Str), ("_law_hauler" : Str), ("_law_whole" : Str), ("_law_pieces" : Str), ("_law_tries" : Str), ("_law_part" : Str), ("_law_have" : Str), ("_law_begin" : Str), ("_law_end" : Str), ("_law_place" : Str), ("_law_more" : Str)]
theorem c37 : chkS Yt n37 (defScope s37) b_law_k26_2 (defBody s37) = true := by decide +kernel
theorem z37 : FnScope n37 (pst i_law_k26_2) (defScope s37) := ⟨rfl, rfl, rfl, by decide +kernel, rfl, by decide +kernel, by decide +kernel⟩
def fnL : List (Nat × Str) := [(0, ("some" : Str)), (1, ("at" : Str)), (2, ("head" : Str)), (3, ("parts" : Str)), (4, ("stand" : Str)), (5, ("bodies" : Str)), (6, ("stops" : Str)), (7, ("name" : Str)), (8, ("disk" : Str)), (9, ("state" : Str)), (10, ("wanted" : Str)), (11, ("most" : Str)), (12, ("speeds" : Str)), (13, ("works" : Str)), (14, ("came" : Str)), (15, ("source" : Str)), (16, ("cuts" : Str)), (17, ("asked" : Str))]
abbrev fnt : Nat → Str := fntOf fnL
theorem fnt_inj (f g : Nat) (h : fnt f = fnt g) : f = g := fnt_inj_of (by decide +kernel) (by decide +kernel) f g h
theorem fnt_ne_begin (f : Nat) : fnt f ≠ (("begin" : Str) : Str) := fnt_ne_of (by decide +kernel) (by decide +kernel) f
theorem fnt_ne_body (f : Nat) : fnt f ≠ (("body" : Str) : Str) := fnt_ne_of (by decide +kernel) (by decide +kernel) f
theorem fnt_ne_drop (f : Nat) : fnt f ≠ (("drop" : Str) : Str) := fnt_ne_of (by decide +kernel) (by decide +kernel) f
theorem fnt_ne_files (f : Nat) : fnt f ≠ (("files" : Str) : Str) := fnt_ne_of (by decide +kernel) (by decide +kernel) f
theorem fnt_ne_have (f : Nat) : fnt f ≠ (("have" : Str) : Str) := fnt_ne_of (by decide +kernel) (by decide +kernel) f
theorem fnt_ne_lacks (f : Nat) : fnt f ≠ (("lacks" : Str) : Str) := fnt_ne_of (by decide +kernel) (by decide +kernel) f
theorem fnt_ne_make (f : Nat) : fnt f ≠ (("make" : Str) : Str) := fnt_ne_of (by decide +kernel) (by decide +kernel) f
theorem fnt_ne_need (f : Nat) : fnt f ≠ (("need" : Str) : Str) := fnt_ne_of (by decide +kernel) (by decide +kernel) f
theorem fnt_ne_put_at (f : Nat) : fnt f ≠ (("put_at" : Str) : Str) := fnt_ne_of (by decide +kernel) (by decide +kernel) f
theorem fnt_ne_rename (f : Nat) : fnt f ≠ (("rename" : Str) : Str) := fnt_ne_of (by decide +kernel) (by decide +kernel) f
theorem fnt_ne_step (f : Nat) : fnt f ≠ (("step" : Str) : Str) := fnt_ne_of (by decide +kernel) (by decide +kernel) f
theorem fnt_ne_take (f : Nat) : fnt f ≠ (("take" : Str) : Str) := fnt_ne_of (by decide +kernel) (by decide +kernel) f
theorem fnt_ne_there (f : Nat) : fnt f ≠ (("there" : Str) : Str) := fnt_ne_of (by decide +kernel) (by decide +kernel) f
theorem fnt_ne_write_note (f : Nat) : fnt f ≠ (("write_note" : Str) : Str) := fnt_ne_of (by decide +kernel) (by decide +kernel) f
theorem all_mk {l : PySem.W.OpenLaw} {w : World} {K : PySem.W.Frag} {h : Heap} {mg : Str → Option Value} {fa : Addr} (X : K.In h) (Ns : h.Ns mainGlobals mg) (hfa : mg "law" = some (.ref fa))
    {C0 : Addr}
    {C1 : Addr}
    {X0 : Addr}
    {X1 : Addr}
    {X2 : Addr}
    {X3 : Addr}
    {f0 : Addr} {od0 an0 : Option Addr} {sl0 : Array (Option Value)} {oc0 kV0 dc0 pm0 cd0 ct0 : Value}
    {f1 : Addr} {od1 an1 : Option Addr} {sl1 : Array (Option Value)} {oc1 kV1 dc1 pm1 cd1 ct1 : Value}
    {f2 : Addr} {od2 an2 : Option Addr} {sl2 : Array (Option Value)} {oc2 kV2 dc2 pm2 cd2 ct2 : Value}
    {f3 : Addr} {od3 an3 : Option Addr} {sl3 : Array (Option Value)} {oc3 kV3 dc3 pm3 cd3 ct3 : Value}
    {f4 : Addr} {od4 an4 : Option Addr} {sl4 : Array (Option Value)} {oc4 kV4 dc4 pm4 cd4 ct4 : Value}
    {f5 : Addr} {od5 an5 : Option Addr} {sl5 : Array (Option Value)} {oc5 kV5 dc5 pm5 cd5 ct5 : Value}
    {f6 : Addr} {od6 an6 : Option Addr} {sl6 : Array (Option Value)} {oc6 kV6 dc6 pm6 cd6 ct6 : Value}
    {f7 : Addr} {od7 an7 : Option Addr} {sl7 : Array (Option Value)} {oc7 kV7 dc7 pm7 cd7 ct7 : Value}
    {f8 : Addr} {od8 an8 : Option Addr} {sl8 : Array (Option Value)} {oc8 kV8 dc8 pm8 cd8 ct8 : Value}
    {f9 : Addr} {od9 an9 : Option Addr} {sl9 : Array (Option Value)} {oc9 kV9 dc9 pm9 cd9 ct9 : Value}
    {f10 : Addr} {od10 an10 : Option Addr} {sl10 : Array (Option Value)} {oc10 kV10 dc10 pm10 cd10 ct10 : Value}
    {f11 : Addr} {od11 an11 : Option Addr} {sl11 : Array (Option Value)} {oc11 kV11 dc11 pm11 cd11 ct11 : Value}
    {f12 : Addr} {od12 an12 : Option Addr} {sl12 : Array (Option Value)} {oc12 kV12 dc12 pm12 cd12 ct12 : Value}
    {f13 : Addr} {od13 an13 : Option Addr} {sl13 : Array (Option Value)} {oc13 kV13 dc13 pm13 cd13 ct13 : Value}
    {f14 : Addr} {od14 an14 : Option Addr} {sl14 : Array (Option Value)} {oc14 kV14 dc14 pm14 cd14 ct14 : Value}
    {f15 : Addr} {od15 an15 : Option Addr} {sl15 : Array (Option Value)} {oc15 kV15 dc15 pm15 cd15 ct15 : Value}
    {f16 : Addr} {od16 an16 : Option Addr} {sl16 : Array (Option Value)} {oc16 kV16 dc16 pm16 cd16 ct16 : Value}
    {f17 : Addr} {od17 an17 : Option Addr} {sl17 : Array (Option Value)} {oc17 kV17 dc17 pm17 cd17 ct17 : Value}
    {f18 : Addr} {od18 an18 : Option Addr} {sl18 : Array (Option Value)} {oc18 kV18 dc18 pm18 cd18 ct18 : Value}
    {f19 : Addr} {od19 an19 : Option Addr} {sl19 : Array (Option Value)} {oc19 kV19 dc19 pm19 cd19 ct19 : Value}
    {f20 : Addr} {od20 an20 : Option Addr} {sl20 : Array (Option Value)} {oc20 kV20 dc20 pm20 cd20 ct20 : Value}
    {f21 : Addr} {od21 an21 : Option Addr} {sl21 : Array (Option Value)} {oc21 kV21 dc21 pm21 cd21 ct21 : Value}
    {f22 : Addr} {od22 an22 : Option Addr} {sl22 : Array (Option Value)} {oc22 kV22 dc22 pm22 cd22 ct22 : Value}
    {f23 : Addr} {od23 an23 : Option Addr} {sl23 : Array (Option Value)} {oc23 kV23 dc23 pm23 cd23 ct23 : Value}
    {f24 : Addr} {od24 an24 : Option Addr} {sl24 : Array (Option Value)} {oc24 kV24 dc24 pm24 cd24 ct24 : Value}
    {f25 : Addr} {od25 an25 : Option Addr} {sl25 : Array (Option Value)} {oc25 kV25 dc25 pm25 cd25 ct25 : Value}
    {f26 : Addr} {od26 an26 : Option Addr} {sl26 : Array (Option Value)} {oc26 kV26 dc26 pm26 cd26 ct26 : Value}
    {f27 : Addr} {od27 an27 : Option Addr} {sl27 : Array (Option Value)} {oc27 kV27 dc27 pm27 cd27 ct27 : Value}
    {f28 : Addr} {od28 an28 : Option Addr} {sl28 : Array (Option Value)} {oc28 kV28 dc28 pm28 cd28 ct28 : Value}
    {f29 : Addr} {od29 an29 : Option Addr} {sl29 : Array (Option Value)} {oc29 kV29 dc29 pm29 cd29 ct29 : Value}
    {f30 : Addr} {od30 an30 : Option Addr} {sl30 : Array (Option Value)} {oc30 kV30 dc30 pm30 cd30 ct30 : Value}
    {f31 : Addr} {od31 an31 : Option Addr} {sl31 : Array (Option Value)} {oc31 kV31 dc31 pm31 cd31 ct31 : Value}
    {f32 : Addr} {od32 an32 : Option Addr} {sl32 : Array (Option Value)} {oc32 kV32 dc32 pm32 cd32 ct32 : Value}
    {f33 : Addr} {od33 an33 : Option Addr} {sl33 : Array (Option Value)} {oc33 kV33 dc33 pm33 cd33 ct33 : Value}
    {f34 : Addr} {od34 an34 : Option Addr} {sl34 : Array (Option Value)} {oc34 kV34 dc34 pm34 cd34 ct34 : Value}
    {f35 : Addr} {od35 an35 : Option Addr} {sl35 : Array (Option Value)} {oc35 kV35 dc35 pm35 cd35 ct35 : Value}
    {f36 : Addr} {od36 an36 : Option Addr} {sl36 : Array (Option Value)} {oc36 kV36 dc36 pm36 cd36 ct36 : Value}
    {f37 : Addr} {od37 an37 : Option Addr} {sl37 : Array (Option Value)} {oc37 kV37 dc37 pm37 cd37 ct37 : Value}
    {t0 : Tok}
    {t1 : Tok}
    {t2 : Tok}
    {t3 : Tok}
    {t4 : Tok}
    {t5 : Tok}
    {t6 : Tok}
    (ca0 : PySem.W.nsIn K mainGlobals "Hauler" = some (some (.ref C0))) (pg0 : PySem.W.plainGet K C0 Str.empty = true) (hd0 : PySem.W.hasDictIn K C0 = true) (po0 : PySem.W.plainOver K C0 = true) (sa0 : PySem.W.findIn K (.ref C0) "__setattr__" = some (some (.builtin "object.__setattr__"))) (mk0 : PySem.W.makesIn K C0 = true) (kc0 : PySem.W.keepIn K (.ref C0) = true)
    (na0_0 : PySem.W.findIn K (.ref C0) "some" = some none)
    (na0_1 : PySem.W.findIn K (.ref C0) "at" = some none)
    (na0_2 : PySem.W.findIn K (.ref C0) "head" = some none)
    (na0_3 : PySem.W.findIn K (.ref C0) "parts" = some none)
    (na0_4 : PySem.W.findIn K (.ref C0) "stand" = some none)
    (na0_5 : PySem.W.findIn K (.ref C0) "bodies" = some none)
    (na0_6 : PySem.W.findIn K (.ref C0) "stops" = some none)
    (na0_7 : PySem.W.findIn K (.ref C0) "name" = some none)
    (na0_8 : PySem.W.findIn K (.ref C0) "disk" = some none)
    (na0_9 : PySem.W.findIn K (.ref C0) "state" = some none)
    (na0_10 : PySem.W.findIn K (.ref C0) "wanted" = some none)
    (na0_11 : PySem.W.findIn K (.ref C0) "most" = some none)
    (na0_12 : PySem.W.findIn K (.ref C0) "speeds" = some none)
    (na0_13 : PySem.W.findIn K (.ref C0) "works" = some none)
    (na0_14 : PySem.W.findIn K (.ref C0) "came" = some none)
    (na0_15 : PySem.W.findIn K (.ref C0) "source" = some none)
    (na0_16 : PySem.W.findIn K (.ref C0) "cuts" = some none)
    (na0_17 : PySem.W.findIn K (.ref C0) "asked" = some none)
    (ca1 : PySem.W.nsIn K mainGlobals "Disk" = some (some (.ref C1))) (pg1 : PySem.W.plainGet K C1 Str.empty = true) (hd1 : PySem.W.hasDictIn K C1 = true) (po1 : PySem.W.plainOver K C1 = true) (sa1 : PySem.W.findIn K (.ref C1) "__setattr__" = some (some (.builtin "object.__setattr__"))) (mk1 : PySem.W.makesIn K C1 = true) (kc1 : PySem.W.keepIn K (.ref C1) = true)
    (na1_0 : PySem.W.findIn K (.ref C1) "some" = some none)
    (na1_1 : PySem.W.findIn K (.ref C1) "at" = some none)
    (na1_2 : PySem.W.findIn K (.ref C1) "head" = some none)
    (na1_3 : PySem.W.findIn K (.ref C1) "parts" = some none)
    (na1_4 : PySem.W.findIn K (.ref C1) "stand" = some none)
    (na1_5 : PySem.W.findIn K (.ref C1) "bodies" = some none)
    (na1_6 : PySem.W.findIn K (.ref C1) "stops" = some none)
    (na1_7 : PySem.W.findIn K (.ref C1) "name" = some none)
    (na1_8 : PySem.W.findIn K (.ref C1) "disk" = some none)
    (na1_9 : PySem.W.findIn K (.ref C1) "state" = some none)
    (na1_10 : PySem.W.findIn K (.ref C1) "wanted" = some none)
    (na1_11 : PySem.W.findIn K (.ref C1) "most" = some none)
    (na1_12 : PySem.W.findIn K (.ref C1) "speeds" = some none)
    (na1_13 : PySem.W.findIn K (.ref C1) "works" = some none)
    (na1_14 : PySem.W.findIn K (.ref C1) "came" = some none)
    (na1_15 : PySem.W.findIn K (.ref C1) "source" = some none)
    (na1_16 : PySem.W.findIn K (.ref C1) "cuts" = some none)
    (na1_17 : PySem.W.findIn K (.ref C1) "asked" = some none)
    (ea0 : PySem.W.nsIn K mainGlobals "BadText" = some (some (.ref X0)))
    (et0 : PySem.W.typeIn K (.ref X0) = some (.type "type"))
    (ek0 : PySem.W.keepIn K (.ref X0) = true) (xx0 : PySem.W.excIn K X0 [.type "ValueError", .type "Exception", .type "BaseException", .type "object"] "ValueError.__new__" = true)
    (eb0 : PySem.W.subIn K (.ref X0) (.type "BaseException") = some true) (ei0 : PySem.W.isClsIn K X0 = true)
    (ea1 : PySem.W.nsIn K mainGlobals "NotYet" = some (some (.ref X1)))
    (et1 : PySem.W.typeIn K (.ref X1) = some (.type "type"))
    (ek1 : PySem.W.keepIn K (.ref X1) = true) (xx1 : PySem.W.excIn K X1 [.type "ValueError", .type "Exception", .type "BaseException", .type "object"] "ValueError.__new__" = true)
    (eb1 : PySem.W.subIn K (.ref X1) (.type "BaseException") = some true) (ei1 : PySem.W.isClsIn K X1 = true)
    (ea2 : PySem.W.nsIn K mainGlobals "NoFile" = some (some (.ref X2)))
    (et2 : PySem.W.typeIn K (.ref X2) = some (.type "type"))
    (ek2 : PySem.W.keepIn K (.ref X2) = true) (xx2 : PySem.W.excIn K X2 [.type "ValueError", .type "Exception", .type "BaseException", .type "object"] "ValueError.__new__" = true)
    (eb2 : PySem.W.subIn K (.ref X2) (.type "BaseException") = some true) (ei2 : PySem.W.isClsIn K X2 = true)
    (ea3 : PySem.W.nsIn K mainGlobals "Stopped" = some (some (.ref X3)))
    (et3 : PySem.W.typeIn K (.ref X3) = some (.type "type"))
    (ek3 : PySem.W.keepIn K (.ref X3) = true) (xx3 : PySem.W.excIn K X3 [.type "ValueError", .type "Exception", .type "BaseException", .type "object"] "ValueError.__new__" = true)
    (eb3 : PySem.W.subIn K (.ref X3) (.type "BaseException") = some true) (ei3 : PySem.W.isClsIn K X3 = true)
    (es0_3 : PySem.W.subIn K (.ref X0) (.ref X3) = some false)
    (es1_3 : PySem.W.subIn K (.ref X1) (.ref X3) = some false)
    (es2_3 : PySem.W.subIn K (.ref X2) (.ref X3) = some false)
    (es3_3 : PySem.W.subIn K (.ref X3) (.ref X3) = some true)
    (a0 : PySem.W.nsIn K mainGlobals "mark_of" = some (some (.ref f0))) (l0 : K.lookup f0 = some ⟨oc0, od0, .func (PySem.W.fnOf "mark_of" "mark_of" (defArgs s0) (defBody s0) (defScope s0) .none kV0 dc0 pm0 an0 cd0 ct0), sl0⟩) (cc0 : PySem.W.codeIn K cd0 "mark_of" = true) (k0 : PySem.W.keepIn K (.ref f0) = true)
    (a1 : PySem.W.nsIn K mainGlobals "mark_text" = some (some (.ref f1))) (l1 : K.lookup f1 = some ⟨oc1, od1, .func (PySem.W.fnOf "mark_text" "mark_text" (defArgs s1) (defBody s1) (defScope s1) .none kV1 dc1 pm1 an1 cd1 ct1), sl1⟩) (cc1 : PySem.W.codeIn K cd1 "mark_text" = true) (k1 : PySem.W.keepIn K (.ref f1) = true)
    (a2 : PySem.W.nsIn K mainGlobals "read_mark" = some (some (.ref f2))) (l2 : K.lookup f2 = some ⟨oc2, od2, .func (PySem.W.fnOf "read_mark" "read_mark" (defArgs s2) (defBody s2) (defScope s2) .none kV2 dc2 pm2 an2 cd2 ct2), sl2⟩) (cc2 : PySem.W.codeIn K cd2 "read_mark" = true) (k2 : PySem.W.keepIn K (.ref f2) = true)
    (a3 : PySem.W.nsIn K mainGlobals "tidied" = some (some (.ref f3))) (l3 : K.lookup f3 = some ⟨oc3, od3, .func (PySem.W.fnOf "tidied" "tidied" (defArgs s3) (defBody s3) (defScope s3) .none kV3 dc3 pm3 an3 cd3 ct3), sl3⟩) (cc3 : PySem.W.codeIn K cd3 "tidied" = true) (k3 : PySem.W.keepIn K (.ref f3) = true)
    (a4 : PySem.W.nsIn K mainGlobals "together" = some (some (.ref f4))) (l4 : K.lookup f4 = some ⟨oc4, od4, .func (PySem.W.fnOf "together" "together" (defArgs s4) (defBody s4) (defScope s4) .none kV4 dc4 pm4 an4 cd4 ct4), sl4⟩) (cc4 : PySem.W.codeIn K cd4 "together" = true) (k4 : PySem.W.keepIn K (.ref f4) = true)
    (a5 : PySem.W.nsIn K mainGlobals "both" = some (some (.ref f5))) (l5 : K.lookup f5 = some ⟨oc5, od5, .func (PySem.W.fnOf "both" "both" (defArgs s5) (defBody s5) (defScope s5) .none kV5 dc5 pm5 an5 cd5 ct5), sl5⟩) (cc5 : PySem.W.codeIn K cd5 "both" = true) (k5 : PySem.W.keepIn K (.ref f5) = true)
    (a6 : PySem.W.nsIn K mainGlobals "without" = some (some (.ref f6))) (l6 : K.lookup f6 = some ⟨oc6, od6, .func (PySem.W.fnOf "without" "without" (defArgs s6) (defBody s6) (defScope s6) .none kV6 dc6 pm6 an6 cd6 ct6), sl6⟩) (cc6 : PySem.W.codeIn K cd6 "without" = true) (k6 : PySem.W.keepIn K (.ref f6) = true)
    (a7 : PySem.W.nsIn K mainGlobals "count" = some (some (.ref f7))) (l7 : K.lookup f7 = some ⟨oc7, od7, .func (PySem.W.fnOf "count" "count" (defArgs s7) (defBody s7) (defScope s7) .none kV7 dc7 pm7 an7 cd7 ct7), sl7⟩) (cc7 : PySem.W.codeIn K cd7 "count" = true) (k7 : PySem.W.keepIn K (.ref f7) = true)
    (a8 : PySem.W.nsIn K mainGlobals "range_text" = some (some (.ref f8))) (l8 : K.lookup f8 = some ⟨oc8, od8, .func (PySem.W.fnOf "range_text" "range_text" (defArgs s8) (defBody s8) (defScope s8) .none kV8 dc8 pm8 an8 cd8 ct8), sl8⟩) (cc8 : PySem.W.codeIn K cd8 "range_text" = true) (k8 : PySem.W.keepIn K (.ref f8) = true)
    (a9 : PySem.W.nsIn K mainGlobals "number_of" = some (some (.ref f9))) (l9 : K.lookup f9 = some ⟨oc9, od9, .func (PySem.W.fnOf "number_of" "number_of" (defArgs s9) (defBody s9) (defScope s9) .none kV9 dc9 pm9 an9 cd9 ct9), sl9⟩) (cc9 : PySem.W.codeIn K cd9 "number_of" = true) (k9 : PySem.W.keepIn K (.ref f9) = true)
    (a10 : PySem.W.nsIn K mainGlobals "text_bytes" = some (some (.ref f10))) (l10 : K.lookup f10 = some ⟨oc10, od10, .func (PySem.W.fnOf "text_bytes" "text_bytes" (defArgs s10) (defBody s10) (defScope s10) .none kV10 dc10 pm10 an10 cd10 ct10), sl10⟩) (cc10 : PySem.W.codeIn K cd10 "text_bytes" = true) (k10 : PySem.W.keepIn K (.ref f10) = true)
    (a11 : PySem.W.nsIn K mainGlobals "bytes_text" = some (some (.ref f11))) (l11 : K.lookup f11 = some ⟨oc11, od11, .func (PySem.W.fnOf "bytes_text" "bytes_text" (defArgs s11) (defBody s11) (defScope s11) .none kV11 dc11 pm11 an11 cd11 ct11), sl11⟩) (cc11 : PySem.W.codeIn K cd11 "bytes_text" = true) (k11 : PySem.W.keepIn K (.ref f11) = true)
    (a12 : PySem.W.nsIn K mainGlobals "note_bytes" = some (some (.ref f12))) (l12 : K.lookup f12 = some ⟨oc12, od12, .func (PySem.W.fnOf "note_bytes" "note_bytes" (defArgs s12) (defBody s12) (defScope s12) .none kV12 dc12 pm12 an12 cd12 ct12), sl12⟩) (cc12 : PySem.W.codeIn K cd12 "note_bytes" = true) (k12 : PySem.W.keepIn K (.ref f12) = true)
    (a13 : PySem.W.nsIn K mainGlobals "read_pair" = some (some (.ref f13))) (l13 : K.lookup f13 = some ⟨oc13, od13, .func (PySem.W.fnOf "read_pair" "read_pair" (defArgs s13) (defBody s13) (defScope s13) .none kV13 dc13 pm13 an13 cd13 ct13), sl13⟩) (cc13 : PySem.W.codeIn K cd13 "read_pair" = true) (k13 : PySem.W.keepIn K (.ref f13) = true)
    (a14 : PySem.W.nsIn K mainGlobals "read_note" = some (some (.ref f14))) (l14 : K.lookup f14 = some ⟨oc14, od14, .func (PySem.W.fnOf "read_note" "read_note" (defArgs s14) (defBody s14) (defScope s14) .none kV14 dc14 pm14 an14 cd14 ct14), sl14⟩) (cc14 : PySem.W.codeIn K cd14 "read_note" = true) (k14 : PySem.W.keepIn K (.ref f14) = true)
    (a15 : PySem.W.findIn K (.ref C0) "__init__" = some (some (.ref f15))) (if15 : PySem.W.isFn K (.ref f15) = true) (l15 : K.lookup f15 = some ⟨oc15, od15, .func (PySem.W.fnOf "__init__" "Hauler.__init__" (defArgs s15) (defBody s15) (defScope s15) .none kV15 dc15 pm15 an15 cd15 ct15), sl15⟩) (cc15 : PySem.W.codeIn K cd15 "Hauler.__init__" = true) (k15 : PySem.W.keepIn K (.ref f15) = true)
    (a16 : PySem.W.findIn K (.ref C0) "there" = some (some (.ref f16))) (if16 : PySem.W.isFn K (.ref f16) = true) (l16 : K.lookup f16 = some ⟨oc16, od16, .func (PySem.W.fnOf "there" "Hauler.there" (defArgs s16) (defBody s16) (defScope s16) .none kV16 dc16 pm16 an16 cd16 ct16), sl16⟩) (cc16 : PySem.W.codeIn K cd16 "Hauler.there" = true) (k16 : PySem.W.keepIn K (.ref f16) = true)
    (a17 : PySem.W.findIn K (.ref C0) "need" = some (some (.ref f17))) (if17 : PySem.W.isFn K (.ref f17) = true) (l17 : K.lookup f17 = some ⟨oc17, od17, .func (PySem.W.fnOf "need" "Hauler.need" (defArgs s17) (defBody s17) (defScope s17) .none kV17 dc17 pm17 an17 cd17 ct17), sl17⟩) (cc17 : PySem.W.codeIn K cd17 "Hauler.need" = true) (k17 : PySem.W.keepIn K (.ref f17) = true)
    (a18 : PySem.W.findIn K (.ref C0) "write_note" = some (some (.ref f18))) (if18 : PySem.W.isFn K (.ref f18) = true) (l18 : K.lookup f18 = some ⟨oc18, od18, .func (PySem.W.fnOf "write_note" "Hauler.write_note" (defArgs s18) (defBody s18) (defScope s18) .none kV18 dc18 pm18 an18 cd18 ct18), sl18⟩) (cc18 : PySem.W.codeIn K cd18 "Hauler.write_note" = true) (k18 : PySem.W.keepIn K (.ref f18) = true)
    (a19 : PySem.W.findIn K (.ref C0) "begin" = some (some (.ref f19))) (if19 : PySem.W.isFn K (.ref f19) = true) (l19 : K.lookup f19 = some ⟨oc19, od19, .func (PySem.W.fnOf "begin" "Hauler.begin" (defArgs s19) (defBody s19) (defScope s19) .none kV19 dc19 pm19 an19 cd19 ct19), sl19⟩) (cc19 : PySem.W.codeIn K cd19 "Hauler.begin" = true) (k19 : PySem.W.keepIn K (.ref f19) = true)
    (a20 : PySem.W.findIn K (.ref C0) "have" = some (some (.ref f20))) (if20 : PySem.W.isFn K (.ref f20) = true) (l20 : K.lookup f20 = some ⟨oc20, od20, .func (PySem.W.fnOf "have" "Hauler.have" (defArgs s20) (defBody s20) (defScope s20) .none kV20 dc20 pm20 an20 cd20 ct20), sl20⟩) (cc20 : PySem.W.codeIn K cd20 "Hauler.have" = true) (k20 : PySem.W.keepIn K (.ref f20) = true)
    (a21 : PySem.W.findIn K (.ref C0) "lacks" = some (some (.ref f21))) (if21 : PySem.W.isFn K (.ref f21) = true) (l21 : K.lookup f21 = some ⟨oc21, od21, .func (PySem.W.fnOf "lacks" "Hauler.lacks" (defArgs s21) (defBody s21) (defScope s21) .none kV21 dc21 pm21 an21 cd21 ct21), sl21⟩) (cc21 : PySem.W.codeIn K cd21 "Hauler.lacks" = true) (k21 : PySem.W.keepIn K (.ref f21) = true)
    (a22 : PySem.W.findIn K (.ref C0) "take" = some (some (.ref f22))) (if22 : PySem.W.isFn K (.ref f22) = true) (l22 : K.lookup f22 = some ⟨oc22, od22, .func (PySem.W.fnOf "take" "Hauler.take" (defArgs s22) (defBody s22) (defScope s22) .none kV22 dc22 pm22 an22 cd22 ct22), sl22⟩) (cc22 : PySem.W.codeIn K cd22 "Hauler.take" = true) (k22 : PySem.W.keepIn K (.ref f22) = true)
    (a23 : PySem.W.findIn K (.ref C1) "__init__" = some (some (.ref f23))) (if23 : PySem.W.isFn K (.ref f23) = true) (l23 : K.lookup f23 = some ⟨oc23, od23, .func (PySem.W.fnOf "__init__" "Disk.__init__" (defArgs s23) (defBody s23) (defScope s23) .none kV23 dc23 pm23 an23 cd23 ct23), sl23⟩) (cc23 : PySem.W.codeIn K cd23 "Disk.__init__" = true) (k23 : PySem.W.keepIn K (.ref f23) = true)
    (a24 : PySem.W.findIn K (.ref C1) "step" = some (some (.ref f24))) (if24 : PySem.W.isFn K (.ref f24) = true) (l24 : K.lookup f24 = some ⟨oc24, od24, .func (PySem.W.fnOf "step" "Disk.step" (defArgs s24) (defBody s24) (defScope s24) .none kV24 dc24 pm24 an24 cd24 ct24), sl24⟩) (cc24 : PySem.W.codeIn K cd24 "Disk.step" = true) (k24 : PySem.W.keepIn K (.ref f24) = true)
    (a25 : PySem.W.findIn K (.ref C1) "need" = some (some (.ref f25))) (if25 : PySem.W.isFn K (.ref f25) = true) (l25 : K.lookup f25 = some ⟨oc25, od25, .func (PySem.W.fnOf "need" "Disk.need" (defArgs s25) (defBody s25) (defScope s25) .none kV25 dc25 pm25 an25 cd25 ct25), sl25⟩) (cc25 : PySem.W.codeIn K cd25 "Disk.need" = true) (k25 : PySem.W.keepIn K (.ref f25) = true)
    (a26 : PySem.W.findIn K (.ref C1) "make" = some (some (.ref f26))) (if26 : PySem.W.isFn K (.ref f26) = true) (l26 : K.lookup f26 = some ⟨oc26, od26, .func (PySem.W.fnOf "make" "Disk.make" (defArgs s26) (defBody s26) (defScope s26) .none kV26 dc26 pm26 an26 cd26 ct26), sl26⟩) (cc26 : PySem.W.codeIn K cd26 "Disk.make" = true) (k26 : PySem.W.keepIn K (.ref f26) = true)
    (a27 : PySem.W.findIn K (.ref C1) "put_at" = some (some (.ref f27))) (if27 : PySem.W.isFn K (.ref f27) = true) (l27 : K.lookup f27 = some ⟨oc27, od27, .func (PySem.W.fnOf "put_at" "Disk.put_at" (defArgs s27) (defBody s27) (defScope s27) .none kV27 dc27 pm27 an27 cd27 ct27), sl27⟩) (cc27 : PySem.W.codeIn K cd27 "Disk.put_at" = true) (k27 : PySem.W.keepIn K (.ref f27) = true)
    (a28 : PySem.W.findIn K (.ref C1) "rename" = some (some (.ref f28))) (if28 : PySem.W.isFn K (.ref f28) = true) (l28 : K.lookup f28 = some ⟨oc28, od28, .func (PySem.W.fnOf "rename" "Disk.rename" (defArgs s28) (defBody s28) (defScope s28) .none kV28 dc28 pm28 an28 cd28 ct28), sl28⟩) (cc28 : PySem.W.codeIn K cd28 "Disk.rename" = true) (k28 : PySem.W.keepIn K (.ref f28) = true)
    (a29 : PySem.W.findIn K (.ref C1) "drop" = some (some (.ref f29))) (if29 : PySem.W.isFn K (.ref f29) = true) (l29 : K.lookup f29 = some ⟨oc29, od29, .func (PySem.W.fnOf "drop" "Disk.drop" (defArgs s29) (defBody s29) (defScope s29) .none kV29 dc29 pm29 an29 cd29 ct29), sl29⟩) (cc29 : PySem.W.codeIn K cd29 "Disk.drop" = true) (k29 : PySem.W.keepIn K (.ref f29) = true)
    (a30 : PySem.W.findIn K (.ref C1) "body" = some (some (.ref f30))) (if30 : PySem.W.isFn K (.ref f30) = true) (l30 : K.lookup f30 = some ⟨oc30, od30, .func (PySem.W.fnOf "body" "Disk.body" (defArgs s30) (defBody s30) (defScope s30) .none kV30 dc30 pm30 an30 cd30 ct30), sl30⟩) (cc30 : PySem.W.codeIn K cd30 "Disk.body" = true) (k30 : PySem.W.keepIn K (.ref f30) = true)
    (a31 : PySem.W.findIn K (.ref C1) "files" = some (some (.ref f31))) (if31 : PySem.W.isFn K (.ref f31) = true) (l31 : K.lookup f31 = some ⟨oc31, od31, .func (PySem.W.fnOf "files" "Disk.files" (defArgs s31) (defBody s31) (defScope s31) .none kV31 dc31 pm31 an31 cd31 ct31), sl31⟩) (cc31 : PySem.W.codeIn K cd31 "Disk.files" = true) (k31 : PySem.W.keepIn K (.ref f31) = true)
    (a32 : PySem.W.nsIn K mainGlobals "_law_d" = some (some (.ref f32))) (l32 : K.lookup f32 = some ⟨oc32, od32, .func (PySem.W.fnOf "_law_d" "_law_d" (defArgs s32) (defBody s32) (defScope s32) .none kV32 dc32 pm32 an32 cd32 ct32), sl32⟩) (cc32 : PySem.W.codeIn K cd32 "_law_d" = true) (k32 : PySem.W.keepIn K (.ref f32) = true)
    (a33 : PySem.W.nsIn K mainGlobals "_law_cell" = some (some (.ref f33))) (l33 : K.lookup f33 = some ⟨oc33, od33, .func (PySem.W.fnOf "_law_cell" "_law_cell" (defArgs s33) (defBody s33) (defScope s33) .none kV33 dc33 pm33 an33 cd33 ct33), sl33⟩) (cc33 : PySem.W.codeIn K cd33 "_law_cell" = true) (k33 : PySem.W.keepIn K (.ref f33) = true)
    (a34 : PySem.W.nsIn K mainGlobals "_law_piece" = some (some (.ref f34))) (l34 : K.lookup f34 = some ⟨oc34, od34, .func (PySem.W.fnOf "_law_piece" "_law_piece" (defArgs s34) (defBody s34) (defScope s34) .none kV34 dc34 pm34 an34 cd34 ct34), sl34⟩) (cc34 : PySem.W.codeIn K cd34 "_law_piece" = true) (k34 : PySem.W.keepIn K (.ref f34) = true)
    (a35 : PySem.W.nsIn K mainGlobals "_law_begun" = some (some (.ref f35))) (l35 : K.lookup f35 = some ⟨oc35, od35, .func (PySem.W.fnOf "_law_begun" "_law_begun" (defArgs s35) (defBody s35) (defScope s35) .none kV35 dc35 pm35 an35 cd35 ct35), sl35⟩) (cc35 : PySem.W.codeIn K cd35 "_law_begun" = true) (k35 : PySem.W.keepIn K (.ref f35) = true)
    (a36 : PySem.W.nsIn K mainGlobals "_law_took" = some (some (.ref f36))) (l36 : K.lookup f36 = some ⟨oc36, od36, .func (PySem.W.fnOf "_law_took" "_law_took" (defArgs s36) (defBody s36) (defScope s36) .none kV36 dc36 pm36 an36 cd36 ct36), sl36⟩) (cc36 : PySem.W.codeIn K cd36 "_law_took" = true) (k36 : PySem.W.keepIn K (.ref f36) = true)
    (a37 : PySem.W.nsIn K mainGlobals "law" = some (some (.ref f37))) (l37 : K.lookup f37 = some ⟨oc37, od37, .func (PySem.W.fnOf "law" "law" (defArgs s37) (defBody s37) (defScope s37) .none kV37 dc37 pm37 an37 cd37 ct37), sl37⟩) (cc37 : PySem.W.codeIn K cd37 "law" = true) (k37 : PySem.W.keepIn K (.ref f37) = true)
    (p0 : PySem.W.nsIn K mainGlobals "PRIME" = some (some (.int 2147483647 t0)))
    (p1 : PySem.W.nsIn K mainGlobals "BASE" = some (some (.int 257 t1)))
    (p2 : PySem.W.nsIn K mainGlobals "FIGURES_marks" = some (some (.str "0123456789abcdef" t2)))
    (p3 : PySem.W.nsIn K mainGlobals "LONG" = some (some (.int 8 t3)))
    (p4 : PySem.W.nsIn K mainGlobals "FIGURES_asks" = some (some (.str "0123456789" t4)))
    (p5 : PySem.W.nsIn K mainGlobals "FIGURES_MOST" = some (some (.int 9 t5)))
    (p6 : PySem.W.nsIn K mainGlobals "SIGNS" = some (some (.str "0123456789abcdefghijklmnopqrstuvwxyz -,\n" t6)))
    (y0 : PySem.W.nsIn K mainGlobals "len" = some none)
    (y1 : PySem.W.nsIn K mainGlobals "tuple" = some none)
    (y2 : PySem.W.nsIn K mainGlobals "sorted" = some none)
    (y3 : PySem.W.nsIn K mainGlobals "all" = some none)
    (y4 : PySem.W.nsIn K mainGlobals "int" = some none)
    (y5 : PySem.W.nsIn K mainGlobals "any" = some none)
    (y6 : PySem.W.nsIn K mainGlobals "range" = some none)
    (y7 : PySem.W.nsIn K mainGlobals "zip" = some none)
    (y8 : PySem.W.nsIn K mainGlobals "enumerate" = some none)
    (y9 : PySem.W.nsIn K mainGlobals "min" = some none)
    (y10 : PySem.W.nsIn K mainGlobals "max" = some none)
    (y11 : PySem.W.nsIn K mainGlobals "sum" = some none)
    (hl : ∀ ns : List Int, ns.length ≤ 63 → run Gt KK LI [.scr ns] [] = .ok (.bl true) []) :
    ∃ fd : FuncData, (∀ (s : Shared) (v : Value), BindsTo s fd ⟨[v], []⟩ [("_law_script", v)]) ∧ ∀ base : Heap, K.In base → base.Ns mainGlobals mg → FnOk l.prog w K mg base (L2.CX l.prog w) (2 * KK) fa fd ["_law_script"] (spL K) := by
  have efa : fa = f37 := by
    injection hfa.symm.trans (PySem.W.mg_of X Ns a37) with e
    injection e
  rw [efa]
  have F0 := fun_mk (st := s0) l0 cc0 k0
  have F1 := fun_mk (st := s1) l1 cc1 k1
  have F2 := fun_mk (st := s2) l2 cc2 k2
  have F3 := fun_mk (st := s3) l3 cc3 k3
  have F4 := fun_mk (st := s4) l4 cc4 k4
  have F5 := fun_mk (st := s5) l5 cc5 k5
  have F6 := fun_mk (st := s6) l6 cc6 k6
  have F7 := fun_mk (st := s7) l7 cc7 k7
  have F8 := fun_mk (st := s8) l8 cc8 k8
  have F9 := fun_mk (st := s9) l9 cc9 k9
  have F10 := fun_mk (st := s10) l10 cc10 k10
  have F11 := fun_mk (st := s11) l11 cc11 k11
  have F12 := fun_mk (st := s12) l12 cc12 k12
  have F13 := fun_mk (st := s13) l13 cc13 k13
  have F14 := fun_mk (st := s14) l14 cc14 k14
  have F15 := fun_mk (st := s15) l15 cc15 k15
  have F16 := fun_mk (st := s16) l16 cc16 k16
  have F17 := fun_mk (st := s17) l17 cc17 k17
  have F18 := fun_mk (st := s18) l18 cc18 k18
  have F19 := fun_mk (st := s19) l19 cc19 k19
  have F20 := fun_mk (st := s20) l20 cc20 k20
  have F21 := fun_mk (st := s21) l21 cc21 k21
  have F22 := fun_mk (st := s22) l22 cc22 k22
  have F23 := fun_mk (st := s23) l23 cc23 k23
  have F24 := fun_mk (st := s24) l24 cc24 k24
  have F25 := fun_mk (st := s25) l25 cc25 k25
  have F26 := fun_mk (st := s26) l26 cc26 k26
  have F27 := fun_mk (st := s27) l27 cc27 k27
  have F28 := fun_mk (st := s28) l28 cc28 k28
  have F29 := fun_mk (st := s29) l29 cc29 k29
  have F30 := fun_mk (st := s30) l30 cc30 k30
  have F31 := fun_mk (st := s31) l31 cc31 k31
  have F32 := fun_mk (st := s32) l32 cc32 k32
  have F33 := fun_mk (st := s33) l33 cc33 k33
  have F34 := fun_mk (st := s34) l34 cc34 k34
  have F35 := fun_mk (st := s35) l35 cc35 k35
  have F36 := fun_mk (st := s36) l36 cc36 k36
  have F37 := fun_mk (st := s37) l37 cc37 k37
  have cls0 : Cls K C0 := ⟨pg0, hd0, po0, sa0⟩
  have cls1 : Cls K C1 := ⟨pg1, hd1, po1, sa1⟩
  let fas : Nat → Addr := fun i => (lookN ([(i_mark_of, f0), (i_mark_text, f1), (i_read_mark, f2), (i_tidied, f3), (i_together, f4), (i_both, f5), (i_without, f6), (i_count, f7), (i_range_text, f8), (i_number_of, f9), (i_text_bytes, f10), (i_bytes_text, f11), (i_note_bytes, f12), (i_read_pair, f13), (i_read_note, f14), (i_Hauler_init, f15), (i_Hauler_there, f16), (i_Hauler_need, f17), (i_Hauler_write_note, f18), (i_Hauler_begin, f19), (i_Hauler_have, f20), (i_Hauler_lacks_2, f21), (i_Hauler_take_2, f22), (i_Disk_init, f23), (i_Disk_step, f24), (i_Disk_need, f25), (i_Disk_make, f26), (i_Disk_put_at, f27), (i_Disk_rename, f28), (i_Disk_drop, f29), (i_Disk_body, f30), (i_Disk_files, f31), (i_l_d, f32), (i_l_cell, f33), (i_l_piece, f34), (i_l_begun, f35), (i_l_took, f36), (i_law_k26_2, f37)] : List (Nat × Addr)) i).getD 0
  let fds : Nat → FuncData := fun i => (lookN ([(i_mark_of, PySem.W.fnOf "mark_of" "mark_of" (defArgs s0) (defBody s0) (defScope s0) .none kV0 dc0 pm0 an0 cd0 ct0), (i_mark_text, PySem.W.fnOf "mark_text" "mark_text" (defArgs s1) (defBody s1) (defScope s1) .none kV1 dc1 pm1 an1 cd1 ct1), (i_read_mark, PySem.W.fnOf "read_mark" "read_mark" (defArgs s2) (defBody s2) (defScope s2) .none kV2 dc2 pm2 an2 cd2 ct2), (i_tidied, PySem.W.fnOf "tidied" "tidied" (defArgs s3) (defBody s3) (defScope s3) .none kV3 dc3 pm3 an3 cd3 ct3), (i_together, PySem.W.fnOf "together" "together" (defArgs s4) (defBody s4) (defScope s4) .none kV4 dc4 pm4 an4 cd4 ct4), (i_both, PySem.W.fnOf "both" "both" (defArgs s5) (defBody s5) (defScope s5) .none kV5 dc5 pm5 an5 cd5 ct5), (i_without, PySem.W.fnOf "without" "without" (defArgs s6) (defBody s6) (defScope s6) .none kV6 dc6 pm6 an6 cd6 ct6), (i_count, PySem.W.fnOf "count" "count" (defArgs s7) (defBody s7) (defScope s7) .none kV7 dc7 pm7 an7 cd7 ct7), (i_range_text, PySem.W.fnOf "range_text" "range_text" (defArgs s8) (defBody s8) (defScope s8) .none kV8 dc8 pm8 an8 cd8 ct8), (i_number_of, PySem.W.fnOf "number_of" "number_of" (defArgs s9) (defBody s9) (defScope s9) .none kV9 dc9 pm9 an9 cd9 ct9), (i_text_bytes, PySem.W.fnOf "text_bytes" "text_bytes" (defArgs s10) (defBody s10) (defScope s10) .none kV10 dc10 pm10 an10 cd10 ct10), (i_bytes_text, PySem.W.fnOf "bytes_text" "bytes_text" (defArgs s11) (defBody s11) (defScope s11) .none kV11 dc11 pm11 an11 cd11 ct11), (i_note_bytes, PySem.W.fnOf "note_bytes" "note_bytes" (defArgs s12) (defBody s12) (defScope s12) .none kV12 dc12 pm12 an12 cd12 ct12), (i_read_pair, PySem.W.fnOf "read_pair" "read_pair" (defArgs s13) (defBody s13) (defScope s13) .none kV13 dc13 pm13 an13 cd13 ct13), (i_read_note, PySem.W.fnOf "read_note" "read_note" (defArgs s14) (defBody s14) (defScope s14) .none kV14 dc14 pm14 an14 cd14 ct14), (i_Hauler_init, PySem.W.fnOf "__init__" "Hauler.__init__" (defArgs s15) (defBody s15) (defScope s15) .none kV15 dc15 pm15 an15 cd15 ct15), (i_Hauler_there, PySem.W.fnOf "there" "Hauler.there" (defArgs s16) (defBody s16) (defScope s16) .none kV16 dc16 pm16 an16 cd16 ct16), (i_Hauler_need, PySem.W.fnOf "need" "Hauler.need" (defArgs s17) (defBody s17) (defScope s17) .none kV17 dc17 pm17 an17 cd17 ct17), (i_Hauler_write_note, PySem.W.fnOf "write_note" "Hauler.write_note" (defArgs s18) (defBody s18) (defScope s18) .none kV18 dc18 pm18 an18 cd18 ct18), (i_Hauler_begin, PySem.W.fnOf "begin" "Hauler.begin" (defArgs s19) (defBody s19) (defScope s19) .none kV19 dc19 pm19 an19 cd19 ct19), (i_Hauler_have, PySem.W.fnOf "have" "Hauler.have" (defArgs s20) (defBody s20) (defScope s20) .none kV20 dc20 pm20 an20 cd20 ct20), (i_Hauler_lacks_2, PySem.W.fnOf "lacks" "Hauler.lacks" (defArgs s21) (defBody s21) (defScope s21) .none kV21 dc21 pm21 an21 cd21 ct21), (i_Hauler_take_2, PySem.W.fnOf "take" "Hauler.take" (defArgs s22) (defBody s22) (defScope s22) .none kV22 dc22 pm22 an22 cd22 ct22), (i_Disk_init, PySem.W.fnOf "__init__" "Disk.__init__" (defArgs s23) (defBody s23) (defScope s23) .none kV23 dc23 pm23 an23 cd23 ct23), (i_Disk_step, PySem.W.fnOf "step" "Disk.step" (defArgs s24) (defBody s24) (defScope s24) .none kV24 dc24 pm24 an24 cd24 ct24), (i_Disk_need, PySem.W.fnOf "need" "Disk.need" (defArgs s25) (defBody s25) (defScope s25) .none kV25 dc25 pm25 an25 cd25 ct25), (i_Disk_make, PySem.W.fnOf "make" "Disk.make" (defArgs s26) (defBody s26) (defScope s26) .none kV26 dc26 pm26 an26 cd26 ct26), (i_Disk_put_at, PySem.W.fnOf "put_at" "Disk.put_at" (defArgs s27) (defBody s27) (defScope s27) .none kV27 dc27 pm27 an27 cd27 ct27), (i_Disk_rename, PySem.W.fnOf "rename" "Disk.rename" (defArgs s28) (defBody s28) (defScope s28) .none kV28 dc28 pm28 an28 cd28 ct28), (i_Disk_drop, PySem.W.fnOf "drop" "Disk.drop" (defArgs s29) (defBody s29) (defScope s29) .none kV29 dc29 pm29 an29 cd29 ct29), (i_Disk_body, PySem.W.fnOf "body" "Disk.body" (defArgs s30) (defBody s30) (defScope s30) .none kV30 dc30 pm30 an30 cd30 ct30), (i_Disk_files, PySem.W.fnOf "files" "Disk.files" (defArgs s31) (defBody s31) (defScope s31) .none kV31 dc31 pm31 an31 cd31 ct31), (i_l_d, PySem.W.fnOf "_law_d" "_law_d" (defArgs s32) (defBody s32) (defScope s32) .none kV32 dc32 pm32 an32 cd32 ct32), (i_l_cell, PySem.W.fnOf "_law_cell" "_law_cell" (defArgs s33) (defBody s33) (defScope s33) .none kV33 dc33 pm33 an33 cd33 ct33), (i_l_piece, PySem.W.fnOf "_law_piece" "_law_piece" (defArgs s34) (defBody s34) (defScope s34) .none kV34 dc34 pm34 an34 cd34 ct34), (i_l_begun, PySem.W.fnOf "_law_begun" "_law_begun" (defArgs s35) (defBody s35) (defScope s35) .none kV35 dc35 pm35 an35 cd35 ct35), (i_l_took, PySem.W.fnOf "_law_took" "_law_took" (defArgs s36) (defBody s36) (defScope s36) .none kV36 dc36 pm36 an36 cd36 ct36), (i_law_k26_2, PySem.W.fnOf "law" "law" (defArgs s37) (defBody s37) (defScope s37) .none kV37 dc37 pm37 an37 cd37 ct37)] : List (Nat × FuncData)) i).getD (PySem.W.fnOf "mark_of" "mark_of" (defArgs s0) (defBody s0) (defScope s0) .none kV0 dc0 pm0 an0 cd0 ct0)
  let nmt : Nm := ⟨fun i => (lookN ([(3, C0), (2, C1)] : List (Nat × Addr)) i).getD 0, fnt, fun i => (lookN ([(0, X0), (4, X1), (3, X2), (2, X3)] : List (Nat × Addr)) i).getD 0⟩
  have g : GOk K mg Gt Yt nmt fas fds pst := by
    refine ⟨fun j x h => ?_, fun j x h => ?_, fun j h => ?_, fun x h => ?_, fun c x h => ?_, fun x cs h => ?_, fun c x h => ?_, fun c m n h => ?_, fun c x h => ?_, fnt_inj⟩
    · have h := lookN_mem h
      simp only [List.mem_cons, List.not_mem_nil, or_false, Prod.mk.injEq] at h
      rcases h with ⟨rfl, rfl⟩ | ⟨rfl, rfl⟩ | ⟨rfl, rfl⟩ | ⟨rfl, rfl⟩ | ⟨rfl, rfl⟩ | ⟨rfl, rfl⟩ | ⟨rfl, rfl⟩
      · exact ⟨_, _, V.int 2147483647, rfl, PySem.W.mg_of X Ns p0, ⟨_, rfl⟩, rep_int K _⟩
      · exact ⟨_, _, V.int 257, rfl, PySem.W.mg_of X Ns p1, ⟨_, rfl⟩, rep_int K _⟩
      · exact ⟨_, _, V.str "0123456789abcdef", rfl, PySem.W.mg_of X Ns p2, ⟨_, rfl⟩, rep_str K _⟩
      · exact ⟨_, _, V.int 8, rfl, PySem.W.mg_of X Ns p3, ⟨_, rfl⟩, rep_int K _⟩
      · exact ⟨_, _, V.str "0123456789", rfl, PySem.W.mg_of X Ns p4, ⟨_, rfl⟩, rep_str K _⟩
      · exact ⟨_, _, V.int 9, rfl, PySem.W.mg_of X Ns p5, ⟨_, rfl⟩, rep_int K _⟩
      · exact ⟨_, _, V.str "0123456789abcdefghijklmnopqrstuvwxyz -,\n", rfl, PySem.W.mg_of X Ns p6, ⟨_, rfl⟩, rep_str K _⟩
    · have h := lookN_mem h
      simp only [List.mem_cons, List.not_mem_nil, or_false, Prod.mk.injEq] at h
      rcases h with ⟨rfl, rfl⟩ | ⟨rfl, rfl⟩ | ⟨rfl, rfl⟩ | ⟨rfl, rfl⟩ | ⟨rfl, rfl⟩ | ⟨rfl, rfl⟩ | ⟨rfl, rfl⟩ | ⟨rfl, rfl⟩ | ⟨rfl, rfl⟩ | ⟨rfl, rfl⟩ | ⟨rfl, rfl⟩ | ⟨rfl, rfl⟩ | ⟨rfl, rfl⟩ | ⟨rfl, rfl⟩ | ⟨rfl, rfl⟩ | ⟨rfl, rfl⟩ | ⟨rfl, rfl⟩ | ⟨rfl, rfl⟩ | ⟨rfl, rfl⟩ | ⟨rfl, rfl⟩ | ⟨rfl, rfl⟩
      · exact ⟨rfl, PySem.W.mg_of X Ns a0, k0⟩
      · exact ⟨rfl, PySem.W.mg_of X Ns a1, k1⟩
      · exact ⟨rfl, PySem.W.mg_of X Ns a2, k2⟩
      · exact ⟨rfl, PySem.W.mg_of X Ns a3, k3⟩
      · exact ⟨rfl, PySem.W.mg_of X Ns a4, k4⟩
      · exact ⟨rfl, PySem.W.mg_of X Ns a5, k5⟩
      · exact ⟨rfl, PySem.W.mg_of X Ns a6, k6⟩
      · exact ⟨rfl, PySem.W.mg_of X Ns a7, k7⟩
      · exact ⟨rfl, PySem.W.mg_of X Ns a8, k8⟩
      · exact ⟨rfl, PySem.W.mg_of X Ns a9, k9⟩
      · exact ⟨rfl, PySem.W.mg_of X Ns a10, k10⟩
      · exact ⟨rfl, PySem.W.mg_of X Ns a11, k11⟩
      · exact ⟨rfl, PySem.W.mg_of X Ns a12, k12⟩
      · exact ⟨rfl, PySem.W.mg_of X Ns a13, k13⟩
      · exact ⟨rfl, PySem.W.mg_of X Ns a14, k14⟩
      · exact ⟨rfl, PySem.W.mg_of X Ns a32, k32⟩
      · exact ⟨rfl, PySem.W.mg_of X Ns a33, k33⟩
      · exact ⟨rfl, PySem.W.mg_of X Ns a34, k34⟩
      · exact ⟨rfl, PySem.W.mg_of X Ns a35, k35⟩
      · exact ⟨rfl, PySem.W.mg_of X Ns a36, k36⟩
      · exact ⟨rfl, PySem.W.mg_of X Ns a37, k37⟩
    · obtain ⟨F, h⟩ := Option.isSome_iff_exists.mp h
      have h := lookN_mem h
      simp only [List.mem_cons, List.not_mem_nil, or_false, Prod.mk.injEq] at h
      rcases h with ⟨rfl, rfl⟩ | ⟨rfl, rfl⟩ | ⟨rfl, rfl⟩ | ⟨rfl, rfl⟩ | ⟨rfl, rfl⟩ | ⟨rfl, rfl⟩ | ⟨rfl, rfl⟩ | ⟨rfl, rfl⟩ | ⟨rfl, rfl⟩ | ⟨rfl, rfl⟩ | ⟨rfl, rfl⟩ | ⟨rfl, rfl⟩ | ⟨rfl, rfl⟩ | ⟨rfl, rfl⟩ | ⟨rfl, rfl⟩ | ⟨rfl, rfl⟩ | ⟨rfl, rfl⟩ | ⟨rfl, rfl⟩ | ⟨rfl, rfl⟩ | ⟨rfl, rfl⟩ | ⟨rfl, rfl⟩ | ⟨rfl, rfl⟩ | ⟨rfl, rfl⟩ | ⟨rfl, rfl⟩ | ⟨rfl, rfl⟩ | ⟨rfl, rfl⟩ | ⟨rfl, rfl⟩ | ⟨rfl, rfl⟩ | ⟨rfl, rfl⟩ | ⟨rfl, rfl⟩ | ⟨rfl, rfl⟩ | ⟨rfl, rfl⟩ | ⟨rfl, rfl⟩ | ⟨rfl, rfl⟩ | ⟨rfl, rfl⟩ | ⟨rfl, rfl⟩ | ⟨rfl, rfl⟩ | ⟨rfl, rfl⟩
      · exact F0.binds (ps := pst i_mark_of) fun _ _ _ _ _ _ us hl => match us, hl with | [_], _ => rfl
      · exact F1.binds (ps := pst i_mark_text) fun _ _ _ _ _ _ us hl => match us, hl with | [_], _ => rfl
      · exact F2.binds (ps := pst i_read_mark) fun _ _ _ _ _ _ us hl => match us, hl with | [_], _ => rfl
      · exact F3.binds (ps := pst i_tidied) fun _ _ _ _ _ _ us hl => match us, hl with | [_], _ => rfl
      · exact F4.binds (ps := pst i_together) fun _ _ _ _ _ _ us hl => match us, hl with | [_, _], _ => rfl
      · exact F5.binds (ps := pst i_both) fun _ _ _ _ _ _ us hl => match us, hl with | [_, _], _ => rfl
      · exact F6.binds (ps := pst i_without) fun _ _ _ _ _ _ us hl => match us, hl with | [_, _], _ => rfl
      · exact F7.binds (ps := pst i_count) fun _ _ _ _ _ _ us hl => match us, hl with | [_], _ => rfl
      · exact F8.binds (ps := pst i_range_text) fun _ _ _ _ _ _ us hl => match us, hl with | [_], _ => rfl
      · exact F9.binds (ps := pst i_number_of) fun _ _ _ _ _ _ us hl => match us, hl with | [_], _ => rfl
      · exact F10.binds (ps := pst i_text_bytes) fun _ _ _ _ _ _ us hl => match us, hl with | [_], _ => rfl
      · exact F11.binds (ps := pst i_bytes_text) fun _ _ _ _ _ _ us hl => match us, hl with | [_], _ => rfl
      · exact F12.binds (ps := pst i_note_bytes) fun _ _ _ _ _ _ us hl => match us, hl with | [_, _, _], _ => rfl
      · exact F13.binds (ps := pst i_read_pair) fun _ _ _ _ _ _ us hl => match us, hl with | [_], _ => rfl
      · exact F14.binds (ps := pst i_read_note) fun _ _ _ _ _ _ us hl => match us, hl with | [_], _ => rfl
      · exact F15.binds (ps := pst i_Hauler_init) fun _ _ _ _ _ _ us hl => match us, hl with | [_, _, _], _ => rfl
      · exact F16.binds (ps := pst i_Hauler_there) fun _ _ _ _ _ _ us hl => match us, hl with | [_, _], _ => rfl
      · exact F17.binds (ps := pst i_Hauler_need) fun _ _ _ _ _ _ us hl => match us, hl with | [_], _ => rfl
      · exact F18.binds (ps := pst i_Hauler_write_note) fun _ _ _ _ _ _ us hl => match us, hl with | [_, _, _, _], _ => rfl
      · exact F19.binds (ps := pst i_Hauler_begin) fun _ _ _ _ _ _ us hl => match us, hl with | [_, _, _], _ => rfl
      · exact F20.binds (ps := pst i_Hauler_have) fun _ _ _ _ _ _ us hl => match us, hl with | [_], _ => rfl
      · exact F21.binds (ps := pst i_Hauler_lacks_2) fun _ _ _ _ _ _ us hl => match us, hl with | [_], _ => rfl
      · exact F22.binds (ps := pst i_Hauler_take_2) fun _ _ _ _ _ _ us hl => match us, hl with | [_, _, _], _ => rfl
      · exact F23.binds (ps := pst i_Disk_init) fun _ _ _ _ _ _ us hl => match us, hl with | [_, _], _ => rfl
      · exact F24.binds (ps := pst i_Disk_step) fun _ _ _ _ _ _ us hl => match us, hl with | [_], _ => rfl
      · exact F25.binds (ps := pst i_Disk_need) fun _ _ _ _ _ _ us hl => match us, hl with | [_, _], _ => rfl
      · exact F26.binds (ps := pst i_Disk_make) fun _ _ _ _ _ _ us hl => match us, hl with | [_, _, _], _ => rfl
      · exact F27.binds (ps := pst i_Disk_put_at) fun _ _ _ _ _ _ us hl => match us, hl with | [_, _, _, _], _ => rfl
      · exact F28.binds (ps := pst i_Disk_rename) fun _ _ _ _ _ _ us hl => match us, hl with | [_, _, _], _ => rfl
      · exact F29.binds (ps := pst i_Disk_drop) fun _ _ _ _ _ _ us hl => match us, hl with | [_, _], _ => rfl
      · exact F30.binds (ps := pst i_Disk_body) fun _ _ _ _ _ _ us hl => match us, hl with | [_, _], _ => rfl
      · exact F31.binds (ps := pst i_Disk_files) fun _ _ _ _ _ _ us hl => match us, hl with | [_], _ => rfl
      · exact F32.binds (ps := pst i_l_d) fun _ _ _ _ _ _ us hl => match us, hl with | [_, _, _], _ => rfl
      · exact F33.binds (ps := pst i_l_cell) fun _ _ _ _ _ _ us hl => match us, hl with | [_, _], _ => rfl
      · exact F34.binds (ps := pst i_l_piece) fun _ _ _ _ _ _ us hl => match us, hl with | [_, _], _ => rfl
      · exact F35.binds (ps := pst i_l_begun) fun _ _ _ _ _ _ us hl => match us, hl with | [_, _], _ => rfl
      · exact F36.binds (ps := pst i_l_took) fun _ _ _ _ _ _ us hl => match us, hl with | [_, _], _ => rfl
      · exact F37.binds (ps := pst i_law_k26_2) fun _ _ _ _ _ _ us hl => match us, hl with | [_], _ => rfl
    · simp only [Yt, List.mem_cons, List.not_mem_nil, or_false] at h
      rcases h with rfl | rfl | rfl | rfl | rfl | rfl | rfl | rfl | rfl | rfl | rfl | rfl
      · exact PySem.W.mg_none_of X Ns y0
      · exact PySem.W.mg_none_of X Ns y1
      · exact PySem.W.mg_none_of X Ns y2
      · exact PySem.W.mg_none_of X Ns y3
      · exact PySem.W.mg_none_of X Ns y4
      · exact PySem.W.mg_none_of X Ns y5
      · exact PySem.W.mg_none_of X Ns y6
      · exact PySem.W.mg_none_of X Ns y7
      · exact PySem.W.mg_none_of X Ns y8
      · exact PySem.W.mg_none_of X Ns y9
      · exact PySem.W.mg_none_of X Ns y10
      · exact PySem.W.mg_none_of X Ns y11
    · have h := lookN_mem h
      simp only [List.mem_cons, List.not_mem_nil, or_false, Prod.mk.injEq] at h
      rcases h with ⟨rfl, rfl⟩ | ⟨rfl, rfl⟩ | ⟨rfl, rfl⟩ | ⟨rfl, rfl⟩
      · exact ⟨PySem.W.mg_of X Ns ea0, ek0, xx0, eb0, et0⟩
      · exact ⟨PySem.W.mg_of X Ns ea1, ek1, xx1, eb1, et1⟩
      · exact ⟨PySem.W.mg_of X Ns ea2, ek2, xx2, eb2, et2⟩
      · exact ⟨PySem.W.mg_of X Ns ea3, ek3, xx3, eb3, et3⟩
    · simp only [Yt] at h
      repeat' split at h
      · subst_vars; cases h
        refine ⟨X3, PySem.W.mg_of X Ns ea3, fun c hc => ?_⟩
        simp only [Gt, List.mem_cons, List.not_mem_nil, or_false] at hc
        rcases hc with rfl | rfl | rfl | rfl
        · exact exm_by eb3 ei3 et3 es0_3 rfl
        · exact exm_by eb3 ei3 et3 es1_3 rfl
        · exact exm_by eb3 ei3 et3 es2_3 rfl
        · exact exm_by eb3 ei3 et3 es3_3 rfl
      · cases h
    · have h := lookN_mem h
      simp only [List.mem_cons, List.not_mem_nil, or_false, Prod.mk.injEq] at h
      rcases h with ⟨rfl, rfl⟩ | ⟨rfl, rfl⟩
      · refine ⟨cls0, PySem.W.mg_of X Ns ca0, fun f n hf => ?_⟩
        have hf := lookN_mem hf
        simp only [List.mem_cons, List.not_mem_nil, or_false, Prod.mk.injEq] at hf
        rcases hf with ⟨rfl, rfl⟩ | ⟨rfl, rfl⟩ | ⟨rfl, rfl⟩ | ⟨rfl, rfl⟩ | ⟨rfl, rfl⟩ | ⟨rfl, rfl⟩ | ⟨rfl, rfl⟩ | ⟨rfl, rfl⟩ | ⟨rfl, rfl⟩ | ⟨rfl, rfl⟩ | ⟨rfl, rfl⟩ | ⟨rfl, rfl⟩ | ⟨rfl, rfl⟩ | ⟨rfl, rfl⟩ | ⟨rfl, rfl⟩ | ⟨rfl, rfl⟩ | ⟨rfl, rfl⟩ | ⟨rfl, rfl⟩
        · exact ⟨na0_0, rfl⟩
        · exact ⟨na0_1, rfl⟩
        · exact ⟨na0_2, rfl⟩
        · exact ⟨na0_3, rfl⟩
        · exact ⟨na0_4, rfl⟩
        · exact ⟨na0_5, rfl⟩
        · exact ⟨na0_6, rfl⟩
        · exact ⟨na0_7, rfl⟩
        · exact ⟨na0_8, rfl⟩
        · exact ⟨na0_9, rfl⟩
        · exact ⟨na0_10, rfl⟩
        · exact ⟨na0_11, rfl⟩
        · exact ⟨na0_12, rfl⟩
        · exact ⟨na0_13, rfl⟩
        · exact ⟨na0_14, rfl⟩
        · exact ⟨na0_15, rfl⟩
        · exact ⟨na0_16, rfl⟩
        · exact ⟨na0_17, rfl⟩
      · refine ⟨cls1, PySem.W.mg_of X Ns ca1, fun f n hf => ?_⟩
        have hf := lookN_mem hf
        simp only [List.mem_cons, List.not_mem_nil, or_false, Prod.mk.injEq] at hf
        rcases hf with ⟨rfl, rfl⟩ | ⟨rfl, rfl⟩ | ⟨rfl, rfl⟩ | ⟨rfl, rfl⟩ | ⟨rfl, rfl⟩ | ⟨rfl, rfl⟩ | ⟨rfl, rfl⟩ | ⟨rfl, rfl⟩ | ⟨rfl, rfl⟩ | ⟨rfl, rfl⟩ | ⟨rfl, rfl⟩ | ⟨rfl, rfl⟩ | ⟨rfl, rfl⟩ | ⟨rfl, rfl⟩ | ⟨rfl, rfl⟩ | ⟨rfl, rfl⟩ | ⟨rfl, rfl⟩ | ⟨rfl, rfl⟩
        · exact ⟨na1_0, rfl⟩
        · exact ⟨na1_1, rfl⟩
        · exact ⟨na1_2, rfl⟩
        · exact ⟨na1_3, rfl⟩
        · exact ⟨na1_4, rfl⟩
        · exact ⟨na1_5, rfl⟩
        · exact ⟨na1_6, rfl⟩
        · exact ⟨na1_7, rfl⟩
        · exact ⟨na1_8, rfl⟩
        · exact ⟨na1_9, rfl⟩
        · exact ⟨na1_10, rfl⟩
        · exact ⟨na1_11, rfl⟩
        · exact ⟨na1_12, rfl⟩
        · exact ⟨na1_13, rfl⟩
        · exact ⟨na1_14, rfl⟩
        · exact ⟨na1_15, rfl⟩
        · exact ⟨na1_16, rfl⟩
        · exact ⟨na1_17, rfl⟩
    · simp only [Yt, Option.bind_eq_some_iff] at h
      obtain ⟨l, h1, h2⟩ := h
      have h1 := lookN_mem h1
      simp only [List.mem_cons, List.not_mem_nil, or_false, Prod.mk.injEq] at h1
      rcases h1 with ⟨rfl, rfl⟩ | ⟨rfl, rfl⟩
      · have h2 := lookN_mem h2
        simp only [List.mem_cons, List.not_mem_nil, or_false, Prod.mk.injEq] at h2
        rcases h2 with ⟨rfl, rfl⟩ | ⟨rfl, rfl⟩ | ⟨rfl, rfl⟩ | ⟨rfl, rfl⟩ | ⟨rfl, rfl⟩ | ⟨rfl, rfl⟩ | ⟨rfl, rfl⟩
        · exact ⟨i_Hauler_there, rfl, rfl, cls0, ⟨a16, if16, k16⟩, fnt_ne_there⟩
        · exact ⟨i_Hauler_need, rfl, rfl, cls0, ⟨a17, if17, k17⟩, fnt_ne_need⟩
        · exact ⟨i_Hauler_write_note, rfl, rfl, cls0, ⟨a18, if18, k18⟩, fnt_ne_write_note⟩
        · exact ⟨i_Hauler_begin, rfl, rfl, cls0, ⟨a19, if19, k19⟩, fnt_ne_begin⟩
        · exact ⟨i_Hauler_have, rfl, rfl, cls0, ⟨a20, if20, k20⟩, fnt_ne_have⟩
        · exact ⟨i_Hauler_lacks_2, rfl, rfl, cls0, ⟨a21, if21, k21⟩, fnt_ne_lacks⟩
        · exact ⟨i_Hauler_take_2, rfl, rfl, cls0, ⟨a22, if22, k22⟩, fnt_ne_take⟩
      · have h2 := lookN_mem h2
        simp only [List.mem_cons, List.not_mem_nil, or_false, Prod.mk.injEq] at h2
        rcases h2 with ⟨rfl, rfl⟩ | ⟨rfl, rfl⟩ | ⟨rfl, rfl⟩ | ⟨rfl, rfl⟩ | ⟨rfl, rfl⟩ | ⟨rfl, rfl⟩ | ⟨rfl, rfl⟩ | ⟨rfl, rfl⟩
        · exact ⟨i_Disk_step, rfl, rfl, cls1, ⟨a24, if24, k24⟩, fnt_ne_step⟩
        · exact ⟨i_Disk_need, rfl, rfl, cls1, ⟨a25, if25, k25⟩, fnt_ne_need⟩
        · exact ⟨i_Disk_make, rfl, rfl, cls1, ⟨a26, if26, k26⟩, fnt_ne_make⟩
        · exact ⟨i_Disk_put_at, rfl, rfl, cls1, ⟨a27, if27, k27⟩, fnt_ne_put_at⟩
        · exact ⟨i_Disk_rename, rfl, rfl, cls1, ⟨a28, if28, k28⟩, fnt_ne_rename⟩
        · exact ⟨i_Disk_drop, rfl, rfl, cls1, ⟨a29, if29, k29⟩, fnt_ne_drop⟩
        · exact ⟨i_Disk_body, rfl, rfl, cls1, ⟨a30, if30, k30⟩, fnt_ne_body⟩
        · exact ⟨i_Disk_files, rfl, rfl, cls1, ⟨a31, if31, k31⟩, fnt_ne_files⟩
    · have h := lookN_mem h
      simp only [List.mem_cons, List.not_mem_nil, or_false, Prod.mk.injEq] at h
      rcases h with ⟨rfl, rfl⟩ | ⟨rfl, rfl⟩
      · exact ⟨i_Hauler_init, rfl, rfl, ⟨mk0, a15, if15, kc0⟩⟩
      · exact ⟨i_Disk_init, rfl, rfl, ⟨mk1, a23, if23, kc1⟩⟩
  have O : ∀ f : Nat, (Gt.fns f).isSome = true → FOk K Gt Yt f (fas f) (fds f) (pst f) := fun f h => by
    obtain ⟨F, h⟩ := Option.isSome_iff_exists.mp h
    have h := lookN_mem h
    simp only [List.mem_cons, List.not_mem_nil, or_false, Prod.mk.injEq] at h
    rcases h with ⟨rfl, rfl⟩ | ⟨rfl, rfl⟩ | ⟨rfl, rfl⟩ | ⟨rfl, rfl⟩ | ⟨rfl, rfl⟩ | ⟨rfl, rfl⟩ | ⟨rfl, rfl⟩ | ⟨rfl, rfl⟩ | ⟨rfl, rfl⟩ | ⟨rfl, rfl⟩ | ⟨rfl, rfl⟩ | ⟨rfl, rfl⟩ | ⟨rfl, rfl⟩ | ⟨rfl, rfl⟩ | ⟨rfl, rfl⟩ | ⟨rfl, rfl⟩ | ⟨rfl, rfl⟩ | ⟨rfl, rfl⟩ | ⟨rfl, rfl⟩ | ⟨rfl, rfl⟩ | ⟨rfl, rfl⟩ | ⟨rfl, rfl⟩ | ⟨rfl, rfl⟩ | ⟨rfl, rfl⟩ | ⟨rfl, rfl⟩ | ⟨rfl, rfl⟩ | ⟨rfl, rfl⟩ | ⟨rfl, rfl⟩ | ⟨rfl, rfl⟩ | ⟨rfl, rfl⟩ | ⟨rfl, rfl⟩ | ⟨rfl, rfl⟩ | ⟨rfl, rfl⟩ | ⟨rfl, rfl⟩ | ⟨rfl, rfl⟩ | ⟨rfl, rfl⟩ | ⟨rfl, rfl⟩ | ⟨rfl, rfl⟩
    · exact ⟨⟨_, _, s0, n0, _, rfl, F0, z0, rfl, rfl, c0⟩⟩
    · exact ⟨⟨_, _, s1, n1, _, rfl, F1, z1, rfl, rfl, c1⟩⟩
    · exact ⟨⟨_, _, s2, n2, _, rfl, F2, z2, rfl, rfl, c2⟩⟩
    · exact ⟨⟨_, _, s3, n3, _, rfl, F3, z3, rfl, rfl, c3⟩⟩
    · exact ⟨⟨_, _, s4, n4, _, rfl, F4, z4, rfl, rfl, c4⟩⟩
    · exact ⟨⟨_, _, s5, n5, _, rfl, F5, z5, rfl, rfl, c5⟩⟩
    · exact ⟨⟨_, _, s6, n6, _, rfl, F6, z6, rfl, rfl, c6⟩⟩
    · exact ⟨⟨_, _, s7, n7, _, rfl, F7, z7, rfl, rfl, c7⟩⟩
    · exact ⟨⟨_, _, s8, n8, _, rfl, F8, z8, rfl, rfl, c8⟩⟩
    · exact ⟨⟨_, _, s9, n9, _, rfl, F9, z9, rfl, rfl, c9⟩⟩
    · exact ⟨⟨_, _, s10, n10, _, rfl, F10, z10, rfl, rfl, c10⟩⟩
    · exact ⟨⟨_, _, s11, n11, _, rfl, F11, z11, rfl, rfl, c11⟩⟩
    · exact ⟨⟨_, _, s12, n12, _, rfl, F12, z12, rfl, rfl, c12⟩⟩
    · exact ⟨⟨_, _, s13, n13, _, rfl, F13, z13, rfl, rfl, c13⟩⟩
    · exact ⟨⟨_, _, s14, n14, _, rfl, F14, z14, rfl, rfl, c14⟩⟩
    · exact ⟨⟨_, _, s15, n15, _, rfl, F15, z15, rfl, rfl, c15⟩⟩
    · exact ⟨⟨_, _, s16, n16, _, rfl, F16, z16, rfl, rfl, c16⟩⟩
    · exact ⟨⟨_, _, s17, n17, _, rfl, F17, z17, rfl, rfl, c17⟩⟩
    · exact ⟨⟨_, _, s18, n18, _, rfl, F18, z18, rfl, rfl, c18⟩⟩
    · exact ⟨⟨_, _, s19, n19, _, rfl, F19, z19, rfl, rfl, c19⟩⟩
    · exact ⟨⟨_, _, s20, n20, _, rfl, F20, z20, rfl, rfl, c20⟩⟩
    · exact ⟨⟨_, _, s21, n21, _, rfl, F21, z21, rfl, rfl, c21⟩⟩
    · exact ⟨⟨_, _, s22, n22, _, rfl, F22, z22, rfl, rfl, c22⟩⟩
    · exact ⟨⟨_, _, s23, n23, _, rfl, F23, z23, rfl, rfl, c23⟩⟩
    · exact ⟨⟨_, _, s24, n24, _, rfl, F24, z24, rfl, rfl, c24⟩⟩
    · exact ⟨⟨_, _, s25, n25, _, rfl, F25, z25, rfl, rfl, c25⟩⟩
    · exact ⟨⟨_, _, s26, n26, _, rfl, F26, z26, rfl, rfl, c26⟩⟩
    · exact ⟨⟨_, _, s27, n27, _, rfl, F27, z27, rfl, rfl, c27⟩⟩
    · exact ⟨⟨_, _, s28, n28, _, rfl, F28, z28, rfl, rfl, c28⟩⟩
    · exact ⟨⟨_, _, s29, n29, _, rfl, F29, z29, rfl, rfl, c29⟩⟩
    · exact ⟨⟨_, _, s30, n30, _, rfl, F30, z30, rfl, rfl, c30⟩⟩
    · exact ⟨⟨_, _, s31, n31, _, rfl, F31, z31, rfl, rfl, c31⟩⟩
    · exact ⟨⟨_, _, s32, n32, _, rfl, F32, z32, rfl, rfl, c32⟩⟩
    · exact ⟨⟨_, _, s33, n33, _, rfl, F33, z33, rfl, rfl, c33⟩⟩
    · exact ⟨⟨_, _, s34, n34, _, rfl, F34, z34, rfl, rfl, c34⟩⟩
    · exact ⟨⟨_, _, s35, n35, _, rfl, F35, z35, rfl, rfl, c35⟩⟩
    · exact ⟨⟨_, _, s36, n36, _, rfl, F36, z36, rfl, rfl, c36⟩⟩
    · exact ⟨⟨_, _, s37, n37, _, rfl, F37, z37, rfl, rfl, c37⟩⟩
  exact ⟨_, fun s v => .of_eq rfl, fun base _ _ => law_fn (fn_all (P := l.prog) (w := w) (base := base) g O KK LI rfl) hl⟩
end PL
open PySem PySem.W PyProof.Rows
set_option maxRecDepth 100000 in
set_option maxHeartbeats 0 in
theorem PySem.Challenge.cw_piecehaul_k26_whole_what_a_note_tells_is_holds : PySem.Challenge.rw_piecehaul_k26_whole_what_a_note_tells_is.Holds := by
  w_on; o_law; k_head; (case hw => w_witness2)
  k_fill
  refine PL.law_walk (l := PySem.Challenge.rw_piecehaul_k26_whole_what_a_note_tells_is) (x := "_law_script") (k := 2 * 12) rfl rfl ⟨rfl, by decide, by decide⟩ (fun w h Y => PySem.W.kIn_of Y) ?F
  case F =>
    intro w mg fa h KX Ns hmg
    refine' PL.all_mk KX Ns hmg ?ca0 ?pg0 ?hd0 ?po0 ?sa0 ?mk0 ?kc0 ?na0_0 ?na0_1 ?na0_2 ?na0_3 ?na0_4 ?na0_5 ?na0_6 ?na0_7 ?na0_8 ?na0_9 ?na0_10 ?na0_11 ?na0_12 ?na0_13 ?na0_14 ?na0_15 ?na0_16 ?na0_17 ?ca1 ?pg1 ?hd1 ?po1 ?sa1 ?mk1 ?kc1 ?na1_0 ?na1_1 ?na1_2 ?na1_3 ?na1_4 ?na1_5 ?na1_6 ?na1_7 ?na1_8 ?na1_9 ?na1_10 ?na1_11 ?na1_12 ?na1_13 ?na1_14 ?na1_15 ?na1_16 ?na1_17 ?ea0 ?et0 ?ek0 ?xx0 ?eb0 ?ei0 ?ea1 ?et1 ?ek1 ?xx1 ?eb1 ?ei1 ?ea2 ?et2 ?ek2 ?xx2 ?eb2 ?ei2 ?ea3 ?et3 ?ek3 ?xx3 ?eb3 ?ei3 ?es0_3 ?es1_3 ?es2_3 ?es3_3 ?a0 ?l0 ?cc0 ?k0 ?a1 ?l1 ?cc1 ?k1 ?a2 ?l2 ?cc2 ?k2 ?a3 ?l3 ?cc3 ?k3 ?a4 ?l4 ?cc4 ?k4 ?a5 ?l5 ?cc5 ?k5 ?a6 ?l6 ?cc6 ?k6 ?a7 ?l7 ?cc7 ?k7 ?a8 ?l8 ?cc8 ?k8 ?a9 ?l9 ?cc9 ?k9 ?a10 ?l10 ?cc10 ?k10 ?a11 ?l11 ?cc11 ?k11 ?a12 ?l12 ?cc12 ?k12 ?a13 ?l13 ?cc13 ?k13 ?a14 ?l14 ?cc14 ?k14 ?a15 ?if15 ?l15 ?cc15 ?k15 ?a16 ?if16 ?l16 ?cc16 ?k16 ?a17 ?if17 ?l17 ?cc17 ?k17 ?a18 ?if18 ?l18 ?cc18 ?k18 ?a19 ?if19 ?l19 ?cc19 ?k19 ?a20 ?if20 ?l20 ?cc20 ?k20 ?a21 ?if21 ?l21 ?cc21 ?k21 ?a22 ?if22 ?l22 ?cc22 ?k22 ?a23 ?if23 ?l23 ?cc23 ?k23 ?a24 ?if24 ?l24 ?cc24 ?k24 ?a25 ?if25 ?l25 ?cc25 ?k25 ?a26 ?if26 ?l26 ?cc26 ?k26 ?a27 ?if27 ?l27 ?cc27 ?k27 ?a28 ?if28 ?l28 ?cc28 ?k28 ?a29 ?if29 ?l29 ?cc29 ?k29 ?a30 ?if30 ?l30 ?cc30 ?k30 ?a31 ?if31 ?l31 ?cc31 ?k31 ?a32 ?l32 ?cc32 ?k32 ?a33 ?l33 ?cc33 ?k33 ?a34 ?l34 ?cc34 ?k34 ?a35 ?l35 ?cc35 ?k35 ?a36 ?l36 ?cc36 ?k36 ?a37 ?l37 ?cc37 ?k37 ?p0 ?p1 ?p2 ?p3 ?p4 ?p5 ?p6 ?y0 ?y1 ?y2 ?y3 ?y4 ?y5 ?y6 ?y7 ?y8 ?y9 ?y10 ?y11 PL.law_true
    (case ca0 => k_is)
    (case pg0 => k_is)
    (case hd0 => k_is)
    (case po0 => k_is)
    (case sa0 => k_is)
    (case mk0 => k_is)
    (case kc0 => k_is)
    (case na0_0 => k_is)
    (case na0_1 => k_is)
    (case na0_2 => k_is)
    (case na0_3 => k_is)
    (case na0_4 => k_is)
    (case na0_5 => k_is)
    (case na0_6 => k_is)
    (case na0_7 => k_is)
    (case na0_8 => k_is)
    (case na0_9 => k_is)
    (case na0_10 => k_is)
    (case na0_11 => k_is)
    (case na0_12 => k_is)
    (case na0_13 => k_is)
    (case na0_14 => k_is)
    (case na0_15 => k_is)
    (case na0_16 => k_is)
    (case na0_17 => k_is)
    (case ca1 => k_is)
    (case pg1 => k_is)
    (case hd1 => k_is)
    (case po1 => k_is)
    (case sa1 => k_is)
    (case mk1 => k_is)
    (case kc1 => k_is)
    (case na1_0 => k_is)
    (case na1_1 => k_is)
    (case na1_2 => k_is)
    (case na1_3 => k_is)
    (case na1_4 => k_is)
    (case na1_5 => k_is)
    (case na1_6 => k_is)
    (case na1_7 => k_is)
    (case na1_8 => k_is)
    (case na1_9 => k_is)
    (case na1_10 => k_is)
    (case na1_11 => k_is)
    (case na1_12 => k_is)
    (case na1_13 => k_is)
    (case na1_14 => k_is)
    (case na1_15 => k_is)
    (case na1_16 => k_is)
    (case na1_17 => k_is)
    (case ea0 => k_is)
    (case et0 => k_is)
    (case ek0 => k_is)
    (case xx0 => k_exc)
    (case eb0 => k_is)
    (case ei0 => k_is)
    (case ea1 => k_is)
    (case et1 => k_is)
    (case ek1 => k_is)
    (case xx1 => k_exc)
    (case eb1 => k_is)
    (case ei1 => k_is)
    (case ea2 => k_is)
    (case et2 => k_is)
    (case ek2 => k_is)
    (case xx2 => k_exc)
    (case eb2 => k_is)
    (case ei2 => k_is)
    (case ea3 => k_is)
    (case et3 => k_is)
    (case ek3 => k_is)
    (case xx3 => k_exc)
    (case eb3 => k_is)
    (case ei3 => k_is)
    (case es0_3 => first | rfl | k_is)
    (case es1_3 => first | rfl | k_is)
    (case es2_3 => first | rfl | k_is)
    (case es3_3 => first | rfl | k_is)
    (case a0 => k_is)
    (case l0 => k_is)
    (case cc0 => k_is)
    (case k0 => k_is)
    (case a1 => k_is)
    (case l1 => k_is)
    (case cc1 => k_is)
    (case k1 => k_is)
    (case a2 => k_is)
    (case l2 => k_is)
    (case cc2 => k_is)
    (case k2 => k_is)
    (case a3 => k_is)
    (case l3 => k_is)
    (case cc3 => k_is)
    (case k3 => k_is)
    (case a4 => k_is)
    (case l4 => k_is)
    (case cc4 => k_is)
    (case k4 => k_is)
    (case a5 => k_is)
    (case l5 => k_is)
    (case cc5 => k_is)
    (case k5 => k_is)
    (case a6 => k_is)
    (case l6 => k_is)
    (case cc6 => k_is)
    (case k6 => k_is)
    (case a7 => k_is)
    (case l7 => k_is)
    (case cc7 => k_is)
    (case k7 => k_is)
    (case a8 => k_is)
    (case l8 => k_is)
    (case cc8 => k_is)
    (case k8 => k_is)
    (case a9 => k_is)
    (case l9 => k_is)
    (case cc9 => k_is)
    (case k9 => k_is)
    (case a10 => k_is)
    (case l10 => k_is)
    (case cc10 => k_is)
    (case k10 => k_is)
    (case a11 => k_is)
    (case l11 => k_is)
    (case cc11 => k_is)
    (case k11 => k_is)
    (case a12 => k_is)
    (case l12 => k_is)
    (case cc12 => k_is)
    (case k12 => k_is)
    (case a13 => k_is)
    (case l13 => k_is)
    (case cc13 => k_is)
    (case k13 => k_is)
    (case a14 => k_is)
    (case l14 => k_is)
    (case cc14 => k_is)
    (case k14 => k_is)
    (case a15 => k_is)
    (case if15 => k_is)
    (case l15 => k_is)
    (case cc15 => k_is)
    (case k15 => k_is)
    (case a16 => k_is)
    (case if16 => k_is)
    (case l16 => k_is)
    (case cc16 => k_is)
    (case k16 => k_is)
    (case a17 => k_is)
    (case if17 => k_is)
    (case l17 => k_is)
    (case cc17 => k_is)
    (case k17 => k_is)
    (case a18 => k_is)
    (case if18 => k_is)
    (case l18 => k_is)
    (case cc18 => k_is)
    (case k18 => k_is)
    (case a19 => k_is)
    (case if19 => k_is)
    (case l19 => k_is)
    (case cc19 => k_is)
    (case k19 => k_is)
    (case a20 => k_is)
    (case if20 => k_is)
    (case l20 => k_is)
    (case cc20 => k_is)
    (case k20 => k_is)
    (case a21 => k_is)
    (case if21 => k_is)
    (case l21 => k_is)
    (case cc21 => k_is)
    (case k21 => k_is)
    (case a22 => k_is)
    (case if22 => k_is)
    (case l22 => k_is)
    (case cc22 => k_is)
    (case k22 => k_is)
    (case a23 => k_is)
    (case if23 => k_is)
    (case l23 => k_is)
    (case cc23 => k_is)
    (case k23 => k_is)
    (case a24 => k_is)
    (case if24 => k_is)
    (case l24 => k_is)
    (case cc24 => k_is)
    (case k24 => k_is)
    (case a25 => k_is)
    (case if25 => k_is)
    (case l25 => k_is)
    (case cc25 => k_is)
    (case k25 => k_is)
    (case a26 => k_is)
    (case if26 => k_is)
    (case l26 => k_is)
    (case cc26 => k_is)
    (case k26 => k_is)
    (case a27 => k_is)
    (case if27 => k_is)
    (case l27 => k_is)
    (case cc27 => k_is)
    (case k27 => k_is)
    (case a28 => k_is)
    (case if28 => k_is)
    (case l28 => k_is)
    (case cc28 => k_is)
    (case k28 => k_is)
    (case a29 => k_is)
    (case if29 => k_is)
    (case l29 => k_is)
    (case cc29 => k_is)
    (case k29 => k_is)
    (case a30 => k_is)
    (case if30 => k_is)
    (case l30 => k_is)
    (case cc30 => k_is)
    (case k30 => k_is)
    (case a31 => k_is)
    (case if31 => k_is)
    (case l31 => k_is)
    (case cc31 => k_is)
    (case k31 => k_is)
    (case a32 => k_is)
    (case l32 => k_is)
    (case cc32 => k_is)
    (case k32 => k_is)
    (case a33 => k_is)
    (case l33 => k_is)
    (case cc33 => k_is)
    (case k33 => k_is)
    (case a34 => k_is)
    (case l34 => k_is)
    (case cc34 => k_is)
    (case k34 => k_is)
    (case a35 => k_is)
    (case l35 => k_is)
    (case cc35 => k_is)
    (case k35 => k_is)
    (case a36 => k_is)
    (case l36 => k_is)
    (case cc36 => k_is)
    (case k36 => k_is)
    (case a37 => k_is)
    (case l37 => k_is)
    (case cc37 => k_is)
    (case k37 => k_is)
    (case p0 => k_is)
    (case p1 => k_is)
    (case p2 => k_is)
    (case p3 => k_is)
    (case p4 => k_is)
    (case p5 => k_is)
    (case p6 => k_is)
    (case y0 => k_is)
    (case y1 => k_is)
    (case y2 => k_is)
    (case y3 => k_is)
    (case y4 => k_is)
    (case y5 => k_is)
    (case y6 => k_is)
    (case y7 => k_is)
    (case y8 => k_is)
    (case y9 => k_is)
    (case y10 => k_is)
    (case y11 => k_is)

