import PyProof.Rows.All
import Wide.All
import OpenK.AllK
import Wide.FinOn
import HandS.ForMost
import HandS.ForExc
import HandS.Wide
import HandS.TupAny
import HandS.TupMul
import HandS.Flow
import HandS.Style
import HandS.IsInst
import HandS.Zip
import HandS.Walk
import HandS.SortInts
import HandS.SortRule
import HandS.TryOnly
import HandS.TryMany
import HandS.FStr
import HandS.StrMore
import HandS.More
import HandS.SetKeys
import HandS.Small
import HandS.Comp
import KE.KTryMore
import HandS.Conv
import HandS.DictComp
import PyProof.SumWalkG
import PyProof.WalksMore
import KE.GoesMore
import KE.GoesEnum
import HandS.Iter
import PyProof.Rows.StrFit
import PySem.Challenge.RW_piecehaul_k09_whole_texts_as_asks
set_option Elab.async false
set_option linter.all false
set_option maxRecDepth 100000
set_option maxHeartbeats 1000000
set_option Elab.async false
set_option linter.all false
set_option maxRecDepth 100000
set_option maxHeartbeats 1000000
/-! PLQ: exceptions that pass a comprehension; a clause of two classes. -/
namespace PL
open PySem PySem.Spec PyProof.Rows L2
/-- fresh, in flight, or noted at the frame fr -/
def SkyF (B : Heap) (l : List PySem.Env) (a : Addr) (Z : Obj → Prop) (fr : Option Addr) (h : Heap) : Prop :=
  (∃ oe vs, B.StaysIn h ∧ B.get? a = none ∧ h.FunFrames B l ∧ h.get? a = some oe ∧ Z oe ∧ oe.data = .fields vs ∧ vs[1]? = some .none) ∨
    HandSPX.FlyingZ B l a Z h ∨ ∃ L, fr = some L ∧ HandSPX.HeldZ B l a Z L h
/-- an exception in the air of X -/
def XF (X : Cx) (W : WX) (u : Value) (s' : Shared) : Prop :=
  ∃ (a : Addr) (B : Heap) (sI : Shared) (pins : List (Addr × Obj)) (σ : L2.St) (H : Hp) (cls : Value) (d : Option Addr),
    (u = .ref a ∧ Inv X pins σ H sI) ∧ ((∀ b o, sI.heap.get? b = some o → b ∉ frs X.stack → B.get? b = some o) ∧ sI.heap.UpToSlots s'.heap) ∧
      SkyF B X.stack a (Zc cls d) X.env.frame s'.heap ∧ (H a = none ∧ s'.os = sI.os ∧ AllBare s'.gens) ∧ W cls d σ H
def Tk (X : Cx) (W : WX) : Prop := ∀ u s', XF X W u s' → X.xe u s'
theorem tk_of {X : Cx} {W : WX} (hf : X.env.frame = some X.env.locals) (t : Takes X W) : Tk X W := by
  rintro u s' ⟨a, B, sI, pins, σ, H, cls, d, ⟨e, I⟩, ⟨nb, up⟩, sky, ⟨na, os, ag⟩, w⟩
  refine t u s' ⟨a, B, sI, pins, σ, H, cls, d, e, I, nb, up, ?_, na, os, ag, w⟩
  rcases sky with ⟨oe, vs, z1, z2, z3, z4⟩ | z | ⟨L, e, z⟩
  · exact .inl ⟨z1, z2, z3, oe, vs, z4⟩
  · exact .inr (.inl z)
  · rw [hf] at e
    cases e
    exact .inr (.inr z)
theorem tk_no {X : Cx} : Tk X (fun _ _ _ _ => False) := fun u s' ⟨_, _, _, _, _, _, _, _, _, _, _, _, w⟩ => w.elim
section
variable {X : Cx} {pins : List (Addr × Obj)} {σ : L2.St} {H : Hp} {s s' : Shared} {W : WX} {E : XK}
/-- what a callee lets out is in our air -/
theorem xf_call (I : Inv X pins σ H s) (hW : ∀ cls d H', E cls d H' → W cls d σ H') {u : Value} (c : L2.CX X.prog X.w X.stack H s E u s') : XF X W u s' := by
  obtain ⟨a, B, H1, cls, d, rfl, fl, hok, ub, na, os, ag, hE⟩ := c
  obtain ⟨G, yes, no⟩ := restrict s'.heap fun b => (B.get? b).isSome || decide (b ∈ frs X.stack)
  have stB : ∀ b o, B.get? b = some o → s'.heap.get? b = some o := fl.1
  have inG : ∀ b o, B.get? b = some o → G.get? b = some o := fun b o q => (yes b (by simp [q])).trans (stB b o q)
  have frG : ∀ b, b ∈ frs X.stack → G.get? b = s'.heap.get? b := fun b q => yes b (by simp [q])
  have outG : ∀ b o, G.get? b = some o → s'.heap.get? b = some o ∧ ((B.get? b).isSome = true ∨ b ∈ frs X.stack) := fun b o q => by
    by_cases z : ((B.get? b).isSome || decide (b ∈ frs X.stack)) = true
    · exact ⟨(yes b z).symm.trans q, by simpa [Bool.or_eq_true] using z⟩
    · have := no b (by simpa using z)
      rw [q] at this
      cases this
  have J : Inv X pins σ H1 { s with heap := G, gens := s'.gens, drawn := s'.drawn, toks := s'.toks } := by
    refine I.call (ch := []) ⟨fun b o q n hb _ => inG b o (ub.keep b o q n hb), fun b o q _ hb _ => ?_, fun b o q n _ => ub.free b o q n, fun b o q _ => ?_, ub.tups, ub.frzs, ub.tbls⟩ (hok.kept inG) ag (fun _ z => nomatch z)
    · obtain ⟨sl, z⟩ := ub.slot b o q hb
      exact ⟨sl, (frG b hb).trans z⟩
    · by_cases hb : b ∈ frs X.stack
      · obtain ⟨sl, z⟩ := ub.slot b o q hb
        exact ⟨_, (frG b hb).trans z⟩
      · obtain ⟨o', z⟩ := ub.there b o q hb
        exact ⟨o', inG b o' z⟩
  refine ⟨a, B, _, pins, σ, H1, cls, d, ⟨rfl, J⟩, ⟨fun b o q hb => ?_, Heap.UpToSlots.of_keeps fun b o q => (outG b o q).1⟩, .inr (.inl fl), ⟨na, os, ag⟩, hW _ _ _ hE⟩
  obtain ⟨z, y⟩ := outG b o q
  rcases y with y | y
  · obtain ⟨o', y⟩ := Option.isSome_iff_exists.mp y
    rw [y, ← stB b o' y, z]
  · exact absurd y hb
theorem tk_at (tk : Tk X W) (σ : L2.St) : PassesAt (L2.CX X.prog X.w) X σ (WE W σ) := fun _ _ _ e s' I c => tk e s' (xf_call I (fun _ _ _ h => h) c)
/-- what an own frame says -/
def FrOk (X : Cx) : Prop := ∃ env0 outer0 L, X.stack = env0 :: outer0 ∧ env0.frame = some L ∧ X.env.frame = some L
theorem note_frame {e1 e2 : PySem.Env} (h : e1.frame = e2.frame) (x : Value) : noteFrame x e1 = noteFrame x e2 := by
  unfold noteFrame PySem.frameOf
  rw [h]
theorem SkyF.note {M : Model} {A : Around} {Ee : Value → Shared → Prop} {B : Heap} {env0 : PySem.Env} {outer0 : List PySem.Env} {a L : Addr} {Z : Obj → Prop} {Q : Unit → Shared → Prop} (hZ : HandSPX.Steady Z) (hfr : A.frames = some (env0 :: outer0)) (hL : env0.frame = some L)
    (x : SkyF B (env0 :: outer0) a Z (some L) s.heap) (hQ : ∀ h1, HandSPX.HeldZ B (env0 :: outer0) a Z L h1 → s.heap.UpToSlots h1 → Q () { s with heap := h1 }) : wpAny M A (noteFrame (.ref a) env0) Q Ee s := by
  rcases x with ⟨oe, vs, k1, k2, k3, k4, k5, k6, k7⟩ | k | ⟨L', e, k⟩
  · exact HandSPX.look_newZ hZ hfr k3 hL k4 k1 k2 k6 k7 k5 hQ
  · exact HandSPX.looks_onZ hZ hfr hL k hQ
  · cases e
    exact HandSPX.againZ hL k.2.2.2 (hQ s.heap k (Heap.UpToSlots.refl _))
theorem frames_swap {h h' B B' : Heap} (k : ∀ b, B.get? b = none → h'.get? b = h.get? b ∧ B'.get? b = none) : ∀ {l : List PySem.Env}, h.FunFrames B l → h'.FunFrames B' l
  | [], _ => trivial
  | _ :: _, ⟨q, ⟨L, o, f1, f2, f3, f4⟩, r⟩ => ⟨q, ⟨L, o, f1, (k L f2).2, (k L f2).1.trans f3, f4⟩, frames_swap k r⟩
/-- the comprehension's end by an exception -/
def ErrE (X : Cx) (ce : PySem.Env) (x : Value) (s' : Shared) : Prop := ∃ m, s'.heap.Ns ce.locals m ∧ ∀ h', Heap.SameBut ce.locals s'.heap h' → ∀ cenv : PySem.Env, cenv.locals = ce.locals → cenv.frame = ce.frame →
  wpAny (model X.prog X.w) X.A (passOn "comprehension.variables-let-go" x cenv : Sem Value) (fun _ _ => False) X.xe { s' with heap := h' }
/-- the slots of the start, whatever the block's are -/
def WB (W : WX) (σ : L2.St) : WX := fun c d _ H => W c d σ H
theorem err_out {scope : Scope} {ce : PySem.Env} {fp : List Addr} {s3 : Shared} {H3 : Hp} (tk : Tk X W) (fr : FrOk X) (hce : ce.frame = X.env.frame) (hC : ce.locals = s3.heap.objs.size)
    (I3 : Inv X pins σ H3 s3) (f3 : ∀ b ∈ fp, FpOk X pins H3 b) {u : Value} {s' : Shared} {Ee : Value → Shared → Prop} (x : XF (X.blk s3 H3 scope ce fp) (WB W σ) u s') :
    wpAny (model X.prog X.w) X.A (noteFrame u ce) (fun _ s'' => ErrE X ce u s'') Ee s' := by
  obtain ⟨a, B, sI, pins', σ', H', cls, d, ⟨rfl, I'⟩, ⟨nb, up⟩, sky, ⟨na, os, ag⟩, w⟩ := x
  obtain ⟨env0, outer0, L, hst, hL, hX⟩ := fr
  rw [note_frame (hce.trans (hX.trans hL.symm))]
  have hfr : X.A.frames = some (env0 :: outer0) := by rw [I3.ok.frames, hst]
  have sky : SkyF B (env0 :: outer0) a (Zc cls d) (some L) s'.heap := by
    have z : SkyF B X.stack a (Zc cls d) ce.frame s'.heap := sky
    rw [hst, hce, hX] at z
    exact z
  refine sky.note Zc.steady hfr hL fun h1 hh up1 => ?_
  obtain ⟨m, hn, _⟩ := I'.loc
  have hn : sI.heap.Ns ce.locals m := hn
  have hn0 := hn
  refine ⟨m, (up.trans up1).ns hn, fun h2 sb cenv e1 e2 => ?_⟩
  generalize hCC : ce.locals = C at hn sb e1 hC hn0
  have nC : H' C = none := by
    have z : H' ce.locals = none := I'.free
    rw [hCC] at z
    exact z
  obtain ⟨f0, f1, f2, f4, f5, f6⟩ := I3.fpOk (H' := H') (b := C) (Nat.le_of_eq hC.symm) nC
  have CnS : C ∉ frs X.stack := fun z => by
    obtain ⟨_, o', q, _⟩ := I3.stack.mem z
    have z := Heap.lt_size q
    rw [hC] at z
    exact absurd z (Nat.lt_irrefl _)
  obtain ⟨oC, es, ep, hoC, hdC, _⟩ := hn0
  have BC : B.get? C = some oC := nb C oC hoC CnS
  have IX : Inv X pins σ H' sI := I3.call' (ch := fp) I'.os I'.base I'.hok I'.bare fun b hb => ⟨(f3 b hb).2.2.2.1, (f3 b hb).2.1, (f3 b hb).2.2.2.2.1, (f3 b hb).2.2.2.2.2⟩
  have hid : ∀ {h : Heap} {b : Addr} {o : Obj}, (PySem.W.hideAll h [C]).get? b = some o → b ≠ C ∧ h.get? b = some o := fun {h b o} q => by
    refine ⟨fun z => ?_, PySem.W.of_hideAll _ q⟩
    rw [PySem.W.hideAll_none _ (by rw [z]; exact List.mem_singleton.mpr rfl)] at q
    cases q
  have shw : ∀ {h : Heap} {b : Addr} {o : Obj}, b ≠ C → h.get? b = some o → (PySem.W.hideAll h [C]).get? b = some o := fun {h b o} n q => PySem.W.hideAll_get _ q (by simpa using n)
  have I2 : Inv X pins σ H' { sI with heap := PySem.W.hideAll sI.heap [C] } := IX.turned (t' := sI.toks) (it := C) (fun b o n q => shw n q) f0 f1 f4 f5 f6
  obtain ⟨st1, hna, ff1, oe, vs, T, oT, ts, t1, t2, t3, t4, t5, t6, t7, t8, t9⟩ := hh
  have aC : a ≠ C := fun z => by rw [z, BC] at hna; cases hna
  have TC : T ≠ C := fun z => by rw [z, BC] at t5; cases t5
  have bn : ∀ b, B.get? b = none → (PySem.W.hideAll B [C]).get? b = none := fun b q => by
    cases z : (PySem.W.hideAll B [C]).get? b with
    | none => rfl
    | some o => rw [(hid z).2] at q; cases q
  have st2 : (PySem.W.hideAll B [C]).StaysIn h2 := fun b o q => by
    obtain ⟨q1, q2⟩ := hid q
    rw [sb.2 b q1]
    exact st1 b o q2
  have ff2 : h2.FunFrames (PySem.W.hideAll B [C]) (env0 :: outer0) := frames_swap (fun b q => ⟨sb.2 b (fun z => by rw [z, BC] at q; cases q), bn b q⟩) ff1
  have a2 : h2.get? a = some oe := (sb.2 a aC).trans t1
  have T2 : h2.get? T = some oT := (sb.2 T TC).trans t7
  unfold PySem.passOn
  refine wpAny_bind (wpAny_field a2 t3 t4 ?_)
  rw [if_neg (show ¬ ((Value.ref T == Value.none) = true) from by simp)]
  have fin : wpAny (model X.prog X.w) X.A (setFlight (.ref a) cenv.frame) (fun _ s4 => wpAny (model X.prog X.w) X.A (throw (.ref a) : Sem Value) (fun _ _ => False) X.xe s4) X.xe { s' with heap := h2 } := by
    rw [e2, hce, hX]
    refine HandSPX.setFlight_anyZ (fr := some L) st2 ff2 ⟨oe, vs, T, oT, ts, a2, t2, t3, t4, bn T t5, t6, T2, t8, t9⟩ fun h4 s4 f4' t4' up4 => wpAny_throw (tk _ _ ?_)
    refine ⟨a, PySem.W.hideAll B [C], { sI with heap := PySem.W.hideAll sI.heap [C] }, pins, σ, H', cls, d, ⟨rfl, I2⟩, ⟨fun b o q hb => ?_, fun b o q nf => ?_⟩, .inr (.inr ⟨L, hX, s4, bn a hna, by rw [hst]; exact f4', t4'⟩), ⟨na, os, ag⟩, w⟩
    · obtain ⟨q1, q2⟩ := hid q
      exact shw q1 (nb b o q2 hb)
    · obtain ⟨q1, q2⟩ := hid q
      obtain ⟨sl, z⟩ := (up.trans up1) b o q2 nf
      rw [← sb.2 b q1] at z
      obtain ⟨sl', y⟩ := up4 b _ z nf
      exact ⟨sl', y⟩
  first
    | exact wpAny_bind (wpAny_pure (wpAny_bind fin))
    | exact wpAny_bind fin
end
end PL
namespace PL
open PySem PySem.Spec PyProof.Rows L2
/-! ### a comprehension whose steps may raise -/
/-- the end of its block -/
def EndC (X : Cx) (use : Option (Value → Sem Unit)) (Qf : Value → Shared → Prop) (acc : Value) (ce : PySem.Env) (r : Result) (s' : Shared) : Prop := match r with
  | .ok _ => compPost (model X.prog X.w) X.A X.xe use Qf acc ce.locals (.ok .next) s'
  | .error x => ErrE X ce x s'
theorem comp_free {X : Cx} {use : Option (Value → Sem Unit)} {s : Shared} {e : Expr} {scope : Scope} {pos : Pos} {newAcc first : Sem Value} {g : Comprehension} {gs : List Comprehension} {cl : List (Str × Addr)} {Qf : Value → Shared → Prop}
    (h1 : clausesOf e = g :: gs) (h2 : ∀ x, foldedSetIterable g.iter X.env x = pure x) (h3 : closureFor scope X.env = pure cl) (h4 : scope.kind = .function) (h5 : ∀ x ∈ scope.names, x.2 = .local → scope.names.lookup x.1 = some .local)
    (h : wpAny (model X.prog X.w) X.A first (fun x s₁ => wpAny (model X.prog X.w) X.A (pyIter x) (fun it s₂ => wpAny (model X.prog X.w) X.A newAcc (fun acc s₃ =>
      wpAny (model X.prog X.w) X.A (newFunctionEnv scope X.env.globals cl [] X.env.qual none .none (some X.env)) (fun cenv s₄ =>
        codeAny (model X.prog X.w) X.A (.compStart e 0 it acc { cenv with scope := relabel scope X.env }) (EndC X use Qf acc { cenv with scope := relabel scope X.env }) s₄) X.xe s₃) X.xe s₂) X.xe s₁) X.xe s) :
    wpAny (model X.prog X.w) X.A (comprehension e scope X.env pos newAcc false first use) Qf X.xe s := by
  unfold comprehension
  rw [h3, h1]
  refine wpAny_bind (wpAny_mono h (fun x s₁ w1 => ?_) fun _ _ h' => h')
  refine wpAny_bind (wpAny_standAt (wpAny_bind (wpAny_of_eq (h2 x) (wpAny_bind (wpAny_holding (wpAny_mono w1 (fun it s₂ w2 => ?_) fun _ _ h' => h'))))))
  refine wpAny_standIf (wpAny_bind (wpAny_mono w2 (fun acc s₃ w3 => ?_) fun _ _ h' => h'))
  refine wpAny_bind (wpAny_pure (wpAny_bind (wpAny_mono w3 (fun cenv s₄ w4 => ?_) fun _ _ h' => h')))
  dsimp only
  have loc : ∀ x ∈ (scope.names.filter fun x => (x.2 == .local || x.2 == .cell) && x.1 != (".0" : Str)).reverse, x.2 = .local → PySem.Env.kindOf { cenv with scope := relabel scope X.env } x.1 = some .local := fun x hx hl =>
    lookup_relabel_local (h5 x (List.mem_filter.mp (List.mem_reverse.mp hx)).1 hl)
  have loc2 : ∀ x ∈ (scope.names.filter fun x => (x.2 == .local || x.2 == .cell) && x.1 != (".0" : Str)).reverse.drop 1 ++ (scope.names.filter fun x => (x.2 == .local || x.2 == .cell) && x.1 != (".0" : Str)).reverse.take 1, x.2 = .local →
      PySem.Env.kindOf { cenv with scope := relabel scope X.env } x.1 = some .local := fun x hx hl => (List.mem_append.mp hx).elim (fun z => loc x (List.mem_of_mem_drop z) hl) fun z => loc x (List.mem_of_mem_take z) hl
  refine wpAny_holding (wpAny_bind (wpAny_attempt (wpAny_holding (wpAny_run (codeAny_mono w4 fun r s' hr => ?_)))))
  cases r with
  | ok f =>
    cases use with
    | none =>
      obtain ⟨m, hn, hr⟩ := hr
      refine wpAny_bind (wpAny_holding (wpAny_comp_letGo (cenv := { cenv with scope := relabel scope X.env }) h4 _ s' m loc hn fun h' m' _ hs' => ?_))
      exact wpAny_pure (hr h' hs')
    | some u =>
      refine wpAny_bind (wpAny_rule (wpAny_bind (wpAny_holding (wpAny_mono hr (fun _ s'' hr' => ?_) fun _ _ h' => h'))))
      obtain ⟨m, hn, hr'⟩ := hr'
      exact wpAny_bind (wpAny_comp_letGo (cenv := { cenv with scope := relabel scope X.env }) h4 _ s'' m loc2 hn fun h' m' _ hs' => wpAny_pure (hr' h' hs'))
  | error x =>
    obtain ⟨m, hn, hr⟩ := hr
    refine wpAny_bind (wpAny_holding (wpAny_comp_letGo (cenv := { cenv with scope := relabel scope X.env }) h4 _ s' m loc hn fun h' m' _ hs' => ?_))
    exact wpAny_mono (hr h' hs' _ rfl rfl) (fun _ _ f => f.elim) fun _ _ y => y
section
variable {X : Cx} {W : WX}
/-- the block's context, its exceptions passed on -/
abbrev blkX (X : Cx) (W : WX) (σ : L2.St) (s : Shared) (H : Hp) (scope : Scope) (ce : PySem.Env) (fp : List Addr) : Cx := (X.blk s H scope ce fp).wish (XF (X.blk s H scope ce fp) (WB W σ))
theorem blkX_tk {σ : L2.St} {s : Shared} {H : Hp} {scope : Scope} {ce : PySem.Env} {fp : List Addr} : Tk (blkX X W σ s H scope ce fp) (WB W σ) := by
  rintro u s' ⟨a, B, sI, pins, σ, H, cls, d, ⟨e, I⟩, r⟩
  exact ⟨a, B, sI, pins, σ, H, cls, d, ⟨e, I.unwish⟩, r⟩
theorem lc_run {use : Option (Value → Sem Unit)} {pins : List (Addr × Obj)} {s : Shared} {σ : L2.St} {H : Hp} {Q : VK} {elt tg iter : Expr} {ifs : List Expr} {scope : Scope} {own : List (Str × Nat)} {pos pos' : Pos} {wi : TI} {g : TG} {tt : TT} {te : TE} {Qf : Value → Shared → Prop}
    (hc : X.calm = true) (hN : X.N.Nodup) (tk : Tk X W) (fr : FrOk X) (I : Inv X pins σ H s) (hi : PI X tg iter wi) (ok : BlkOk X.N X.env.scope scope own)
    (hg : ∀ (s : Shared) (H : Hp) (C : Addr) (cl : List (Str × Addr)) (fp : List Addr), PG (X.blk s H scope (compEnvC scope cl C X.env) fp) tg g)
    (ht : ∀ (s : Shared) (H : Hp) (C : Addr) (cl : List (Str × Addr)) (fp : List Addr), PTs (blkX X W σ s H scope (compEnvC scope cl C X.env) fp) ifs tt)
    (he : ∀ (s : Shared) (H : Hp) (C : Addr) (cl : List (Str × Addr)) (fp : List Addr), PE (blkX X W σ s H scope (compEnvC scope cl C X.env) fp) elt te) (hs : ∀ x, foldedSetIterable iter X.env x = pure x)
    (h : tLc wi g tt te (own.map (·.2)) σ H Q)
    (hR : ∀ D C s' m H', Inv X pins σ H' s' → Q (.ref D) H' → s'.heap.Ns C m → FpOk X pins H' C → compPost (model X.prog X.w) X.A X.xe use Qf (.ref D) C (.ok .next) s') :
    wpAny (model X.prog X.w) X.A (comprehension (.ListComp elt [⟨tg, iter, ifs, 0⟩] scope pos) scope X.env pos' (newList []) false (eval iter X.env) use) Qf X.xe s := by
  have capt : ∀ y ∈ scope.names, y.2 = .free → ∃ c, X.env.cells.lookup y.1 = some c := fun y hy e => (ok.free y hy e).elim (fun k => I.ok.has _ (.inl k)) fun k => I.ok.has _ (.inr k)
  refine comp_free rfl hs (closure_ok capt) ok.kind (fun y hy e => by rw [ok.uniq y hy, e]) (thn (hi.run pins s σ H _ I h) fun xv s1 hx => thn hx fun itv s2 h2 => ?_)
  obtain ⟨it, fp, tn, J, H2, rfl, I2, T, st2, f2, q⟩ := h2
  refine wpAny_newObj_type (newEnv_comp ?_) (Nat.zero_le _)
  generalize hD : s2.heap.objs.size = D
  have hDn : H2 D = none := I2.hok.fresh (Nat.le_of_eq hD)
  obtain ⟨Wm, ⟨m0, w0⟩, turn⟩ := q D hDn
  generalize hs3 : ({ s2 with heap := s2.heap.push { cls := .type "list", data := .seq ([] : List Value).toArray } } : Shared) = s3
  have h3 : s3.heap = s2.heap.push { cls := .type "list", data := .seq ([] : List Value).toArray } := by rw [← hs3]
  have I3 : Inv X pins σ (upd H2 D (.lst [])) s3 := by
    subst hs3
    refine I2.laid (t' := s2.toks) (fun b o e => Heap.get?_push_of_some _ e) (Nat.le_of_eq hD) ⟨Nat.zero_le _, [], 0, .nil, ?_⟩
    subst hD
    exact Heap.get?_push_size _ rfl
  have small : ∀ b ∈ fp, b < s2.heap.objs.size := fun b hb => let ⟨o, e, _⟩ := T.obj _ _ st2 b hb; Heap.lt_size e
  have f3 : ∀ b ∈ fp, FpOk X pins (upd H2 D (.lst [])) b ∧ b < s3.heap.objs.size := fun b hb => by
    have lt := small b hb
    refine ⟨⟨?_, (f2 b hb).2⟩, ?_⟩
    · rw [upd_ne (hD ▸ Nat.ne_of_lt lt)]
      exact (f2 b hb).1
    · rw [h3, Heap.size_push]
      exact Nat.lt_succ_of_lt lt
  have st3 : tn 0 s3.heap := T.keep _ _ _ st2 fun b _ o e => h3 ▸ Heap.get?_push_of_some _ e
  have I4 := block_start I3 ok hN f3
  have pg := hg s3 (upd H2 D (.lst [])) s3.heap.objs.size (cellsFrom (s3.heap.objs.size + 1) scope.names (cloFrom X.env.cells scope.names [])) fp
  have pt := ht s3 (upd H2 D (.lst [])) s3.heap.objs.size (cellsFrom (s3.heap.objs.size + 1) scope.names (cloFrom X.env.cells scope.names [])) fp
  have pe := he s3 (upd H2 D (.lst [])) s3.heap.objs.size (cellsFrom (s3.heap.objs.size + 1) scope.names (cloFrom X.env.cells scope.names [])) fp
  show codeAny _ _ (.compStart _ 0 (.ref it) (.ref D) (compEnvC scope (cellsFrom (s3.heap.objs.size + 1) scope.names (cloFrom X.env.cells scope.names [])) s3.heap.objs.size X.env)) (EndC X use Qf (.ref D) (compEnvC scope (cellsFrom (s3.heap.objs.size + 1) scope.names (cloFrom X.env.cells scope.names [])) s3.heap.objs.size X.env))
    { s3 with heap := pushCells (s3.heap.push { cls := .type "dict", data := .dict #[] }) scope.names }
  have nfp : ∀ b ∈ fp, (upd H2 D (.lst [])) b = none := fun b hb => (f3 b hb).1.1
  generalize hce : compEnvC scope (cellsFrom (s3.heap.objs.size + 1) scope.names (cloFrom X.env.cells scope.names [])) s3.heap.objs.size X.env = ce at I4 pg pt pe ⊢
  have cL : ce.locals = s3.heap.objs.size := by subst hce; rfl
  have cF : ce.frame = X.env.frame := by subst hce; rfl
  generalize hH3 : upd H2 D (.lst []) = H3 at I3 I4 pg pt pe w0 nfp f3
  generalize hs4 : ({ s3 with heap := pushCells (s3.heap.push { cls := .type "dict", data := .dict #[] }) scope.names } : Shared) = s4 at I4 ⊢
  have st4 : tn 0 s4.heap := T.keep _ _ _ st3 fun b _ o e => hs4 ▸ pushCells_keeps _ _ _ _ (Heap.get?_push_of_some _ e)
  have err : ∀ {Q' : Value → Shared → Prop} (u : Value) (s' : Shared), (XF (X.blk s3 H3 scope ce fp) (WB W σ)) u s' → notedBy (model X.prog X.w) X.A ce (fun e s' => EndC X use Qf (.ref D) ce (.error e) s') u s' := fun {Q'} u s' x => err_out tk fr cF cL I3 (fun b hb => (f3 b hb).1) x
  have stat : ∀ {σ' : L2.St} {H' : Hp} {s' : Shared}, Inv (X.blk s3 H3 scope ce fp) [] σ' H' s' → (∀ b ∈ fp, H' b = none) → ∀ b ∈ fp, FpOk (X.blk s3 H3 scope ce fp) [] H' b := fun {σ' H' s'} I' hn b hb =>
    ⟨hn b hb, (I'.ok.exf b hb).1, I'.ok.exfs b hb, .inl hb, (I'.ok.exf b hb).2, fun p hp => absurd (show p ∈ ([] : List (Addr × Obj)) ++ [] from hp) (by simp)⟩
  have loop : codeAny (model X.prog X.w) X.A (.compLoop (.ListComp elt [⟨tg, iter, ifs, 0⟩] scope pos) 0 (.ref it) (.ref D) ce) (EndC X use Qf (.ref D) ce) s4 := by
    refine compLoop_any (fun n s' => ∃ i H', Inv (X.blk s3 H3 scope ce fp) [] (wipe σ (own.map (·.2))) H' s' ∧ tn i s'.heap ∧ (∀ b ∈ fp, H' b = none) ∧ Wm i n H') ?_ m0 ⟨0, H3, I4, st4, nfp, w0⟩
    rintro n s5 ⟨i, H5, I5, st5, n5, w5⟩
    rcases turn i n H5 w5 with ⟨stop, qq⟩ | ⟨go, Nx, hNx, step⟩
    · refine thnF (T.done (X.blk s3 H3 scope ce fp) rfl rfl rfl hc i [] s5 _ H5 (fun _ _ => False) I5 (stat I5 n5) st5 stop) fun r s6 hr6 => ?_
      obtain ⟨rfl, I6⟩ := hr6
      have I7 : Inv X pins σ H5 s6 := I3.call' (ch := fp) I6.os I6.base I6.hok I6.bare fun b hb => ⟨(f3 b hb).1.2.2.2.1, (f3 b hb).1.2.1, (f3 b hb).1.2.2.2.2.1, (f3 b hb).1.2.2.2.2.2⟩
      obtain ⟨m, hn, _⟩ := I6.loc
      have hn : s6.heap.Ns ce.locals m := hn
      have nC : H5 ce.locals = none := I6.free
      have z := hR D ce.locals s6 m H5 I7 qq hn (by rw [cL] at nC ⊢; exact I3.fpOk (Nat.le_refl _) nC)
      exact z
    · refine thnF (T.item (X.blk s3 H3 scope ce fp) rfl rfl rfl hc i [] s5 _ H5 (fun _ _ => False) I5 (stat I5 n5) st5 go) fun r s6 hr6 => ?_
      obtain ⟨u, rfl, h6⟩ := hr6
      refine thnF h6 fun _ s7 hr7 => ?_
      obtain ⟨x, H7, I7, r7, y7, st7, n7⟩ := hr7
      have I7' := I7.pinned (stat I7 n7) (T.obj _ _ st7)
      refine thnF (pg.run _ s7 _ H7 x u _ I7' r7 (step x H7 y7)) fun _ s8 hr8 => ?_
      obtain ⟨σ8, H8, I8, hw8, q8⟩ := hr8
      refine wpAny_mono (pt.run _ s8 σ8 H8 _ (I8.wish _) q8) (fun b s9 hr9 => ?_) (err (Q' := fun _ _ => True))
      obtain ⟨H9, I9, q9⟩ := hr9
      have I9 := I9.unwish
      have over : ∀ {s' : Shared} {H' : Hp}, Inv (X.blk s3 H3 scope ce fp) ([] ++ pinsAt fp s7.heap) σ8 H' s' → Nx H' → ∃ m, m < n ∧ ∃ i H', Inv (X.blk s3 H3 scope ce fp) [] (wipe σ (own.map (·.2))) H' s' ∧ tn i s'.heap ∧ (∀ b ∈ fp, H' b = none) ∧ Wm i m H' := fun {s' H'} I' nx => by
        obtain ⟨m', hm, w'⟩ := hNx H' nx
        have held : ∀ b ∈ fp, ∀ o, s7.heap.get? b = some o → s'.heap.get? b = some o ∧ H' b = none := fun b hb o e =>
          have z := I'.pin (b, o) (List.mem_append_right _ (List.mem_append_right _ (mem_pinsAt hb e)))
          ⟨z.1, z.2.1⟩
        refine ⟨m', hm, i + 1, H', (I'.unpinned (pins := [])).weak (by rw [← hw8, wipe_length]) (fun j v e => ?_), T.keep _ _ _ st7 fun b hb o e => (held b hb o e).1, fun b hb => ?_, w'⟩
        · exact (wipe_some (hw8 ▸ e)).1
        · obtain ⟨o, e, _⟩ := T.obj _ _ st7 b hb
          exact (held b hb o e).2
      cases b with
      | false =>
        simp only [Bool.false_eq_true, if_false] at q9 ⊢
        exact over I9 q9
      | true =>
        simp only [if_true] at q9 ⊢
        refine wpAny_mono (pe.run _ s9 σ8 H9 _ (I9.wish _) q9) (fun z s10 hr10 => ?_) (err (Q' := fun _ _ => True))
        obtain ⟨yv, H10, I10, r10, acc, hD10, hz10, nx⟩ := hr10
        exact app_ok (X := X.blk s3 H3 scope ce fp) I10.unwish hD10 hz10 r10 fun s11 I11 => over I11 nx
  exact codeAny_compStart_list loop (T.self X.A 0 _ _ _ st4 loop)
/-- as a value -/
theorem pe_lcX {elt tg iter : Expr} {ifs : List Expr} {scope : Scope} {own : List (Str × Nat)} {pos : Pos} {wi : TI} {g : TG} {tt : L2.St → TT} {te : L2.St → TE} (hc : X.calm = true) (hN : X.N.Nodup) (tk : Tk X W) (fr : FrOk X) (hi : PI X tg iter wi) (ok : BlkOk X.N X.env.scope scope own)
    (hg : ∀ (s : Shared) (H : Hp) (C : Addr) (cl : List (Str × Addr)) (fp : List Addr), PG (X.blk s H scope (compEnvC scope cl C X.env) fp) tg g)
    (ht : ∀ (σ : L2.St) (s : Shared) (H : Hp) (C : Addr) (cl : List (Str × Addr)) (fp : List Addr), PTs (blkX X W σ s H scope (compEnvC scope cl C X.env) fp) ifs (tt σ))
    (he : ∀ (σ : L2.St) (s : Shared) (H : Hp) (C : Addr) (cl : List (Str × Addr)) (fp : List Addr), PE (blkX X W σ s H scope (compEnvC scope cl C X.env) fp) elt (te σ)) (hs : ∀ x, foldedSetIterable iter X.env x = pure x) :
    PE X (.ListComp elt [⟨tg, iter, ifs, 0⟩] scope pos) (fun σ H Q => tLc wi g (tt σ) (te σ) (own.map (·.2)) σ H Q) := by
  refine ⟨fun pins s σ H Q I h => ?_⟩
  rw [eval_ListComp]
  refine lc_run hc hN tk fr I hi ok hg (ht σ) (he σ) hs h fun D C s' m H' I' q hn f => ⟨m, hn, fun h'' sb => ?_⟩
  obtain ⟨f0, f1, f2, f3, f4, f5⟩ := f
  exact ⟨.ref D, H', I'.turned (t' := s'.toks) (fun b o hb e => (sb.2 b hb).trans e) f0 f1 f3 f4 f5, rfl, q⟩
/-- name = [..] on one line, the name a local -/
theorem ps_setLcX {i : Nat} {y : Str} {py : Pos} {elt tg iter : Expr} {ifs : List Expr} {scope : Scope} {own : List (Str × Nat)} {pos spos : Pos} {wi : TI} {g : TG} {tt : L2.St → TT} {te : L2.St → TE} (hc : X.calm = true) (hN : X.N.Nodup) (tk : Tk X W) (fr : FrOk X) (hy : X.N[i]? = some y) (hyl : X.env.scope.names.lookup y = some .local)
    (hsw : swapsWith (.ListComp elt [⟨tg, iter, ifs, 0⟩] scope pos) (some (.Name y py)) spos.line X.env = pure true) (hi : PI X tg iter wi) (ok : BlkOk X.N X.env.scope scope own)
    (hg : ∀ (s : Shared) (H : Hp) (C : Addr) (cl : List (Str × Addr)) (fp : List Addr), PG (X.blk s H scope (compEnvC scope cl C X.env) fp) tg g)
    (ht : ∀ (σ : L2.St) (s : Shared) (H : Hp) (C : Addr) (cl : List (Str × Addr)) (fp : List Addr), PTs (blkX X W σ s H scope (compEnvC scope cl C X.env) fp) ifs (tt σ))
    (he : ∀ (σ : L2.St) (s : Shared) (H : Hp) (C : Addr) (cl : List (Str × Addr)) (fp : List Addr), PE (blkX X W σ s H scope (compEnvC scope cl C X.env) fp) elt (te σ)) (hs : ∀ x, foldedSetIterable iter X.env x = pure x) :
    PS X (.Assign [.Name y py] (.ListComp elt [⟨tg, iter, ifs, 0⟩] scope pos) spos) (tAsg (fun σ H Q => tLc wi g (tt σ) (te σ) (own.map (·.2)) σ H Q) (gName i)) := by
  refine ⟨fun pins s σ H D I h => ?_⟩
  rw [exec_Assign_Name_used _ _ _ _ hsw]
  refine wpAny_bind (wpAny_standAt (wpAny_bind ?_))
  show wpAny _ X.A (do let _ ← comprehension (.ListComp elt [⟨tg, iter, ifs, 0⟩] scope pos) scope X.env (firstIterPos [⟨tg, iter, ifs, 0⟩] pos) (newList []) false (eval iter X.env) (some (assign (.Name y py) X.env))) _ _ s
  have h : tLc wi g (tt σ) (te σ) (own.map (·.2)) σ H (fun x H1 => gName i x σ H1 D.nx) := h
  refine wpAny_bind (thn (lc_run (Qf := fun _ s' => SP X pins D .next s') hc hN tk fr I hi ok hg (ht σ) (he σ) hs h fun L C s' m H' I' q hn f => ?_) fun _ s' hq => wpAny_pure (wpAny_pure hq))
  show wpAny _ _ (assign (.Name y py) X.env (.ref L)) _ _ _
  refine wpAny_assign_Name (store_ok2 (v := V.ref L) I' hN hy (.inl hyl) rfl (fun s2 I2 ⟨a, sb, ha⟩ => ?_) (.inr hyl))
  obtain ⟨f0, f1, f2, f3, f4, f5⟩ := f
  have haC : C ≠ a := by
    rcases ha with z | z
    · rw [z]; exact f1
    · exact fun e => f4 y a z e.symm
  refine ⟨m, hn.sameBut sb haC, fun h3 sb3 => ?_⟩
  exact ⟨_, H', I2.turned (t' := s2.toks) (fun b o hb e => (sb3.2 b hb).trans e) f0 f1 f3 f4 f5, q⟩
end
end PL
namespace PL
open PySem PySem.Spec PyProof.Rows L2
/-! ### except (A, B): -/
/-- what such a clause wishes of the body's exceptions -/
def wTwo (K : PySem.W.Frag) (c1 c2 : Value) (ts : TS) (Wout : WX) (D : Ends) : WX := fun cls d σ H =>
  ∃ b, PySem.W.exmAny K cls [c1, c2] = some b ∧ (b = true → ts D σ H) ∧ (b = false → Wout cls d σ H)
theorem flying_grow {B h h' : Heap} {l : List PySem.Env} {a : Addr} {Z : Obj → Prop} (k : ∀ b o, h.get? b = some o → h'.get? b = some o) (x : HandSPX.FlyingZ B l a Z h) : HandSPX.FlyingZ B l a Z h' := by
  obtain ⟨q1, q2, q3, oe, vs, T, oT, ts, e1, e2, e3, e4, e5, e6, e7, e8⟩ := x
  exact ⟨fun b o e => k _ _ (q1 b o e), q2, Heap.FunFrames.of_keeps (fun b o e _ => ⟨o, k _ _ e, rfl⟩) q3, oe, vs, T, oT, ts, k _ _ e1, e2, e3, e4, e5, e6, k _ _ e7, e8⟩
section
variable {X : Cx} {x1 x2 : Str} {c1 c2 : Value} {body suite : List Stmt} {b₀ : Stmt} {np1 np2 tpos pos pos' : Pos} {tk0 : Nat} {tb : WX → TS} {ts : TS} {Wout : WX}
theorem ps_try_two (hs : X.stack = X.env :: X.outer) (hf : X.env.frame = some X.env.locals) (n1 : Names X x1 c1) (n2 : Names X x2 c2) (tk : Takes X Wout)
    (hb : ∀ (W : WX) (pn : List (Addr × Obj)) (xe : Value → Shared → Prop), Takes (X.tr pn xe) W → PassesOwn (model X.prog X.w) X.A X.env xe → PSs (X.tr pn xe) body (tb W))
    (hsu : ∀ (a : Addr) (oe : Obj) (pn : List (Addr × Obj)), PSs (X.suite a ((a, oe) :: pn)) (b₀ :: suite) ts) :
    PS X (.Try body [.ExceptHandler (some (.Tuple [.Name x1 np1, .Name x2 np2] tk0 tpos)) none (b₀ :: suite) pos'] [] [] pos) (fun D σ H => tb (wTwo X.K c1 c2 ts Wout D) D σ H) := by
  refine ⟨fun pins s σ H D I h => ?_⟩
  have ok := I.ok
  have hfr : X.A.frames = some (X.env :: X.outer) := by rw [ok.frames, hs]
  refine wpAny_Try_except ?_
  refine wpAny_mono ((hb (wTwo X.K c1 c2 ts Wout D) (X.pn ++ pins) (fun e s₁ => wpAny (model X.prog X.w) X.A (noteFrame e X.env) (fun _ s₂ => wpAny (model X.prog X.w) X.A (setFlight e none) (fun _ s₃ =>
    wpAny (model X.prog X.w) X.A (handleBy e X.env [.ExceptHandler (some (.Tuple [.Name x1 np1, .Name x2 np2] tk0 tpos)) none (b₀ :: suite) pos']) (SP X pins D) X.xe s₃) X.xe s₂) X.xe s₁) (fun u s' xx => ?_) PassesOwn.looking).run [] s σ H D (I.toTry _) h) (fun f s1 hsp => ?_) (fun e s1 he => he)
  · obtain ⟨a, B, sI, pins', σ', H', cls, d, rfl, J', nb, up, sky, na, os, ag, b, hb1, hyes, hno⟩ := xx
    have J : Inv X pins σ' H' sI := J'.ofTry ok
    have sky : Sky B (X.env :: X.outer) a (Zc cls d) X.env.locals s'.heap := by
      have z : Sky B X.stack a (Zc cls d) X.env.locals s'.heap := sky
      rwa [hs] at z
    show wpAny (model X.prog X.w) X.A (noteFrame (.ref a) X.env) _ _ _
    refine Sky.land Zc.steady hfr hf sky fun h3 fl3 up3 => ?_
    have J3 : Inv X pins σ' H' { s' with heap := h3 } := J.landed nb fl3.1 (up.trans up3) os ag
    have apart : ∀ {h : Heap} {o : Obj} {vs : Array Value}, h.FunFrames B (X.env :: X.outer) → h.get? a = some o → o.data = .fields vs → a ∉ frs (X.env :: X.outer) := fun {h o vs} ff e dd hm => by
      obtain ⟨_, o', e', hnf⟩ := ff.mem hm
      rw [e] at e'
      cases e'
      exact hnf _ dd
    obtain ⟨oe3, vs3, he3, hz3, hd3⟩ := fl3.there
    have nfr := apart fl3.2.2.1 he3 hd3
    have nL : a ≠ X.env.locals := fun z => nfr (List.mem_filterMap.mpr ⟨X.env, List.mem_cons_self, by rw [hf, z]⟩)
    have nF : a ∉ X.fs := fun hm => let ⟨e, he, q⟩ := List.mem_filterMap.mp hm; nfr (List.mem_filterMap.mpr ⟨e, List.mem_cons_of_mem _ he, q⟩)
    have S3 := J3.suite he3 hd3 na nL nF
    refine wpAny_handleBy_cons (codeAny_handlers_test ?_) (by intro q; cases q)
    have one : ∀ {x : Str} {c : Value} {np : Pos} {Q : Value → Shared → Prop} {E : Value → Shared → Prop}, Names X x c → Q c { s' with heap := h3 } → wpAny (model X.prog X.w) (X.A.mark (some (.ref a))) (eval (.Name x np) X.env) Q E { s' with heap := h3 } := fun {x c np Q E} hc q => by
      obtain ⟨hg, hdbg, hm | ⟨hm, hv, hnn⟩⟩ := hc
      · exact ld_glob (X := X.suite a ((a, oe3) :: (X.pn ++ pins))) S3 hg hm q hdbg
      · exact ld_blt (X := X.suite a ((a, oe3) :: (X.pn ++ pins))) S3 hg hm hv q hnn hdbg
    have kp : ∀ q o, h3.get? q = some o → (h3.push { cls := .type "tuple", data := .seq [c1, c2].toArray }).get? q = some o := fun _ _ z => Heap.get?_push_of_some _ z
    generalize hh5 : h3.push { cls := .type "tuple", data := .seq [c1, c2].toArray } = h5 at kp
    have fl5 : HandSPX.FlyingZ B (X.env :: X.outer) a (Zc cls d) h5 := flying_grow kp fl3
    have up5 : s'.heap.UpToSlots h5 := up3.trans (Heap.UpToSlots.of_keeps kp)
    have LT : PySem.W.Looks (model X.prog X.w) h5 (typeOf (.ref a)) cls := fun A Q E s k q => wpAny_typeOf_ref (k _ _ (kp _ _ he3)) (by rw [hz3.1]; exact q)
    have LM := PySem.W.exm_tup2 (M := model X.prog X.w) (tp := h3.objs.size) (J3.kIn.keeps kp) LT (by rw [← hh5]; exact Heap.get?_push_size h3 rfl) hb1
    refine wpAny_Tuple ?_
    refine wpAny_items_cons (one n1 ?_)
    refine wpAny_items_cons (one n2 ?_)
    refine wpAny_items_nil ⟨by size_fits, ?_⟩
    dsimp only
    rw [hh5]
    refine LM.here ?_
    cases b with
    | true =>
      refine codeAny_handlers_suite ?_
      refine HandSPX.lands_againZ fl5 fun h4 fl4 up4 => ?_
      have J4 : Inv X pins σ' H' { s' with heap := h4 } := J.landed nb fl4.1 ((up.trans up5).trans up4) os ag
      obtain ⟨oe4, vs4, he4, hz4, hd4⟩ := fl4.there
      have S4 := J4.suite he4 hd4 na nL nF
      refine wpAny_mono ((hsu a oe4 (X.pn ++ pins)).run [] _ _ H' _ S4 (hyes rfl)) (fun f s6 hsp => ?_) (fun _ _ z => False.elim z)
      cases f with
      | ret u => let ⟨v6, σ6, H6, S6, r6, q6⟩ := hsp; exact ⟨v6, σ6, H6, S6.unsuite ok, r6, q6⟩
      | next => let ⟨σ6, H6, S6, q6⟩ := hsp; exact ⟨σ6, H6, S6.unsuite ok, q6⟩
      | brk => let ⟨σ6, H6, S6, q6⟩ := hsp; exact ⟨σ6, H6, S6.unsuite ok, q6⟩
      | cont => let ⟨σ6, H6, S6, q6⟩ := hsp; exact ⟨σ6, H6, S6.unsuite ok, q6⟩
    | false =>
      show wpAny _ X.A (handleBy (.ref a) X.env []) _ _ _
      refine wpAny_handleBy_nil ?_
      obtain ⟨k1, k2, k3, oe, vs, T, oT, ts', he, hz, hd, h1, hr⟩ := id fl5
      unfold PySem.passOn
      refine wpAny_bind (wpAny_field he hd h1 ?_)
      rw [if_neg (show ¬ ((Value.ref T == Value.none) = true) from by simp)]
      have fin : wpAny (model X.prog X.w) X.A (setFlight (.ref a) X.env.frame) (fun _ s4 => wpAny (model X.prog X.w) X.A (throw (.ref a) : Sem Flow) (SP X pins D) X.xe s4) X.xe { s' with heap := h5 } := by
        rw [hf]
        refine HandSPX.setFlight_upZ fl5 fun h4 hh4 up4 => wpAny_throw (tk _ _ ?_)
        exact ⟨a, B, sI, pins, σ', H', cls, d, rfl, J, nb, (up.trans up5).trans up4, .inr (.inr (hs ▸ hh4)), na, os, ag, hno rfl⟩
      first
        | exact wpAny_bind (wpAny_pure (wpAny_bind fin))
        | exact wpAny_bind fin
  · cases f with
    | next => let ⟨σ', H', J', q⟩ := hsp; exact wpAny_execs_nil ⟨σ', H', J'.ofTry ok, q⟩
    | brk => let ⟨σ', H', J', q⟩ := hsp; exact ⟨σ', H', J'.ofTry ok, q⟩
    | cont => let ⟨σ', H', J', q⟩ := hsp; exact ⟨σ', H', J'.ofTry ok, q⟩
    | ret u => let ⟨v, σ', H', J', r, q⟩ := hsp; exact ⟨v, σ', H', J'.ofTry ok, r, q⟩
end
end PL
set_option maxHeartbeats 4000000
namespace PL
open PySem PySem.Spec PyProof.Rows L2
section
variable {X : Cx} {H : Hp}
/-! ### equal dicts of plain data -/
def rEqK (K : PySem.W.Frag) (b : Bool) : R2 := fun x y H Q => ∃ a c ks ls, x = .ref a ∧ y = .ref c ∧ H a = some (.dK ks) ∧ H c = some (.dK ls) ∧ ks.length = ls.length ∧
  (∀ p ∈ ks, ∃ u d, valV ls p.1 = some u ∧ Dp K H p.2 d ∧ Dp K H u d ∧ SeqAt.shaped d = true) ∧ Q (.bl b) H
theorem hitsK {pins : List (Addr × Obj)} {σ : L2.St} {s : Shared} {A : Around} (I : Inv X pins σ H s) (hu : A.in1.units + 64 < cLine) {ls : List (Key × V)} {vb : List (Key × Value)} (rb : KV ls vb) {ks : List (Key × V)} {va : List (Key × Value)} (ra : KV ks va) :
    (∀ p ∈ ks, ∃ u d, valV ls p.1 = some u ∧ Dp X.K H p.2 d ∧ Dp X.K H u d ∧ SeqAt.shaped d = true) → PySem.W.KeqHits A.in1 s vb va true := by
  unfold KV at ra
  induction ra with
  | nil => exact fun _ => .nil
  | @cons p q ps qs h t k =>
    intro hp
    obtain ⟨key, v⟩ := q
    obtain ⟨h1, h2⟩ := h
    obtain ⟨u, d, e, d1, d2, sd⟩ := hp p List.mem_cons_self
    have rr : RelO (some u) (valueAt vb p.1) := e ▸ rb.val p.1
    obtain ⟨y, hy, ry⟩ := rr.some_of
    obtain ⟨as, r1⟩ := Dp.reads I d p.2 v d1 h2
    obtain ⟨bs, r2⟩ := Dp.reads I d u y d2 ry
    have at1 := PySem.W.keq_at (A := A) r1 r2 sd sd hu
    rw [SeqAt.eqv_refl d (SeqAt.canLay_of_shaped sd)] at at1
    have hy : valueAt vb key = some y := by
      have h1 : p.1 = key := h1
      rw [← h1]; exact hy
    exact .hit hy at1 (k fun p' hm => hp p' (List.mem_cons_of_mem _ hm))
theorem op_eqK (hu : X.A.in1.units + 64 < cLine) (hu0 : X.A.units < cLine) : OpR X (compareOp .Eq) (rEqK X.K true) := by
  intro pins s σ H x y v u Q I rx ry h
  obtain ⟨a, b, ks, ls, rfl, rfl, ea, eb, hlen, hp, q⟩ := h
  obtain rfl : v = Value.ref a := rx
  obtain rfl : u = Value.ref b := ry
  obtain ⟨_, ya, va, ra, da⟩ := (show ObjOk X.prog X.w H s.heap a (.dK ks) from I.hok a _ ea)
  obtain ⟨_, yb, vb, rb, db⟩ := (show ObjOk X.prog X.w H s.heap b (.dK ls) from I.hok b _ eb)
  have hl : va.length = vb.length := by rw [← ra.length, ← rb.length]; exact hlen
  refine PySem.W.keq_eq (knd := mixKind X.prog X.w) (r := true) ya yb da db hu0 (fun _ => hitsK I hu rb ra hp) (fin_bl I q ?_)
  simp [hl]
theorem op_neK (hu : X.A.in1.units + 64 < cLine) (hu0 : X.A.units < cLine) : OpR X (compareOp .NotEq) (rEqK X.K false) := by
  intro pins s σ H x y v u Q I rx ry h
  obtain ⟨a, b, ks, ls, rfl, rfl, ea, eb, hlen, hp, q⟩ := h
  obtain rfl : v = Value.ref a := rx
  obtain rfl : u = Value.ref b := ry
  obtain ⟨_, ya, va, ra, da⟩ := (show ObjOk X.prog X.w H s.heap a (.dK ks) from I.hok a _ ea)
  obtain ⟨_, yb, vb, rb, db⟩ := (show ObjOk X.prog X.w H s.heap b (.dK ls) from I.hok b _ eb)
  have hl : va.length = vb.length := by rw [← ra.length, ← rb.length]; exact hlen
  refine PySem.W.keq_ne (knd := mixKind X.prog X.w) (r := true) ya yb da db hu0 (fun _ => hitsK I hu rb ra hp) (fin_bl I q ?_)
  simp [hl]
/-! ### a tuple once, or never -/
theorem tuple_mul1 (l : Addr) (items : Array Value) (n : Nat) (dd : Option Addr) (sl : Array (Option Value)) (u : Tok) :
    Meets (Builtin.«tuple.__mul__» ⟨[.ref l, .int 1 u], []⟩) (fun _ R s => s.heap.get? l = some { cls := .type "tuple", dict := dd, data := .seq items n, slots := sl } ∧ R (.ok (.ret (Value.ref l))) s) :=
  .of_wp fun prog w A R s h => by
    obtain ⟨hp, g, d, tk, os⟩ := s
    obtain ⟨hl, h⟩ := h
    have f1 := AutoSeq1.idx_int
    wp_walk using wpAny_loadPart' hl
    repeat (first
      | (refine wpAny_ite_false (by decide) ?_; wp_walk using wpAny_loadPart' hl)
      | (refine wpAny_ite_true (by simp) ?_; wp_walk using wpAny_loadPart' hl))
    exact ⟨_, rfl, h⟩
theorem tuple_mul0 (l : Addr) (items : Array Value) (n : Nat) (dd : Option Addr) (sl : Array (Option Value)) (x : Int) (u : Tok) (c0 : (decide (x < -(2 ^ 63)) || decide (x ≥ 2 ^ 63)) = false) (c1 : (items.isEmpty || x == 1) = false) (c2 : (decide (x ≤ 0) || items.isEmpty) = true) :
    Meets (Builtin.«tuple.__mul__» ⟨[.ref l, .int x u], []⟩) (fun _ R s => s.heap.get? l = some { cls := .type "tuple", dict := dd, data := .seq items n, slots := sl } ∧
      R (.ok (.ret (Value.ref s.heap.objs.size))) { s with heap := s.heap.push { cls := Value.type "tuple", data := Data.seq #[] }, toks := s.toks }) :=
  .of_wp fun prog w A R s h => by
    obtain ⟨hp, g, d, tk, os⟩ := s
    obtain ⟨hl, h⟩ := h
    have f1 := AutoSeq1.idx_int
    wp_walk using wpAny_loadPart' hl
    repeat (first
      | (refine wpAny_ite_false (decide_eq_false (by rw [c0]; exact Bool.false_ne_true)) ?_; wp_walk using wpAny_loadPart' hl)
      | (refine wpAny_ite_false (decide_eq_false (by rw [c1]; exact Bool.false_ne_true)) ?_; wp_walk using wpAny_loadPart' hl)
      | (refine wpAny_ite_true (by simp only [c2]; rfl) ?_; wp_walk using wpAny_loadPart' hl))
    exact ⟨_, rfl, h⟩
/-- t * k, k no more than one, t not empty -/
def rRep01 (K : PySem.W.Frag) : R2 := fun x y H Q => ∃ l k xs, x = .ref l ∧ y = .int k ∧ SqT K H l xs ∧ xs ≠ [] ∧ ((k = 1 ∧ Q (.ref l) H) ∨ (-(2 ^ 63) ≤ k ∧ k ≤ 0 ∧ ∀ p, H p = none → Q (.ref p) (upd H p (.tup []))))
theorem op_rep01 : OpR X (binaryOp .Mult) (rRep01 X.K) := by
  intro pins s σ H x y v u Q I rx ry h
  obtain ⟨l, k, xs, rfl, rfl, hT, hne, q⟩ := h
  cases rx
  obtain ⟨t, rfl⟩ := ry
  obtain ⟨its, r, ⟨⟨cls, dd, data, sl⟩, ho, hc, n, hd⟩, hs⟩ := I.tuple hT
  simp only at hc hd
  subst hc hd
  have hle : its.length = xs.length := r.length.symm
  have hi : its.toArray.isEmpty = false := by
    cases its with
    | nil => exact absurd (List.eq_nil_of_length_eq_zero hle.symm) hne
    | cons a b => rfl
  rcases q with ⟨rfl, q⟩ | ⟨k1, k2, q⟩
  · refine wpAny_binaryOp_repeat_ref (T := "tuple") (U := "int") (by decide) ⟨_, ho, rfl⟩ (fun s' => typeIs_int s' 1 t) noFill_tuple_mul F.fills_int_mul F.slot_int_rmul repeat_tuple F.slot_int_index.lookup
      (call_meets F.slot_int_rmul (typeIs_int s 1 t) F.entry_int_rmul (F.args_int_rmul_2 _ _) (int_rmul_tuple 1 t l its.toArray n dd sl)
        ⟨ho, rfl, ⟨_, ho, rfl⟩, call_meets F.slot_tuple_mul ⟨_, ho, rfl⟩ F.entry_tuple_mul (F.args_tuple_mul_2 _ _) (tuple_mul1 l its.toArray n dd sl t) ⟨ho, ?_⟩⟩)
    exact ⟨.ref l, H, I, rfl, q⟩
  · refine wpAny_binaryOp_repeat_ref (T := "tuple") (U := "int") (by decide) ⟨_, ho, rfl⟩ (fun s' => typeIs_int s' k t) noFill_tuple_mul F.fills_int_mul F.slot_int_rmul repeat_tuple F.slot_int_index.lookup
      (call_meets F.slot_int_rmul (typeIs_int s k t) F.entry_int_rmul (F.args_int_rmul_2 _ _) (int_rmul_tuple k t l its.toArray n dd sl)
        ⟨ho, rfl, ⟨_, ho, rfl⟩, call_meets F.slot_tuple_mul ⟨_, ho, rfl⟩ F.entry_tuple_mul (F.args_tuple_mul_2 _ _) (tuple_mul0 l its.toArray n dd sl k t
          (by rw [decide_eq_false (by omega), decide_eq_false (by omega)]; rfl) (by rw [hi, Bool.false_or]; exact beq_eq_false_iff_ne.mpr (by omega)) (by rw [decide_eq_true k2]; rfl)) ⟨ho, ?_⟩⟩)
    refine ⟨.ref s.heap.objs.size, _, I.laid (t' := s.toks) (o := .tup []) (fun b ob q => Heap.get?_push_of_some _ q) (Nat.le_refl _) ?_, rfl, q _ (I.hok.fresh (Nat.le_refl _))⟩
    exact ⟨Nat.zero_le _, [], .nil, IsTup.new _ _⟩
/-! ### the sum of a tuple of whole numbers -/
def rSumT (K : PySem.W.Frag) : List V → Hp → VK → Prop := fun vs H Q => ∃ (a : Addr) (ns : List Int), vs = [V.ref a] ∧ SqT K H a (ns.map V.int) ∧ Q (.int ns.sum) H
theorem cr_sumT (hc : X.calm = true) : CallR X (.builtin "sum") (rSumT X.K) := by
  intro pins s σ H vs us Q I r h
  obtain ⟨a, ns, rfl, hs, q⟩ := h
  obtain ⟨its, rv, hl, _⟩ := I.tuple hs
  rw [Vals.ref1 r]
  obtain ⟨xs, e⟩ := rv.ints.allInts.items
  have hn : numsOf (intItems xs).toList = ns := by rw [← e]; exact rv.ints.numsOf
  rw [nums_intItems] at hn
  have hl : s.heap.IsTuple a (intItems xs) := by rw [← e]; exact hl
  have lt : a < s.heap.objs.size := by obtain ⟨_, z, _⟩ := hl; exact Heap.lt_size z
  refine call_sum_walkG (wpAny_pyIter_tuple hl ?_)
  refine ⟨_, _, _, _, _, _, numAt xs, rfl, Walks.tuple (A := X.A.in1) (I.ok.hd hc) s.heap.objs.size a (Nat.ne_of_lt lt) (intItems xs), ⟨⟨_, Heap.get?_push_size _ rfl, rfl, rfl⟩, ?_⟩, fun b hb => ?_, fun _ _ => intItems_at, fun h' tk t' hk => ?_⟩
  · obtain ⟨o, z, rest⟩ := hl
    exact ⟨o, Heap.get?_push_of_some _ z, rest⟩
  · show b < (s.heap.push _).objs.size
    rw [Heap.size_push]
    rcases List.mem_cons.mp hb with rfl | hb
    · exact Nat.lt_succ_self _
    · rw [List.mem_singleton.mp hb]
      exact Nat.lt_succ_of_lt lt
  · have ex : preSum (numAt xs) (intItems xs).size = ns.sum := by
      rw [preSum_eq, List.take_of_length_le (by simp [intItems]), hn]
    rw [ex]
    refine ⟨.int ns.sum, H, I.kept (t' := tk) fun b o z => hk b o (fun hm => ?_) (Heap.get?_push_of_some _ z), ⟨_, rfl⟩, q⟩
    rw [List.mem_singleton.mp hm] at z
    exact absurd (Heap.lt_size z) (Nat.lt_irrefl _)
/-! ### list(range(..)) -/
/-- an expression that makes a range -/
def PRc (X : Cx) (e : Expr) (t : L2.St → Hp → (Int → Int → Int → Hp → Prop) → Prop) : Prop :=
  ∀ (pins : List (Addr × Obj)) (s : Shared) (σ : L2.St) (H : Hp) (Q : Int → Int → Int → Hp → Prop), Inv X pins σ H s → t σ H Q →
    wpAny (model X.prog X.w) X.A (eval e X.env) (fun x s' => ∃ r lo hi c t u v H', x = .ref r ∧ IsRange s'.heap r lo hi c t u v ∧ Inv X pins σ H' s' ∧ Q lo hi c H') X.xe s
/-- the range that these arguments tell -/
def RgA (vs : List V) (lo hi c : Int) : Prop := (vs = [.int hi] ∧ lo = 0 ∧ c = 1) ∨ (vs = [.int lo, .int hi] ∧ c = 1) ∨ (vs = [.int lo, .int hi, .int c] ∧ c ≠ 0 ∧ c.natAbs < 1073741824)
def tRc (ta : TA) : L2.St → Hp → (Int → Int → Int → Hp → Prop) → Prop := fun σ H Q => ta σ H fun vs H1 => ∃ lo hi c, RgA vs lo hi c ∧ Q lo hi c H1
theorem prc {a : Expr} {es : List Expr} {ta : TA} {p pos : Pos} (hg : Gl X "range") (hm : X.mg "range" = none) (ha : PA X (a :: es) ta) (hs : starEach (a :: es) X.env = (false, eval a X.env) :: starEach es X.env) (hpl : (backTo pos (starEach es X.env)).any (·.1) = false) :
    PRc X (.Call (.Name "range" p) (a :: es) [] pos) (tRc ta) := by
  intro pins s σ H Q I h
  refine Call_ (ld_blt I hg hm boot_range (PyProof.Rows.callWith_type1 (thn (ha.run pos pins s σ H _ I h) fun us s1 ⟨vs, H1, I1, r1, q1⟩ => ?_) hs hpl))
  obtain ⟨lo, hi, c, z, q⟩ := q1
  rcases z with ⟨rfl, rfl, rfl⟩ | ⟨rfl, rfl⟩ | ⟨rfl, c0, c1⟩
  · obtain ⟨u, rfl, t, rfl⟩ := vals1 r1
    exact call_range_1 ⟨_, 0, hi, 1, _, _, _, H1, rfl, IsRange.new _ _ _ _ _ _ _, I1.kept fun b u e => Heap.get?_push_of_some _ e, q⟩
  · obtain ⟨u1, u2, rfl, ⟨t, rfl⟩, ⟨t', rfl⟩⟩ := vals2 r1
    exact call_range_2 ⟨_, lo, hi, 1, _, _, _, H1, rfl, IsRange.new _ _ _ _ _ _ _, I1.kept fun b u e => Heap.get?_push_of_some _ e, q⟩
  · cases r1 with | cons g1 r1 => cases r1 with | cons g2 r1 => cases r1 with | cons g3 r1 =>
    cases r1
    obtain ⟨t, rfl⟩ := g1
    obtain ⟨t', rfl⟩ := g2
    obtain ⟨t'', rfl⟩ := g3
    exact call_range_3 c0 ⟨_, lo, hi, c, _, _, _, H1, rfl, IsRange.new _ _ _ _ _ _ _, I1.kept fun b u e => Heap.get?_push_of_some _ e, q⟩ (.inl (PyProof.noPylong_small c1))
def tLstRc (te : L2.St → Hp → (Int → Int → Int → Hp → Prop) → Prop) : TE := fun σ H Q => te σ H fun lo hi c H1 => ∃ n : Nat, Builtin.Range.small lo hi c = true ∧ Builtin.Range.rangeSize lo hi c = n ∧ n ≤ 2 ^ 24 ∧ ∀ q, H1 q = none → Q (.ref q) (upd H1 q (.lst ((List.range n).map fun (i : Nat) => V.int (lo + i * c))))
theorem pe_listRc {e : Expr} {te : L2.St → Hp → (Int → Int → Int → Hp → Prop) → Prop} {p pos : Pos} (hc : X.calm = true) (hg : Gl X "list") (hm : X.mg "list" = none) (he : PRc X e te) (na : starEach [e] X.env = (false, eval e X.env) :: starEach [] X.env) : PE X (.Call (.Name "list" p) [e] [] pos) (tLstRc te) := by
  refine ⟨fun pins s σ H Q I h => ?_⟩
  refine Call_ (ld_blt I hg hm (by decide +kernel : bootBuiltins "list" = some (.type "list")) (PyProof.Rows.callWith_type1 (args_cons (thn (he pins s σ H _ I h) fun x s1 ⟨r, lo, hi, c, t, u, v, H1, ex, hr, I1, n, ok, hn, hz, q⟩ => args_nil ?_) na) na))
  subst ex
  refine call_list_range (n := n) (I1.ok.hd hc) hr ok hn hz fun h' tk acc c' hk e' hi => ?_
  have vs : Vals ((List.range n).map fun (i : Nat) => V.int (lo + i * c)) acc.toList := by
    have e : acc.toList.length = n := by rw [Array.length_toList]; exact hi.1
    rw [← e]
    refine vals_of_get acc.toList _ fun j u hj => ?_
    obtain ⟨t, rfl⟩ := hi.2 j u (by rw [← hj, Array.getElem?_toList])
    exact ⟨t, rfl⟩
  refine ⟨.ref s1.heap.objs.size, upd H1 s1.heap.objs.size _, I1.laid hk (Nat.le_refl _) (show ObjOk X.prog X.w _ _ _ (.lst ((List.range n).map fun (i : Nat) => V.int (lo + i * c))) from ⟨?_, acc.toList, c', vs, ?_⟩), rfl, q _ (I1.hok.fresh (Nat.le_refl _))⟩
  · rw [List.length_map, List.length_range, sizeLine_eq]; omega
  · rw [Array.toArray_toList]; exact e'
end
end PL

set_option Elab.async false
set_option linter.all false
set_option maxRecDepth 100000
/-! PLA: a small evaluator over plain data: what a def computes, as a function. -/
namespace PL
open PySem

abbrev Ky := Sum Int Str
inductive D where
  | non | bl (b : Bool) | int (i : Int) | str (x : Str) | tup (xs : List D) | lst (xs : List D) | dct (kvs : List (Ky × D)) | ref (n : Nat) | scr (ns : List Int)
inductive Ob where
  | lst (xs : List D) | dct (kvs : List (Ky × D)) | dtt (kvs : List (List Ky × D)) | ins (c : Nat) (fs : List (Nat × D))
abbrev Store := List Ob
abbrev Env := List (Option D)

inductive R (α : Type) where
  | ok (a : α) (S : Store) | ex (c : Nat) (S : Store) | bad
def R.bind {α β : Type} (r : R α) (f : α → Store → R β) : R β := match r with
  | .ok a S => f a S
  | .ex c S => .ex c S
  | .bad => .bad
@[simp] theorem R.bind_ok {α β : Type} (a : α) (S : Store) (f : α → Store → R β) : (R.ok a S).bind f = f a S := rfl
@[simp] theorem R.bind_ex {α β : Type} (c : Nat) (S : Store) (f : α → Store → R β) : (R.ex c S).bind f = .ex c S := rfl
@[simp] theorem R.bind_bad {α β : Type} (f : α → Store → R β) : (R.bad : R α).bind f = .bad := rfl
def R.of {α : Type} (o : Option α) (S : Store) : R α := match o with
  | some a => .ok a S
  | none => .bad
@[simp] theorem R.of_some {α : Type} (a : α) (S : Store) : R.of (some a) S = .ok a S := rfl
@[simp] theorem R.of_none {α : Type} (S : Store) : R.of (none : Option α) S = .bad := rfl
inductive RS where
  | nx (env : Env) (S : Store) | rt (d : D) (S : Store) | ex (c : Nat) (env : Env) (S : Store) | bad
def RS.andThen (r : RS) (f : Env → Store → RS) : RS := match r with
  | .nx env S => f env S
  | r => r
@[simp] theorem RS.andThen_nx (env : Env) (S : Store) (f) : (RS.nx env S).andThen f = f env S := rfl
@[simp] theorem RS.andThen_rt (d : D) (S : Store) (f) : (RS.rt d S).andThen f = .rt d S := rfl
@[simp] theorem RS.andThen_ex (c : Nat) (env : Env) (S : Store) (f) : (RS.ex c env S).andThen f = .ex c env S := rfl
@[simp] theorem RS.andThen_bad (f) : RS.bad.andThen f = .bad := rfl
/-- nothing is raised in an except suite -/
def RS.calm (r : RS) : RS := match r with
  | .ex _ _ _ => .bad
  | r => r
@[simp] theorem RS.calm_nx (env : Env) (S : Store) : (RS.nx env S).calm = .nx env S := rfl
@[simp] theorem RS.calm_rt (d : D) (S : Store) : (RS.rt d S).calm = .rt d S := rfl
/-- a value within a statement -/
def R.stm {α : Type} (r : R α) (env : Env) (f : α → Store → RS) : RS := match r with
  | .ok a S => f a S
  | .ex c S => .ex c env S
  | .bad => .bad
@[simp] theorem R.stm_ok {α : Type} (a : α) (S : Store) (env f) : (R.ok a S).stm env f = f a S := rfl
@[simp] theorem R.stm_ex {α : Type} (c : Nat) (S : Store) (env) (f : α → Store → RS) : (R.ex c S).stm env f = .ex c env S := rfl
@[simp] theorem R.stm_bad {α : Type} (env) (f : α → Store → RS) : (R.bad : R α).stm env f = .bad := rfl

inductive BOp where | add | sub | mul | mod | fdiv deriving DecidableEq
inductive COp where | eq | ne | lt | le | gt | ge | inn | nin | iss | nis deriving DecidableEq
inductive Bf where | len | all | any | sum | tuple | list | sorted | str | int | max | min deriving DecidableEq
inductive Bm where | append | split | join | partition | find | index | startswith | upper | pop | get | setdefault | count | popL deriving DecidableEq
inductive IK where | plain | rng1 | rng2 | rng3 | enum | zip | items | keys deriving DecidableEq
inductive Tg where | one (i : Nat) | many (is : List Nat)

inductive E where
  | var (i : Nat) | con (d : D) | glb (j : Nat)
  | bin (o : BOp) (a b : E) | cmp (o : COp) (a b : E) | chain (o o' : COp) (a b c : E) | isn (a : E) | ntn (a : E) | isb (a : E) (k : Bool) | nsb (a : E) (k : Bool)
  | neg (a : E) | nt (a : E) | and (a b : E) | or (a b : E) | ite (c a b : E) | isa (a : E) (t : Nat)
  | call (f : Nat) (as : E) | meth (c : Nat) (o : E) (m : Nat) (as : E) | mk (c : Nat) (as : E) | bf (f : Bf) (as : E) | bm (m : Bm) (o as : E)
  | ix (a i : E) | sl (a lo hi : E) | sl3 (a lo hi : E) (st : Int) | fld (c : Nat) (o : E) (f : Nat) | tup (as : E) | lst (as : E) | dict0 | dict (ks vs : E)
  | comp (k : IK) (src : E) (tg : Tg) (cond elt : E) | fstr (as : E) | fmt (e : E) | new (e : E)
  | nil | cons (a as : E) | emp | one (e : E) | val (e : E) | din (ng : Bool) (a b : E) | dix (a i : E) | lrng (k : IK) (as : E)
inductive T where
  | nil | asg (i : Nat) (e : E) (k : T) | asgT (is : List Nat) (e : E) (k : T) | exp (e : E) (k : T) | fldS (c : Nat) (o : E) (f : Nat) (e : E) (k : T) | setI (o i e : E) (k : T)
  | ret (e : E) | ifs (c : E) (a b k : T) | whl (c : E) (b k : T) | for_ (ik : IK) (src : E) (tg : Tg) (b k : T) | rais (c : Nat) | tr (b : T) (cs : List Nat) (h k : T) | tr2 (b : T) (c : Nat) (h : T) (c' : Nat) (h' k : T)

/-! ### values -/
def SZ : Nat := 16777216
mutual
def noRef : D → Bool
  | .tup xs => noRefs xs
  | .lst xs => noRefs xs
  | .dct kvs => noRefK kvs
  | .ref _ => false
  | _ => true
def noRefs : List D → Bool
  | [] => true
  | x :: xs => noRef x && noRefs xs
def noRefK : List (Ky × D) → Bool
  | [] => true
  | (_, x) :: xs => noRef x && noRefK xs
end
/-- a saying's truth, closed to the kernel -/
noncomputable def tst (p : Prop) : Bool := @decide p (Classical.propDecidable p)
theorem tst_iff {p : Prop} : tst p = true ↔ p := by unfold tst; exact @decide_eq_true_iff p (Classical.propDecidable p)
theorem tst_of {p : Prop} (h : p) : tst p = true := tst_iff.mpr h
noncomputable def small (i : Int) : Bool := tst (-(2 ^ 64) < i ∧ i < 2 ^ 64)
/-- the items of a list, frozen or in the store -/
def lstOf (d : D) (S : Store) : Option (List D) := match d with
  | .lst xs => some xs
  | .ref n => match S[n]? with
    | some (.lst xs) => some xs
    | _ => none
  | _ => none
def seqOf (d : D) (S : Store) : Option (List D) := match d with
  | .tup xs => some xs
  | .scr ns => some (ns.map .int)
  | d => lstOf d S
def dctOf (d : D) (S : Store) : Option (List (Ky × D)) := match d with
  | .dct xs => some xs
  | .ref n => match S[n]? with
    | some (.dct xs) => some xs
    | _ => none
  | _ => none
def truthy (d : D) (S : Store) : Option Bool := match d with
  | .non => some false
  | .bl b => some b
  | .int i => some (i != 0)
  | .str x => if x.length ≤ SZ then some (x.length != 0) else none
  | .tup xs => some (!xs.isEmpty)
  | .lst xs => some (!xs.isEmpty)
  | .dct _ => none
  | .scr _ => none
  | .ref n => match S[n]? with
    | some (.lst xs) => some (!xs.isEmpty)
    | some (.dct xs) => some (!xs.isEmpty)
    | _ => none
def isNonD : D → Bool
  | .non => true
  | _ => false
def negD : D → Option D
  | .int i => some (.int (-i))
  | _ => none
def addD (x y : D) (S : Store) : Option D := match x, y with
  | .int i, .int j => some (.int (i + j))
  | .str a, .str b => if a.length + b.length ≤ SZ then some (.str (a ++ b)) else none
  | .tup a, .tup b => if a.length + b.length ≤ SZ then some (.tup (a ++ b)) else none
  | x, y => match lstOf x S, lstOf y S with
    | some a, some b => if a.length + b.length ≤ SZ then some (.lst (a ++ b)) else none
    | _, _ => none
def subD (x y : D) : Option D := match x, y with
  | .int i, .int j => some (.int (i - j))
  | _, _ => none
noncomputable def mulD (x y : D) (S : Store) : Option D := match x, y with
  | .int i, .int j => if small i || small j then some (.int (i * j)) else none
  | .tup a, .int k => if -1000 ≤ k ∧ k ≤ 1000 ∧ a.length ≤ 1000 ∧ a ≠ [] then some (.tup (List.replicate k.toNat a).flatten) else none
  | x, .int k => match lstOf x S with
    | some a => if 0 ≤ k ∧ k ≤ 1000 ∧ a.length ≤ 1000 then some (.lst (List.replicate k.toNat a).flatten) else none
    | none => none
  | _, _ => none
def modD (x y : D) : Option D := match x, y with
  | .int i, .int j => if 0 < j then some (.int (i % j)) else none
  | _, _ => none
def fdivD (x y : D) : Option D := match x, y with
  | .int i, .int j => if 0 < j ∧ j < 2 ^ 64 then some (.int (i / j)) else none
  | _, _ => none
noncomputable def bop (o : BOp) (x y : D) (S : Store) : Option D := match o with
  | .add => addD x y S
  | .sub => subD x y
  | .mul => mulD x y S
  | .mod => modD x y
  | .fdiv => fdivD x y
mutual
/-- plain data for the model's == -/
def pyT : D → PyData
  | .bl b => .bool b
  | .int i => .int i
  | .str x => .str x
  | .tup xs => .tuple (pyTs xs)
  | .lst xs => .list (pyTs xs)
  | _ => .none
def pyTs : List D → List PyData
  | [] => []
  | x :: xs => pyT x :: pyTs xs
end
mutual
/-- data at most n deep -/
def sh (n : Nat) : D → Bool
  | .non => true
  | .bl _ => true
  | .int _ => true
  | .str x => PyData.strOk x
  | .tup xs => match n with
    | 0 => false
    | m + 1 => shs m xs
  | .lst xs => match n with
    | 0 => false
    | m + 1 => shs m xs
  | _ => false
def shs (n : Nat) : List D → Bool
  | [] => true
  | x :: xs => sh n x && shs n xs
end
def eqv2 (x y : D) : Bool := PyData.eqv (pyT x) (pyT y)
/-- == of data: none where it isn't data -/
def eqD (x y : D) : Option Bool := match x, y with
  | .int i, .int j => some (decide (i = j))
  | .str i, .str j => some (decide (i = j))
  | .bl i, .bl j => some (decide (i = j))
  | x, y => if sh 8 x && sh 8 y then some (eqv2 x y) else none
/-- data for ==, lists of the store read -/
def frz1 (d : D) (S : Store) : D := match d with
  | .ref n => match S[n]? with
    | some (.lst xs) => .lst xs
    | _ => .ref n
  | d => d
def flatD : D → Bool
  | .non => true | .bl _ => true | .int _ => true | .str _ => true | _ => false
/-- x == y of flat things of one kind; of unlike kinds false; bools with ints aside -/
def flatEq (x y : D) : Option Bool := match x, y with
  | .int i, .int j => some (decide (i = j))
  | .str i, .str j => some (decide (i = j))
  | .bl i, .bl j => some (decide (i = j))
  | .non, .non => some true
  | .bl _, .int _ => none
  | .int _, .bl _ => none
  | .non, .int _ => some false | .non, .str _ => some false | .non, .bl _ => some false
  | .int _, .non => some false | .str _, .non => some false | .bl _, .non => some false
  | .int _, .str _ => some false | .str _, .int _ => some false | .bl _, .str _ => some false | .str _, .bl _ => some false
  | _, _ => none
def memF (x : D) : List D → Option Bool
  | [] => some false
  | y :: ys => match flatEq y x, memF x ys with
    | some a, some b => some (a || b)
    | _, _ => none
def keyOf : D → Option Ky
  | .int i => some (.inl i)
  | .str x => some (.inr x)
  | _ => none
def getK (kvs : List (Ky × D)) (k : Ky) : Option D := match kvs with
  | [] => none
  | (a, d) :: r => if a = k then some d else getK r k
def setK (kvs : List (Ky × D)) (k : Ky) (v : D) : List (Ky × D) := if (kvs.any fun e => decide (e.1 = k)) = true then kvs.map fun e => if e.1 = k then (e.1, v) else e else kvs ++ [(k, v)]
def delK (kvs : List (Ky × D)) (k : Ky) : List (Ky × D) := kvs.filter fun e => decide (e.1 ≠ k)
/-- sub in a text -/
def inS (a b : Str) : Bool := !(Builtin.Str.occurrences b a 0 b.length 1).isEmpty
def ordD (p : Int → Int → Bool) (x y : D) : Option Bool := match x, y with
  | .int i, .int j => some (p i j)
  | _, _ => none
def inD (x y : D) (S : Store) : Option Bool := match x, y with
  | .str a, .str b => some (inS a b)
  | x, y => match seqOf y S with
    | some xs => memF x xs
    | none => none
/-- k in d -/
def dinD (x y : D) (S : Store) : Option Bool := match dctOf y S with
  | some kvs => (keyOf x).map fun k => (getK kvs k).isSome
  | none => none
/-- d[k] -/
def dixD (y x : D) (S : Store) : Option D := match dctOf y S with
  | some kvs => (keyOf x).bind (getK kvs)
  | none => none
/-- a dict of the store -/
def dctR (d : D) (S : Store) : Option (List (Ky × D)) := match d with
  | .ref n => match S[n]? with
    | some (.dct xs) => some xs
    | _ => none
  | _ => none
/-- the same keys with the same plain data -/
noncomputable def dEq (a b : List (Ky × D)) : Bool := tst (a.length = b.length ∧ ∀ p ∈ a, getK b p.1 = some p.2 ∧ sh 8 p.2 = true)
noncomputable def cop (o : COp) (x y : D) (S : Store) : Option Bool := match o with
  | .lt => ordD (fun i j => decide (i < j)) x y
  | .le => ordD (fun i j => decide (i ≤ j)) x y
  | .gt => ordD (fun i j => decide (j < i)) x y
  | .ge => ordD (fun i j => decide (j ≤ i)) x y
  | .eq => match dctR x S, dctR y S with
    | some a, some b => if dEq a b then some true else none
    | _, _ => eqD (frz1 x S) (frz1 y S)
  | .ne => match dctR x S, dctR y S with
    | some a, some b => if dEq a b then some false else none
    | _, _ => (eqD (frz1 x S) (frz1 y S)).map not
  | .inn => if flatD x then inD x y S else none
  | .nin => if flatD x then (inD x y S).map not else none
  | .iss => match x, y with
    | .bl i, .bl j => some (decide (i = j))
    | _, _ => none
  | .nis => match x, y with
    | .bl i, .bl j => some (!decide (i = j))
    | _, _ => none
def isaD (t : Nat) (d : D) : Bool := match t, d with
  | 0, .int _ => true
  | 0, .bl _ => true
  | 1, .bl _ => true
  | 2, .str _ => true
  | 3, .tup _ => true
  | _, _ => false
def cutD {α : Type} (xs : List α) (lo hi : Option Int) : List α := (xs.drop (HT.sIx xs.length 0 lo)).take (HT.sIx xs.length xs.length hi - HT.sIx xs.length 0 lo)
def getD_ (x y : D) (S : Store) : Option D := match x, y with
  | .str z, .int i => if z.length ≤ SZ then (L2.atI z.cps.toList i).map fun c => .str ⟨#[c]⟩ else none
  | x, y => match seqOf x S with
    | some xs => match y with
      | .int i => L2.atI xs i
      | _ => none
    | none => none
def part : D → Option (Option Int)
  | .int i => some (some i)
  | _ => none
def slD (x : D) (lo hi : Option Int) (S : Store) : Option D := match x with
  | .str z => if z.length ≤ SZ then some (.str (L2.cutS z lo hi)) else none
  | .tup xs => some (.tup (cutD xs lo hi))
  | .scr ns => some (.lst (cutD (ns.map .int) lo hi))
  | x => match lstOf x S with
    | some xs => some (.lst (cutD xs lo hi))
    | none => none
def rngD (lo c : Int) (n : Nat) : List D := (List.range n).map fun (k : Nat) => .int (lo + k * c)
noncomputable def b62 (i : Int) : Bool := tst (-(2 ^ 62) ≤ i ∧ i < 2 ^ 62)
inductive Itr where
  | items (xs : List D) | live (n : Nat) (en : Bool)
def chars (x : Str) : List D := x.cps.toList.map fun c => .str ⟨#[c]⟩
def kyD : Ky → D
  | .inl i => .int i
  | .inr x => .str x
def enumD (xs : List D) : List D := (List.range xs.length).zipWith (fun (k : Nat) x => .tup [.int k, x]) xs
noncomputable def mkIt (k : IK) (as : List D) (S : Store) : Option Itr := match k, as with
  | .plain, [.tup xs] => some (.items xs)
  | .plain, [.lst xs] => some (.items xs)
  | .plain, [.str x] => some (.items (chars x))
  | .keys, [.dct kvs] => some (.items (kvs.map fun p => kyD p.1))
  | .plain, [.ref n] => match S[n]? with
    | some (.lst _) => some (.live n false)
    | _ => none
  | .rng1, [.int j] => if b62 j then some (.items (rngD 0 1 j.toNat)) else none
  | .rng2, [.int i, .int j] => if b62 i && b62 j then some (.items (rngD i 1 (j - i).toNat)) else none
  | .rng3, [.int i, .int j, .int c] => if b62 i && b62 j && tst (0 < c ∧ c < 1000000) then some (.items (rngD i c ((j - i + c - 1) / c).toNat)) else none
  | .enum, [.tup xs] => some (.items (enumD xs))
  | .enum, [.lst xs] => some (.items (enumD xs))
  | .enum, [.ref n] => match S[n]? with
    | some (.lst _) => some (.live n true)
    | _ => none
  | .zip, [.tup xs, .tup ys] => some (.items (xs.zipWith (fun x y => .tup [x, y]) ys))
  | .zip, [.lst xs, .lst ys] => some (.items (xs.zipWith (fun x y => .tup [x, y]) ys))
  | _, _ => none
def bindL (is : List Nat) (xs : List D) (env : Env) : Option Env := match is, xs with
  | [], [] => some env
  | i :: is, x :: xs => bindL is xs (env.set i (some x))
  | _, _ => none
def bindT (tg : Tg) (d : D) (env : Env) : Option Env := match tg, d with
  | .one i, d => some (env.set i (some d))
  | .many is, .tup xs => bindL is xs env
  | _, _ => none
end PL

set_option Elab.async false
set_option linter.all false
set_option maxRecDepth 100000
/-! PLB: the evaluator itself. -/
namespace PL
open PySem

/-! ### built-ins -/
def allB : List D → Option Bool
  | [] => some true
  | .bl b :: r => match allB r with
    | some c => some (b && c)
    | none => none
  | _ => none
def anyB : List D → Option Bool
  | [] => some false
  | .bl b :: r => match anyB r with
    | some c => some (b || c)
    | none => none
  | _ => none
def intsD : List D → Option (List Int)
  | [] => some []
  | .int i :: r => (intsD r).map (i :: ·)
  | _ => none
def strsD : List D → Option (List Str)
  | [] => some []
  | .str i :: r => (strsD r).map (i :: ·)
  | _ => none
def pairsD : List D → Option (List (Int × Int))
  | [] => some []
  | .tup [.int i, .int j] :: r => (pairsD r).map ((i, j) :: ·)
  | _ => none
def pairD (p : Int × Int) : D := .tup [.int p.1, .int p.2]
def leP (p q : Int × Int) : Bool := decide (p.1 < q.1) || (decide (p.1 = q.1) && decide (p.2 ≤ q.2))
def leS (x y : Str) : Bool := !PySem.Spec.ltCps y.cps.toList x.cps.toList
def insertBy {α : Type} (le : α → α → Bool) (x : α) : List α → List α
  | [] => [x]
  | y :: ys => if le x y then x :: y :: ys else y :: insertBy le x ys
/-- the stable sort -/
def sortBy {α : Type} (le : α → α → Bool) : List α → List α
  | [] => []
  | x :: xs => insertBy le x (sortBy le xs)
def sortD (xs : List D) : Option (List D) := match intsD xs with
  | some is => some ((sortBy (fun a b => decide (a ≤ b)) is).map .int)
  | none => match pairsD xs with
    | some ps => some ((sortBy leP ps).map pairD)
    | none => none
def keysI : List (Ky × D) → Option (List Int)
  | [] => some []
  | (.inl i, _) :: r => (keysI r).map (i :: ·)
  | _ => none
def keysS : List (Ky × D) → Option (List Str)
  | [] => some []
  | (.inr i, _) :: r => (keysS r).map (i :: ·)
  | _ => none
def lenD (d : D) (S : Store) : Option Nat := match d with
  | .str x => if x.length ≤ SZ then some x.length else none
  | d => match seqOf d S with
    | some xs => some xs.length
    | none => (dctOf d S).map (·.length)
def textOf : D → Option Str
  | .str x => some x
  | .int i => if i.natAbs.log2 < 1920 then some (toString i : String) else none
  | _ => none
def keysD (d : D) (S : Store) : Option (List D) := match dctOf d S with
  | some kvs => some (kvs.map fun p => kyD p.1)
  | none => none
def itemsOf (d : D) (S : Store) : Option (List D) := match seqOf d S with
  | some xs => some xs
  | none => keysD d S
def lenF (as : List D) (S : Store) : Option D := match as with
  | [d] => (lenD d S).map fun (n : Nat) => .int n
  | _ => none
def allF (as : List D) (S : Store) : Option D := match as with
  | [d] => ((lstOf d S).bind allB).map .bl
  | _ => none
def anyF (as : List D) (S : Store) : Option D := match as with
  | [d] => ((lstOf d S).bind anyB).map .bl
  | _ => none
def sumF (as : List D) (S : Store) : Option D := match as with
  | [.tup xs] => (intsD xs).map fun is => .int is.sum
  | [d] => ((lstOf d S).bind intsD).map fun is => .int is.sum
  | _ => none
def tupF (as : List D) (S : Store) : Option D := match as with
  | [d] => (seqOf d S).map .tup
  | _ => none
def listF (as : List D) (S : Store) : Option D := match as with
  | [d] => (itemsOf d S).map .lst
  | _ => none
def sortF (as : List D) (S : Store) : Option D := match as with
  | [d] => match seqOf d S with
    | some xs => (sortD xs).map .lst
    | none => match dctOf d S with
      | some kvs => match keysI kvs with
        | some is => if is.length ≤ SZ then some (.lst ((sortBy (fun a b => decide (a ≤ b)) is).map .int)) else none
        | none => match keysS kvs with
          | some ss => if ss.length < 64 then some (.lst ((sortBy leS ss).map .str)) else none
          | none => none
      | none => none
  | _ => none
def strF (as : List D) (S : Store) : Option D := match as with
  | [.int i] => (textOf (.int i)).map .str
  | _ => none
def intF (as : List D) (S : Store) : Option D := match as with
  | [.bl b] => some (.int (if b then 1 else 0))
  | [.str x] => if x.length ≤ 640 then (PySem.intText? x).map .int else none
  | _ => none
def maxF (as : List D) (S : Store) : Option D := match as with
  | [.int i, .int j] => some (.int (if j > i then j else i))
  | _ => none
def minF (as : List D) (S : Store) : Option D := match as with
  | [.int i, .int j] => some (.int (if j < i then j else i))
  | _ => none
def bfD (f : Bf) (as : List D) (S : Store) : Option D := match f with
  | .len => lenF as S
  | .all => allF as S
  | .any => anyF as S
  | .sum => sumF as S
  | .tuple => tupF as S
  | .list => listF as S
  | .sorted => sortF as S
  | .str => strF as S
  | .int => intF as S
  | .max => maxF as S
  | .min => minF as S

structure Fn where
  pure : Bool
  np : Nat
  nl : Nat
  body : T
def lookN {α : Type} : List (Nat × α) → Nat → Option α
  | [], _ => none
  | (a, x) :: r, i => if i = a then some x else lookN r i
theorem lookN_mem {α : Type} : ∀ {l : List (Nat × α)} {i : Nat} {x : α}, lookN l i = some x → (i, x) ∈ l
  | [], _, _, h => by cases h
  | (a, y) :: r, i, x, h => by
    simp only [lookN] at h
    split at h
    · rename_i e; cases h; subst e; exact List.mem_cons_self
    · exact List.mem_cons_of_mem _ (lookN_mem h)
structure Tab where
  fns : Nat → Option Fn
  consts : Nat → Option D
  meth : Nat → Nat → Option Nat
  init : Nat → Option Nat
  exs : List Nat

abbrev Calls := Nat → List D → Store → R D
def toTup : D → List D
  | .tup xs => xs
  | _ => []
def srcL (k : IK) (d : D) : List D := match k with
  | .plain => [d]
  | .keys => [d]
  | _ => toTup d
def fldOf (fs : List (Nat × D)) (f : Nat) : Option D := match fs with
  | [] => none
  | (g, d) :: r => if g = f then some d else fldOf r f
def fldPut (fs : List (Nat × D)) (f : Nat) (v : D) : List (Nat × D) := match fs with
  | [] => [(f, v)]
  | (g, d) :: r => if g = f then (g, v) :: r else (g, d) :: fldPut r f v
def notIns (d : D) (S : Store) : Bool := match d with
  | .ref n => match S[n]? with
    | some (.ins _ _) => false
    | some _ => true
    | none => false
  | _ => true
/-- what an instance's field holds -/
def fldD (d : D) (f : Nat) (S : Store) : Option D := match d with
  | .ref n => match S[n]? with
    | some (.ins _ fs) => fldOf fs f
    | _ => none
  | _ => none
def clsD (d : D) (S : Store) : Option Nat := match d with
  | .ref n => match S[n]? with
    | some (.ins c _) => some c
    | _ => none
  | _ => none
/-- within a text in f'..' -/
noncomputable def fmtD : D → Option Str
  | .str x => if x.length ≤ 1000000 then some x else none
  | .int i => if tst (0 ≤ i ∧ i < 10 ^ 100) then some (toString i : String) else none
  | _ => none
def catD : List D → Option Str
  | [] => some Str.empty
  | .str x :: r => (catD r).map (x ++ ·)
  | _ => none
def mkTup (xs : List D) : Option D := if xs.length ≤ SZ then some (.tup xs) else none
def mkLst (xs : List D) : Option D := if xs.length ≤ SZ then some (.lst xs) else none
/-- nothing is raised here -/
def R.quiet {α : Type} : R α → R α
  | .ex _ _ => .bad
  | r => r
@[simp] theorem R.quiet_ok {α : Type} (a : α) (S : Store) : (R.ok a S).quiet = .ok a S := rfl
/-- a turn of a comprehension -/
def goComp (body : D → Store → R (Option D)) : List D → List D → Store → R (List D)
  | [], acc, S => .ok acc S
  | x :: xs, acc, S => (body x S).bind fun o S' => match o with
    | some y => if acc.length < SZ then goComp body xs (acc ++ [y]) S' else .bad
    | none => goComp body xs acc S'
/-- within a walk over a dict's keys nothing is raised -/
def qk (k : IK) (b : D → Store → R (Option D)) : D → Store → R (Option D) := match k with
  | .keys => fun x S => (b x S).quiet
  | _ => b
theorem qk_ok {k : IK} {b : D → Store → R (Option D)} {x : D} {S S' : Store} {o : Option D} (h : b x S = .ok o S') : qk k b x S = .ok o S' := by
  cases k <;> first | exact h | (show (b x S).quiet = _; rw [h]; rfl)
def itemAt (S : Store) (n : Nat) (en : Bool) (i : Nat) : Option (Option D) := match S[n]? with
  | some (.lst xs) => some (xs[i]?.map fun x => if en then .tup [.int i, x] else x)
  | _ => none
@[irreducible] def LOOP : Nat := 1000000000
theorem LOOP_eq : LOOP = 1000000000 := by unfold LOOP; rfl
def goCompL (n : Nat) (en : Bool) (body : D → Store → R (Option D)) : Nat → Nat → List D → Store → R (List D)
  | 0, _, _, _ => .bad
  | k + 1, i, acc, S => match itemAt S n en i with
    | none => .bad
    | some none => .ok acc S
    | some (some x) => (body x S).bind fun o S' => match o with
      | some y => if acc.length < SZ then goCompL n en body k (i + 1) (acc ++ [y]) S' else .bad
      | none => goCompL n en body k (i + 1) acc S'
def goIt (it : Itr) (body : D → Store → R (Option D)) (S : Store) : R (List D) := match it with
  | .items xs => goComp body xs [] S
  | .live n en => goCompL n en body LOOP 0 [] S
def mapT (r : R D) : R Bool := r.bind fun d S => R.of (truthy d S) S
def isEmp : E → Bool
  | .emp => true
  | _ => false
def isStrD : D → Bool
  | .str _ => true
  | _ => false
def isLstR (d : D) (S : Store) : Bool := match d with
  | .ref n => match S[n]? with
    | some (.lst _) => true
    | _ => false
  | _ => false
def isDctR (d : D) (S : Store) : Bool := match d with
  | .ref n => match S[n]? with
    | some (.dct _) => true
    | _ => false
  | _ => false
def bmOk (m : Bm) (o : D) (S : Store) : Bool := match m with
  | .append => isLstR o S
  | .get => isDctR o S
  | .pop => isDctR o S
  | .setdefault => isDctR o S
  | .count => false
  | .popL => isLstR o S
  | _ => isStrD o
def bmStr (m : Bm) (a : Str) (as : List D) (S : Store) : Option D := match m, as with
  | .split, [.str b] => if b.length ≠ 0 ∧ a.length + 2 ≤ SZ then some (.lst ((Txt.split a b).map .str)) else none
  | .partition, [.str b] => if b.length ≠ 0 ∧ a.length ≤ SZ then some (.tup [.str (Txt.partition a b).1, .str (Txt.partition a b).2.1, .str (Txt.partition a b).2.2]) else none
  | .join, [x] => match seqOf x S with
    | some xs => match strsD xs with
      | some ys => if (ys.map (·.length)).sum + ys.length * a.length ≤ SZ then some (.str (Txt.join a ys)) else none
      | none => none
    | none => none
  | .find, [.str b] => some (.int (Txt.find a b))
  | .index, [.str b] => (Txt.index0 a b).map fun (k : Nat) => .int k
  | .startswith, [.str b] => some (.bl (Txt.startswith a b))
  | .upper, [] => if a.length ≤ 5592405 then some (.str (Txt.upper a)) else none
  | _, _ => none
def bmD (m : Bm) (o : D) (as : List D) (S : Store) : R D := match m, o, as with
  | .append, .ref n, [y] => match S[n]? with
    | some (.lst xs) => if xs.length < SZ then .ok .non (S.set n (.lst (xs ++ [y]))) else .bad
    | _ => .bad
  | .get, o, [k] => match dctOf o S, keyOf k with
    | some kvs, some k => .ok ((getK kvs k).getD .non) S
    | _, _ => .bad
  | .get, o, [k, x] => match dctOf o S, keyOf k with
    | some kvs, some k => .ok ((getK kvs k).getD x) S
    | _, _ => .bad
  | .pop, .ref n, [k] => match S[n]?, keyOf k with
    | some (.dct kvs), some k => match getK kvs k with
      | some v => .ok v (S.set n (.dct (delK kvs k)))
      | none => .bad
    | _, _ => .bad
  | .pop, .ref n, [k, x] => match S[n]?, keyOf k with
    | some (.dct kvs), some k => match getK kvs k with
      | some v => .ok v (S.set n (.dct (delK kvs k)))
      | none => .ok x S
    | _, _ => .bad
  | .popL, .ref n, [.int i] => match S[n]? with
    | some (.lst xs) => if 0 ≤ i ∧ xs.length < SZ then (match xs[i.toNat]? with
      | some v => .ok v (S.set n (.lst (xs.eraseIdx i.toNat)))
      | none => .bad) else .bad
    | _ => .bad
  | .setdefault, .ref n, [k, x] => match S[n]?, keyOf k with
    | some (.dct kvs), some k => if kvs.length < SZ then (match getK kvs k with
      | some v => .ok v S
      | none => .ok x (S.set n (.dct (setK kvs k x)))) else .bad
    | _, _ => .bad
  | m, .str a, as => R.of (bmStr m a as S) S
  | _, _, _ => .bad
/-- which places a slice with a step picks -/
def stepIx (n : Nat) (lo hi : Option Int) (st : Int) : List Nat :=
  (List.range (Builtin.Slice.slicePlaces (Builtin.Slice.sliceAdjust lo hi st n).1 (Builtin.Slice.sliceAdjust lo hi st n).2 st)).map fun (k : Nat) => ((Builtin.Slice.sliceAdjust lo hi st n).1 + (k : Int) * st).toNat
def stepD {α : Type} (xs : List α) (lo hi : Option Int) (st : Int) : List α := (stepIx xs.length lo hi st).filterMap (xs[·]?)
/-- t[lo:hi:step], of tuples and lists; the step no 0, no 1 -/
def sl3D (x : D) (lo hi : Option Int) (st : Int) (S : Store) : Option D := if st ≠ 0 ∧ st ≠ 1 then (match x with
  | .tup xs => some (.tup (stepD xs lo hi st))
  | .scr ns => some (.lst (stepD (ns.map .int) lo hi st))
  | x => match lstOf x S with
    | some xs => some (.lst (stepD xs lo hi st))
    | none => none) else none
/-- a display's keys -/
def keysE : E → Option (List Str)
  | .nil => some []
  | .cons (.con (.str x)) r => (keysE r).map (x :: ·)
  | _ => none
def mergeD (ds : List (Ky × D)) : List (Ky × D) := ds.foldl (fun acc kv => setK acc kv.1 kv.2) []
noncomputable def ev (G : Tab) (call : Calls) : E → Env → Store → R D
  | .var i, env, S => match env[i]? with
    | some (some d) => .ok d S
    | _ => .bad
  | .con d, _, S => .ok d S
  | .glb j, _, S => R.of (G.consts j) S
  | .bin o a b, env, S => (ev G call a env S).bind fun x S => (ev G call b env S).bind fun y S => R.of (bop o x y S) S
  | .cmp o a b, env, S => (ev G call a env S).bind fun x S => (ev G call b env S).bind fun y S => R.of ((cop o x y S).map .bl) S
  | .chain o o' a b c, env, S => (ev G call a env S).bind fun x S => (ev G call b env S).bind fun y S => (R.of (cop o x y S) S).bind fun k S =>
      if k then (ev G call c env S).bind fun z S => R.of ((cop o' y z S).map .bl) S else .ok (.bl false) S
  | .isn a, env, S => (ev G call a env S).bind fun x S => .ok (.bl (isNonD x)) S
  | .ntn a, env, S => (ev G call a env S).bind fun x S => .ok (.bl (!isNonD x)) S
  | .isb a k, env, S => (ev G call a env S).bind fun x S => match x with | .bl b => .ok (.bl (b == k)) S | _ => .bad
  | .nsb a k, env, S => (ev G call a env S).bind fun x S => match x with | .bl b => .ok (.bl (b != k)) S | _ => .bad
  | .neg a, env, S => (ev G call a env S).bind fun x S => R.of (negD x) S
  | .nt a, env, S => (mapT (ev G call a env S)).bind fun k S => .ok (.bl (!k)) S
  | .and a b, env, S => (ev G call a env S).bind fun x S => (R.of (truthy x S) S).bind fun k S => if k then ev G call b env S else .ok x S
  | .or a b, env, S => (ev G call a env S).bind fun x S => (R.of (truthy x S) S).bind fun k S => if k then .ok x S else ev G call b env S
  | .ite c a b, env, S => (mapT (ev G call c env S)).bind fun k S => if k then ev G call a env S else ev G call b env S
  | .isa a t, env, S => (ev G call a env S).bind fun x S => if notIns x S then .ok (.bl (isaD t x)) S else .bad
  | .call f as, env, S => (ev G call as env S).bind fun xs S => call f (toTup xs) S
  | .meth c o m as, env, S => (ev G call o env S).bind fun x S => match clsD x S, G.meth c m with
    | some c', some f => if c' = c then (ev G call as env S).bind fun xs S => call f (x :: toTup xs) S else .bad
    | _, _ => .bad
  | .mk c as, env, S => (ev G call as env S).bind fun xs S => match G.init c with
    | some f => (call f (.ref S.length :: toTup xs) (S ++ [.ins c []])).bind fun d S' => match d with
      | .non => .ok (.ref S.length) S'
      | _ => .bad
    | none => .bad
  | .bf f as, env, S => (ev G call as env S).bind fun xs S => R.of (bfD f (toTup xs) S) S
  | .bm m o as, env, S => (ev G call o env S).bind fun x S => if bmOk m x S then (ev G call as env S).bind fun xs S => bmD m x (toTup xs) S else .bad
  | .ix a i, env, S => (ev G call a env S).bind fun x S => (ev G call i env S).bind fun y S => R.of (getD_ x y S) S
  | .sl a lo hi, env, S => (ev G call a env S).bind fun x S => (if isEmp lo then .ok none S else (ev G call lo env S).bind fun d S => R.of (part d) S).bind fun l S => (if isEmp hi then .ok none S else (ev G call hi env S).bind fun d S => R.of (part d) S).bind fun h S => R.of (slD x l h S) S
  | .sl3 a lo hi st, env, S => (ev G call a env S).bind fun x S => (if isEmp lo then .ok none S else (ev G call lo env S).bind fun d S => R.of (part d) S).bind fun l S => (if isEmp hi then .ok none S else (ev G call hi env S).bind fun d S => R.of (part d) S).bind fun h S => R.of (sl3D x l h st S) S
  | .fld c o f, env, S => (ev G call o env S).bind fun x S => if clsD x S = some c then R.of (fldD x f S) S else .bad
  | .tup as, env, S => (ev G call as env S).bind fun xs S => R.of (mkTup (toTup xs)) S
  | .lst as, env, S => (ev G call as env S).bind fun xs S => R.of (mkLst (toTup xs)) S
  | .dict0, env, S => .ok (.ref S.length) (S ++ [.dct []])
  | .dict ks vs, env, S => (ev G call vs env S).bind fun d S => match keysE ks with
    | some xs => if (toTup d).length = xs.length then .ok (.ref S.length) (S ++ [.dct (mergeD ((xs.map Sum.inr).zip (toTup d)))]) else .bad
    | none => .bad
  | .lrng k as, env, S => (ev G call as env S).bind fun xs S => match mkIt k (toTup xs) S with
    | some (.items ys) => if ys.length ≤ SZ then .ok (.lst ys) S else .bad
    | _ => .bad
  | .comp k src tg c e, env, S => (ev G call src env S).bind fun xs S => match mkIt k (srcL k xs) S with
    | some it => (goIt it (qk k fun x S => match bindT tg x env with
      | some env' => (mapT (ev G call c env' S)).bind fun k S => if k then (ev G call e env' S).bind fun y S => .ok (some y) S else .ok none S
      | none => .bad) S).bind fun ys S => .ok (.lst ys) S
    | none => .bad
  | .fstr as, env, S => (ev G call as env S).bind fun xs S => R.of ((catD (toTup xs)).map .str) S
  | .fmt e, env, S => (ev G call e env S).bind fun x S => R.of ((fmtD x).map .str) S
  | .new e, env, S => (ev G call e env S).bind fun d S => match d with
    | .lst xs => .ok (.ref S.length) (S ++ [.lst xs])
    | _ => .bad
  | .nil, _, S => .ok (.tup []) S
  | .cons a as, env, S => (ev G call a env S).bind fun x S => (ev G call as env S).bind fun xs S => .ok (.tup (x :: toTup xs)) S
  | .one e, env, S => ev G call e env S
  | .val e, env, S => ev G call e env S
  | .din ng a b, env, S => (ev G call a env S).bind fun x S => (ev G call b env S).bind fun y S => R.of ((dinD x y S).map fun k => .bl (k != ng)) S
  | .dix a i, env, S => (ev G call a env S).bind fun x S => (ev G call i env S).bind fun y S => R.of (dixD x y S) S
  | .emp, _, S => .ok (.bl true) S

def goFor (body : D → Env → Store → RS) : List D → Env → Store → RS
  | [], env, S => .nx env S
  | x :: xs, env, S => (body x env S).andThen fun env S => goFor body xs env S
def goForL (n : Nat) (en : Bool) (body : D → Env → Store → RS) : Nat → Nat → Env → Store → RS
  | 0, _, _, _ => .bad
  | k + 1, i, env, S => match itemAt S n en i with
    | none => .bad
    | some none => .nx env S
    | some (some x) => (body x env S).andThen fun env S => goForL n en body k (i + 1) env S
def goForI (it : Itr) (body : D → Env → Store → RS) (env : Env) (S : Store) : RS := match it with
  | .items xs => goFor body xs env S
  | .live n en => if en then .bad else goForL n false body LOOP 0 env S
def goWhl (c : Env → Store → R Bool) (body : Env → Store → RS) : Nat → Env → Store → RS
  | 0, _, _ => .bad
  | k + 1, env, S => (c env S).stm env fun b S => if b then (body env S).andThen fun env S => goWhl c body k env S else .nx env S
def setIx (o i v : D) (S : Store) : Option Store := match o with
  | .ref n => match S[n]?, i with
    | some (.lst xs), .int k => (L2.ixN xs.length k).map fun j => S.set n (.lst (xs.set j v))
    | some (.dct kvs), i => if kvs.length < SZ then (keyOf i).map fun k => S.set n (.dct (setK kvs k v)) else none
    | _, _ => none
  | _ => none
def setFld (o : D) (f : Nat) (v : D) (S : Store) : Option Store := match o with
  | .ref n => match S[n]? with
    | some (.ins c fs) => if fs.length < 1000 then some (S.set n (.ins c (fldPut fs f v))) else none
    | _ => none
  | _ => none
noncomputable def exT (G : Tab) (call : Calls) : T → Env → Store → RS
  | .nil, env, S => .nx env S
  | .asg i e k, env, S => (ev G call e env S).stm env fun d S => exT G call k (env.set i (some d)) S
  | .asgT is e k, env, S => (ev G call e env S).stm env fun d S => match bindT (.many is) d env with
    | some env' => exT G call k env' S
    | none => .bad
  | .exp e k, env, S => (ev G call e env S).stm env fun _ S => exT G call k env S
  | .fldS c o f e k, env, S => (ev G call e env S).stm env fun v S => (ev G call o env S).stm env fun x S => if clsD x S = some c then match setFld x f v S with
    | some S' => exT G call k env S'
    | none => .bad else .bad
  | .setI o i e k, env, S => (ev G call e env S).stm env fun v S => (ev G call o env S).stm env fun x S => (ev G call i env S).stm env fun y S => match setIx x y v S with
    | some S' => exT G call k env S'
    | none => .bad
  | .ret e, env, S => (ev G call e env S).stm env fun d S => .rt d S
  | .ifs c a b k, env, S => (mapT (ev G call c env S)).stm env fun t S => (if t then exT G call a env S else exT G call b env S).andThen fun env S => exT G call k env S
  | .whl c b k, env, S => (goWhl (fun env S => mapT (ev G call c env S)) (fun env S => exT G call b env S) LOOP env S).andThen fun env S => exT G call k env S
  | .for_ ik src tg b k, env, S => (ev G call src env S).stm env fun xs S => match mkIt ik (srcL ik xs) S with
    | some it => (goForI it (fun x env S => match bindT tg x env with
      | some env' => exT G call b env' S
      | none => .bad) env S).andThen fun env S => exT G call k env S
    | none => .bad
  | .rais c, env, S => .ex c env S
  | .tr b cs h k, env, S => match exT G call b env S with
    | .ex c env' S' => if c ∈ G.exs then (if c ∈ cs then (exT G call h env' S').calm.andThen fun env S => exT G call k env S else .ex c env' S') else .bad
    | .nx env' S' => exT G call k env' S'
    | r => r
  | .tr2 b c h c' h' k, env, S => match exT G call b env S with
    | .ex d env' S' => if d ∈ G.exs then (if d = c then (exT G call h env' S').calm.andThen fun env S => exT G call k env S else if d = c' then (exT G call h' env' S').calm.andThen fun env S => exT G call k env S else .ex d env' S') else .bad
    | .nx env' S' => exT G call k env' S'
    | r => r

/-! ### calls -/
def frzA (S : Store) (d : D) : Option D := match d with
  | .ref n => match S[n]? with
    | some (.lst xs) => if noRefs xs then some (.lst xs) else none
    | some (.dct xs) => if noRefK xs then some (.dct xs) else none
    | _ => none
  | d => if noRef d then some d else none
def frzAs (S : Store) : List D → Option (List D)
  | [] => some []
  | d :: r => match frzA S d, frzAs S r with
    | some x, some xs => some (x :: xs)
    | _, _ => none
mutual
/-- no list, dict, reference within -/
def scl : D → Bool
  | .tup xs => scls xs
  | .lst _ => false
  | .dct _ => false
  | .ref _ => false
  | .scr _ => false
  | _ => true
def scls : List D → Bool
  | [] => true
  | x :: xs => scl x && scls xs
end
def sclK : List (Ky × D) → Bool
  | [] => true
  | (_, x) :: xs => scl x && sclK xs
/-- what a pure def hands back -/
def frzR (S : Store) (d : D) : Option D := match d with
  | .ref n => match S[n]? with
    | some (.lst xs) => if scls xs then some (.lst xs) else none
    | some (.dct xs) => if sclK xs then some (.dct xs) else none
    | _ => none
  | d => if scl d then some d else none
def startE (nl : Nat) (as : List D) : Env := as.map some ++ List.replicate (nl - as.length) none
noncomputable def run (G : Tab) : Nat → Calls
  | 0, _, _, _ => .bad
  | k + 1, f, as, S => match G.fns f with
    | none => .bad
    | some F => if as.length ≠ F.np then .bad else
      if F.pure then match frzAs S as with
        | none => .bad
        | some as' => match exT G (run G k) F.body (startE F.nl as') [] with
          | .nx _ _ => .ok .non S
          | .rt d S' => R.of (frzR S' d) S
          | .ex c _ _ => .ex c S
          | .bad => .bad
      else match exT G (run G k) F.body (startE F.nl as) S with
        | .nx _ S' => .ok .non S'
        | .rt d S' => .ok d S'
        | .ex c _ S' => .ex c S'
        | .bad => .bad
end PL

set_option Elab.async false
set_option linter.all false
set_option maxRecDepth 100000
/-! PLC: how plain data lies in the abstract heap. -/
namespace PL
open PySem L2

/-- the store's addresses, by index; addresses that are set aside -/
structure Wd where
  m : List Addr
  B : List Addr

/-- the script -/
def ScrAt (K : PySem.W.Frag) (H : Hp) (a : Addr) (ns : List Int) : Prop := (∃ o, H a = some (.frz o (.lst (ns.map V.int)))) ∨
  ∃ (o : Obj) (its : Array Value) (n : Nat), K.lookup a = some o ∧ o.cls = .type "list" ∧ o.dict = none ∧ o.data = .seq its n ∧ its.size ≤ sizeLine ∧ Vals (ns.map V.int) its.toList
theorem ScrAt.sq {K : PySem.W.Frag} {H : Hp} {a : Addr} {ns : List Int} (h : ScrAt K H a ns) : SqL K H a (ns.map V.int) := by
  rcases h with ⟨o, h⟩ | h
  · exact .inl (.inr ⟨o, h⟩)
  · exact .inr h
mutual
inductive Rep (K : PySem.W.Frag) (W : Wd) (H : Hp) : D → V → Prop
  | non : Rep K W H .non .non
  | bl (b : Bool) : Rep K W H (.bl b) (.bl b)
  | int (i : Int) : Rep K W H (.int i) (.int i)
  | str (x : Str) : Rep K W H (.str x) (.str x)
  | tup {xs : List D} {a : Addr} {vs : List V} : SqT K H a vs → Reps K W H xs vs → Rep K W H (.tup xs) (.ref a)
  | lst {xs : List D} {a : Addr} {vs : List V} : Rd H a (.lst vs) → a ∉ W.m → a ∉ W.B → Reps K W H xs vs → Rep K W H (.lst xs) (.ref a)
  | dct {xs : List (Ky × D)} {a : Addr} {vs : List (Key × V)} : Rd H a (.dK vs) → a ∉ W.m → a ∉ W.B → RepK K W H xs vs → Rep K W H (.dct xs) (.ref a)
  | ref {n : Nat} {a : Addr} : W.m[n]? = some a → Rep K W H (.ref n) (.ref a)
  | scr {ns : List Int} {a : Addr} : ScrAt K H a ns → Rep K W H (.scr ns) (.ref a)
inductive Reps (K : PySem.W.Frag) (W : Wd) (H : Hp) : List D → List V → Prop
  | nil : Reps K W H [] []
  | cons {d : D} {v : V} {ds : List D} {vs : List V} : Rep K W H d v → Reps K W H ds vs → Reps K W H (d :: ds) (v :: vs)
inductive RepK (K : PySem.W.Frag) (W : Wd) (H : Hp) : List (Ky × D) → List (Key × V) → Prop
  | nil : RepK K W H [] []
  | cons {k : Ky} {d : D} {v : V} {ds : List (Ky × D)} {vs : List (Key × V)} : Rep K W H d v → RepK K W H ds vs → RepK K W H ((k, d) :: ds) ((k, v) :: vs)
end
inductive RepF (K : PySem.W.Frag) (W : Wd) (H : Hp) (fn : Nat → Str) : List (Nat × D) → List (Str × V) → Prop
  | nil : RepF K W H fn [] []
  | cons {f : Nat} {d : D} {v : V} {ds : List (Nat × D)} {vs : List (Str × V)} : Rep K W H d v → RepF K W H fn ds vs → RepF K W H fn ((f, d) :: ds) ((fn f, v) :: vs)
inductive RepT (K : PySem.W.Frag) (W : Wd) (H : Hp) : List (List Ky × D) → List (List Key × V) → Prop
  | nil : RepT K W H [] []
  | cons {k : List Ky} {d : D} {v : V} {ds : List (List Ky × D)} {vs : List (List Key × V)} : Rep K W H d v → RepT K W H ds vs → RepT K W H ((k, d) :: ds) ((k, v) :: vs)

/-- addresses and names of the program's own things -/
structure Nm where
  C : Nat → Addr
  fn : Nat → Str
  X : Nat → Addr

def ObRep (K : PySem.W.Frag) (nm : Nm) (W : Wd) (H : Hp) (a : Addr) : Ob → Prop
  | .lst xs => ∃ vs, H a = some (.lst vs) ∧ Reps K W H xs vs
  | .dct xs => ∃ vs, H a = some (.dK vs) ∧ RepK K W H xs vs
  | .dtt xs => ∃ vs, H a = some (.dT vs) ∧ RepT K W H xs vs
  | .ins c fs => ∃ dx vs, H a = some (.ins (nm.C c) dx vs) ∧ RepF K W H nm.fn fs vs
structure Rel (K : PySem.W.Frag) (nm : Nm) (W : Wd) (S : Store) (H : Hp) : Prop where
  len : W.m.length = S.length
  nd : W.m.Nodup
  ob : ∀ (n : Nat) (a : Addr) (o : Ob), W.m[n]? = some a → S[n]? = some o → ObRep K nm W H a o
  bs : ∀ b ∈ W.B, b ∉ W.m ∧ ∃ o, H b = some o
def Mu : HO → Prop
  | .lst _ => True
  | .dK _ => True
  | .dT _ => True
  | .ins _ _ _ => True
  | _ => False
def Trk (W : Wd) (H : Hp) : Prop := ∀ a ∈ W.m, ∃ o, H a = some o ∧ Mu o
structure Ext (W : Wd) (H : Hp) (W' : Wd) (H' : Hp) : Prop where
  B : W'.B = W.B
  m : ∃ t, W'.m = W.m ++ t ∧ ∀ a ∈ t, H a = none
  keep : ∀ a o, H a = some o → a ∉ W.m → H' a = some o

section
variable {K : PySem.W.Frag} {nm : Nm} {W W' W'' : Wd} {H H' H'' : Hp} {S S' : Store}
theorem Rel.trk (r : Rel K nm W S H) : Trk W H := fun a ha => by
  obtain ⟨n, hn⟩ := List.mem_iff_getElem?.mp ha
  have hl : n < S.length := by rw [← r.len]; exact (List.getElem?_eq_some_iff.mp hn).1
  have q := r.ob n a S[n] hn (by simp [hl])
  revert q
  generalize S[n] = o
  intro q
  cases o with
  | lst xs => obtain ⟨vs, e, _⟩ := q; exact ⟨_, e, trivial⟩
  | dct xs => obtain ⟨vs, e, _⟩ := q; exact ⟨_, e, trivial⟩
  | dtt xs => obtain ⟨vs, e, _⟩ := q; exact ⟨_, e, trivial⟩
  | ins c fs => obtain ⟨dx, vs, e, _⟩ := q; exact ⟨_, e, trivial⟩
theorem Ext.refl : Ext W H W H := ⟨rfl, ⟨[], by simp⟩, fun _ _ e _ => e⟩
theorem Ext.mem (e : Ext W H W' H') {a : Addr} {o : HO} (h : H a = some o) (n : a ∉ W.m) : a ∉ W'.m := by
  obtain ⟨t, e1, e2⟩ := e.m
  rw [e1, List.mem_append]
  rintro (z | z)
  · exact n z
  · rw [e2 a z] at h; cases h
theorem Ext.trans (t : Trk W' H') (a : Ext W H W' H') (b : Ext W' H' W'' H'') : Ext W H W'' H'' := by
  obtain ⟨t1, e1, f1⟩ := a.m
  obtain ⟨t2, e2, f2⟩ := b.m
  refine ⟨b.B.trans a.B, ⟨t1 ++ t2, by rw [e2, e1, List.append_assoc], fun x hx => ?_⟩, fun x o h n => b.keep x o (a.keep x o h n) (a.mem h n)⟩
  rcases List.mem_append.mp hx with hx | hx
  · exact f1 x hx
  · cases q : H x with
    | none => rfl
    | some o =>
      by_cases hm : x ∈ W.m
      · obtain ⟨o', h', _⟩ := t x (by rw [e1]; exact List.mem_append_left _ hm)
        rw [f2 x hx] at h'; cases h'
      · have := a.keep x o q hm
        rw [f2 x hx] at this; cases this
theorem Ext.sqT (t : Trk W H) (e : Ext W H W' H') {a : Addr} {vs : List V} (h : SqT K H a vs) : SqT K H' a vs := by
  rcases h with (h | ⟨o, h⟩) | h
  · refine .inl (.inl (e.keep a _ h fun z => ?_))
    obtain ⟨o, q, m⟩ := t a z
    rw [h] at q; cases q; exact m
  · refine .inl (.inr ⟨o, e.keep a _ h fun z => ?_⟩)
    obtain ⟨o, q, m⟩ := t a z
    rw [h] at q; cases q; exact m
  · exact .inr h
theorem Ext.rd (e : Ext W H W' H') {a : Addr} {u : HO} (h : Rd H a u) (n : a ∉ W.m) : Rd H' a u ∧ a ∉ W'.m := by
  rcases h with h | ⟨o, h⟩
  · exact ⟨.inl (e.keep a _ h n), e.mem h n⟩
  · exact ⟨.inr ⟨o, e.keep a _ h n⟩, e.mem h n⟩
theorem Ext.scr (t : Trk W H) (e : Ext W H W' H') {a : Addr} {ns : List Int} (h : ScrAt K H a ns) : ScrAt K H' a ns := by
  rcases h with ⟨o, h⟩ | h
  · refine .inl ⟨o, e.keep a _ h fun z => ?_⟩
    obtain ⟨o, q, m⟩ := t a z
    rw [h] at q; cases q; exact m
  · exact .inr h
mutual
theorem Rep.mono (t : Trk W H) (e : Ext W H W' H') : ∀ {d : D} {v : V}, Rep K W H d v → Rep K W' H' d v
  | _, _, .non => .non
  | _, _, .bl b => .bl b
  | _, _, .int i => .int i
  | _, _, .str x => .str x
  | _, _, .tup h r => .tup (e.sqT t h) (Reps.mono t e r)
  | _, _, .lst h n b r => .lst (e.rd h n).1 (e.rd h n).2 (by rw [e.B]; exact b) (Reps.mono t e r)
  | _, _, .dct h n b r => .dct (e.rd h n).1 (e.rd h n).2 (by rw [e.B]; exact b) (RepK.mono t e r)
  | _, _, .ref h => .ref (by
      obtain ⟨t, e1, _⟩ := e.m
      rw [e1]
      exact (List.getElem?_append_left (List.getElem?_eq_some_iff.mp h).1).trans h)
  | _, _, .scr h => .scr (e.scr t h)
theorem Reps.mono (t : Trk W H) (e : Ext W H W' H') : ∀ {d : List D} {v : List V}, Reps K W H d v → Reps K W' H' d v
  | _, _, .nil => .nil
  | _, _, .cons r rs => .cons (Rep.mono t e r) (Reps.mono t e rs)
theorem RepK.mono (t : Trk W H) (e : Ext W H W' H') : ∀ {d : List (Ky × D)} {v : List (Key × V)}, RepK K W H d v → RepK K W' H' d v
  | _, _, .nil => .nil
  | _, _, .cons r rs => .cons (Rep.mono t e r) (RepK.mono t e rs)
end
theorem RepF.mono {fn : Nat → Str} (t : Trk W H) (e : Ext W H W' H') {d : List (Nat × D)} {v : List (Str × V)} (r : RepF K W H fn d v) : RepF K W' H' fn d v := by
  induction r with
  | nil => exact .nil
  | cons r _ ih => exact .cons (r.mono t e) ih
theorem RepT.mono (t : Trk W H) (e : Ext W H W' H') {d : List (List Ky × D)} {v : List (List Key × V)} (r : RepT K W H d v) : RepT K W' H' d v := by
  induction r with
  | nil => exact .nil
  | cons r _ ih => exact .cons (r.mono t e) ih
/-- something new is laid -/
theorem Ext.alloc {p : Addr} {o : HO} (h : H p = none) : Ext W H W (upd H p o) := ⟨rfl, ⟨[], by simp⟩, fun a u e _ => by rw [upd_ne (ne_of_none e h)]; exact e⟩
/-- the heap grows, the store's objects stay -/
theorem Rel.grow (r : Rel K nm W S H) (e : Ext W H W H') (k : ∀ a o, H a = some o → H' a = some o) : Rel K nm W S H' := by
  have t := r.trk
  refine ⟨r.len, r.nd, fun n a o h1 h2 => ?_, fun b hb => ?_⟩
  · have q := r.ob n a o h1 h2
    cases o with
    | lst xs => obtain ⟨vs, e1, q⟩ := q; exact ⟨vs, k _ _ e1, q.mono t e⟩
    | dct xs => obtain ⟨vs, e1, q⟩ := q; exact ⟨vs, k _ _ e1, q.mono t e⟩
    | dtt xs => obtain ⟨vs, e1, q⟩ := q; exact ⟨vs, k _ _ e1, q.mono t e⟩
    | ins c fs => obtain ⟨dx, vs, e1, q⟩ := q; exact ⟨dx, vs, k _ _ e1, q.mono t e⟩
  · obtain ⟨n, o, e1⟩ := r.bs b hb
    exact ⟨n, o, k _ _ e1⟩
theorem same_upd {p : Addr} {o : HO} (h : H p = none) : ∀ a u, H a = some u → upd H p o a = some u := fun a u e => by rw [upd_ne (ne_of_none e h)]; exact e
theorem Rel.alloc (r : Rel K nm W S H) {p : Addr} {o : HO} (h : H p = none) : Rel K nm W S (upd H p o) := r.grow (Ext.alloc h) (same_upd h)
theorem Rel.fresh (r : Rel K nm W S H) {p : Addr} (h : H p = none) : p ∉ W.m ∧ p ∉ W.B := by
  refine ⟨fun z => ?_, fun z => ?_⟩
  · obtain ⟨o, e, _⟩ := r.trk p z
    rw [h] at e; cases e
  · obtain ⟨_, o, e⟩ := r.bs p z
    rw [h] at e; cases e
theorem Reps.length {ds : List D} {vs : List V} (r : Reps K W H ds vs) : ds.length = vs.length := by
  induction ds generalizing vs with
  | nil => cases r; rfl
  | cons d ds ih => cases r with | cons a b => simp [ih b]
theorem RepK.length {ds : List (Ky × D)} {vs : List (Key × V)} (r : RepK K W H ds vs) : ds.length = vs.length := by
  induction ds generalizing vs with
  | nil => cases r; rfl
  | cons d ds ih => cases r with | cons a b => simp [ih b]
theorem Reps.append {ds es : List D} {vs us : List V} (r : Reps K W H ds vs) (q : Reps K W H es us) : Reps K W H (ds ++ es) (vs ++ us) := by
  induction ds generalizing vs with
  | nil => cases r; exact q
  | cons d ds ih => cases r with | cons a b => exact .cons a (ih b)
theorem Reps.drop {ds : List D} {vs : List V} (n : Nat) (r : Reps K W H ds vs) : Reps K W H (ds.drop n) (vs.drop n) := by
  induction ds generalizing vs n with
  | nil => cases r; simp; exact .nil
  | cons d ds ih => cases r with | cons a b => cases n with
    | zero => exact .cons a b
    | succ n => exact ih n b
theorem Reps.take {ds : List D} {vs : List V} (n : Nat) (r : Reps K W H ds vs) : Reps K W H (ds.take n) (vs.take n) := by
  induction ds generalizing vs n with
  | nil => cases r; simp; exact .nil
  | cons d ds ih => cases r with | cons a b => cases n with
    | zero => exact .nil
    | succ n => exact .cons a (ih n b)
theorem Reps.get {ds : List D} {vs : List V} (r : Reps K W H ds vs) {i : Nat} {d : D} (h : ds[i]? = some d) : ∃ v, vs[i]? = some v ∧ Rep K W H d v := by
  induction ds generalizing vs i with
  | nil => simp at h
  | cons x ds ih => cases r with | cons a b => cases i with
    | zero => simp at h; subst h; exact ⟨_, rfl, a⟩
    | succ i => simp at h; obtain ⟨v, e, q⟩ := ih b h; exact ⟨v, by simpa using e, q⟩
theorem Reps.set {ds : List D} {vs : List V} {d : D} {v : V} (i : Nat) (r : Reps K W H ds vs) (q : Rep K W H d v) : Reps K W H (ds.set i d) (vs.set i v) := by
  induction ds generalizing vs i with
  | nil => cases r; exact .nil
  | cons x ds ih => cases r with | cons a b => cases i with
    | zero => exact .cons q b
    | succ i => exact .cons a (ih i b)

/-! ### the readings -/
/-- what must hold behind r -/
def Wp (K : PySem.W.Frag) (nm : Nm) (W : Wd) (H : Hp) (r : R D) (Q : VK) (X : Nat → Hp → Prop) : Prop := match r with
  | .ok d S' => ∀ v W' H', Ext W H W' H' → Rel K nm W' S' H' → Rep K W' H' d v → Q v H'
  | .ex c S' => ∀ W' H', Ext W H W' H' → Rel K nm W' S' H' → X c H'
  | .bad => False
structure ERep (K : PySem.W.Frag) (W : Wd) (H : Hp) (env : Env) (σ : St) : Prop where
  len : env.length = σ.length
  get : ∀ (i : Nat) (d : D), env[i]? = some (some d) → ∃ v : V, σ[i]? = some (some v) ∧ Rep K W H d v
theorem ERep.mono {env : Env} {σ : St} (t : Trk W H) (e : Ext W H W' H') (r : ERep K W H env σ) : ERep K W' H' env σ :=
  ⟨r.len, fun i d h => let ⟨v, a, b⟩ := r.get i d h; ⟨v, a, b.mono t e⟩⟩
theorem ERep.set {env : Env} {σ : St} {d : D} {v : V} (i : Nat) (r : ERep K W H env σ) (q : Rep K W H d v) : ERep K W H (env.set i (some d)) (σ.set i (some v)) := by
  refine ⟨by simp [r.len], fun j d' h => ?_⟩
  by_cases e : i = j
  · subst e
    by_cases hl : i < env.length
    · rw [List.getElem?_set_self hl] at h
      cases h
      exact ⟨v, by rw [List.getElem?_set_self (by rw [← r.len]; exact hl)], q⟩
    · rw [List.getElem?_eq_none (by simpa using hl)] at h
      cases h
  · rw [List.getElem?_set_ne e] at h
    obtain ⟨v', a, b⟩ := r.get j d' h
    exact ⟨v', by rw [List.getElem?_set_ne e]; exact a, b⟩
/-- a value -/
def tM (K : PySem.W.Frag) (nm : Nm) (Wi : WX) (f : Env → Store → R D) : TE := fun σ H Q => ∃ W S env, ERep K W H env σ ∧ Rel K nm W S H ∧ Wp K nm W H (f env S) Q fun c H' => Wi (.ref (nm.X c)) none σ H'
end
theorem _root_.L2.PE.imp {X : Cx} {e : Expr} {t u : TE} (h : PE X e t) (i : ∀ σ H Q, u σ H Q → t σ H Q) : PE X e u := ⟨fun pins s σ H Q I w => h.run pins s σ H Q I (i σ H Q w)⟩
theorem _root_.L2.PT.imp {X : Cx} {e : Expr} {t u : TT} (h : PT X e t) (i : ∀ σ H Q, u σ H Q → t σ H Q) : PT X e u := ⟨fun pins s σ H Q I w => h.run pins s σ H Q I (i σ H Q w)⟩
theorem _root_.L2.PA.imp {X : Cx} {e : List Expr} {t u : TA} (h : PA X e t) (i : ∀ σ H Q, u σ H Q → t σ H Q) : PA X e u := ⟨fun p pins s σ H Q I w => h.run p pins s σ H Q I (i σ H Q w)⟩
theorem _root_.L2.PS.imp {X : Cx} {e : Stmt} {t u : TS} (h : PS X e t) (i : ∀ D σ H, u D σ H → t D σ H) : PS X e u := ⟨fun pins s σ H Q I w => h.run pins s σ H Q I (i Q σ H w)⟩
theorem _root_.L2.PSs.imp {X : Cx} {e : List Stmt} {t u : TS} (h : PSs X e t) (i : ∀ D σ H, u D σ H → t D σ H) : PSs X e u := ⟨fun pins s σ H Q I w => h.run pins s σ H Q I (i Q σ H w)⟩
end PL

set_option Elab.async false
set_option linter.all false
set_option maxRecDepth 100000
set_option maxHeartbeats 1000000
/-! PLD: the operations on values. -/
namespace PL
open PySem PySem.Spec PyProof.Rows L2
section
variable {K : PySem.W.Frag} {nm : Nm} {W W' W'' : Wd} {H H' H'' : Hp} {S S' : Store} {X : Cx}
/-- every way on from here with the value d -/
def Fin (K : PySem.W.Frag) (nm : Nm) (W : Wd) (S : Store) (H : Hp) (d : D) (Q : VK) : Prop := ∀ v W' H', Ext W H W' H' → Rel K nm W' S H' → Rep K W' H' d v → Q v H'
theorem Fin.here {d : D} {v : V} {Q : VK} (f : Fin K nm W S H d Q) (r : Rel K nm W S H) (p : Rep K W H d v) : Q v H := f v W H Ext.refl r p
theorem Fin.tup {xs : List D} {vs : List V} {Q : VK} (f : Fin K nm W S H (.tup xs) Q) (r : Rel K nm W S H) (p : Reps K W H xs vs) {a : Addr} (h : H a = none) : Q (.ref a) (upd H a (.tup vs)) :=
  f _ W _ (Ext.alloc h) (r.alloc h) (.tup (SqT.of upd_same) (p.mono r.trk (Ext.alloc h)))
theorem Fin.lst {xs : List D} {vs : List V} {Q : VK} (f : Fin K nm W S H (.lst xs) Q) (r : Rel K nm W S H) (p : Reps K W H xs vs) {a : Addr} (h : H a = none) : Q (.ref a) (upd H a (.lst vs)) :=
  f _ W _ (Ext.alloc h) (r.alloc h) (.lst (.inl upd_same) (r.fresh h).1 (r.fresh h).2 (p.mono r.trk (Ext.alloc h)))
theorem Reps.lens {xs : List D} {vs : List V} (p : Reps K W H xs vs) : vs.length = xs.length := p.length.symm
theorem Reps.nil_iff {xs : List D} {vs : List V} (p : Reps K W H xs vs) : vs = [] ↔ xs = [] := by cases p <;> simp
/-- a list as it may be read -/
theorem rep_lst {d : D} {v : V} {xs : List D} (r : Rel K nm W S H) (p : Rep K W H d v) (h : lstOf d S = some xs) : ∃ a vs, v = .ref a ∧ Rd H a (.lst vs) ∧ Reps K W H xs vs := by
  cases p with
  | lst h1 h2 h3 h4 => cases h; exact ⟨_, _, rfl, h1, h4⟩
  | @ref n a h1 =>
    simp only [lstOf] at h
    split at h
    · rename_i q
      cases h
      obtain ⟨vs, e, z⟩ := r.ob n a _ h1 q
      exact ⟨a, vs, rfl, .inl e, z⟩
    · cases h
  | _ => cases h
theorem reps_int : ∀ ns : List Int, Reps K W H (ns.map D.int) (ns.map V.int)
  | [] => .nil
  | n :: ns => .cons (.int n) (reps_int ns)
theorem rep_seq {d : D} {v : V} {xs : List D} (r : Rel K nm W S H) (p : Rep K W H d v) (h : seqOf d S = some xs) : ∃ a vs, v = .ref a ∧ (SqL K H a vs ∨ SqT K H a vs) ∧ Reps K W H xs vs := by
  cases p with
  | tup h1 h2 => cases h; exact ⟨_, _, rfl, .inr h1, h2⟩
  | lst h1 h2 h3 h4 => cases h; exact ⟨_, _, rfl, .inl (.inl h1), h4⟩
  | scr h1 => cases h; exact ⟨_, _, rfl, .inl h1.sq, reps_int _⟩
  | @ref n a h1 =>
    obtain ⟨a, vs, e, h2, h3⟩ := rep_lst r (.ref h1) h
    exact ⟨a, vs, e, .inl (.inl h2), h3⟩
  | _ => cases h
theorem rep_dct {d : D} {v : V} {xs : List (Ky × D)} (r : Rel K nm W S H) (p : Rep K W H d v) (h : dctOf d S = some xs) : ∃ a vs, v = .ref a ∧ Rd H a (.dK vs) ∧ RepK K W H xs vs := by
  cases p with
  | dct h1 h2 h3 h4 => cases h; exact ⟨_, _, rfl, h1, h4⟩
  | @ref n a h1 =>
    simp only [dctOf] at h
    split at h
    · rename_i q
      cases h
      obtain ⟨vs, e, z⟩ := r.ob n a _ h1 q
      exact ⟨a, vs, rfl, .inl e, z⟩
    · cases h
  | _ => cases h
theorem SZ_eq : SZ = sizeLine := by rw [sizeLine_eq]; rfl
theorem reps_ints {xs : List D} {is : List Int} {vs : List V} (p : Reps K W H xs vs) (h : intsD xs = some is) : vs = is.map V.int := by
  induction xs generalizing is vs with
  | nil => cases p; cases h; rfl
  | cons x xs ih =>
    cases p with
    | cons a b =>
      cases a with
      | int i =>
        simp only [intsD, Option.map_eq_some_iff] at h
        obtain ⟨js, h1, h2⟩ := h
        subst h2
        simp [ih b h1]
      | _ => cases h
theorem reps_bools {xs : List D} {c : Bool} {vs : List V} (p : Reps K W H xs vs) (h : allB xs = some c) : ∃ bs : List Bool, vs = bs.map V.bl ∧ bs.all id = c := by
  induction xs generalizing c vs with
  | nil => cases p; cases h; exact ⟨[], rfl, rfl⟩
  | cons x xs ih =>
    cases p with
    | cons a b =>
      cases a with
      | bl k =>
        simp only [allB] at h
        split at h
        · rename_i c' q
          cases h
          obtain ⟨bs, e, z⟩ := ih b q
          exact ⟨k :: bs, by simp [e], by simp [z]⟩
        · cases h
      | _ => cases h
theorem reps_boolsA {xs : List D} {c : Bool} {vs : List V} (p : Reps K W H xs vs) (h : anyB xs = some c) : ∃ bs : List Bool, vs = bs.map V.bl ∧ bs.any id = c := by
  induction xs generalizing c vs with
  | nil => cases p; cases h; exact ⟨[], rfl, rfl⟩
  | cons x xs ih =>
    cases p with
    | cons a b =>
      cases a with
      | bl k =>
        simp only [anyB] at h
        split at h
        · rename_i c' q
          cases h
          obtain ⟨bs, e, z⟩ := ih b q
          exact ⟨k :: bs, by simp [e], by simp [z]⟩
        · cases h
      | _ => cases h

/-! ### lists that may be locked -/
theorem Inv.lstR {X : Cx} {pins : List (Addr × Obj)} {σ : L2.St} {H : Hp} {s : Shared} {l : Addr} {xs : List V} (I : Inv X pins σ H s) (hH : Rd H l (.lst xs)) :
    xs.length ≤ sizeLine ∧ ∃ (its : List Value) (n : Nat), Vals xs its ∧ xs.length = its.length ∧ s.heap.get? l = some { cls := .type "list", data := .seq its.toArray n } := by
  obtain ⟨z, its, n, r, e⟩ := hH.ok I.hok
  exact ⟨z, its, n, r, r.length, e⟩
def rCatR : R2 := fun x y H Q => ∃ l b xs zs, x = .ref l ∧ y = .ref b ∧ Rd H l (.lst xs) ∧ Rd H b (.lst zs) ∧ xs.length + zs.length ≤ sizeLine ∧ ∀ p, H p = none → Q (.ref p) (upd H p (.lst (xs ++ zs)))
theorem op_catR {X : Cx} : OpR X (binaryOp .Add) rCatR := by
  intro pins s σ H x y v u Q I rx ry h
  obtain ⟨l, b, xs, zs, rfl, rfl, hH, hB, hz, q⟩ := h
  cases rx
  cases ry
  obtain ⟨z, its, n, r, hl, e⟩ := Inv.lstR I hH
  obtain ⟨z2, its2, n2, r2, hl2, e2⟩ := Inv.lstR I hB
  refine PySem.P.add_list e e2 ?_ (by rw [List.size_toArray, List.size_toArray]; omega)
  have ea : its.toArray ++ its2.toArray = (its ++ its2).toArray := by simp
  rw [ea]
  exact ⟨.ref _, _, I.lnew (t' := s.toks) (r.append r2) (by rw [List.length_append]; omega), rfl, q _ I.fresh⟩

/-! ### binary operators -/
def rAdd4 (K : PySem.W.Frag) : R2 := fun x y H Q =>
  ((((rI0 fun i j => .int (i + j)) x y H Q ∨ ∃ i j, x = .str i ∧ y = .str j ∧ i.length + j.length ≤ sizeLine ∧ Q (.str (i ++ j)) H) ∨ rCatA K x y H Q) ∨ rCatR x y H Q)
theorem op_add4 : OpR X (binaryOp .Add) (rAdd4 X.K) := ((op_add.or op_add_str).or op_catA).or op_catR
theorem cat_list {x y : D} {u v : V} {xs ys : List D} {Q : VK} (r : Rel K nm W S H) (p : Rep K W H x u) (q : Rep K W H y v) (hx : lstOf x S = some xs) (hy : lstOf y S = some ys) (hz : xs.length + ys.length ≤ SZ)
    (f : Fin K nm W S H (.lst (xs ++ ys)) Q) : rCatR u v H Q := by
  obtain ⟨a, vs, rfl, h1, p1⟩ := rep_lst r p hx
  obtain ⟨b, ws, rfl, h2, p2⟩ := rep_lst r q hy
  exact ⟨a, b, vs, ws, rfl, rfl, h1, h2, by rw [p1.lens, p2.lens, ← SZ_eq]; exact hz, fun p hp => f.lst r (p1.append p2) hp⟩
theorem cat_tup {xs ys : List D} {u v : V} {Q : VK} (r : Rel K nm W S H) (p : Rep K W H (.tup xs) u) (q : Rep K W H (.tup ys) v) (hz : xs.length + ys.length ≤ SZ) (f : Fin K nm W S H (.tup (xs ++ ys)) Q) : rCatA K u v H Q := by
  cases p with
  | @tup _ a vs h1 p1 =>
    cases q with
    | @tup _ b ws h2 p2 =>
      refine ⟨a, b, vs, ws, rfl, rfl, h1, h2, by rw [p1.lens, p2.lens, ← SZ_eq]; exact hz, fun e => ?_, fun e e' => ?_, fun e e' p hp => f.tup r (p1.append p2) hp⟩
      · rw [p1.nil_iff] at e; subst e
        exact f.here r (.tup h2 p2)
      · rw [p2.nil_iff] at e'; subst e'
        rw [List.append_nil] at f
        exact f.here r (.tup h1 p1)
theorem add_ok {x y d : D} {u v : V} {Q : VK} (r : Rel K nm W S H) (p : Rep K W H x u) (q : Rep K W H y v) (h : bop .add x y S = some d) (f : Fin K nm W S H d Q) : rAdd4 K u v H Q := by
  have lists : ∀ a b, lstOf x S = some a → lstOf y S = some b → (if a.length + b.length ≤ SZ then some (D.lst (a ++ b)) else none) = some d → rAdd4 K u v H Q := fun a b e1 e2 h => by
    split at h
    · cases h; exact .inr (cat_list r p q e1 e2 (by assumption) f)
    · cases h
  simp only [bop, addD] at h
  split at h
  · cases h; cases p; cases q; exact .inl (.inl (.inl ⟨_, _, rfl, rfl, f.here r (.int _)⟩))
  · split at h
    · rename_i hz
      cases h; cases p; cases q; exact .inl (.inl (.inr ⟨_, _, rfl, rfl, by rw [← SZ_eq]; exact hz, f.here r (.str _)⟩))
    · cases h
  · split at h
    · rename_i hz
      cases h; exact .inl (.inr (cat_tup r p q hz f))
    · cases h
  · split at h
    · exact lists _ _ (by assumption) (by assumption) h
    · cases h
theorem sub_ok {x y d : D} {u v : V} {Q : VK} (r : Rel K nm W S H) (p : Rep K W H x u) (q : Rep K W H y v) (h : bop .sub x y S = some d) (f : Fin K nm W S H d Q) : (rI0 fun i j => .int (i - j)) u v H Q := by
  simp only [bop, subD] at h
  split at h
  · cases h; cases p; cases q; exact ⟨_, _, rfl, rfl, f.here r (.int _)⟩
  · cases h
theorem mod_ok {x y d : D} {u v : V} {Q : VK} (r : Rel K nm W S H) (p : Rep K W H x u) (q : Rep K W H y v) (h : bop .mod x y S = some d) (f : Fin K nm W S H d Q) : (rI (fun _ j => 0 < j) fun i j => .int (i % j)) u v H Q := by
  simp only [bop, modD] at h
  split at h
  · split at h
    · rename_i z
      cases h; cases p; cases q; exact ⟨_, _, rfl, rfl, z, f.here r (.int _)⟩
    · cases h
  · cases h
theorem fdiv_ok {x y d : D} {u v : V} {Q : VK} (r : Rel K nm W S H) (p : Rep K W H x u) (q : Rep K W H y v) (h : bop .fdiv x y S = some d) (f : Fin K nm W S H d Q) : (rI CDivW fun i j => .int (i / j)) u v H Q := by
  simp only [bop, fdivD] at h
  split at h
  · split at h
    · rename_i z
      cases h; cases p; cases q; exact ⟨_, _, rfl, rfl, wide_div (b := 64) z.1 (by omega) (by decide) (by decide), f.here r (.int _)⟩
    · cases h
  · cases h
/-- t * k -/
def rRepR : R2 := fun x y H Q => ∃ l k xs, x = .ref l ∧ y = .int k ∧ Rd H l (.lst xs) ∧ -(2 ^ 63) ≤ k ∧ k < 2 ^ 63 ∧ xs.length * k.toNat ≤ sizeLine ∧
  ∀ p, H p = none → Q (.ref p) (upd H p (.lst (List.replicate k.toNat xs).flatten))
theorem op_repR : OpR X (binaryOp .Mult) rRepR := by
  intro pins s σ H x y v u Q I rx ry h
  obtain ⟨l, k, xs, rfl, rfl, hH, h1, h2, hz, q⟩ := h
  cases rx
  obtain ⟨t, rfl⟩ := ry
  obtain ⟨z, its, n, r, hl, e⟩ := Inv.lstR I hH
  have hlen : its.toArray.size * k.toNat ≤ sizeLine := by rw [List.size_toArray, ← hl]; exact hz
  have hcap : ¬ its.toArray.size * k.toNat > (2 ^ 63 - 1) / 8 := by
    have : (sizeLine : Nat) ≤ (2 ^ 63 - 1) / 8 := by decide
    omega
  have hfit : ¬ (!Builtin.List.listFitsIndex k) = true := by
    rw [fitsIndex_both h1 h2]
    exact Bool.false_ne_true
  have hlong : ¬ Builtin.List.listTooLong (its.toArray.size * k.toNat) = true := by
    rw [notLongL hlen]
    exact Bool.false_ne_true
  have hnew : List.foldl (fun x1 x2 => x1 ++ x2) #[] (List.replicate (if its.toArray.isEmpty = true then 0 else k.toNat) its.toArray) = (List.replicate k.toNat its).flatten.toArray := by
    have f0 : ∀ m : Nat, List.foldl (fun x1 x2 => x1 ++ x2) #[] (List.replicate m its.toArray) = (List.replicate m its).flatten.toArray := fun m => by
      have := foldl_rep its m []
      rw [List.nil_append] at this
      exact this
    rw [f0]
    cases its with
    | nil => simp
    | cons a r' => rw [if_neg (by simp)]
  refine wpAny_binaryOp_repeat_ref (T := "list") (U := "int") (by decide) ⟨_, e, rfl⟩ (fun s' => typeIs_int s' k t) noFill_list_mul F.fills_int_mul F.slot_int_rmul repeat_list F.slot_int_index.lookup
    (call_meets F.slot_int_rmul (typeIs_int s k t) F.entry_int_rmul (F.args_int_rmul_2 _ _) (int___rmul___int_list k t l its.toArray n)
      ⟨e, rfl, ⟨_, e, rfl⟩, call_meets F.slot_list_mul ⟨_, e, rfl⟩ F.entry_list_mul (F.args_list_mul_2 _ _) (AutoListH.list___mul___list_int_3 l its.toArray n k t hfit hcap hlong) ⟨e, ?_⟩⟩)
  rw [hnew]
  exact ⟨.ref _, _, I.lnew (t' := s.toks) (r.rep k.toNat) (by rw [PyProof.Rows.lm_len_rep_flat, Nat.mul_comm]; exact hz), rfl, q _ I.fresh⟩

def rMul3 (K : PySem.W.Frag) : R2 := fun x y H Q => ((rI CMul fun i j => .int (i * j)) x y H Q ∨ (rRepT K x y H Q ∨ rRep01 K x y H Q)) ∨ rRepR x y H Q
theorem op_mul3 : OpR X (binaryOp .Mult) (rMul3 X.K) := (op_mul.or (op_repT.or op_rep01)).or op_repR
theorem Reps.rep {xs : List D} {vs : List V} (p : Reps K W H xs vs) : ∀ k : Nat, Reps K W H (List.replicate k xs).flatten (List.replicate k vs).flatten
  | 0 => .nil
  | k + 1 => by
    rw [List.replicate_succ, List.replicate_succ, List.flatten_cons, List.flatten_cons]
    exact p.append (Reps.rep p k)
theorem small_ok {i : Int} (h : small i = true) : -(2 ^ 64) < i ∧ i < 2 ^ 64 := by
  exact tst_iff.mp h
theorem mul_ok {x y d : D} {u v : V} {Q : VK} (r : Rel K nm W S H) (p : Rep K W H x u) (q : Rep K W H y v) (h : bop .mul x y S = some d) (f : Fin K nm W S H d Q) : rMul3 K u v H Q := by
  simp only [bop, mulD] at h
  split at h
  · split at h
    · rename_i z
      cases h; cases p; cases q
      refine .inl (.inl ⟨_, _, rfl, rfl, ?_, f.here r (.int _)⟩)
      simp only [Bool.or_eq_true] at z
      rcases z with z | z
      · exact .inl (small_ok z)
      · exact .inr (small_ok z)
    · cases h
  · rename_i aa k
    split at h
    · rename_i z
      cases h
      cases p with
      | @tup _ a vs h1 p1 =>
        cases q
        have ne : vs ≠ [] := fun e => z.2.2.2 (p1.nil_iff.mp e)
        by_cases k2 : 2 ≤ k
        · exact .inl (.inr (.inl ⟨a, _, vs, rfl, rfl, h1, ne, k2, z.2.1, by rw [p1.lens]; exact z.2.2.1, fun p hp => f.tup r (p1.rep _) hp⟩))
        · by_cases k1 : k = 1
          · subst k1
            have e : (List.replicate (Int.toNat 1) aa).flatten = aa := by rw [show Int.toNat 1 = 1 from rfl, List.replicate_one, List.flatten_singleton]
            rw [e] at f
            exact .inl (.inr (.inr ⟨a, 1, vs, rfl, rfl, h1, ne, .inl ⟨rfl, f.here r (.tup h1 p1)⟩⟩))
          · have k0 : k.toNat = 0 := by omega
            rw [k0] at f
            exact .inl (.inr (.inr ⟨a, k, vs, rfl, rfl, h1, ne, .inr ⟨by omega, by omega, fun p hp => f.tup r .nil hp⟩⟩))
    · cases h
  · split at h
    · split at h
      · rename_i e1 z
        cases h
        cases q
        obtain ⟨a, vs, rfl, h1, p1⟩ := rep_lst r p e1
        refine .inr ⟨a, _, vs, rfl, rfl, h1, by omega, by omega, ?_, fun p hp => f.lst r (p1.rep _) hp⟩
        rw [p1.lens, sizeLine_eq]
        have := Nat.mul_le_mul z.2.2 (show (Int.toNat _) ≤ 1000 from Int.toNat_le.mpr z.2.1)
        omega
      · cases h
    · cases h
  · cases h

/-! ### comparisons -/
theorem ord_ok {p' : Int → Int → Bool} {x y : D} {b : Bool} {u v : V} {Q : VK} (r : Rel K nm W S H) (p : Rep K W H x u) (q : Rep K W H y v) (h : ordD p' x y = some b) (f : Fin K nm W S H (.bl b) Q) : (rI0 fun i j => .bl (p' i j)) u v H Q := by
  simp only [ordD] at h
  split at h
  · cases h; cases p; cases q; exact ⟨_, _, rfl, rfl, f.here r (.bl _)⟩
  · cases h
end
mutual
theorem sh_ok : ∀ (n : Nat) (d : D), sh n d = true → PyData.canLay0 (pyT d) = true ∧ PyData.depth (pyT d) ≤ n
  | _, .non, _ => ⟨rfl, Nat.zero_le _⟩
  | _, .bl _, _ => ⟨rfl, Nat.zero_le _⟩
  | _, .int _, _ => ⟨rfl, Nat.zero_le _⟩
  | _, .str x, h => ⟨h, Nat.zero_le _⟩
  | 0, .tup _, h => by simp [sh] at h
  | n + 1, .tup xs, h => by
    obtain ⟨a, b⟩ := shs_ok n xs (by simpa [sh] using h)
    exact ⟨a, Nat.succ_le_succ b⟩
  | 0, .lst _, h => by simp [sh] at h
  | n + 1, .lst xs, h => by
    obtain ⟨a, b⟩ := shs_ok n xs (by simpa [sh] using h)
    exact ⟨a, Nat.succ_le_succ b⟩
  | _, .dct _, h => by simp [sh] at h
  | _, .ref _, h => by simp [sh] at h
  | _, .scr _, h => by simp [sh] at h
theorem shs_ok : ∀ (n : Nat) (d : List D), shs n d = true → PyData.canLayAll0 (pyTs d) = true ∧ PyData.depthAll (pyTs d) ≤ n
  | _, [], _ => ⟨rfl, Nat.zero_le _⟩
  | n, x :: xs, h => by
    simp only [shs, Bool.and_eq_true] at h
    obtain ⟨a, b⟩ := sh_ok n x h.1
    obtain ⟨c, d⟩ := shs_ok n xs h.2
    exact ⟨by simp [pyTs, PyData.canLayAll0, a, c], by simp only [pyTs, PyData.depthAll]; omega⟩
end
theorem shaped_ok {d : D} (h : sh 8 d = true) : SeqAt.shaped (pyT d) = true := by
  obtain ⟨a, b⟩ := sh_ok 8 d h
  unfold SeqAt.shaped
  rw [a]
  simp; omega
section
variable {K : PySem.W.Frag} {nm : Nm} {W W' W'' : Wd} {H H' H'' : Hp} {S S' : Store} {X : Cx}
mutual
theorem rep_dp : ∀ {n : Nat} {d : D} {v : V}, Rep K W H d v → sh n d = true → Dp K H v (pyT d)
  | _, _, _, .non, _ => .non
  | _, _, _, .bl _, _ => .bl _
  | _, _, _, .int _, _ => .int _
  | _, _, _, .str _, _ => .str _
  | 0, _, _, .tup _ _, h => by simp [sh] at h
  | n + 1, _, _, .tup a r, h => .tup a (reps_dp (n := n) r (by simpa [sh] using h))
  | 0, _, _, .lst _ _ _ _, h => by simp [sh] at h
  | n + 1, _, _, .lst a _ _ r, h => .lst (.inl a) (reps_dp (n := n) r (by simpa [sh] using h))
  | _, _, _, .dct _ _ _ _, h => by simp [sh] at h
  | _, _, _, .ref _, h => by simp [sh] at h
  | _, _, _, .scr _, h => by simp [sh] at h
theorem reps_dp : ∀ {n : Nat} {d : List D} {v : List V}, Reps K W H d v → shs n d = true → DpAll K H v (pyTs d)
  | _, _, _, .nil, _ => .nil
  | _, _, _, .cons a b, h => by
    simp only [shs, Bool.and_eq_true] at h
    exact .cons (rep_dp a h.1) (reps_dp b h.2)
end
theorem rep_frz1 {d : D} {v : V} (r : Rel K nm W S H) (p : Rep K W H d v) {n : Nat} (h : sh n (frz1 d S) = true) : Dp K H v (pyT (frz1 d S)) := by
  cases p with
  | @ref k a h1 =>
    revert h
    simp only [frz1]
    split
    · rename_i xs q
      intro h
      obtain ⟨vs, e, z⟩ := r.ob k a _ h1 q
      cases n with
      | zero => simp [sh] at h
      | succ n => exact .lst (.inl (.inl e)) (reps_dp z (by simpa [sh] using h))
    · intro h; simp [sh] at h
  | non => exact .non
  | bl _ => exact .bl _
  | int _ => exact .int _
  | str _ => exact .str _
  | tup a b => exact rep_dp (.tup a b) h
  | lst a b c d => exact rep_dp (.lst a b c d) h
  | dct a b c d => exact rep_dp (.dct a b c d) h
  | scr a => exact rep_dp (W := W) (.scr a) h
def rEq2 (K : PySem.W.Frag) : R2 := fun x y H Q => rEq x y H Q ∨ rEqD K x y H Q
theorem op_eq2 (hu : X.A.units + 64 < cLine) : OpR X (compareOp .Eq) (rEq2 X.K) := op_eq.or (op_eqD hu)
def rNe2 (K : PySem.W.Frag) : R2 := fun x y H Q => rNe x y H Q ∨ rNeD K x y H Q
theorem op_ne2 (hu : X.A.units + 64 < cLine) : OpR X (compareOp .NotEq) (rNe2 X.K) := op_ne.or (op_neD hu)
theorem eq_core {x y : D} {b : Bool} {u v : V} (r : Rel K nm W S H) (p : Rep K W H x u) (q : Rep K W H y v) (h : eqD (frz1 x S) (frz1 y S) = some b) :
    (scal u v = true ∧ decide (u = v) = b) ∨ ∃ d e, Dp K H u d ∧ Dp K H v e ∧ SeqAt.shaped d = true ∧ SeqAt.shaped e = true ∧ PyData.eqv d e = b := by
  have deep : (if sh 8 (frz1 x S) && sh 8 (frz1 y S) then some (eqv2 (frz1 x S) (frz1 y S)) else none) = some b → ∃ d e, Dp K H u d ∧ Dp K H v e ∧ SeqAt.shaped d = true ∧ SeqAt.shaped e = true ∧ PyData.eqv d e = b := fun h => by
    split at h
    · rename_i z
      simp only [Bool.and_eq_true] at z
      cases h
      exact ⟨_, _, rep_frz1 r p z.1, rep_frz1 r q z.2, shaped_ok z.1, shaped_ok z.2, rfl⟩
    · cases h
  have fx : ∀ {d : D} {i : Nat}, (∀ n, d ≠ .ref n) → frz1 d S = d := fun {d _} hd => by
    cases d <;> first | rfl | exact absurd rfl (hd _)
  have sc : ∀ {d e : D}, frz1 d S = e → (∀ n, e ≠ .ref n) → (∀ l, e ≠ .lst l) → d = e := fun {d e} hd h1 h2 => by
    cases d with
    | ref n =>
      simp only [frz1] at hd
      split at hd
      · exact absurd hd.symm (h2 _)
      · exact absurd hd.symm (h1 _)
    | _ => exact hd
  simp only [eqD] at h
  split at h
  · rename_i e1 e2
    have e1 := sc e1 (by simp) (by simp); have e2 := sc e2 (by simp) (by simp)
    subst e1; subst e2
    cases h; cases p; cases q
    exact .inl ⟨rfl, by simp⟩
  · rename_i e1 e2
    have e1 := sc e1 (by simp) (by simp); have e2 := sc e2 (by simp) (by simp)
    subst e1; subst e2
    cases h; cases p; cases q
    exact .inl ⟨rfl, by simp⟩
  · rename_i e1 e2
    have e1 := sc e1 (by simp) (by simp); have e2 := sc e2 (by simp) (by simp)
    subst e1; subst e2
    cases h; cases p; cases q
    exact .inl ⟨rfl, by simp⟩
  · exact .inr (deep h)
theorem eq_ok {x y : D} {b : Bool} {u v : V} {Q : VK} (r : Rel K nm W S H) (p : Rep K W H x u) (q : Rep K W H y v) (h : eqD (frz1 x S) (frz1 y S) = some b) (f : Fin K nm W S H (.bl b) Q) : rEq2 K u v H Q := by
  rcases eq_core r p q h with ⟨h1, h2⟩ | ⟨d, e, h1, h2, h3, h4, h5⟩
  · exact .inl ⟨h1, by rw [h2]; exact f.here r (.bl _)⟩
  · exact .inr ⟨d, e, h1, h2, h3, h4, by rw [h5]; exact f.here r (.bl _)⟩
theorem ne_ok {x y : D} {b : Bool} {u v : V} {Q : VK} (r : Rel K nm W S H) (p : Rep K W H x u) (q : Rep K W H y v) (h : (eqD (frz1 x S) (frz1 y S)).map not = some b) (f : Fin K nm W S H (.bl b) Q) : rNe2 K u v H Q := by
  rw [Option.map_eq_some_iff] at h
  obtain ⟨c, h, e⟩ := h
  subst e
  rcases eq_core r p q h with ⟨h1, h2⟩ | ⟨d, e, h1, h2, h3, h4, h5⟩
  · exact .inl ⟨h1, by rw [h2]; exact f.here r (.bl _)⟩
  · exact .inr ⟨d, e, h1, h2, h3, h4, by rw [h5]; exact f.here r (.bl _)⟩
end
end PL

set_option Elab.async false
set_option linter.all false
set_option maxRecDepth 100000
set_option maxHeartbeats 1000000
/-! PLE: subscripts, slices, built-ins. -/
namespace PL
open PySem PySem.Spec PyProof.Rows L2
section
variable {K : PySem.W.Frag} {nm : Nm} {W W' W'' : Wd} {H H' H'' : Hp} {S S' : Store} {X : Cx}
theorem atI_some {α : Type} {xs : List α} {i : Int} {x : α} (h : atI xs i = some x) : ∃ j, ixN xs.length i = some j ∧ xs[j]? = some x := by
  unfold atI at h
  exact Option.bind_eq_some_iff.mp h
theorem reps_at {xs : List D} {vs : List V} {i : Int} {d : D} (p : Reps K W H xs vs) (h : atI xs i = some d) : ∃ v, atI vs i = some v ∧ Rep K W H d v := by
  obtain ⟨j, h1, h2⟩ := atI_some h
  obtain ⟨v, h3, h4⟩ := p.get h2
  exact ⟨v, by unfold atI; rw [p.lens, h1]; exact h3, h4⟩
theorem ix_ok {x y d : D} {u v : V} {Q : VK} (r : Rel K nm W S H) (p : Rep K W H x u) (q : Rep K W H y v) (h : getD_ x y S = some d) (f : Fin K nm W S H d Q) : rIx K u v H Q := by
  simp only [getD_] at h
  split at h
  · split at h
    · rename_i z
      cases p; cases q
      rw [Option.map_eq_some_iff] at h
      obtain ⟨c, h1, h2⟩ := h
      subst h2
      exact .inr (.inr ⟨_, _, c, rfl, rfl, by rw [← SZ_eq]; exact z, h1, f.here r (.str _)⟩)
    · cases h
  · split at h
    · rename_i e
      split at h
      · cases q
        obtain ⟨a, vs, rfl, h1, h2⟩ := rep_seq r p e
        obtain ⟨w, h3, h4⟩ := reps_at h2 h
        rcases h1 with h1 | h1
        · exact .inl ⟨a, vs, _, w, rfl, rfl, h1, h3, f.here r h4⟩
        · exact .inr (.inl ⟨a, vs, _, w, rfl, rfl, h1, h3, f.here r h4⟩)
      · cases h
    · cases h
/-! ### slices -/
def rSl3 (K : PySem.W.Frag) : V → Option Int → Option Int → Hp → VK → Prop := fun x lo hi H Q => (rSlA K x lo hi H Q ∨ rSlL K x lo hi H Q) ∨ rSlS x lo hi H Q
theorem sl_3 : SlR X (rSl3 X.K) := (sl_tupA.or sl_list).or sl_str
theorem reps_cut {xs : List D} {vs : List V} {lo hi : Option Int} (p : Reps K W H xs vs) : Reps K W H (cutD xs lo hi) (cutV vs lo hi) := by
  show Reps K W H ((xs.drop _).take _) ((vs.drop _).take _)
  rw [p.lens]
  exact (p.drop _).take _
theorem sl_ok {x d : D} {u : V} {lo hi : Option Int} {Q : VK} (r : Rel K nm W S H) (p : Rep K W H x u) (h : slD x lo hi S = some d) (f : Fin K nm W S H d Q) : rSl3 K u lo hi H Q := by
  simp only [slD] at h
  split at h
  · split at h
    · rename_i z
      cases h; cases p
      exact .inr ⟨_, rfl, by rw [← SZ_eq]; exact z, f.here r (.str _)⟩
    · cases h
  · cases h
    cases p with
    | @tup _ a vs h1 p1 =>
      refine .inl (.inl ⟨a, vs, rfl, h1, fun e => ?_, fun _ p hp => f.tup r (reps_cut p1) hp⟩)
      have e2 : cutV vs lo hi = vs := by
        show (vs.drop _).take _ = vs
        rw [e.1, e.2]
        simp
      refine f.here r (.tup h1 ?_)
      have := reps_cut (lo := lo) (hi := hi) p1
      rw [e2] at this
      exact this
  · cases h
    cases p with
    | @scr _ a h1 => exact .inl (.inr ⟨a, _, rfl, h1.sq, fun p hp => f.lst r (reps_cut (reps_int _)) hp⟩)
  · split at h
    · rename_i e
      cases h
      obtain ⟨a, vs, rfl, h1, p1⟩ := rep_lst r p e
      exact .inl (.inr ⟨a, vs, rfl, .inl h1, fun p hp => f.lst r (reps_cut p1) hp⟩)
    · cases h

/-! ### built-in functions -/
def CallK (X : Cx) (K : PySem.W.Frag) (nm : Nm) (g : List D → Store → Option D) (r : List V → Hp → VK → Prop) : Prop :=
  ∀ (W : Wd) (S : Store) (H : Hp) (as : List D) (vs : List V) (d : D) (Q : VK), Rel K nm W S H → Reps K W H as vs → g as S = some d → Fin K nm W S H d Q → r vs H Q
theorem CallR.or {X : Cx} {f : Value} {r r' : List V → Hp → VK → Prop} (h : CallR X f r) (h' : CallR X f r') : CallR X f (fun x H Q => r x H Q ∨ r' x H Q) := by
  intro pins s σ H xs us Q I rx q
  rcases q with q | q
  · exact h pins s σ H xs us Q I rx q
  · exact h' pins s σ H xs us Q I rx q
theorem call_lenR : CallR X (.builtin "len") (fun xs H Q => ∃ a kvs, xs = [V.ref a] ∧ Rd H a (.dK kvs) ∧ Q (.int kvs.length) H) := by
  intro pins s σ H xs us Q I r h
  obtain ⟨a, kvs, rfl, ha, q⟩ := h
  obtain ⟨u, rfl, ru⟩ := vals1 r
  cases ru
  exact d_len I ha fun t s' I' => ⟨.int kvs.length, H, I', ⟨t, rfl⟩, q⟩
def rLen3 (K : PySem.W.Frag) : List V → Hp → VK → Prop := fun vs H Q => ((∃ p ys, vs = [.ref p] ∧ (SqL K H p ys ∨ SqT K H p ys) ∧ Q (.int ys.length) H) ∨ (∃ z, vs = [.str z] ∧ z.length ≤ sizeLine ∧ Q (.int z.length) H)) ∨ (∃ p kvs, vs = [.ref p] ∧ Rd H p (.dK kvs) ∧ Q (.int kvs.length) H)
theorem call_len3 : CallR X (.builtin "len") (rLen3 X.K) := (CallR.or call_len_seq call_len_str).or call_lenR
theorem reps1 {d : D} {vs : List V} (p : Reps K W H [d] vs) : ∃ v, vs = [v] ∧ Rep K W H d v := by
  cases p with | cons a b => cases b; exact ⟨_, rfl, a⟩
theorem reps2 {d e : D} {vs : List V} (p : Reps K W H [d, e] vs) : ∃ v u, vs = [v, u] ∧ Rep K W H d v ∧ Rep K W H e u := by
  cases p with | cons a b => cases b with | cons b c => cases c; exact ⟨_, _, rfl, a, b⟩
theorem len_ok : CallK X K nm lenF (rLen3 K) := by
  intro W S H as vs d Q r p h f
  simp only [lenF] at h
  split at h <;> try (cases h; done)
  obtain ⟨v, e0, p1⟩ := reps1 p
  subst e0
  clear p
  have p := p1
  clear p1
  rw [Option.map_eq_some_iff] at h
  obtain ⟨n, h1, h2⟩ := h
  subst h2
  simp only [lenD] at h1
  split at h1
  · split at h1
    · rename_i z
      cases h1; cases p
      exact .inl (.inr ⟨_, rfl, by rw [← SZ_eq]; exact z, f.here r (.int _)⟩)
    · cases h1
  · split at h1
    · rename_i e
      cases h1
      obtain ⟨a, ws, rfl, h3, h4⟩ := rep_seq r p e
      exact .inl (.inl ⟨a, ws, rfl, h3, by rw [h4.lens]; exact f.here r (.int _)⟩)
    · rw [Option.map_eq_some_iff] at h1
      obtain ⟨kvs, h5, h6⟩ := h1
      subst h6
      obtain ⟨a, ws, rfl, h3, h4⟩ := rep_dct r p h5
      exact .inr ⟨a, ws, rfl, h3, by rw [← h4.length]; exact f.here r (.int _)⟩
theorem all_ok : CallK X K nm allF (rAll K) := by
  intro W S H as vs d Q r p h f
  simp only [allF] at h
  split at h <;> try (cases h; done)
  obtain ⟨v, e0, p1⟩ := reps1 p
  subst e0
  clear p
  have p := p1
  clear p1
  rw [Option.map_eq_some_iff] at h
  obtain ⟨b, h1, h2⟩ := h
  subst h2
  obtain ⟨xs, h3, h4⟩ := Option.bind_eq_some_iff.mp h1
  obtain ⟨a, ws, rfl, h5, h6⟩ := rep_lst r p h3
  obtain ⟨bs, rfl, h7⟩ := reps_bools h6 h4
  exact ⟨a, bs, rfl, .inl h5, by rw [h7]; exact f.here r (.bl _)⟩
theorem any_ok : CallK X K nm anyF (rAny K) := by
  intro W S H as vs d Q r p h f
  simp only [anyF] at h
  split at h <;> try (cases h; done)
  obtain ⟨v, e0, p1⟩ := reps1 p
  subst e0
  clear p
  have p := p1
  clear p1
  rw [Option.map_eq_some_iff] at h
  obtain ⟨b, h1, h2⟩ := h
  subst h2
  obtain ⟨xs, h3, h4⟩ := Option.bind_eq_some_iff.mp h1
  obtain ⟨a, ws, rfl, h5, h6⟩ := rep_lst r p h3
  obtain ⟨bs, rfl, h7⟩ := reps_boolsA h6 h4
  exact ⟨a, bs, rfl, .inl h5, by rw [h7]; exact f.here r (.bl _)⟩
theorem sum_ok : CallK X K nm sumF (fun xs H Q => rSum K xs H Q ∨ rSumT K xs H Q) := by
  intro W S H as vs d Q r p h f
  simp only [sumF] at h
  split at h <;> try (cases h; done)
  · obtain ⟨v, e0, p1⟩ := reps1 p
    subst e0
    rw [Option.map_eq_some_iff] at h
    obtain ⟨b, h1, h2⟩ := h
    subst h2
    cases p1 with
    | @tup _ a ws h5 h6 =>
      have h7 := reps_ints h6 h1
      subst h7
      exact .inr ⟨a, b, rfl, h5, f.here r (.int _)⟩
  refine .inl ?_
  obtain ⟨v, e0, p1⟩ := reps1 p
  subst e0
  clear p
  have p := p1
  clear p1
  rw [Option.map_eq_some_iff] at h
  obtain ⟨b, h1, h2⟩ := h
  subst h2
  obtain ⟨xs, h3, h4⟩ := Option.bind_eq_some_iff.mp h1
  obtain ⟨a, ws, rfl, h5, h6⟩ := rep_lst r p h3
  have h7 := reps_ints h6 h4
  subst h7
  exact ⟨a, b, rfl, .inl h5, f.here r (.int _)⟩
def rTup2 (K : PySem.W.Frag) : List V → Hp → VK → Prop := fun xs H Q => ∃ p ys, xs = [.ref p] ∧ ((SqL K H p ys ∧ ∀ l, H l = none → Q (.ref l) (upd H l (.tup ys))) ∨ (SqT K H p ys ∧ Q (.ref p) H))
theorem tuple_ok : CallK X K nm tupF (rTup2 K) := by
  intro W S H as vs d Q r p h f
  simp only [tupF] at h
  split at h <;> try (cases h; done)
  obtain ⟨v, e0, p1⟩ := reps1 p
  subst e0
  clear p
  have p := p1
  clear p1
  rw [Option.map_eq_some_iff] at h
  obtain ⟨xs, h1, h2⟩ := h
  subst h2
  obtain ⟨a, ws, rfl, h3, h4⟩ := rep_seq r p h1
  refine ⟨a, ws, rfl, ?_⟩
  rcases h3 with h3 | h3
  · exact .inl ⟨h3, fun l hl => f.tup r h4 hl⟩
  · exact .inr ⟨h3, f.here r (.tup h3 h4)⟩
def rLst2 (K : PySem.W.Frag) : List V → Hp → VK → Prop := fun xs H Q => ∃ p ys, xs = [.ref p] ∧ (SqL K H p ys ∨ SqT K H p ys) ∧ ∀ l, H l = none → Q (.ref l) (upd H l (.lst ys))
theorem items_rep {d : D} {v : V} {xs : List D} (r : Rel K nm W S H) (p : Rep K W H d v) (h : itemsOf d S = some xs) :
    (∃ a vs, v = .ref a ∧ (SqL K H a vs ∨ SqT K H a vs) ∧ Reps K W H xs vs) ∨ ∃ a ds vs, v = .ref a ∧ Rd H a (.dK vs) ∧ RepK K W H ds vs ∧ xs = ds.map fun p => kyD p.1 := by
  simp only [itemsOf] at h
  split at h
  · rename_i e
    cases h
    exact .inl (rep_seq r p e)
  · simp only [keysD] at h
    split at h
    · rename_i ds e
      cases h
      obtain ⟨a, ws, e1, e2, e3⟩ := rep_dct r p e
      exact .inr ⟨a, ds, ws, e1, e2, e3, rfl⟩
    · cases h
theorem reps_keys {ds : List (Ky × D)} {vs : List (Key × V)} (p : RepK K W H ds vs) : Reps K W H (ds.map fun p => kyD p.1) (vs.map fun kv => kV kv.1) := by
  induction ds generalizing vs with
  | nil => cases p; exact .nil
  | cons x ds ih =>
    cases p with
    | @cons k d v _ vs a b =>
      refine .cons ?_ (ih b)
      cases k with
      | inl i => exact .int i
      | inr x => exact .str x
theorem repK_keys {ds : List (Ky × D)} {vs : List (Key × V)} (p : RepK K W H ds vs) : vs.map (·.1) = ds.map (·.1) := by
  induction ds generalizing vs with
  | nil => cases p; rfl
  | cons x ds ih =>
    cases p with
    | cons a b => simp [ih b]
/-- a new list of these -/
def FinL (K : PySem.W.Frag) (W : Wd) (H : Hp) (xs : List D) (Q : VK) : Prop := ∀ vs a, Reps K W H xs vs → H a = none → Q (.ref a) (upd H a (.lst vs))
theorem Fin.finL {xs : List D} {Q : VK} (f : Fin K nm W S H (.lst xs) Q) (r : Rel K nm W S H) : FinL K W H xs Q := fun vs a p h => f.lst r p h
def rLst3 (K : PySem.W.Frag) : List V → Hp → VK → Prop := fun xs H Q => rLst2 K xs H Q ∨ ∃ (a : Addr) (kvs : List (Key × V)), xs = [.ref a] ∧ Rd H a (.dK kvs) ∧ ∀ p, H p = none → Q (.ref p) (upd H p (.lst (kvs.map fun kv => kV kv.1)))
theorem list_new {as : List D} {vs : List V} {xs : List D} {Q : VK} (r : Rel K nm W S H) (p : Reps K W H as vs) (h : listF as S = some (.lst xs)) (f : FinL K W H xs Q) : rLst3 K vs H Q := by
  simp only [listF] at h
  split at h <;> try (cases h; done)
  obtain ⟨v, e0, p1⟩ := reps1 p
  subst e0
  rw [Option.map_eq_some_iff] at h
  obtain ⟨xs', h1, h2⟩ := h
  cases h2
  rcases items_rep r p1 h1 with ⟨a, ws, rfl, h3, h4⟩ | ⟨a, ds, ws, rfl, h3, h4, rfl⟩
  · exact .inl ⟨a, ws, rfl, h3, fun l hl => f _ _ h4 hl⟩
  · exact .inr ⟨a, ws, rfl, h3, fun l hl => f _ _ (reps_keys h4) hl⟩
theorem list_ok : CallK X K nm listF (rLst3 K) := by
  intro W S H as vs d Q r p h f
  obtain ⟨xs, rfl⟩ : ∃ xs, d = .lst xs := by
    simp only [listF] at h
    split at h <;> try (cases h; done)
    rw [Option.map_eq_some_iff] at h
    obtain ⟨xs, _, h2⟩ := h
    exact ⟨xs, h2.symm⟩
  exact list_new r p h (f.finL r)
theorem max_ok : CallK X K nm maxF (fun xs H Q => ∃ i j, xs = [.int i, .int j] ∧ Q (.int (if j > i then j else i)) H) := by
  intro W S H as vs d Q r p h f
  simp only [maxF] at h
  split at h <;> try (cases h; done)
  obtain ⟨v, u, e0, p1, q⟩ := reps2 p
  subst e0
  clear p
  have p := p1
  clear p1
  cases p; cases q; cases h
  exact ⟨_, _, rfl, f.here r (.int _)⟩
theorem min_ok : CallK X K nm minF (fun xs H Q => ∃ i j, xs = [.int i, .int j] ∧ Q (.int (if j < i then j else i)) H) := by
  intro W S H as vs d Q r p h f
  simp only [minF] at h
  split at h <;> try (cases h; done)
  obtain ⟨v, u, e0, p1, q⟩ := reps2 p
  subst e0
  clear p
  have p := p1
  clear p1
  cases p; cases q; cases h
  exact ⟨_, _, rfl, f.here r (.int _)⟩

/-! ### isinstance, truth -/
def tyN : Nat → String
  | 0 => "int"
  | 1 => "bool"
  | 2 => "str"
  | 3 => "tuple"
  | _ => "frozenset"
theorem tyx_tup {a : Addr} {vs : List V} (h : SqT K H a vs) : TyX K H (.ref a) (.type "tuple") := by
  rcases h with (h | ⟨o, h⟩) | ⟨o, its, n, h1, h2, _⟩
  · exact .base (.tup h)
  · exact .fTuple h
  · exact .kTuple h1 h2
theorem tyx_lst {a : Addr} {vs : List V} (h : Rd H a (.lst vs)) : TyX K H (.ref a) (.type "list") := by
  rcases h with h | ⟨o, h⟩
  · exact .base (.lst h)
  · exact .base (.frz h)
theorem tyx_scr {a : Addr} {ns : List Int} (h : ScrAt K H a ns) : TyX K H (.ref a) (.type "list") := by
  rcases h with ⟨o, h⟩ | ⟨o, its, n, h1, h2, _⟩
  · exact .base (.frz h)
  · exact .kList h1 h2
theorem tyx_dct {a : Addr} {vs : List (Key × V)} (h : Rd H a (.dK vs)) : TyX K H (.ref a) (.type "dict") := by
  rcases h with h | ⟨o, h⟩
  · exact .base (.dK h)
  · exact .fDict h
theorem isa_ok {t : Nat} {d : D} {v : V} {Q : VK} (r : Rel K nm W S H) (p : Rep K W H d v) (hn : notIns d S = true) (f : Fin K nm W S H (.bl (isaD t d)) Q) : ∃ ty b, TyX K H v ty ∧ PySem.W.kitOne K ty (.type (tyN t)) = some b ∧ Q (.bl b) H := by
  have key : ∀ (s : String), TyX K H v (.type s) → PySem.W.kitOne K (.type s) (.type (tyN t)) = some (isaD t d) → ∃ ty b, TyX K H v ty ∧ PySem.W.kitOne K ty (.type (tyN t)) = some b ∧ Q (.bl b) H := fun s h1 h2 => ⟨_, _, h1, h2, f.here r (.bl _)⟩
  have ob : ∀ {a : Addr} {n : Nat}, W.m[n]? = some a → d = .ref n → v = .ref a → (TyX K H v (.type "list") ∨ TyX K H v (.type "dict")) := fun {a n} h1 h2 h3 => by
    subst h2 h3
    simp only [notIns] at hn
    have hl : n < S.length := by rw [← r.len]; exact (List.getElem?_eq_some_iff.mp h1).1
    have q := r.ob n a S[n] h1 (by simp [hl])
    have e : S[n]? = some S[n] := by simp [hl]
    rw [e] at hn
    revert q hn
    generalize S[n] = o
    intro hn q
    cases o with
    | lst xs => obtain ⟨vs, e, _⟩ := q; exact .inl (.base (.lst e))
    | dct xs => obtain ⟨vs, e, _⟩ := q; exact .inr (.base (.dK e))
    | dtt xs => obtain ⟨vs, e, _⟩ := q; exact .inr (.base (.dT e))
    | ins c fs => cases hn
  have t4 : t = 0 ∨ t = 1 ∨ t = 2 ∨ t = 3 ∨ ∃ k, t = k + 4 := by
    rcases t with _ | _ | _ | _ | k
    · exact .inl rfl
    · exact .inr (.inl rfl)
    · exact .inr (.inr (.inl rfl))
    · exact .inr (.inr (.inr (.inl rfl)))
    · exact .inr (.inr (.inr (.inr ⟨k, rfl⟩)))
  rcases t4 with rfl | rfl | rfl | rfl | ⟨k, rfl⟩
  all_goals
    cases p with
    | non => exact key "NoneType" (.base .non) (kit_ty (by simp only [isaD, tyN]; decide +kernel))
    | bl b => exact key "bool" (.base (.bl _)) (kit_ty (by simp only [isaD, tyN]; decide +kernel))
    | int b => exact key "int" (.base (.int _)) (kit_ty (by simp only [isaD, tyN]; decide +kernel))
    | str b => exact key "str" (.base (.str _)) (kit_ty (by simp only [isaD, tyN]; decide +kernel))
    | tup h1 h2 => exact key "tuple" (tyx_tup h1) (kit_ty (by simp only [isaD, tyN]; decide +kernel))
    | lst h1 h2 h3 h4 => exact key "list" (tyx_lst h1) (kit_ty (by simp only [isaD, tyN]; decide +kernel))
    | dct h1 h2 h3 h4 => exact key "dict" (tyx_dct h1) (kit_ty (by simp only [isaD, tyN]; decide +kernel))
    | scr h1 => exact key "list" (tyx_scr h1) (kit_ty (by simp only [isaD, tyN]; decide +kernel))
    | ref h1 =>
      rcases ob h1 rfl rfl with h2 | h2
      · exact key "list" h2 (kit_ty (by simp only [isaD, tyN]; decide +kernel))
      · exact key "dict" h2 (kit_ty (by simp only [isaD, tyN]; decide +kernel))

/-! ### in -/
theorem flat_ok {d : D} {v : V} {e : D} {u : V} {b : Bool} (p : Rep K W H d v) (q : Rep K W H e u) (h : flatEq d e = some b) : flatV v = true ∧ flatV u = true ∧ eqV v u = b := by
  cases p <;> cases q <;> simp only [flatEq] at h <;> first | (cases h; done) | (cases h; refine ⟨rfl, rfl, ?_⟩; simp [eqV, Bool.beq_eq_decide_eq]) 
theorem mem_ok {x : D} {u : V} (p : Rep K W H x u) : ∀ {xs : List D} {vs : List V} {b : Bool}, Reps K W H xs vs → memF x xs = some b → xs ≠ [] → flatV u = true ∧ vs.all flatV = true ∧ inV u vs = b := by
  intro xs
  induction xs with
  | nil => intro vs b q h hn; exact absurd rfl hn
  | cons y ys ih =>
    intro vs b q h _
    cases q with
    | @cons _ v _ vs' a c =>
      simp only [memF] at h
      split at h
      · rename_i k1 k2 e1 e2
        cases h
        obtain ⟨f1, f2, f3⟩ := flat_ok a p e1
        cases ys with
        | nil =>
          cases c
          cases e2
          exact ⟨f2, by simp [f1], by simp [inV, f3]⟩
        | cons z zs =>
          obtain ⟨g1, g2, g3⟩ := ih c e2 (by simp)
          exact ⟨f2, by simp only [List.all_cons, f1, g2, Bool.and_self], by
            unfold inV at g3 ⊢
            rw [List.any_cons, f3, g3]⟩
      · cases h
def rIn2 (K : PySem.W.Frag) (neg : Bool) : R2 := fun x y H Q => (∃ i j, x = .str i ∧ y = .str j ∧ Q (.bl (if neg then !(!(Builtin.Str.occurrences j i 0 j.length 1).isEmpty) else !(Builtin.Str.occurrences j i 0 j.length 1).isEmpty)) H) ∨ rIn K neg x y H Q
theorem in_core {x y : D} {b : Bool} {u v : V} (r : Rel K nm W S H) (p : Rep K W H x u) (q : Rep K W H y v) (h : inD x y S = some b) (hf : flatD x = true) :
    (∃ i j, u = .str i ∧ v = .str j ∧ inS i j = b) ∨ ∃ a vs, v = .ref a ∧ (SqL K H a vs ∨ SqT K H a vs) ∧ flatV u = true ∧ vs.all flatV = true ∧ inV u vs = b := by
  simp only [inD] at h
  split at h
  · cases h; cases p; cases q; exact .inl ⟨_, _, rfl, rfl, rfl⟩
  · split at h
    · rename_i xs e
      obtain ⟨a, vs, rfl, h1, h2⟩ := rep_seq r q e
      by_cases hn : xs = []
      · subst hn
        cases h2; cases h
        refine .inr ⟨a, [], rfl, h1, ?_, rfl, rfl⟩
        cases p <;> first | rfl | cases hf
      · obtain ⟨g1, g2, g3⟩ := mem_ok p h2 h hn
        exact .inr ⟨a, vs, rfl, h1, g1, g2, g3⟩
    · cases h
theorem op_in2 : OpR X (compareOp .In) (rIn2 X.K false) := op_in_str.or op_in_seq
theorem op_nin2 : OpR X (compareOp .NotIn) (rIn2 X.K true) := op_notin_str.or op_notIn_seq
theorem in_ok {x y : D} {b ng : Bool} {u v : V} {Q : VK} (r : Rel K nm W S H) (p : Rep K W H x u) (q : Rep K W H y v) (h : inD x y S = some b) (hf : flatD x = true) (f : Fin K nm W S H (.bl (if ng then !b else b)) Q) : rIn2 K ng u v H Q := by
  rcases in_core r p q h hf with ⟨i, j, rfl, rfl, e⟩ | ⟨a, vs, rfl, h1, h2, h3, e⟩
  · refine .inl ⟨i, j, rfl, rfl, ?_⟩
    unfold inS at e
    rw [e]
    exact f.here r (.bl _)
  · exact .inr ⟨a, vs, rfl, h1, h2, h3, by rw [e]; exact f.here r (.bl _)⟩
/-! ### equal dicts -/
theorem valV_get {ls : List (Key × V)} {ds : List (Ky × D)} (p : RepK K W H ds ls) {k : Ky} {d : D} (h : getK ds k = some d) : ∃ u, valV ls k = some u ∧ Rep K W H d u := by
  induction ds generalizing ls with
  | nil => cases h
  | cons x ds ih =>
    cases p with
    | @cons k0 d0 v0 _ vs a b =>
      simp only [getK] at h
      by_cases z : k0 = k
      · rw [if_pos z] at h
        cases h
        exact ⟨v0, by simp [valV, z], a⟩
      · rw [if_neg z] at h
        obtain ⟨u, h1, h2⟩ := ih b h
        refine ⟨u, ?_, h2⟩
        unfold valV at h1 ⊢
        rw [List.find?_cons_of_neg (by simpa using z)]
        exact h1
theorem repK_mem {ls : List (Key × V)} {ds : List (Ky × D)} (p : RepK K W H ds ls) {q : Key × V} (h : q ∈ ls) : ∃ d, (q.1, d) ∈ ds ∧ Rep K W H d q.2 := by
  induction ds generalizing ls with
  | nil => cases p; cases h
  | cons x ds ih =>
    cases p with
    | @cons k0 d0 v0 _ vs a b =>
      rcases List.mem_cons.mp h with rfl | h
      · exact ⟨d0, List.mem_cons_self, a⟩
      · obtain ⟨d, h1, h2⟩ := ih b h
        exact ⟨d, List.mem_cons_of_mem _ h1, h2⟩
theorem eqK_ok {x y : D} {a b : List (Ky × D)} {t : Bool} {u v : V} {Q : VK} (r : Rel K nm W S H) (p : Rep K W H x u) (q : Rep K W H y v) (ha : dctR x S = some a) (hb : dctR y S = some b) (h : dEq a b = true) (f : Fin K nm W S H (.bl t) Q) : rEqK K t u v H Q := by
  have at1 : ∀ {x : D} {a : List (Ky × D)} {u : V}, Rep K W H x u → dctR x S = some a → ∃ c ks, u = .ref c ∧ H c = some (.dK ks) ∧ RepK K W H a ks := fun {x a u} p ha => by
    cases p <;> simp only [dctR] at ha <;> first | (cases ha; done) | skip
    rename_i n c hm
    split at ha <;> cases ha
    rename_i hs
    obtain ⟨ks, e, z⟩ := r.ob n c _ hm hs
    exact ⟨c, ks, rfl, e, z⟩
  obtain ⟨c, ks, rfl, e1, z1⟩ := at1 p ha
  obtain ⟨c', ls, rfl, e2, z2⟩ := at1 q hb
  obtain ⟨hl, hp⟩ := tst_iff.mp h
  refine ⟨c, c', ks, ls, rfl, rfl, e1, e2, by rw [← z1.length, ← z2.length]; exact hl, fun w hw => ?_, f.here r (.bl _)⟩
  obtain ⟨d, hd, rd⟩ := repK_mem z1 hw
  obtain ⟨g1, g2⟩ := hp _ hd
  obtain ⟨u, g3, g4⟩ := valV_get z2 g1
  exact ⟨u, pyT d, g3, rep_dp rd g2, rep_dp g4 g2, shaped_ok g2⟩
end
end PL

set_option Elab.async false
set_option linter.all false
set_option maxRecDepth 100000
set_option maxHeartbeats 1000000
/-! PLS: sorted of lists, tuples, dicts; tuples turned, and each second item of them; t * 0, t * 1. -/
namespace SrtO
open PySem PyProof.Rows Srt
section
variable {prog : Program} {w : World} {A : Around} {E : Value → Shared → Prop} {s : Shared}
/-- sorted of what is collected as C says -/
theorem sorted_from {r : Value} {ltv : Value → Value → Bool} {Q : Value → Shared → Prop} (C : List Value → Prop) (O : Swo ltv) (few : ∀ vs, C vs → vs.length ≤ sizeLine)
    (col : ∀ R : List Value → Shared → Prop, (∀ (g : Heap) (tk : Nat) (vs : List Value), (∀ b o, s.heap.get? b = some o → g.get? b = some o) → C vs → R vs { s with heap := g, toks := tk }) → wpAny (model prog w) A.in1 (collect r) R E s)
    (sb : ∀ (vs : List Value) (g : Heap) (tk : Nat) (a : Addr), C vs → 2 ≤ vs.length → (∀ b o, s.heap.get? b = some o → b ≠ a ∧ g.get? b = some o) → g.get? a = some (seqObj "list" vs.toArray 0) → SortableO prog w A.in1.in1 { s with heap := g, toks := tk } a vs ltv)
    (out : ∀ (vs ys : List Value) (g g2 : Heap) (tk : Nat), C vs → Srtd ltv ys → Stb ltv ys vs → (∀ b o, s.heap.get? b = some o → g.get? b = some o) → (∀ b o, g.get? b = some o → g2.get? b = some o) → (∃ n, g2.get? g.objs.size = some (seqObj "list" ys.toArray n)) → Q (.ref g.objs.size) { s with heap := g2, toks := tk }) :
    wpAny (model prog w) A (call (.builtin "sorted") [r]) Q E s := by
  refine Calls.call_function_entry kind_sorted plain_sorted entry_sorted (args_sorted1 r) ?_
  show wpAny _ _ (Builtin.«sorted» ⟨[r], []⟩) _ _ _
  unfold Builtin.«sorted»
  refine wpAny_bind (m := checkCount "sorted" 1 1 _) (wpAny_pure (wpAny_bind (col _ fun g tk vs keep c => ?_)))
  refine wpAny_bind (wpAny_newList ?_ (few vs c))
  have at1 : (g.push (seqObj "list" vs.toArray 0)).get? g.objs.size = some (seqObj "list" vs.toArray 0) := Heap.get?_push_size _ rfl
  have big : ∀ b o, s.heap.get? b = some o → b < g.objs.size := fun b o e => Heap.lt_size (keep b o e)
  have keep2 : ∀ b o, s.heap.get? b = some o → b ≠ g.objs.size ∧ (g.push (seqObj "list" vs.toArray 0)).get? b = some o := fun b o e => ⟨Nat.ne_of_lt (big b o e), Heap.get?_push_of_some _ (keep b o e)⟩
  show wpAny _ _ _ _ _ { s with heap := g.push (seqObj "list" vs.toArray 0), toks := tk }
  refine wpAny_bind (wpAny_holding (wpAny_call_entry slot_list_sort ⟨_, at1, rfl⟩ entry_list_sort
    (list_sort_ord (s := { s with heap := g.push (seqObj "list" vs.toArray 0), toks := tk }) O at1 (few vs c) (fun h2 => sb vs _ tk _ c h2 keep2 at1) fun ys h1 h2 => ⟨_, rfl, ?_⟩) (args_list_sort _)))
  refine wpAny_pure ⟨_, rfl, out vs ys g _ tk c h1 h2 keep (fun b o e => ?_) (sortedHeap_at (vs := vs) (out := ys.toArray) at1)⟩
  have hb : b < g.objs.size := Heap.lt_size e
  rw [sortedHeap_old (Nat.ne_of_lt hb) (by rw [size_push']; exact Nat.lt_succ_of_lt hb)]
  exact Heap.get?_push_of_some _ e
end
end SrtO
namespace PL
open PySem PySem.Spec PyProof.Rows L2
section
variable {K : PySem.W.Frag} {nm : Nm} {W W' W'' : Wd} {H H' H'' : Hp} {S S' : Store} {X : Cx}
/-- a list or a tuple, as it lies -/
theorem seq_at {pins : List (Addr × Obj)} {σ : L2.St} {s : Shared} {a : Addr} {xs : List V} (I : Inv X pins σ H s) (h : SqL X.K H a xs ∨ SqT X.K H a xs) :
    ∃ (its : List Value) (T : String) (o : Obj) (n : Nat), Vals xs its ∧ (T = "list" ∨ T = "tuple") ∧ s.heap.get? a = some o ∧ o.cls = .type T ∧ o.data = .seq its.toArray n ∧ xs.length ≤ sizeLine := by
  rcases h with h | h
  · obtain ⟨its, rv, pl, hz⟩ := I.list h
    obtain ⟨o, h1, h2, n, h3⟩ := pl.isList
    exact ⟨its, "list", o, n, rv, .inl rfl, h1, h2, h3, hz⟩
  · obtain ⟨its, rv, ⟨o, h1, h2, n, h3⟩, hz⟩ := I.tuple h
    exact ⟨its, "tuple", o, n, rv, .inr rfl, h1, h2, h3, hz⟩
/-- sorted of ints -/
def rSrtI (K : PySem.W.Frag) : List V → Hp → VK → Prop := fun vs H Q => ∃ (a : Addr) (ns : List Int), vs = [V.ref a] ∧ (SqL K H a (ns.map V.int) ∨ SqT K H a (ns.map V.int)) ∧
  ∀ (ms : List Int) (p : Addr), ms.Perm ns → ms.Pairwise (· ≤ ·) → H p = none → Q (.ref p) (upd H p (.lst (ms.map V.int)))
theorem cr_srtI : CallR X (.builtin "sorted") (rSrtI X.K) := by
  intro pins s σ H vs us Q I r h
  obtain ⟨a, ns, rfl, hs, q⟩ := h
  obtain ⟨its, T, o, n, rv, hT, ho, hc, hd, hz⟩ := seq_at I hs
  rw [Vals.ref1 r]
  have hi := rv.ints
  refine SrtO.sorted_from (ltv := SrtO.ltIv) (fun vs => vs = its) SrtO.swo_int (fun vs e => by rw [e, ← rv.length]; exact hz) (fun R k => wpAny_collect_seq a hT ho hc hd (fun g keep => ?_) (by rw [List.size_toArray, ← rv.length]; exact hz)) (fun vs g tk a' e h2 keep _ => ?_) fun vs ys g g2 tk e h1 h2 keep keep2 hn => ?_
  · have := k g s.toks its keep rfl
    simpa using this
  · subst e; exact SrtO.ints_sortable hi h2
  · subst e
    obtain ⟨k1, k2, k3⟩ := SrtO.ints_out hi h1 h2
    obtain ⟨m, hn⟩ := hn
    have I1 : Inv X pins σ H { s with heap := g, toks := tk } := I.kept keep
    have hlen : ((ys.map SrtO.iv).map V.int).length ≤ sizeLine := by
      rw [List.length_map, k2.length_eq]
      rw [List.length_map] at hz
      exact hz
    exact ⟨.ref _, upd H g.objs.size (.lst ((ys.map SrtO.iv).map V.int)), I1.laid (t' := tk) keep2 (Nat.le_refl _) ⟨hlen, ys, m, vals_of_ints k1, hn⟩, rfl, q _ _ k2 k3 (I1.hok.fresh (Nat.le_refl _))⟩
/-- pairs of ints, one by one -/
inductive Prs (K : PySem.W.Frag) (H : Hp) : List V → List (Int × Int) → Prop
  | nil : Prs K H [] []
  | cons {t : Addr} {p : Int × Int} {vs : List V} {ps : List (Int × Int)} : SqT K H t [.int p.1, .int p.2] → Prs K H vs ps → Prs K H (.ref t :: vs) (p :: ps)
/-- sorted of pairs of ints -/
def rSrtP (K : PySem.W.Frag) : List V → Hp → VK → Prop := fun vs H Q => ∃ (a : Addr) (xs : List V) (ps : List (Int × Int)), vs = [V.ref a] ∧ (SqL K H a xs ∨ SqT K H a xs) ∧ Prs K H xs ps ∧
  ∀ (ys : List V) (qs : List (Int × Int)) (p : Addr), qs.Perm ps → qs.Pairwise (fun x y => SrtO.lexB y x = false) → Prs K H ys qs → H p = none → Q (.ref p) (upd H p (.lst ys))
open Srt in
open Classical in
noncomputable def kfO (h : Heap) (v : Value) : Int × Int := if z : ∃ p : Int × Int, IsPair h v p.1 p.2 then Classical.choose z else (0, 0)
open Srt in
theorem isPair_uniq {h : Heap} {v : Value} {a b c d : Int} (x : IsPair h v a b) (y : IsPair h v c d) : a = c ∧ b = d := by
  obtain ⟨t, o, t1, t2, n, e1, e2, e3, e4⟩ := x
  obtain ⟨t', o', t1', t2', n', f1, f2, f3, f4⟩ := y
  rw [e1] at f1
  cases f1
  rw [e2] at f2
  cases f2
  rw [e4] at f4
  cases f4
  exact ⟨rfl, rfl⟩
open Srt in
theorem kfO_at {h : Heap} {v : Value} {p : Int × Int} (x : IsPair h v p.1 p.2) : kfO h v = p := by
  have z : ∃ p : Int × Int, IsPair h v p.1 p.2 := ⟨p, x⟩
  unfold kfO
  rw [dif_pos z]
  obtain ⟨a, b⟩ := isPair_uniq (Classical.choose_spec z) x
  exact Prod.ext a b
open Srt in
/-- the pairs as they lie -/
theorem prs_at {pins : List (Addr × Obj)} {σ : L2.St} {s : Shared} (I : Inv X pins σ H s) : ∀ {xs : List V} {ps : List (Int × Int)} {its : List Value}, Prs X.K H xs ps → Vals xs its → (∀ v ∈ its, IsPair s.heap v (kfO s.heap v).1 (kfO s.heap v).2) ∧ its.map (kfO s.heap) = ps ∧
    ∀ v ∈ its, ∃ t, v = .ref t ∧ SqT X.K H t [.int (kfO s.heap v).1, .int (kfO s.heap v).2]
  | _, _, _, .nil, .nil => ⟨by simp, rfl, by simp⟩
  | _, _, _, .cons (t := t) (p := p) h r, .cons rv rr => by
    obtain ⟨q1, q2, q3⟩ := prs_at I r rr
    cases rv
    obtain ⟨its, r2, ⟨o, ho, hc, n, hd⟩, _⟩ := I.tuple h
    obtain ⟨u1, u2, rfl, ri, rj⟩ := vals2 r2
    obtain ⟨t1, rfl⟩ := ri
    obtain ⟨t2, rfl⟩ := rj
    have x : IsPair s.heap (.ref t) p.1 p.2 := ⟨t, o, t1, t2, n, rfl, ho, hc, hd⟩
    have e := kfO_at x
    refine ⟨fun v hv => ?_, by rw [List.map_cons, e, q2], fun v hv => ?_⟩
    · rcases List.mem_cons.mp hv with rfl | hv
      · rw [e]; exact x
      · exact q1 v hv
    · rcases List.mem_cons.mp hv with rfl | hv
      · rw [e]; exact ⟨t, rfl, h⟩
      · exact q3 v hv
theorem prs_back {h : Heap} : ∀ {ys : List Value}, (∀ v ∈ ys, ∃ t, v = .ref t ∧ SqT X.K H t [.int (kfO h v).1, .int (kfO h v).2]) → Prs X.K H (ys.map backV) (ys.map (kfO h)) ∧ Vals (ys.map backV) ys
  | [], _ => ⟨.nil, .nil⟩
  | v :: ys, hv => by
    obtain ⟨a, b⟩ := prs_back (ys := ys) fun u hu => hv u (List.mem_cons_of_mem _ hu)
    obtain ⟨t, rfl, q⟩ := hv v List.mem_cons_self
    exact ⟨.cons q a, .cons rfl b⟩
theorem cr_srtP : CallR X (.builtin "sorted") (rSrtP X.K) := by
  intro pins s σ H vs us Q I r h
  obtain ⟨a, xs, ps, rfl, hs, hp, q⟩ := h
  obtain ⟨its, T, o, n, rv, hT, ho, hc, hd, hz⟩ := seq_at I hs
  rw [Vals.ref1 r]
  obtain ⟨q1, q2, q3⟩ := prs_at I hp rv
  refine SrtO.sorted_from (ltv := fun v u => SrtO.lexB (kfO s.heap v) (kfO s.heap u)) (fun vs => vs = its) (SrtO.swo_lex (kfO s.heap)) (fun vs e => by rw [e, ← rv.length]; exact hz)
    (fun R k => wpAny_collect_seq a hT ho hc hd (fun g keep => ?_) (by rw [List.size_toArray, ← rv.length]; exact hz)) (fun vs g tk a' e h2 keep hg => ?_) fun vs ys g g2 tk e h1 h2 keep keep2 hn => ?_
  · have := k g s.toks its keep rfl
    simpa using this
  · subst e
    refine SrtO.pairs_sortableO (s := { s with heap := g, toks := tk }) (by omega) (fun v hm => (q1 v hm).keeps fun b o e _ => (keep b o e).2) fun o e c => ?_
    cases e.symm.trans hg
    exact absurd (Value.type.inj c) (by decide)
  · subst e
    obtain ⟨m, hn⟩ := hn
    have I1 : Inv X pins σ H { s with heap := g, toks := tk } := I.kept keep
    obtain ⟨b1, b2⟩ := prs_back (X := X) (H := H) (h := s.heap) (ys := ys) fun v hv => q3 v (h2.perm.mem_iff.mp hv)
    have hlen : (ys.map backV).length ≤ sizeLine := by
      rw [List.length_map, h2.perm.length_eq, ← rv.length]
      exact hz
    exact ⟨.ref _, upd H g.objs.size (.lst (ys.map backV)), I1.laid (t' := tk) keep2 (Nat.le_refl _) ⟨hlen, ys, m, b2, hn⟩, rfl, q _ _ _ (by rw [← q2]; exact h2.perm.map _) (SrtO.srtd_map h1) b1 (I1.hok.fresh (Nat.le_refl _))⟩
/-- sorted of a dict with int keys -/
def rSrtD : List V → Hp → VK → Prop := fun vs H Q => ∃ (a : Addr) (kvs : List (Key × V)) (ks : List Int), vs = [.ref a] ∧ Rd H a (.dK kvs) ∧ kvs.map (·.1) = ks.map Sum.inl ∧ ks.length ≤ sizeLine ∧
  ∀ (ys : List Int) (p : Addr), ys.Perm ks → ys.Pairwise (· ≤ ·) → H p = none → Q (.ref p) (upd H p (.lst (ys.map V.int)))
theorem cr_srtD (calm : X.calm = true) : CallR X (.builtin "sorted") rSrtD := by
  intro pins s σ H vs us Q I r h
  obtain ⟨a, kvs, ks, rfl, hr, hk, hz, q⟩ := h
  rw [Vals.ref1 r]
  obtain ⟨z, lo, es, rel, dd⟩ := dk_rd I.hok hr
  obtain ⟨ep, hat⟩ := dd.dictAt
  have ek : es.map (·.1) = ks.map Sum.inl := rel.keys.symm.trans hk
  have el : es.length = ks.length := by
    have e := congrArg List.length ek
    simpa using e
  refine SrtO.sorted_from (ltv := SrtO.ltIv) (fun vs => IntsAre vs ks) SrtO.swo_int (fun vs e => ?_) (fun R k => ?_) (fun vs g tk a' e h2 keep _ => SrtO.ints_sortable e h2) fun vs ys g g2 tk e h1 h2 keep keep2 hn => ?_
  · rw [e.length]; exact hz
  · refine PySem.W.kdu_collect (A := X.A.in1) (PySem.W.kdl_dict (knd := mixKind X.prog X.w) (kvs := es) (ep := ep) lo) (I.ok.hd calm) hat (by rw [el]; exact hz) fun g tk acc keep ha => k g tk _ keep ?_
    refine ints_each (by rw [Array.length_toList, ha.1, el]) fun j v e => ?_
    obtain ⟨k', x, e1, e2⟩ := ha.2 j v (by rw [← Array.getElem?_toList]; exact e)
    have e3 : (es.map (·.1))[j]? = some k' := by simp [e1]
    rw [ek, List.getElem?_map] at e3
    obtain ⟨y, e4, e5⟩ := Option.map_eq_some_iff.mp e3
    subst e5
    rcases keyIs_shape (show keyIs (Sum.inl y) v = true from e2) with ⟨i, t, c1, c2⟩ | ⟨x, t, c1, c2⟩
    · cases c1
      exact ⟨y, t, e4, c2⟩
    · cases c1
  · obtain ⟨k1, k2, k3⟩ := SrtO.ints_out e h1 h2
    obtain ⟨m, hn⟩ := hn
    have I1 : Inv X pins σ H { s with heap := g, toks := tk } := I.kept keep
    have hlen : ((ys.map SrtO.iv).map V.int).length ≤ sizeLine := by rw [List.length_map, k2.length_eq]; exact hz
    exact ⟨.ref _, upd H g.objs.size (.lst ((ys.map SrtO.iv).map V.int)), I1.laid (t' := tk) keep2 (Nat.le_refl _) ⟨hlen, ys, m, vals_of_ints k1, hn⟩, rfl, q _ _ k2 k3 (I1.hok.fresh (Nat.le_refl _))⟩

/-! ### the evaluator's sort -/
theorem insertBy_perm {α : Type} (le : α → α → Bool) (x : α) : ∀ ys : List α, (insertBy le x ys).Perm (x :: ys)
  | [] => .refl _
  | y :: ys => by
    unfold insertBy
    split
    · exact .refl _
    · exact ((insertBy_perm le x ys).cons y).trans (.swap x y ys)
theorem sortBy_perm {α : Type} (le : α → α → Bool) : ∀ xs : List α, (sortBy le xs).Perm xs
  | [] => .refl _
  | x :: xs => (insertBy_perm le x _).trans ((sortBy_perm le xs).cons x)
theorem insertBy_pw {α : Type} {le : α → α → Bool} (tot : ∀ a b, le a b = false → le b a = true) (tr : ∀ a b c, le a b = true → le b c = true → le a c = true) (x : α) : ∀ {ys : List α}, ys.Pairwise (fun a b => le a b = true) → (insertBy le x ys).Pairwise (fun a b => le a b = true)
  | [], _ => List.pairwise_singleton _ _
  | y :: ys, h => by
    unfold insertBy
    have h2 := List.pairwise_cons.mp h
    split
    · rename_i e
      refine List.pairwise_cons.mpr ⟨fun z hz => ?_, h⟩
      rcases List.mem_cons.mp hz with rfl | hz
      · exact e
      · exact tr _ _ _ e (h2.1 z hz)
    · rename_i e
      refine List.pairwise_cons.mpr ⟨fun z hz => ?_, insertBy_pw tot tr x h2.2⟩
      rcases List.mem_cons.mp ((insertBy_perm le x ys).mem_iff.mp hz) with rfl | hz
      · exact tot _ _ (by simpa using e)
      · exact h2.1 z hz
theorem sortBy_pw {α : Type} {le : α → α → Bool} (tot : ∀ a b, le a b = false → le b a = true) (tr : ∀ a b c, le a b = true → le b c = true → le a c = true) : ∀ xs : List α, (sortBy le xs).Pairwise (fun a b => le a b = true)
  | [] => .nil
  | x :: xs => insertBy_pw tot tr x (sortBy_pw tot tr xs)
/-- what is sorted is this -/
theorem sortBy_uniq {α : Type} {le : α → α → Bool} (tot : ∀ a b, le a b = false → le b a = true) (tr : ∀ a b c, le a b = true → le b c = true → le a c = true) (anti : ∀ a b, le a b = true → le b a = true → a = b) {xs ys : List α} (p : ys.Perm xs)
    (h : ys.Pairwise (fun a b => le a b = true)) : ys = sortBy le xs := List.Perm.eq_of_pairwise (fun a b _ _ => anti a b) h (sortBy_pw tot tr xs) (p.trans (sortBy_perm le xs).symm)
abbrev leI (a b : Int) : Bool := decide (a ≤ b)
theorem sortI_uniq {xs ys : List Int} (p : ys.Perm xs) (h : ys.Pairwise (· ≤ ·)) : ys = sortBy leI xs := by
  refine sortBy_uniq (fun a b h => ?_) (fun a b c h h' => ?_) (fun a b h h' => ?_) p (h.imp fun h => decide_eq_true h)
  · have := of_decide_eq_false h; exact decide_eq_true (by omega)
  · have := of_decide_eq_true h; have := of_decide_eq_true h'; exact decide_eq_true (by omega)
  · have := of_decide_eq_true h; have := of_decide_eq_true h'; omega
theorem leP_iff {p q : Int × Int} : leP p q = true ↔ p.1 < q.1 ∨ (p.1 = q.1 ∧ p.2 ≤ q.2) := by simp [leP]
theorem leP_not {p q : Int × Int} : leP p q = false ↔ ¬ (p.1 < q.1 ∨ (p.1 = q.1 ∧ p.2 ≤ q.2)) := by
  rw [← leP_iff]; cases leP p q <;> simp
theorem sortP_uniq {xs ys : List (Int × Int)} (p : ys.Perm xs) (h : ys.Pairwise (fun x y => SrtO.lexB y x = false)) : ys = sortBy leP xs := by
  refine sortBy_uniq (fun a b h => ?_) (fun a b c h h' => ?_) (fun a b h h' => ?_) p (h.imp fun h => ?_)
  · have := leP_not.mp h; exact leP_iff.mpr (by omega)
  · have := leP_iff.mp h; have := leP_iff.mp h'; exact leP_iff.mpr (by omega)
  · have := leP_iff.mp h; have := leP_iff.mp h'; exact Prod.ext (by omega) (by omega)
  · have := SrtO.lexB_no.mp h; exact leP_iff.mpr (by omega)
theorem reps_prs {xs : List D} {ps : List (Int × Int)} {vs : List V} (p : Reps K W H xs vs) (h : pairsD xs = some ps) : Prs K H vs ps := by
  induction xs generalizing ps vs with
  | nil => cases p; cases h; exact .nil
  | cons x xs ih =>
    cases p with
    | @cons _ v _ vs a b =>
      unfold pairsD at h
      split at h
      · rename_i e; cases e
      · rename_i e
        cases e
        rw [Option.map_eq_some_iff] at h
        obtain ⟨qs, h1, h2⟩ := h
        subst h2
        cases a with
        | tup h3 h4 =>
          cases h4 with
          | cons p1 r1 => cases r1 with
            | cons p2 r2 =>
              cases r2; cases p1; cases p2
              exact .cons h3 (ih b h1)
      · cases h
theorem prs_reps {ps : List (Int × Int)} {vs : List V} (p : Prs K H vs ps) : Reps K W H (ps.map pairD) vs := by
  induction p with
  | nil => exact .nil
  | cons h _ ih => exact .cons (.tup h (.cons (.int _) (.cons (.int _) .nil))) ih
def rSrtS : List V → Hp → VK → Prop := fun xs H Q => ∃ (a : Addr) (kvs : List (Key × V)) (ks : List Str), xs = [.ref a] ∧ Rd H a (.dK kvs) ∧ kvs.map (·.1) = ks.map Sum.inr ∧ ks.length < 64 ∧
    ∀ ys p, ys.Perm ks → PyProof.Rows.sortedS ys = true → H p = none → Q (.ref p) (upd H p (.lst (ys.map V.str)))
def rSrt (K : PySem.W.Frag) : List V → Hp → VK → Prop := fun vs H Q => ((rSrtI K vs H Q ∨ rSrtP K vs H Q) ∨ rSrtD vs H Q) ∨ rSrtS vs H Q
theorem cr_srt (calm : X.calm = true) : CallR X (.builtin "sorted") (rSrt X.K) := ((cr_srtI.or cr_srtP).or (cr_srtD calm)).or (call_sortedD calm)
/-- texts by their signs -/
theorem leS_iff {x y : Str} : leS x y = true ↔ x.cps.toList ≤ y.cps.toList := by
  unfold leS
  rw [PyProof.Rows.ltCps_eq]
  simp
theorem leS_tot (a b : Str) (h : leS a b = false) : leS b a = true := by
  rw [leS_iff]
  rcases List.le_total b.cps.toList a.cps.toList with q | q
  · exact q
  · rw [leS_iff.mpr q] at h; cases h
theorem leS_tr (a b c : Str) (h : leS a b = true) (h' : leS b c = true) : leS a c = true := leS_iff.mpr (List.le_trans (leS_iff.mp h) (leS_iff.mp h'))
theorem leS_anti (a b : Str) (h : leS a b = true) (h' : leS b a = true) : a = b := by
  have e := List.le_antisymm (leS_iff.mp h) (leS_iff.mp h')
  cases a; cases b
  simp only [Array.toList_inj] at e
  rw [e]
theorem rising_pw : ∀ (ys : List Str) (p : Str), PyProof.Rows.risingS p ys = true → (p :: ys).Pairwise (fun a b => leS a b = true)
  | [], p, _ => List.pairwise_singleton _ _
  | y :: ys, p, h => by
    unfold PyProof.Rows.risingS at h
    rw [Bool.and_eq_true] at h
    have q := rising_pw ys y h.2
    have h1 : leS p y = true := h.1
    refine List.pairwise_cons.mpr ⟨fun z hz => ?_, q⟩
    rcases List.mem_cons.mp hz with rfl | hz
    · exact h1
    · exact leS_tr _ _ _ h1 ((List.pairwise_cons.mp q).1 z hz)
theorem sortS_uniq {xs ys : List Str} (p : ys.Perm xs) (h : PyProof.Rows.sortedS ys = true) : ys = sortBy leS xs := by
  refine sortBy_uniq leS_tot leS_tr leS_anti p ?_
  cases ys with
  | nil => exact .nil
  | cons y ys => exact rising_pw ys y h
theorem keysI_eq {ds : List (Ky × D)} {is : List Int} (h : keysI ds = some is) : ds.map (·.1) = is.map Sum.inl := by
  induction ds generalizing is with
  | nil => cases h; rfl
  | cons x ds ih =>
    obtain ⟨k, d⟩ := x
    cases k with
    | inl i =>
      simp only [keysI, Option.map_eq_some_iff] at h
      obtain ⟨js, h1, h2⟩ := h
      subst h2
      simp [ih h1]
    | inr i => cases h
theorem keysS_eq {ds : List (Ky × D)} {is : List Str} (h : keysS ds = some is) : ds.map (·.1) = is.map Sum.inr := by
  induction ds generalizing is with
  | nil => cases h; rfl
  | cons x ds ih =>
    obtain ⟨k, d⟩ := x
    cases k with
    | inr i =>
      simp only [keysS, Option.map_eq_some_iff] at h
      obtain ⟨js, h1, h2⟩ := h
      subst h2
      simp [ih h1]
    | inl i => cases h
theorem reps_str : ∀ ns : List Str, Reps K W H (ns.map D.str) (ns.map V.str)
  | [] => .nil
  | n :: ns => .cons (.str n) (reps_str ns)
theorem sort_new {as : List D} {vs : List V} {xs : List D} {Q : VK} (r : Rel K nm W S H) (p : Reps K W H as vs) (h : sortF as S = some (.lst xs)) (f : FinL K W H xs Q) : rSrt K vs H Q := by
  simp only [sortF] at h
  split at h <;> try (cases h; done)
  obtain ⟨v, e0, p1⟩ := reps1 p
  subst e0
  split at h
  · rename_i ys e
    rw [Option.map_eq_some_iff] at h
    obtain ⟨zs, h1, h2⟩ := h
    cases h2
    obtain ⟨a, ws, rfl, h3, h4⟩ := rep_seq r p1 e
    simp only [sortD] at h1
    split at h1
    · rename_i is ei
      cases h1
      have h5 := reps_ints h4 ei
      subst h5
      refine .inl (.inl (.inl ⟨a, is, rfl, h3, fun ms p' q1 q2 hp => ?_⟩))
      have := sortI_uniq q1 q2
      subst this
      exact f _ _ (reps_int _) hp
    · split at h1
      · rename_i ps ep
        cases h1
        refine .inl (.inl (.inr ⟨a, ws, ps, rfl, h3, reps_prs h4 ep, fun ys qs p' q1 q2 q3 hp => ?_⟩))
        have := sortP_uniq q1 q2
        subst this
        exact f _ _ (prs_reps q3) hp
      · cases h1
  · split at h
    · rename_i kvs e
      obtain ⟨a, ws, rfl, h3, h4⟩ := rep_dct r p1 e
      split at h
      · rename_i is ei
        split at h
        · rename_i hz
          cases h
          refine .inl (.inr ⟨a, ws, is, rfl, h3, (repK_keys h4).trans (keysI_eq ei), by rw [← SZ_eq]; exact hz, fun ms p' q1 q2 hp => ?_⟩)
          have := sortI_uniq q1 q2
          subst this
          exact f _ _ (reps_int _) hp
        · cases h
      · split at h
        · rename_i ss es
          split at h
          · rename_i hz
            cases h
            refine .inr ⟨a, ws, ss, rfl, h3, (repK_keys h4).trans (keysS_eq es), hz, fun ys p' q1 q2 hp => ?_⟩
            have := sortS_uniq q1 q2
            subst this
            exact f _ _ (reps_str _) hp
          · cases h
        · cases h
    · cases h
theorem sortF_lst {as : List D} {d : D} (h : sortF as S = some d) : ∃ xs, d = .lst xs := by
  simp only [sortF] at h
  split at h <;> try (cases h; done)
  split at h
  · rw [Option.map_eq_some_iff] at h
    obtain ⟨xs, _, h2⟩ := h
    exact ⟨xs, h2.symm⟩
  · split at h <;> try (cases h; done)
    split at h
    · split at h <;> cases h
      exact ⟨_, rfl⟩
    · split at h <;> try (cases h; done)
      split at h <;> cases h
      exact ⟨_, rfl⟩
theorem sorted_ok : CallK X K nm sortF (rSrt K) := by
  intro W S H as vs d Q r p h f
  obtain ⟨xs, rfl⟩ := sortF_lst h
  exact sort_new r p h (f.finL r)
/-! ### str, int -/
def rStr : List V → Hp → VK → Prop := fun xs H Q => ∃ i, xs = [.int i] ∧ i.natAbs.log2 < 1920 ∧ Q (.str (toString i : String)) H
theorem str_ok : CallK X K nm strF rStr := by
  intro W S H as vs d Q r p h f
  simp only [strF] at h
  split at h <;> try (cases h; done)
  obtain ⟨v, e0, p1⟩ := reps1 p
  subst e0
  rw [Option.map_eq_some_iff] at h
  obtain ⟨x, h1, h2⟩ := h
  subst h2
  simp only [textOf] at h1
  split at h1
  · cases h1; cases p1
    exact ⟨_, rfl, by assumption, f.here r (.str _)⟩
  · cases h1
def rInt : List V → Hp → VK → Prop := fun xs H Q => ((∃ i, xs = [.int i] ∧ Q (.int i) H) ∨ ∃ b, xs = [.bl b] ∧ Q (.int (if b then 1 else 0)) H) ∨ ∃ a n, xs = [.str a] ∧ PySem.intText? a = some n ∧ a.length ≤ 640 ∧ Q (.int n) H
theorem int_ok : CallK X K nm intF rInt := by
  intro W S H as vs d Q r p h f
  simp only [intF] at h
  split at h <;> try (cases h; done)
  · obtain ⟨v, e0, p1⟩ := reps1 p
    subst e0
    cases h; cases p1
    exact .inl (.inr ⟨_, rfl, f.here r (.int _)⟩)
  · obtain ⟨v, e0, p1⟩ := reps1 p
    subst e0
    split at h
    · rename_i hz
      rw [Option.map_eq_some_iff] at h
      obtain ⟨x, h1, h2⟩ := h
      subst h2
      cases p1
      exact .inr ⟨_, _, rfl, h1, hz, f.here r (.int _)⟩
    · cases h
end
end PL

set_option Elab.async false
set_option linter.all false
set_option maxRecDepth 100000
set_option maxHeartbeats 1000000
/-! PLF: the evaluator against the model: expressions. -/
namespace PL
open PySem PySem.Spec PyProof.Rows L2

/-! ### readings of the evaluator's results -/
section
variable {K : PySem.W.Frag} {nm : Nm} {W W' W'' : Wd} {H H' H'' : Hp} {S S' : Store} {X : Cx} {Wi : WX}
/-- what must hold behind r, by kind of value -/
def Wq {α β : Type} (K : PySem.W.Frag) (nm : Nm) (rp : Wd → Hp → α → β → Prop) (W : Wd) (H : Hp) (r : R α) (Q : β → Hp → Prop) (Xc : Nat → Hp → Prop) : Prop := match r with
  | .ok d S' => ∀ v W' H', Ext W H W' H' → Rel K nm W' S' H' → rp W' H' d v → Q v H'
  | .ex c S' => ∀ W' H', Ext W H W' H' → Rel K nm W' S' H' → Xc c H'
  | .bad => False
theorem Wq.mono {α β : Type} {rp : Wd → Hp → α → β → Prop} {r : R α} {Q Q' : β → Hp → Prop} {Xc : Nat → Hp → Prop} (w : Wq K nm rp W H r Q Xc) (h : ∀ v H, Q v H → Q' v H) : Wq K nm rp W H r Q' Xc := by
  cases r with
  | ok d S => exact fun v W' H' e r p => h _ _ (w v W' H' e r p)
  | ex c S => exact w
  | bad => exact w
theorem Wq.ext {α β : Type} {rp : Wd → Hp → α → β → Prop} {r : R α} {Q : β → Hp → Prop} {Xc : Nat → Hp → Prop} (e : Ext W H W' H') (t : Trk W' H') (w : Wq K nm rp W H r Q Xc) : Wq K nm rp W' H' r Q Xc := by
  cases r with
  | ok d S => exact fun v W2 H2 e2 r p => w v W2 H2 (e.trans t e2) r p
  | ex c S => exact fun W2 H2 e2 r => w W2 H2 (e.trans t e2) r
  | bad => exact w
theorem Wq.bind {α β γ δ : Type} {rp : Wd → Hp → α → β → Prop} {rq : Wd → Hp → γ → δ → Prop} {r : R α} {f : α → Store → R γ} {Q : δ → Hp → Prop} {Xc : Nat → Hp → Prop} (w : Wq K nm rq W H (r.bind f) Q Xc) :
    Wq K nm rp W H r (fun v H1 => ∃ W1 S1 d, Ext W H W1 H1 ∧ Rel K nm W1 S1 H1 ∧ rp W1 H1 d v ∧ Wq K nm rq W1 H1 (f d S1) Q Xc) Xc := by
  cases r with
  | ok d S => exact fun v W1 H1 e r p => ⟨W1, S, d, e, r, p, Wq.ext e r.trk w⟩
  | ex c S => exact w
  | bad => exact w
/-- kinds of values -/
abbrev rpD (K : PySem.W.Frag) : Wd → Hp → D → V → Prop := Rep K
def rpB : Wd → Hp → Bool → Bool → Prop := fun _ _ a b => a = b
def rpA (K : PySem.W.Frag) : Wd → Hp → D → List V → Prop := fun W H d vs => ∃ xs, d = .tup xs ∧ Reps K W H xs vs
abbrev Xw (nm : Nm) (Wi : WX) (σ : L2.St) : Nat → Hp → Prop := fun c H' => Wi (.ref (nm.X c)) none σ H'
def tX {α β : Type} (K : PySem.W.Frag) (nm : Nm) (rp : Wd → Hp → α → β → Prop) (Wi : WX) (f : Env → Store → R α) : L2.St → Hp → (β → Hp → Prop) → Prop := fun σ H Q => ∃ W S env, ERep K W H env σ ∧ Rel K nm W S H ∧ Wq K nm rp W H (f env S) Q (Xw nm Wi σ)
abbrev tE (K : PySem.W.Frag) (nm : Nm) (Wi : WX) (f : Env → Store → R D) : TE := tX K nm (rpD K) Wi f
abbrev tT (K : PySem.W.Frag) (nm : Nm) (Wi : WX) (f : Env → Store → R Bool) : TT := tX K nm rpB Wi f
abbrev tA (K : PySem.W.Frag) (nm : Nm) (Wi : WX) (f : Env → Store → R D) : TA := tX K nm (rpA K) Wi f
theorem R.bind_assoc {α β γ : Type} (r : R α) (f : α → Store → R β) (g : β → Store → R γ) : (r.bind f).bind g = r.bind fun a S => (f a S).bind g := by cases r <;> rfl
/-- a value that is there at once -/
theorem Wq.of {α β : Type} {rp : Wd → Hp → α → β → Prop} {o : Option α} {Q : β → Hp → Prop} {Xc : Nat → Hp → Prop} (w : Wq K nm rp W H (R.of o S) Q Xc) : ∃ d, o = some d ∧ ∀ v W' H', Ext W H W' H' → Rel K nm W' S H' → rp W' H' d v → Q v H' := by
  cases o with
  | some d => exact ⟨d, rfl, w⟩
  | none => exact w.elim
theorem Wq.fin {o : Option D} {Q : VK} {Xc : Nat → Hp → Prop} (w : Wq K nm (rpD K) W H (R.of o S) Q Xc) : ∃ d, o = some d ∧ Fin K nm W S H d Q := w.of
section
variable {γ δ : Type} {rq : Wd → Hp → γ → δ → Prop}
theorem tX.one {fa : Env → Store → R D} {g : Env → D → Store → R γ} {σ : L2.St} {H : Hp} {Q : δ → Hp → Prop} (w : tX K nm rq Wi (fun env S => (fa env S).bind fun x S => g env x S) σ H Q) :
    tE K nm Wi fa σ H fun x H1 => ∃ W S dx env, ERep K W H1 env σ ∧ Rel K nm W S H1 ∧ Rep K W H1 dx x ∧ Wq K nm rq W H1 (g env dx S) Q (Xw nm Wi σ) := by
  obtain ⟨W, S, env, E, r, w⟩ := w
  refine ⟨W, S, env, E, r, (Wq.bind (rp := rpD K) w).mono fun x H1 ⟨W1, S1, dx, e1, r1, p1, w1⟩ => ⟨W1, S1, dx, env, E.mono r.trk e1, r1, p1, w1⟩⟩
theorem tX.test {fa : Env → Store → R Bool} {g : Env → Bool → Store → R γ} {σ : L2.St} {H : Hp} {Q : δ → Hp → Prop} (w : tX K nm rq Wi (fun env S => (fa env S).bind fun x S => g env x S) σ H Q) :
    tT K nm Wi fa σ H fun k H1 => tX K nm rq Wi (fun env S => g env k S) σ H1 Q := by
  obtain ⟨W, S, env, E, r, w⟩ := w
  refine ⟨W, S, env, E, r, (Wq.bind (rp := rpB) w).mono fun x H1 h => ?_⟩
  obtain ⟨W1, S1, dx, e1, r1, p1, w1⟩ := h
  cases (show dx = x from p1)
  exact ⟨W1, S1, env, E.mono r.trk e1, r1, w1⟩
theorem tX.args {fa : Env → Store → R D} {g : Env → D → Store → R γ} {σ : L2.St} {H : Hp} {Q : δ → Hp → Prop} (w : tX K nm rq Wi (fun env S => (fa env S).bind fun x S => g env x S) σ H Q) :
    tA K nm Wi fa σ H fun vs H1 => ∃ W S xs env, ERep K W H1 env σ ∧ Rel K nm W S H1 ∧ Reps K W H1 xs vs ∧ Wq K nm rq W H1 (g env (.tup xs) S) Q (Xw nm Wi σ) := by
  obtain ⟨W, S, env, E, r, w⟩ := w
  refine ⟨W, S, env, E, r, (Wq.bind (rp := rpA K) w).mono fun x H1 h => ?_⟩
  obtain ⟨W1, S1, dx, e1, r1, ⟨xs, e2, p1⟩, w1⟩ := h
  subst e2
  exact ⟨W1, S1, xs, env, E.mono r.trk e1, r1, p1, w1⟩
theorem tX.op {fa fb : Env → Store → R D} {g : D → D → Store → R γ} {rr : R2} {σ : L2.St} {H : Hp} {Q : δ → Hp → Prop} {Q' : VK}
    (w : tX K nm rq Wi (fun env S => (fa env S).bind fun x S => (fb env S).bind fun y S => g x y S) σ H Q)
    (hr : ∀ {W : Wd} {S : Store} {H : Hp} {dx dy : D} {x y : V}, Rel K nm W S H → Rep K W H dx x → Rep K W H dy y → Wq K nm rq W H (g dx dy S) Q (Xw nm Wi σ) → rr x y H Q') : tOp rr (tE K nm Wi fa) (tE K nm Wi fb) σ H Q' := by
  obtain ⟨W, S, env, E, r, z⟩ := w
  refine ⟨W, S, env, E, r, (Wq.bind (rp := rpD K) z).mono fun x H1 z => ?_⟩
  obtain ⟨W1, S1, dx, e1, r1, p1, z⟩ := z
  refine ⟨W1, S1, env, E.mono r.trk e1, r1, (Wq.bind (rp := rpD K) z).mono fun y H2 z => ?_⟩
  obtain ⟨W2, S2, dy, e2, r2, p2, z⟩ := z
  exact hr r2 (p1.mono r1.trk e2) p2 z
end
theorem takes_none {X : Cx} : Takes X (fun _ _ _ _ => False) := takes0
end

/-! ### the check: e is what the written expression says -/
structure Sx where
  fnN : Nat → Option Str
  coN : Nat → Option Str
  blN : List Str
  clN : Nat → Option Str
  meN : Nat → Nat → Option Str
  fdN : Nat → Option Str
  exN : Nat → Option Str
  hdl : Str → Option (List Nat)
def vis (sc : Scope) (x : Str) : Bool := match sc.names.lookup x with
  | some .local => true
  | some .cell => true
  | some .free => true
  | _ => false
def gl (sc : Scope) (x : Str) : Bool := decide (sc.names.lookup x = some .globalImplicit)
def dbg (x : Str) : Bool := x == ("__debug__" : Str)
def bOp : BOp → Operator
  | .add => .Add | .sub => .Sub | .mul => .Mult | .mod => .Mod | .fdiv => .FloorDiv
def cOp : COp → CmpOp
  | .eq => .Eq | .ne => .NotEq | .lt => .Lt | .le => .LtE | .gt => .Gt | .ge => .GtE | .inn => .In | .nin => .NotIn | .iss => .Is | .nis => .IsNot
def bfN : Bf → Str
  | .len => "len" | .all => "all" | .any => "any" | .sum => "sum" | .tuple => "tuple" | .list => "list" | .sorted => "sorted" | .str => "str" | .int => "int" | .max => "max" | .min => "min"
def bfOk : Bf → Bool
  | .len => true | .all => true | .any => true | .sum => true | .tuple => true | .list => true | .max => true | .min => true | .sorted => true | .str => true | .int => true
def bmN : Bm → Str
  | .append => "append" | .split => "split" | .join => "join" | .partition => "partition" | .find => "find" | .index => "index" | .startswith => "startswith" | .upper => "upper" | .pop => "pop" | .get => "get" | .setdefault => "setdefault" | .count => "count" | .popL => "pop"
/-- how many arguments -/
def bmA : Bm → Nat → Bool
  | .upper, 0 => true
  | .append, 1 => true | .split, 1 => true | .join, 1 => true | .partition, 1 => true | .find, 1 => true | .index, 1 => true | .startswith, 1 => true | .pop, 1 => true | .get, 1 => true | .popL, 1 => true
  | .pop, 2 => true | .get, 2 => true | .setdefault, 2 => true
  | _, _ => false
def noBase : Expr → Bool
  | .Call (.Name _ _) [] [] _ => false
  | _ => true
theorem base_ok {e : Expr} {n : Str} {env : PySem.Env} (h : noBase e = true) : attributeBase e n env (eval e env) = eval e env := by
  unfold attributeBase
  split
  · simp [noBase] at h
  · rfl
/-- what makes a new list -/
def isFresh : E → Bool
  | .lst _ => true | .bf .list _ => true | .bf .sorted _ => true | .bin .add _ _ => true | .bin .mul _ _ => true | .sl _ _ _ => true | .comp _ _ _ _ _ => true | .lrng _ _ => true
  | _ => false
def isVarE : E → Bool
  | .var _ => true
  | _ => false
def stepOf : Expr → Option Int
  | .Constant (.int i) _ _ => some i
  | .UnaryOp .USub (.Constant (.int i) _ _) _ => some (-i)
  | _ => none
def isSet : Expr → Bool
  | .Set _ _ _ => true
  | _ => false
def plainT : Expr → Bool
  | .Name _ _ => true | .Call _ _ _ _ => true | .Attribute _ _ _ => true | .Subscript _ _ _ => true | .Constant _ _ _ => true | .BinOp _ _ _ _ => true | .ListComp _ _ _ _ => true
  | _ => false
def notSlice : Expr → Bool
  | .Slice _ _ _ _ => false
  | _ => true
def notStar : Expr → Bool
  | .Starred _ _ => false
  | _ => true
def tyS : Nat → Str
  | 0 => "int" | 1 => "bool" | 2 => "str" | 3 => "tuple" | _ => "frozenset"
def slots : Tg → List Nat
  | .one i => [i]
  | .many is => is
/-- a name that is stored: fl: within a def's own frame, cells too -/
def tgN (N : List Str) (fl : Bool) (sc : Scope) (i : Nat) : Expr → Bool
  | .Name x _ => decide (N[i]? = some x) && (decide (sc.names.lookup x = some .local) || (fl && decide (sc.names.lookup x = some .cell)))
  | _ => false
def tgNs (N : List Str) (fl : Bool) (sc : Scope) : List Nat → List Expr → Bool
  | [], [] => true
  | i :: is, e :: es => tgN N fl sc i e && tgNs N fl sc is es
  | _, _ => false
def tgC (N : List Str) (fl : Bool) (sc : Scope) : Tg → Expr → Bool
  | .one i, e => tgN N fl sc i e
  | .many is, .Tuple es _ _ => tgNs N fl sc is es
  | _, _ => false
def tgNames : Expr → List Str
  | .Name x _ => [x]
  | .Tuple es _ _ => es.map fun e => match e with | .Name x _ => x | _ => ""
  | _ => []
def ownOf (tg : Tg) (t : Expr) : List (Str × Nat) := (tgNames t).zip (slots tg)
def isTup : Expr → Bool
  | .Tuple _ _ _ => true
  | _ => false
/-- the arguments of what is walked -/
def itArgs (blN : List Str) (k : IK) (sc : Scope) (t iter : Expr) : Option (List Expr) := match iter with
  | .Call (.Name g _) es [] _ => if gl sc g && decide (g ∈ blN) then (match k, es with
    | .rng1, [_] => if g = ("range" : Str) then some es else none
    | .rng2, [_, _] => if g = ("range" : Str) then some es else none
    | .rng3, [_, _, _] => if g = ("range" : Str) then some es else none
    | .enum, [_] => if g = ("enumerate" : Str) ∧ isTup t then some es else none
    | .zip, [_, _] => if g = ("zip" : Str) ∧ isTup t then some es else none
    | _, _ => none) else none
  | _ => none

/-- a slice's step, as it is written -/
def stepC (st : Int) : Expr → Bool
  | .Constant (.int c) _ _ => decide (st = c)
  | .UnaryOp .USub (.Constant (.int c) _ _) _ => decide (st = -c)
  | _ => false
/-- a written key -/
def keyStr : Option Expr → Option Str
  | some (.Constant (.str x) _ _) => some x
  | _ => none
section
variable (Y : Sx) (N : List Str)
mutual
def chk : E → Scope → Expr → Bool
  | .var i, sc, a => match a with
    | .Name x _ => decide (N[i]? = some x) && vis sc x && !dbg x && !(x == ("__classdict__" : Str))
    | _ => false
  | .con d, sc, a => match a, d with
    | .Constant (.int i) _ _, .int j => decide (i = j)
    | .Constant (.bool i) _ _, .bl j => decide (i = j)
    | .Constant .none _ _, .non => true
    | .Constant (.str i) _ _, .str j => decide (i = j)
    | _, _ => false
  | .glb j, sc, a => match a with
    | .Name x _ => decide (Y.coN j = some x) && gl sc x && !dbg x
    | _ => false
  | .bin o a b, sc, x => match x with
    | .BinOp p op q _ => decide (op = bOp o) && chk a sc p && chk b sc q
    | _ => false
  | .cmp o a b, sc, x => match x with
    | .Compare p [op] [q] _ => decide (op = cOp o) && !isSet q && chk a sc p && chk b sc q
    | _ => false
  | .chain o o' a b c, sc, x => match x with
    | .Compare p [op, op'] [q, r] _ => decide (op = cOp o) && decide (op' = cOp o') && !isSet q && !isSet r && chk a sc p && chk b sc q && chk c sc r
    | _ => false
  | .isn a, sc, x => match x with
    | .Compare p [.Is] [.Constant .none _ _] _ => chk a sc p
    | _ => false
  | .ntn a, sc, x => match x with
    | .Compare p [.IsNot] [.Constant .none _ _] _ => chk a sc p
    | _ => false
  | .neg a, sc, x => match x with
    | .UnaryOp .USub p _ => chk a sc p
    | _ => false
  | .nt a, sc, x => match x with
    | .UnaryOp .Not p _ => chk a sc p
    | _ => false
  | .one a, sc, x => match x with
    | .BoolOp _ [p] _ => chk a sc p
    | _ => false
  | .and a b, sc, x => match x with
    | .BoolOp .And (p :: q :: r) pos => chk a sc p && chk b sc (.BoolOp .And (q :: r) pos)
    | _ => false
  | .or a b, sc, x => match x with
    | .BoolOp .Or (p :: q :: r) pos => chk a sc p && chk b sc (.BoolOp .Or (q :: r) pos)
    | _ => false
  | .ite c a b, sc, x => match x with
    | .IfExp t p q _ => chkT c sc t && chk a sc p && chk b sc q
    | _ => false
  | .isa a t, sc, x => match x with
    | .Call (.Name f _) [p, .Name g _] [] _ => decide (f = ("isinstance" : Str)) && decide (g = tyS t) && decide (t < 4) && gl sc f && gl sc g && decide (f ∈ Y.blN) && decide (g ∈ Y.blN) && notStar p && chk a sc p
    | _ => false
  | .call f as, sc, x => match x with
    | .Call (.Name g _) (p :: ps) [] _ => decide (Y.fnN f = some g) && gl sc g && !dbg g && chkA as sc (p :: ps)
    | _ => false
  | .bf f as, sc, x => match x with
    | .Call (.Name g _) (p :: ps) [] _ => bfOk f && decide (g = bfN f) && gl sc g && decide (g ∈ Y.blN) && chkA as sc (p :: ps)
    | _ => false
  | .ix a i, sc, x => match x with
    | .Subscript p q _ => notSlice q && chk a sc p && chk i sc q
    | _ => false
  | .sl a lo hi, sc, x => match x with
    | .Subscript p (.Slice l h none _) _ => chk a sc p && (match l with | none => isEmp lo | some l => !isEmp lo && chk lo sc l) && (match h with | none => isEmp hi | some h => !isEmp hi && chk hi sc h)
    | _ => false
  | .sl3 a lo hi st, sc, x => match x with
    | .Subscript p (.Slice l h (some q) _) _ => chk a sc p && (match l with | none => isEmp lo | some l => !isEmp lo && chk lo sc l) && (match h with | none => isEmp hi | some h => !isEmp hi && chk hi sc h) && stepC st q
    | _ => false
  | .tup as, sc, x => match x with
    | .Tuple es _ _ => chkA as sc es
    | _ => false
  | .lst as, sc, x => match x with
    | .List es _ => chkA as sc es
    | _ => false
  | .new e, sc, x => isFresh e && chk e sc x
  | .dict0, _, x => match x with
    | .Dict [] [] _ => true
    | _ => false
  | .dict ks vs, sc, x => match x with
    | .Dict keys es _ => (match keysE ks with
      | some xs => decide (keys.map keyStr = xs.map some) && decide (1 ≤ keys.length ∧ keys.length ≤ 15) && decide (keys.length = es.length) && chkA vs sc es
      | none => false)
    | _ => false
  | .lrng k as, sc, x => match x with
    | .Call (.Name g _) [.Call (.Name r _) (p :: ps) [] _] [] _ => decide (g = ("list" : Str)) && decide (r = ("range" : Str)) && gl sc g && gl sc r && decide (g ∈ Y.blN) && decide (r ∈ Y.blN) && (match k with
      | .rng1 => decide (ps.length = 0) | .rng2 => decide (ps.length = 1) | .rng3 => decide (ps.length = 2) | _ => false) && chkA as sc (p :: ps)
    | _ => false
  | .din ng a b, sc, x => match x with
    | .Compare p [op] [q] _ => decide (op = (if ng then .NotIn else .In)) && !isSet q && chk a sc p && chk b sc q
    | _ => false
  | .dix a i, sc, x => match x with
    | .Subscript p q _ => notSlice q && chk a sc p && chk i sc q
    | _ => false
  | .bm m o as, sc, x => match x with
    | .Call (.Attribute e t ap) ps [] cp => decide (t = bmN m) && bmA m ps.length && (ap.endLine == cp.line) && noBase e && chk o sc e && chkA as sc ps
    | _ => false
  | .fld c o f, sc, x => match x with
    | .Attribute e n _ => (Y.clN c).isSome && decide (Y.fdN f = some n) && noBase e && chk o sc e
    | _ => false
  | .meth c o m as, sc, x => match x with
    | .Call (.Attribute e n ap) ps [] cp => decide (Y.meN c m = some n) && noBase e && (ap.endLine == cp.line) && decide (ps.length ≤ 20) && chk o sc e && chkA as sc ps
    | _ => false
  | .mk c as, sc, x => match x with
    | .Call (.Name g _) ps [] _ => decide (Y.clN c = some g) && gl sc g && !dbg g && chkA as sc ps
    | _ => false
  | .fstr as, sc, x => match x with
    | .JoinedStr (p :: q :: r) _ => decide ((p :: q :: r).length ≤ 12) && chkF as sc (p :: q :: r)
    | _ => false
  | .comp k src tg c e, sc, x => match x with
    | .ListComp elt [⟨t, iter, ifs, asy⟩] scope _ => decide (asy = 0) && !isSet iter && blkC N sc scope (ownOf tg t) && decide ((ownOf tg t).map (·.2) = slots tg) && tgC N false (relS scope sc) tg t &&
      (match k with
        | .plain => chk src sc iter
        | .keys => isVarE src && chk src sc iter
        | k => match itArgs Y.blN k sc t iter with
          | some es => chkA src sc es
          | none => false) &&
      (match ifs with
        | [] => isEmp c
        | [i] => chkT c (relS scope sc) i
        | _ => false) && chk e (relS scope sc) elt
    | _ => false
  | _, _, _ => false
def chkT : E → Scope → Expr → Bool
  | .nt a, sc, x => match x with
    | .UnaryOp .Not p _ => chkT a sc p
    | _ => false
  | .one a, sc, x => match x with
    | .BoolOp _ [p] _ => chkT a sc p
    | _ => false
  | .and a b, sc, x => match x with
    | .BoolOp .And (p :: q :: r) pos => chkT a sc p && chkT b sc (.BoolOp .And (q :: r) pos)
    | _ => false
  | .or a b, sc, x => match x with
    | .BoolOp .Or (p :: q :: r) pos => chkT a sc p && chkT b sc (.BoolOp .Or (q :: r) pos)
    | _ => false
  | .cmp o a b, sc, x => match x with
    | .Compare p [op] [q] _ => decide (op = cOp o) && !isSet q && chk a sc p && chk b sc q
    | _ => false
  | .chain o o' a b c, sc, x => match x with
    | .Compare p [op, op'] [q, r] _ => decide (op = cOp o) && decide (op' = cOp o') && !isSet q && !isSet r && chk a sc p && chk b sc q && chk c sc r
    | _ => false
  | .isn a, sc, x => match x with
    | .Compare p [.Is] [.Constant .none _ _] _ => chk a sc p
    | _ => false
  | .ntn a, sc, x => match x with
    | .Compare p [.IsNot] [.Constant .none _ _] _ => chk a sc p
    | _ => false
  | .din ng a b, sc, x => match x with
    | .Compare p [op] [q] _ => decide (op = (if ng then .NotIn else .In)) && !isSet q && chk a sc p && chk b sc q
    | _ => false
  | .val a, sc, x => plainT x && chk a sc x
  | _, _, _ => false
def chkM : E → Scope → Expr → Bool
  | .fmt a, sc, e => match e with
    | .FormattedValue p c s _ => decide (c = -1) && s.isNone && chk a sc p
    | _ => false
  | .con (.str y), sc, e => match e with
    | .Constant (.str z) _ _ => decide (y = z) && decide (y.length ≤ 1000000)
    | _ => false
  | _, _, _ => false
def chkF : E → Scope → List Expr → Bool
  | .nil, _, es => match es with
    | [] => true
    | _ => false
  | .cons a as, sc, es => match es with
    | e :: es => chkM a sc e && chkF as sc es
    | _ => false
  | _, _, _ => false
def chkA : E → Scope → List Expr → Bool
  | .nil, _, es => match es with
    | [] => true
    | _ => false
  | .cons a as, sc, es => match es with
    | e :: es => notStar e && chk a sc e && chkA as sc es
    | _ => false
  | _, _, _ => false
end
end
end PL

set_option Elab.async false
set_option linter.all false
set_option maxRecDepth 100000
set_option maxHeartbeats 1000000
/-! PLG: expressions are as the evaluator says. -/
namespace PL
open PySem PySem.Spec PyProof.Rows L2

structure GOk (K : PySem.W.Frag) (mg : Str → Option Value) (G : Tab) (Y : Sx) (nm : Nm) (fa : Nat → Addr) (fd : Nat → FuncData) (ps : Nat → List Str) : Prop where
  co : ∀ (j : Nat) (x : Str), Y.coN j = some x → ∃ d u v, G.consts j = some d ∧ mg x = some u ∧ RelV v u ∧ ∀ W H, Rep K W H d v
  fn : ∀ (f : Nat) (x : Str), Y.fnN f = some x → (G.fns f).isSome = true ∧ mg x = some (.ref (fa f)) ∧ PySem.W.keepIn K (.ref (fa f)) = true
  bi : ∀ f : Nat, (G.fns f).isSome = true → Binds K (fd f) (ps f) []
  bl : ∀ x ∈ Y.blN, mg x = none
  ex : ∀ (c : Nat) (x : Str), Y.exN c = some x → mg x = some (.ref (nm.X c)) ∧ PySem.W.keepIn K (.ref (nm.X c)) = true ∧ PySem.W.excIn K (nm.X c) [.type "ValueError", .type "Exception", .type "BaseException", .type "object"] "ValueError.__new__" = true ∧
    PySem.W.subIn K (.ref (nm.X c)) (.type "BaseException") = some true ∧ PySem.W.typeIn K (.ref (nm.X c)) = some (.type "type")
  hd : ∀ (x : Str) (cs : List Nat), Y.hdl x = some cs → ∃ a : Addr, mg x = some (.ref a) ∧ ∀ c ∈ G.exs, PySem.W.exmOne K (.ref (nm.X c)) (.ref a) = some (decide (c ∈ cs))
  cl : ∀ (c : Nat) (x : Str), Y.clN c = some x → Cls K (nm.C c) ∧ mg x = some (.ref (nm.C c)) ∧ ∀ (f : Nat) (n : Str), Y.fdN f = some n → NoAttr K (nm.C c) n ∧ n = nm.fn f
  me : ∀ (c m : Nat) (n : Str), Y.meN c m = some n → ∃ f, G.meth c m = some f ∧ (G.fns f).isSome = true ∧ Cls K (nm.C c) ∧ Meth K (nm.C c) n (fa f) ∧ ∀ g, nm.fn g ≠ n
  mke : ∀ (c : Nat) (x : Str), Y.clN c = some x → ∃ f, G.init c = some f ∧ (G.fns f).isSome = true ∧ Mk K (nm.C c) (fa f)
  inj : ∀ f g, nm.fn f = nm.fn g → f = g
structure COk (P : Program) (w : World) (K : PySem.W.Frag) (mg : Str → Option Value) (base : Heap) (kk : Nat) (N : List Str) (sc : Scope) (X : Cx) : Prop where
  hP : X.prog = P
  hw : X.w = w
  hK : X.K = K
  hm : X.mg = mg
  hb : X.base = base
  hN : X.N = N
  nd : N.Nodup
  sc : X.env.scope = sc
  room : Room (2 * kk + 1) X.A
  calm : X.calm = true
  fr : FrOk X
/-- a def's promise: it hands back what the evaluator says -/
def spF (K : PySem.W.Frag) (nm : Nm) (G : Tab) (kk f : Nat) : Sp := fun vs H Q E => ∃ W S as, Rel K nm W S H ∧ Reps K W H as vs ∧ Wq K nm (rpD K) W H (run G kk f as S) Q fun c H' => E (.ref (nm.X c)) none H'

section
variable {P : Program} {w : World} {K : PySem.W.Frag} {mg : Str → Option Value} {base : Heap} {G : Tab} {Y : Sx} {nm : Nm} {fa : Nat → Addr} {fd : Nat → FuncData} {ps : Nat → List Str} {kk : Nat} {N : List Str}
variable (P w K mg base G Y nm kk N) in
structure Snd (e : E) : Prop where
  v : ∀ (sc : Scope) (a : Expr) (X : Cx) (Wi : WX), chk Y N e sc a = true → COk P w K mg base kk N sc X → Tk X Wi → PE X a (tE K nm Wi (ev G (run G kk) e))
  t : ∀ (sc : Scope) (a : Expr) (X : Cx) (Wi : WX), chkT Y N e sc a = true → COk P w K mg base kk N sc X → Tk X Wi → PT X a (tT K nm Wi fun env S => mapT (ev G (run G kk) e env S))
  l : ∀ (sc : Scope) (a : List Expr) (X : Cx) (Wi : WX), chkA Y N e sc a = true → COk P w K mg base kk N sc X → Tk X Wi → PA X a (tA K nm Wi (ev G (run G kk) e))
variable {sc : Scope} {X : Cx} {Wi : WX}
theorem vis_ok (C : COk P w K mg base kk N sc X) {x : Str} (h : vis sc x = true) : Vis X.env.scope x := by
  rw [C.sc]
  unfold vis at h
  split at h
  · exact .inl (by assumption)
  · exact .inr (.inl (by assumption))
  · exact .inr (.inr (by assumption))
  · cases h
theorem gl_ok (C : COk P w K mg base kk N sc X) {x : Str} (h : gl sc x = true) : Gl X x := by
  have := of_decide_eq_true h
  show X.env.scope.names.lookup x = _
  rw [C.sc]; exact this
theorem dbg_ok {x : Str} (h : dbg x = false) : (x == ("__debug__" : Str)) = false := h
theorem star_ok {e : Expr} {es : List Expr} {env : PySem.Env} (h : notStar e = true) : starEach (e :: es) env = (false, eval e env) :: starEach es env := by
  cases e <;> first | rfl | cases h
theorem mark_ok {op : CmpOp} {e : Expr} (h : isSet e = false) : behindInMarks op e = false := by
  cases e <;> first | rfl | cases h
theorem stars_ok {e : E} {env : PySem.Env} {sc : Scope} : ∀ {as : E} {es : List Expr}, chkA Y N as sc es = true → ∀ {pos : Pos}, (backTo pos (starEach es env)).any (·.1) = false := by
  intro as
  induction as with
  | nil => intro es h pos; cases es <;> first | rfl | (simp [chkA] at h)
  | cons a as _ ih =>
    intro es h pos
    cases es with
    | nil => rfl
    | cons e es =>
      simp only [chkA, Bool.and_eq_true] at h
      rw [star_ok h.1.1]
      have := ih h.2 (pos := pos)
      simpa [backTo] using this
  | _ => intro es h pos; simp [chkA] at h

theorem stars_ok1 {env : PySem.Env} {sc : Scope} {as : E} {e : Expr} {es : List Expr} (h : chkA Y N as sc (e :: es) = true) {pos : Pos} : (backTo pos (starEach es env)).any (·.1) = false := by
  cases as <;> simp only [chkA, Bool.and_eq_true] at h <;> first | (cases h; done) | exact stars_ok (e := .emp) h.2
/-! ### names, constants -/
theorem s_var (i : Nat) : Snd P w K mg base G Y nm kk N (.var i) := by
  refine ⟨fun sc a X Wi h C tk => ?_, fun sc a X Wi h C tk => by simp [chkT] at h, fun sc a X Wi h C tk => by simp [chkA] at h⟩
  cases a <;> simp only [chk] at h <;> first | (cases h; done) | skip
  simp only [Bool.and_eq_true, Bool.not_eq_true', decide_eq_true_eq] at h
  obtain ⟨⟨⟨h1, h2⟩, h3⟩, h4⟩ := h
  refine (pe_var (i := i) (by rw [C.hN]; exact h1) (vis_ok C h2) h3 h4).imp fun σ H Q ⟨W, S, env, E, r, q⟩ => ?_
  simp only [ev] at q
  split at q
  · rename_i d e
    obtain ⟨v, e1, e2⟩ := E.get i d e
    exact ⟨v, e1, q v W H Ext.refl r e2⟩
  · exact q.elim
theorem s_con (d : D) : Snd P w K mg base G Y nm kk N (.con d) := by
  refine ⟨fun sc a X Wi h C tk => ?_, fun sc a X Wi h C tk => by simp [chkT] at h, fun sc a X Wi h C tk => by simp [chkA] at h⟩
  simp only [chk] at h
  have fin : ∀ {v : V} {σ : L2.St} {H : Hp} {Q : VK}, (∀ W, Rep K W H d v) → tE K nm Wi (ev G (run G kk) (.con d)) σ H Q → Q v H := fun {v σ H Q} p ⟨W, S, env, E, r, q⟩ => q v W H Ext.refl r (p W)
  split at h <;> first | (cases h; done) | (have h' := of_decide_eq_true h; subst h') | skip
  · exact pe_int.imp fun σ H Q q => fin (fun _ => .int _) q
  · exact pe_bl.imp fun σ H Q q => fin (fun _ => .bl _) q
  · exact pe_non.imp fun σ H Q q => fin (fun _ => .non) q
  · exact pe_str.imp fun σ H Q q => fin (fun _ => .str _) q
theorem s_glb (g : GOk K mg G Y nm fa fd ps) (j : Nat) : Snd P w K mg base G Y nm kk N (.glb j) := by
  refine ⟨fun sc a X Wi h C tk => ?_, fun sc a X Wi h C tk => by simp [chkT] at h, fun sc a X Wi h C tk => by simp [chkA] at h⟩
  cases a <;> simp only [chk] at h <;> first | (cases h; done) | skip
  simp only [Bool.and_eq_true, Bool.not_eq_true', decide_eq_true_eq] at h
  obtain ⟨⟨h1, h2⟩, h3⟩ := h
  obtain ⟨d, u, v, e1, e2, e3, e4⟩ := g.co j _ h1
  refine (pe_glob (gl_ok C h2) (by rw [C.hm]; exact e2) e3 h3).imp fun σ H Q ⟨W, S, env, E, r, q⟩ => ?_
  simp only [ev, e1, R.of_some] at q
  exact q v W H Ext.refl r (e4 _ _)

/-! ### operators -/
theorem s_bin (o : BOp) (a b : E) (ia : Snd P w K mg base G Y nm kk N a) (ib : Snd P w K mg base G Y nm kk N b) : Snd P w K mg base G Y nm kk N (.bin o a b) := by
  refine ⟨fun sc x X Wi h C tk => ?_, fun sc a X Wi h C tk => by simp [chkT] at h, fun sc a X Wi h C tk => by simp [chkA] at h⟩
  cases x <;> simp only [chk] at h <;> first | (cases h; done) | skip
  simp only [Bool.and_eq_true, decide_eq_true_eq] at h
  obtain ⟨⟨h1, h2⟩, h3⟩ := h
  have pa := ia.v _ _ X Wi h2 C tk
  have pb := ib.v _ _ X Wi h3 C tk
  subst h1
  have U := C.room.units
  cases o with
  | add => exact (pe_op op_add4 pa pb).imp fun σ H Q wq => tX.op wq fun r p q z => by obtain ⟨d, e, f⟩ := z.fin; have := C.hK; subst this; exact add_ok r p q e f
  | sub => exact (pe_op op_sub pa pb).imp fun σ H Q wq => tX.op wq fun r p q z => by obtain ⟨d, e, f⟩ := z.fin; exact sub_ok r p q e f
  | mul => exact (pe_op op_mul3 pa pb).imp fun σ H Q wq => tX.op wq fun r p q z => by obtain ⟨d, e, f⟩ := z.fin; have := C.hK; subst this; exact mul_ok r p q e f
  | mod => exact (pe_op op_mod pa pb).imp fun σ H Q wq => tX.op wq fun r p q z => by obtain ⟨d, e, f⟩ := z.fin; exact mod_ok r p q e f
  | fdiv => exact (pe_op op_fdivW pa pb).imp fun σ H Q wq => tX.op wq fun r p q z => by obtain ⟨d, e, f⟩ := z.fin; exact fdiv_ok r p q e f
theorem bool_beq (a b : Bool) : (Value.bool a == Value.bool b) = decide (a = b) := by cases a <;> cases b <;> rfl
theorem op_isTruth : OpR X (compareOp .Is) (fun x y H Q => ∃ a b, x = .bl a ∧ y = .bl b ∧ Q (.bl (decide (a = b))) H) := by
  intro pins s σ H x y v u Q I rx ry h
  obtain ⟨a, b, rfl, rfl, q⟩ := h
  cases (show v = Value.bool a from rx)
  cases (show u = Value.bool b from ry)
  exact PySem.wpAny_is_plain rfl (fin_bl I q (bool_beq a b).symm)
theorem op_notTruth : OpR X (compareOp .IsNot) (fun x y H Q => ∃ a b, x = .bl a ∧ y = .bl b ∧ Q (.bl (!decide (a = b))) H) := by
  intro pins s σ H x y v u Q I rx ry h
  obtain ⟨a, b, rfl, rfl, q⟩ := h
  cases (show v = Value.bool a from rx)
  cases (show u = Value.bool b from ry)
  exact PySem.wpAny_isNot_plain rfl (fin_bl I q (congrArg not (bool_beq a b).symm))
/-- the comparisons, by values -/
theorem cop_ok (o : COp) (hK : X.K = K) (hu : X.A.units + 64 < cLine) (hu1 : X.A.in1.units + 64 < cLine) : ∃ r : R2, OpR X (compareOp (cOp o)) r ∧
    ∀ {W : Wd} {S : Store} {H : Hp} {dx dy : D} {b : Bool} {x y : V} {Q : VK}, Rel K nm W S H → Rep K W H dx x → Rep K W H dy y → cop o dx dy S = some b → Fin K nm W S H (.bl b) Q → r x y H Q := by
  subst hK
  cases o with
  | eq => exact ⟨_, (op_eq2 hu).or (op_eqK hu1 (by omega)), fun {W S H dx dy b x y Q} r p q h f => by
      simp only [cop] at h
      split at h
      · rename_i a b' e1 e2
        split at h
        · cases h; exact .inr (eqK_ok r p q e1 e2 (by assumption) f)
        · cases h
      · exact .inl (eq_ok r p q h f)⟩
  | ne => exact ⟨_, (op_ne2 hu).or (op_neK hu1 (by omega)), fun {W S H dx dy b x y Q} r p q h f => by
      simp only [cop] at h
      split at h
      · rename_i a b' e1 e2
        split at h
        · cases h; exact .inr (eqK_ok r p q e1 e2 (by assumption) f)
        · cases h
      · exact .inl (ne_ok r p q h f)⟩
  | lt => exact ⟨_, op_lt, fun r p q h f => ord_ok r p q h f⟩
  | le => exact ⟨_, op_le, fun r p q h f => ord_ok r p q h f⟩
  | gt => exact ⟨_, op_gt, fun r p q h f => ord_ok r p q h f⟩
  | ge => exact ⟨_, op_ge, fun r p q h f => ord_ok r p q h f⟩
  | inn => exact ⟨_, op_in2, fun {W S H dx dy b x y Q} r p q h f => by
      simp only [cop] at h
      split at h
      · exact in_ok (ng := false) r p q h (by assumption) f
      · cases h⟩
  | nin => exact ⟨_, op_nin2, fun {W S H dx dy b x y Q} r p q h f => by
      simp only [cop] at h
      split at h
      · rw [Option.map_eq_some_iff] at h
        obtain ⟨c, h1, h2⟩ := h
        exact in_ok (ng := true) r p q h1 (by assumption) (by simpa [h2] using f)
      · cases h⟩
  | iss => exact ⟨_, op_isTruth, fun {W S H dx dy b x y Q} r p q h f => by
      simp only [cop] at h
      split at h
      · cases h; cases p; cases q
        exact ⟨_, _, rfl, rfl, f.here r (.bl _)⟩
      · cases h⟩
  | nis => exact ⟨_, op_notTruth, fun {W S H dx dy b x y Q} r p q h f => by
      simp only [cop] at h
      split at h
      · cases h; cases p; cases q
        exact ⟨_, _, rfl, rfl, f.here r (.bl _)⟩
      · cases h⟩
/-- a truth that is tested -/
theorem bl_of {W : Wd} {S : Store} {H : Hp} {o : Option Bool} {Q : Bool → Hp → Prop} {Xc : Nat → Hp → Prop} {A : Prop} (z : Wq K nm rpB W H ((R.of (o.map D.bl) S).bind fun d S => R.of (truthy d S) S) Q Xc)
    (h : ∀ c, o = some c → Fin K nm W S H (.bl c) (fun x H' => ∃ k, x = .bl k ∧ Q k H') → A) : A := by
  cases o with
  | none => exact z.elim
  | some c =>
    refine h c rfl fun v W' H' e r p => ?_
    cases p
    exact ⟨c, rfl, z c W' H' e r rfl⟩
theorem s_cmp (o : COp) (a b : E) (ia : Snd P w K mg base G Y nm kk N a) (ib : Snd P w K mg base G Y nm kk N b) : Snd P w K mg base G Y nm kk N (.cmp o a b) := by
  refine ⟨fun sc x X Wi h C tk => ?_, fun sc x X Wi h C tk => ?_, fun sc a X Wi h C tk => by simp [chkA] at h⟩
  · simp only [chk] at h
    split at h <;> try (cases h; done)
    simp only [Bool.and_eq_true, decide_eq_true_eq, Bool.not_eq_true'] at h
    obtain ⟨⟨⟨h1, h0⟩, h2⟩, h3⟩ := h
    have pa := ia.v _ _ X Wi h2 C tk
    have pb := ib.v _ _ X Wi h3 C tk
    subst h1
    obtain ⟨rr, ho, hr⟩ := cop_ok (nm := nm) o C.hK C.room.units C.room.in1.units
    refine (pe_cmpR ho pa pb (mark_ok h0)).imp fun σ H Q wq => tX.op wq fun r p q z => ?_
    obtain ⟨d, e, f⟩ := z.fin
    rw [Option.map_eq_some_iff] at e
    obtain ⟨c, e1, e2⟩ := e
    subst e2
    exact hr r p q e1 f
  · simp only [chkT] at h
    split at h <;> try (cases h; done)
    simp only [Bool.and_eq_true, decide_eq_true_eq, Bool.not_eq_true'] at h
    obtain ⟨⟨⟨h1, h0⟩, h2⟩, h3⟩ := h
    have pa := ia.v _ _ X Wi h2 C tk
    have pb := ib.v _ _ X Wi h3 C tk
    subst h1
    obtain ⟨rr, ho, hr⟩ := cop_ok (nm := nm) o C.hK C.room.units C.room.in1.units
    refine (pt_cmpR ho pa pb (mark_ok h0)).imp fun σ H Q wq => ?_
    simp only [ev, mapT, R.bind_assoc] at wq
    exact tX.op wq fun r p q z => bl_of z fun c e f => hr r p q e f
end
end PL

set_option Elab.async false
set_option linter.all false
set_option maxRecDepth 100000
set_option maxHeartbeats 1000000
/-! PLH: expressions, the rest without comprehensions. -/
namespace PL
open PySem PySem.Spec PyProof.Rows L2
section
variable {P : Program} {w : World} {K : PySem.W.Frag} {mg : Str → Option Value} {base : Heap} {G : Tab} {Y : Sx} {nm : Nm} {fa : Nat → Addr} {fd : Nat → FuncData} {ps : Nat → List Str} {kk : Nat} {N : List Str}
variable {sc : Scope} {X : Cx} {Wi : WX}
theorem marks2_ok {op op' : CmpOp} {b c : Expr} (h : isSet c = false) : lastMarks [op, op'] [b, c] = false := by
  show behindInMarks op' c = false
  exact mark_ok h
theorem s_chain (o o' : COp) (a b c : E) (ia : Snd P w K mg base G Y nm kk N a) (ib : Snd P w K mg base G Y nm kk N b) (ic : Snd P w K mg base G Y nm kk N c) : Snd P w K mg base G Y nm kk N (.chain o o' a b c) := by
  refine ⟨fun sc x X Wi h C tk => ?_, fun sc x X Wi h C tk => ?_, fun sc a X Wi h C tk => by simp [chkA] at h⟩
  · simp only [chk] at h
    split at h <;> try (cases h; done)
    simp only [Bool.and_eq_true, decide_eq_true_eq, Bool.not_eq_true'] at h
    obtain ⟨⟨⟨⟨⟨⟨h1, h2⟩, h3⟩, h4⟩, h5⟩, h6⟩, h7⟩ := h
    subst h1 h2
    have pa := ia.v _ _ X Wi h5 C tk
    have pb := ib.v _ _ X Wi h6 C tk
    have pc := ic.v _ _ X Wi h7 C tk
    obtain ⟨rr, ho, hr⟩ := cop_ok (nm := nm) o C.hK C.room.units C.room.in1.units
    obtain ⟨rr', ho', hr'⟩ := cop_ok (nm := nm) o' C.hK C.room.units C.room.in1.units
    refine (pe_chain ho ho' pa pb pc (marks2_ok h4)).imp fun σ H Q wq => ?_
    obtain ⟨W, S, env, E, r, z⟩ := wq
    simp only [ev] at z
    refine ⟨W, S, env, E, r, (Wq.bind (rp := rpD K) z).mono fun x H1 z => ?_⟩
    obtain ⟨W1, S1, dx, e1, r1, p1, z⟩ := z
    have E1 := E.mono r.trk e1
    refine ⟨W1, S1, env, E1, r1, (Wq.bind (rp := rpD K) z).mono fun y H2 z => ?_⟩
    obtain ⟨W2, S2, dy, e2, r2, p2, z⟩ := z
    have E2 := E1.mono r1.trk e2
    cases hk : cop o dx dy S2 with
    | none => rw [hk] at z; exact z.elim
    | some k =>
      rw [hk] at z
      refine hr r2 (p1.mono r1.trk e2) p2 hk fun v W3 H3 e3 r3 p3 => ?_
      cases p3
      refine ⟨k, rfl, ?_⟩
      have z := Wq.ext e3 r3.trk z
      simp only [R.of_some, R.bind_ok] at z
      cases k with
      | false => exact z _ W3 H3 Ext.refl r3 (.bl false)
      | true =>
        have E3 := E2.mono r2.trk e3
        refine ⟨W3, S2, env, E3, r3, (Wq.bind (rp := rpD K) z).mono fun t H4 z => ?_⟩
        obtain ⟨W4, S4, dz, e4, r4, p4, z⟩ := z
        obtain ⟨d, e, f⟩ := z.fin
        rw [Option.map_eq_some_iff] at e
        obtain ⟨c', e5, e6⟩ := e
        subst e6
        exact hr' r4 ((p2.mono r2.trk e3).mono r3.trk e4) p4 e5 f
  · simp only [chkT] at h
    split at h <;> try (cases h; done)
    simp only [Bool.and_eq_true, decide_eq_true_eq, Bool.not_eq_true'] at h
    obtain ⟨⟨⟨⟨⟨⟨h1, h2⟩, h3⟩, h4⟩, h5⟩, h6⟩, h7⟩ := h
    subst h1 h2
    have pa := ia.v _ _ X Wi h5 C tk
    have pb := ib.v _ _ X Wi h6 C tk
    have pc := ic.v _ _ X Wi h7 C tk
    obtain ⟨rr, ho, hr⟩ := cop_ok (nm := nm) o C.hK C.room.units C.room.in1.units
    obtain ⟨rr', ho', hr'⟩ := cop_ok (nm := nm) o' C.hK C.room.units C.room.in1.units
    refine (pt_chain ho ho' pa pb pc (marks2_ok h4)).imp fun σ H Q wq => ?_
    obtain ⟨W, S, env, E, r, z⟩ := wq
    simp only [ev, mapT, R.bind_assoc] at z
    refine ⟨W, S, env, E, r, (Wq.bind (rp := rpD K) z).mono fun x H1 z => ?_⟩
    obtain ⟨W1, S1, dx, e1, r1, p1, z⟩ := z
    have E1 := E.mono r.trk e1
    refine ⟨W1, S1, env, E1, r1, (Wq.bind (rp := rpD K) z).mono fun y H2 z => ?_⟩
    obtain ⟨W2, S2, dy, e2, r2, p2, z⟩ := z
    have E2 := E1.mono r1.trk e2
    cases hk : cop o dx dy S2 with
    | none => rw [hk] at z; exact z.elim
    | some k =>
      rw [hk] at z
      refine hr r2 (p1.mono r1.trk e2) p2 hk fun v W3 H3 e3 r3 p3 => ?_
      cases p3
      refine ⟨k, rfl, ?_⟩
      have z := Wq.ext e3 r3.trk z
      simp only [R.of_some, R.bind_ok] at z
      cases k with
      | false => exact ⟨false, rfl, z false W3 H3 Ext.refl r3 rfl⟩
      | true =>
        have E3 := E2.mono r2.trk e3
        simp only [if_true, R.bind_assoc] at z
        refine ⟨W3, S2, env, E3, r3, (Wq.bind (rp := rpD K) z).mono fun t H4 z => ?_⟩
        obtain ⟨W4, S4, dz, e4, r4, p4, z⟩ := z
        exact bl_of z fun c' e f => hr' r4 ((p2.mono r2.trk e3).mono r3.trk e4) p4 e f
theorem isNon (d : D) {v : V} {W : Wd} {H : Hp} (p : Rep K W H d v) : decide (v = V.non) = isNonD d := by
  cases p <;> simp [isNonD]
theorem s_isn (a : E) (ia : Snd P w K mg base G Y nm kk N a) : Snd P w K mg base G Y nm kk N (.isn a) := by
  refine ⟨fun sc x X Wi h C tk => ?_, fun sc x X Wi h C tk => ?_, fun sc a X Wi h C tk => by simp [chkA] at h⟩
  · simp only [chk] at h
    split at h <;> try (cases h; done)
    have pa := ia.v _ _ X Wi h C tk
    refine (pe_cmp (pc_isN pa) rfl).imp fun σ H Q wq => ?_
    simp only [ev] at wq
    obtain ⟨W, S, env, E, r, z⟩ := tX.one (g := fun _ x S => .ok (D.bl (isNonD x)) S) wq
    refine ⟨W, S, env, E, r, z.mono fun x H1 z => ?_⟩
    obtain ⟨W1, S1, dx, env1, E1, r1, p1, z⟩ := z
    rw [isNon dx p1]
    exact z _ W1 H1 Ext.refl r1 (.bl _)
  · simp only [chkT] at h
    split at h <;> try (cases h; done)
    have pa := ia.v _ _ X Wi h C tk
    refine (pt_cmp (pc_isN pa) rfl).imp fun σ H Q wq => ?_
    simp only [ev, mapT, R.bind_assoc] at wq
    obtain ⟨W, S, env, E, r, z⟩ := tX.one (g := fun _ x S => (R.ok (D.bl (isNonD x)) S).bind fun d S => R.of (truthy d S) S) wq
    refine ⟨W, S, env, E, r, z.mono fun x H1 z => ?_⟩
    obtain ⟨W1, S1, dx, env1, E1, r1, p1, z⟩ := z
    rw [isNon dx p1]
    exact ⟨_, rfl, z _ W1 H1 Ext.refl r1 rfl⟩
theorem s_ntn (a : E) (ia : Snd P w K mg base G Y nm kk N a) : Snd P w K mg base G Y nm kk N (.ntn a) := by
  have key : ∀ {d : D} {v : V} {W : Wd} {H : Hp}, Rep K W H d v → (!decide (v = V.non)) = !isNonD d := fun {d v W H} p => by rw [isNon d p]
  refine ⟨fun sc x X Wi h C tk => ?_, fun sc x X Wi h C tk => ?_, fun sc a X Wi h C tk => by simp [chkA] at h⟩
  · simp only [chk] at h
    split at h <;> try (cases h; done)
    have pa := ia.v _ _ X Wi h C tk
    refine (pe_cmp (pc_notN pa) rfl).imp fun σ H Q wq => ?_
    simp only [ev] at wq
    obtain ⟨W, S, env, E, r, z⟩ := tX.one (g := fun _ x S => .ok (D.bl (!isNonD x)) S) wq
    refine ⟨W, S, env, E, r, z.mono fun x H1 z => ?_⟩
    obtain ⟨W1, S1, dx, env1, E1, r1, p1, z⟩ := z
    rw [key p1]
    exact z _ W1 H1 Ext.refl r1 (.bl _)
  · simp only [chkT] at h
    split at h <;> try (cases h; done)
    have pa := ia.v _ _ X Wi h C tk
    refine (pt_cmp (pc_notN pa) rfl).imp fun σ H Q wq => ?_
    simp only [ev, mapT, R.bind_assoc] at wq
    obtain ⟨W, S, env, E, r, z⟩ := tX.one (g := fun _ x S => (R.ok (D.bl (!isNonD x)) S).bind fun d S => R.of (truthy d S) S) wq
    refine ⟨W, S, env, E, r, z.mono fun x H1 z => ?_⟩
    obtain ⟨W1, S1, dx, env1, E1, r1, p1, z⟩ := z
    rw [key p1]
    exact ⟨_, rfl, z _ W1 H1 Ext.refl r1 rfl⟩
theorem s_neg (a : E) (ia : Snd P w K mg base G Y nm kk N a) : Snd P w K mg base G Y nm kk N (.neg a) := by
  refine ⟨fun sc x X Wi h C tk => ?_, fun sc x X Wi h C tk => by simp [chkT] at h, fun sc a X Wi h C tk => by simp [chkA] at h⟩
  simp only [chk] at h
  split at h <;> try (cases h; done)
  have pa := ia.v _ _ X Wi h C tk
  refine (pe_un un_neg pa).imp fun σ H Q wq => ?_
  simp only [ev] at wq
  obtain ⟨W, S, env, E, r, z⟩ := tX.one (g := fun _ x S => R.of (negD x) S) wq
  refine ⟨W, S, env, E, r, z.mono fun x H1 z => ?_⟩
  obtain ⟨W1, S1, dx, env1, E1, r1, p1, z⟩ := z
  obtain ⟨d, e, f⟩ := z.fin
  cases p1 <;> simp only [negD] at e <;> first | (cases e; done) | skip
  cases e
  exact ⟨_, rfl, f.here r1 (.int _)⟩

/-! ### truth -/
theorem tru_rep {d : D} {v : V} {k : Bool} {W : Wd} {S : Store} {H : Hp} (r : Rel K nm W S H) (p : Rep K W H d v) (h : truthy d S = some k) : TruV K v H k := by
  cases p with
  | non => cases h; rfl
  | bl b => cases h; rfl
  | int i => cases h; rfl
  | str x =>
    simp only [truthy] at h
    split at h
    · rename_i z
      cases h
      refine ⟨by rw [← SZ_eq]; exact z, ?_⟩
      simp [bne, BEq.beq]
      try omega
    · cases h
  | tup h1 h2 => cases h; exact .inr (.inl ⟨_, h1, by cases h2 <;> rfl⟩)
  | lst h1 h2 h3 h4 => cases h; exact .inl ⟨_, .inl h1, by cases h4 <;> rfl⟩
  | dct h1 h2 h3 h4 => cases h
  | scr h1 => cases h
  | @ref n a h1 =>
    simp only [truthy] at h
    split at h
    · rename_i xs q
      cases h
      obtain ⟨vs, e, z⟩ := r.ob n a _ h1 q
      exact .inl ⟨vs, .inl (.inl e), by cases z <;> rfl⟩
    · rename_i xs q
      cases h
      obtain ⟨vs, e, z⟩ := r.ob n a _ h1 q
      exact .inr (.inr ⟨vs, e, by cases z <;> rfl⟩)
    · cases h
theorem s_val (a : E) (ia : Snd P w K mg base G Y nm kk N a) : Snd P w K mg base G Y nm kk N (.val a) := by
  refine ⟨fun sc x X Wi h C tk => by simp [chk] at h, fun sc x X Wi h C tk => ?_, fun sc a X Wi h C tk => by simp [chkA] at h⟩
  simp only [chkT, Bool.and_eq_true] at h
  have pa := ia.v _ _ X Wi h.2 C tk
  have he : ∀ whole, isTrue x X.env whole = (do let v ← whole; standAt x.pos; holding [v] (PySem.truthy v)) := by
    have h1 := h.1
    cases x <;> first | (intro _; rfl) | cases h1
  refine (pt_truth pa he).imp fun σ H Q wq => ?_
  simp only [ev, mapT] at wq
  obtain ⟨W, S, env, E, r, z⟩ := tX.one (g := fun _ d S => R.of (truthy d S) S) wq
  refine ⟨W, S, env, E, r, z.mono fun x H1 z => ?_⟩
  obtain ⟨W1, S1, dx, env1, E1, r1, p1, z⟩ := z
  obtain ⟨k, e, f⟩ := z.of
  have := C.hK
  subst this
  exact ⟨k, tru_rep r1 p1 e, f k W1 H1 Ext.refl r1 rfl⟩
end
end PL

set_option Elab.async false
set_option linter.all false
set_option maxRecDepth 100000
set_option maxHeartbeats 1000000
/-! PLI: and, or, not, calls, displays. -/
namespace PL
open PySem PySem.Spec PyProof.Rows L2
section
variable {P : Program} {w : World} {K : PySem.W.Frag} {mg : Str → Option Value} {base : Heap} {G : Tab} {Y : Sx} {nm : Nm} {fa : Nat → Addr} {fd : Nat → FuncData} {ps : Nat → List Str} {kk : Nat} {N : List Str}
variable {sc : Scope} {X : Cx} {Wi : WX}
theorem s_nt (a : E) (ia : Snd P w K mg base G Y nm kk N a) : Snd P w K mg base G Y nm kk N (.nt a) := by
  refine ⟨fun sc x X Wi h C tk => ?_, fun sc x X Wi h C tk => ?_, fun sc a X Wi h C tk => by simp [chkA] at h⟩
  · simp only [chk] at h
    split at h <;> try (cases h; done)
    have pa := ia.v _ _ X Wi h C tk
    refine (pe_notT pa).imp fun σ H Q wq => ?_
    simp only [ev, mapT, R.bind_assoc] at wq
    obtain ⟨W, S, env, E, r, z⟩ := tX.one (g := fun _ x S => (R.of (truthy x S) S).bind fun k S => .ok (D.bl (!k)) S) wq
    refine ⟨W, S, env, E, r, z.mono fun x H1 z => ?_⟩
    obtain ⟨W1, S1, dx, env1, E1, r1, p1, z⟩ := z
    have := C.hK
    subst this
    cases e : truthy dx S1 with
    | none => rw [e] at z; exact z.elim
    | some k =>
      rw [e] at z
      exact ⟨k, tru_rep r1 p1 e, z _ W1 H1 Ext.refl r1 (.bl _)⟩
  · simp only [chkT] at h
    split at h <;> try (cases h; done)
    have pa := ia.t _ _ X Wi h C tk
    refine (pt_not pa).imp fun σ H Q wq => ?_
    have wq : tX K nm rpB Wi (fun env S => (mapT (ev G (run G kk) a env S)).bind fun k S => .ok (!k) S) σ H Q := by
      refine (?_ : (fun env S => _) = (fun env S => mapT (ev G (run G kk) (.nt a) env S))) ▸ wq
      funext env S
      simp only [ev, mapT, R.bind_assoc]
      cases ev G (run G kk) a env S with
      | ok x S1 =>
        simp only [R.bind_ok]
        cases e : truthy x S1 <;> rfl
      | ex c S1 => rfl
      | bad => rfl
    obtain ⟨W, S, env, E, r, z⟩ := tX.test (g := fun _ k S => .ok (!k) S) wq
    refine ⟨W, S, env, E, r, z.mono fun k H1 z => ?_⟩
    obtain ⟨W1, S1, env1, E1, r1, z⟩ := z
    exact z _ W1 H1 Ext.refl r1 rfl
theorem s_one (a : E) (ia : Snd P w K mg base G Y nm kk N a) : Snd P w K mg base G Y nm kk N (.one a) := by
  refine ⟨fun sc x X Wi h C tk => ?_, fun sc x X Wi h C tk => ?_, fun sc a X Wi h C tk => by simp [chkA] at h⟩
  · simp only [chk] at h
    split at h <;> try (cases h; done)
    exact pe_one (ia.v _ _ X Wi h C tk)
  · simp only [chkT] at h
    split at h <;> try (cases h; done)
    rename_i o p pos
    cases o with
    | And => exact (pw_and1 (ia.t _ _ X Wi h C tk)).pt
    | Or => exact (pw_or1 (ia.t _ _ X Wi h C tk)).pt
/-- a block of and, or as a test stands whatever its whole is -/
theorem pw_of {o : BoolOp} {vs : List Expr} {pos : Pos} {t : TT} (h : PT X (.BoolOp o vs pos) t) : PW X (.BoolOp o vs pos) t := by
  refine ⟨fun wh pins s σ H Q I q => ?_⟩
  exact h.run pins s σ H Q I q
theorem s_and (a b : E) (ia : Snd P w K mg base G Y nm kk N a) (ib : Snd P w K mg base G Y nm kk N b) : Snd P w K mg base G Y nm kk N (.and a b) := by
  refine ⟨fun sc x X Wi h C tk => ?_, fun sc x X Wi h C tk => ?_, fun sc a X Wi h C tk => by simp [chkA] at h⟩
  · simp only [chk] at h
    split at h <;> try (cases h; done)
    simp only [Bool.and_eq_true] at h
    have pa := ia.v _ _ X Wi h.1 C tk
    have pb := ib.v _ _ X Wi h.2 C tk
    refine (pe_andT pa pb).imp fun σ H Q wq => ?_
    simp only [ev] at wq
    obtain ⟨W, S, env, E, r, z⟩ := tX.one (g := fun env x S => (R.of (truthy x S) S).bind fun k S => if k then ev G (run G kk) b env S else .ok x S) wq
    refine ⟨W, S, env, E, r, z.mono fun x H1 z => ?_⟩
    obtain ⟨W1, S1, dx, env1, E1, r1, p1, z⟩ := z
    have := C.hK
    subst this
    cases e : truthy dx S1 with
    | none => rw [e] at z; exact z.elim
    | some k =>
      rw [e] at z
      refine ⟨k, tru_rep r1 p1 e, ?_⟩
      cases k with
      | false => exact z _ W1 H1 Ext.refl r1 p1
      | true => exact ⟨W1, S1, env1, E1, r1, z⟩
  · simp only [chkT] at h
    split at h <;> try (cases h; done)
    simp only [Bool.and_eq_true] at h
    have pa := ia.t _ _ X Wi h.1 C tk
    have pb := ib.t _ _ X Wi h.2 C tk
    refine (pw_and pa (pw_of pb)).pt.imp fun σ H Q wq => ?_
    have wq : tX K nm rpB Wi (fun env S => (mapT (ev G (run G kk) a env S)).bind fun k S => if k then mapT (ev G (run G kk) b env S) else .ok false S) σ H Q := by
      refine (?_ : (fun env S => _) = (fun env S => mapT (ev G (run G kk) (.and a b) env S))) ▸ wq
      funext env S
      simp only [ev, mapT]
      cases ev G (run G kk) a env S with
      | ok x S1 =>
        simp only [R.bind_ok]
        cases e : truthy x S1 with
        | none => rfl
        | some k =>
          cases k with
          | true => rfl
          | false => simp [e]
      | ex c S1 => rfl
      | bad => rfl
    obtain ⟨W, S, env, E, r, z⟩ := tX.test (g := fun env k S => if k then mapT (ev G (run G kk) b env S) else .ok false S) wq
    refine ⟨W, S, env, E, r, z.mono fun k H1 z => ?_⟩
    obtain ⟨W1, S1, env1, E1, r1, z⟩ := z
    cases k with
    | false => exact z _ W1 H1 Ext.refl r1 rfl
    | true => exact ⟨W1, S1, env1, E1, r1, z⟩
theorem s_or (a b : E) (ia : Snd P w K mg base G Y nm kk N a) (ib : Snd P w K mg base G Y nm kk N b) : Snd P w K mg base G Y nm kk N (.or a b) := by
  refine ⟨fun sc x X Wi h C tk => ?_, fun sc x X Wi h C tk => ?_, fun sc a X Wi h C tk => by simp [chkA] at h⟩
  · simp only [chk] at h
    split at h <;> try (cases h; done)
    simp only [Bool.and_eq_true] at h
    have pa := ia.v _ _ X Wi h.1 C tk
    have pb := ib.v _ _ X Wi h.2 C tk
    refine (pe_orT pa pb).imp fun σ H Q wq => ?_
    simp only [ev] at wq
    obtain ⟨W, S, env, E, r, z⟩ := tX.one (g := fun env x S => (R.of (truthy x S) S).bind fun k S => if k then .ok x S else ev G (run G kk) b env S) wq
    refine ⟨W, S, env, E, r, z.mono fun x H1 z => ?_⟩
    obtain ⟨W1, S1, dx, env1, E1, r1, p1, z⟩ := z
    have := C.hK
    subst this
    cases e : truthy dx S1 with
    | none => rw [e] at z; exact z.elim
    | some k =>
      rw [e] at z
      refine ⟨k, tru_rep r1 p1 e, ?_⟩
      cases k with
      | true => exact z _ W1 H1 Ext.refl r1 p1
      | false => exact ⟨W1, S1, env1, E1, r1, z⟩
  · simp only [chkT] at h
    split at h <;> try (cases h; done)
    simp only [Bool.and_eq_true] at h
    have pa := ia.t _ _ X Wi h.1 C tk
    have pb := ib.t _ _ X Wi h.2 C tk
    refine (pw_or pa (pw_of pb)).pt.imp fun σ H Q wq => ?_
    have wq : tX K nm rpB Wi (fun env S => (mapT (ev G (run G kk) a env S)).bind fun k S => if k then .ok true S else mapT (ev G (run G kk) b env S)) σ H Q := by
      refine (?_ : (fun env S => _) = (fun env S => mapT (ev G (run G kk) (.or a b) env S))) ▸ wq
      funext env S
      simp only [ev, mapT]
      cases ev G (run G kk) a env S with
      | ok x S1 =>
        simp only [R.bind_ok]
        cases e : truthy x S1 with
        | none => rfl
        | some k =>
          cases k with
          | false => rfl
          | true => simp [e]
      | ex c S1 => rfl
      | bad => rfl
    obtain ⟨W, S, env, E, r, z⟩ := tX.test (g := fun env k S => if k then .ok true S else mapT (ev G (run G kk) b env S)) wq
    refine ⟨W, S, env, E, r, z.mono fun k H1 z => ?_⟩
    obtain ⟨W1, S1, env1, E1, r1, z⟩ := z
    cases k with
    | true => exact z _ W1 H1 Ext.refl r1 rfl
    | false => exact ⟨W1, S1, env1, E1, r1, z⟩
theorem s_ite (c a b : E) (ic : Snd P w K mg base G Y nm kk N c) (ia : Snd P w K mg base G Y nm kk N a) (ib : Snd P w K mg base G Y nm kk N b) : Snd P w K mg base G Y nm kk N (.ite c a b) := by
  refine ⟨fun sc x X Wi h C tk => ?_, fun sc x X Wi h C tk => by simp [chkT] at h, fun sc a X Wi h C tk => by simp [chkA] at h⟩
  simp only [chk] at h
  split at h <;> try (cases h; done)
  simp only [Bool.and_eq_true] at h
  obtain ⟨⟨h1, h2⟩, h3⟩ := h
  refine (pe_ifExp (ic.t _ _ X Wi h1 C tk) (ia.v _ _ X Wi h2 C tk) (ib.v _ _ X Wi h3 C tk)).imp fun σ H Q wq => ?_
  simp only [ev] at wq
  obtain ⟨W, S, env, E, r, z⟩ := tX.test (g := fun env k S => if k then ev G (run G kk) a env S else ev G (run G kk) b env S) wq
  refine ⟨W, S, env, E, r, z.mono fun k H1 z => ?_⟩
  obtain ⟨W1, S1, env1, E1, r1, z⟩ := z
  cases k with
  | true => exact ⟨W1, S1, env1, E1, r1, z⟩
  | false => exact ⟨W1, S1, env1, E1, r1, z⟩

/-! ### arguments, displays -/
theorem s_nil : Snd P w K mg base G Y nm kk N .nil := by
  refine ⟨fun sc x X Wi h C tk => by simp [chk] at h, fun sc x X Wi h C tk => by simp [chkT] at h, fun sc a X Wi h C tk => ?_⟩
  cases a with
  | nil => exact pa_nil.imp fun σ H Q ⟨W, S, env, E, r, q⟩ => q [] W H Ext.refl r ⟨[], rfl, .nil⟩
  | cons x y => simp [chkA] at h
theorem s_cons (a as : E) (ia : Snd P w K mg base G Y nm kk N a) (ib : Snd P w K mg base G Y nm kk N as) : Snd P w K mg base G Y nm kk N (.cons a as) := by
  refine ⟨fun sc x X Wi h C tk => by simp [chk] at h, fun sc x X Wi h C tk => by simp [chkT] at h, fun sc es X Wi h C tk => ?_⟩
  simp only [chkA] at h
  split at h <;> try (cases h; done)
  simp only [Bool.and_eq_true] at h
  obtain ⟨⟨h1, h2⟩, h3⟩ := h
  refine (pa_cons (ia.v _ _ X Wi h2 C tk) (ib.l _ _ X Wi h3 C tk) (star_ok h1)).imp fun σ H Q wq => ?_
  obtain ⟨W, S, env, E, r, z⟩ := wq
  simp only [ev] at z
  refine ⟨W, S, env, E, r, (Wq.bind (rp := rpD K) z).mono fun x H1 z => ?_⟩
  obtain ⟨W1, S1, dx, e1, r1, p1, z⟩ := z
  refine ⟨W1, S1, env, E.mono r.trk e1, r1, (Wq.bind (rp := rpA K) z).mono fun vs H2 z => ?_⟩
  obtain ⟨W2, S2, dy, e2, r2, ⟨xs, e3, p2⟩, z⟩ := z
  subst e3
  exact z _ W2 H2 Ext.refl r2 ⟨_, rfl, .cons (p1.mono r1.trk e2) p2⟩
theorem Reps.sz {W : Wd} {H : Hp} {xs : List D} {vs : List V} (p : Reps K W H xs vs) (h : xs.length ≤ SZ) : vs.length ≤ sizeLine := by rw [p.lens, ← SZ_eq]; exact h
theorem mkTup_some {xs : List D} {d : D} (h : mkTup xs = some d) : xs.length ≤ SZ ∧ d = .tup xs := by
  unfold mkTup at h
  split at h
  · cases h; exact ⟨by assumption, rfl⟩
  · cases h
theorem mkLst_some {xs : List D} {d : D} (h : mkLst xs = some d) : xs.length ≤ SZ ∧ d = .lst xs := by
  unfold mkLst at h
  split at h
  · cases h; exact ⟨by assumption, rfl⟩
  · cases h
theorem s_tup (as : E) (ia : Snd P w K mg base G Y nm kk N as) : Snd P w K mg base G Y nm kk N (.tup as) := by
  refine ⟨fun sc x X Wi h C tk => ?_, fun sc x X Wi h C tk => by simp [chkT] at h, fun sc a X Wi h C tk => by simp [chkA] at h⟩
  simp only [chk] at h
  split at h <;> try (cases h; done)
  refine (pe_tup (ia.l _ _ X Wi h C tk)).imp fun σ H Q wq => ?_
  simp only [ev] at wq
  obtain ⟨W, S, env, E, r, z⟩ := tX.args (g := fun _ xs S => R.of (mkTup (toTup xs)) S) wq
  refine ⟨W, S, env, E, r, z.mono fun vs H1 z => ?_⟩
  obtain ⟨W1, S1, xs, env1, E1, r1, p1, z⟩ := z
  obtain ⟨d, e, f⟩ := z.fin
  obtain ⟨hz, e2⟩ := mkTup_some (xs := xs) e
  subst e2
  exact ⟨p1.sz hz, fun p hp => f.tup r1 p1 hp⟩
theorem s_lst (as : E) (ia : Snd P w K mg base G Y nm kk N as) : Snd P w K mg base G Y nm kk N (.lst as) := by
  refine ⟨fun sc x X Wi h C tk => ?_, fun sc x X Wi h C tk => by simp [chkT] at h, fun sc a X Wi h C tk => by simp [chkA] at h⟩
  simp only [chk] at h
  split at h <;> try (cases h; done)
  refine (pe_lst (ia.l _ _ X Wi h C tk)).imp fun σ H Q wq => ?_
  simp only [ev] at wq
  obtain ⟨W, S, env, E, r, z⟩ := tX.args (g := fun _ xs S => R.of (mkLst (toTup xs)) S) wq
  refine ⟨W, S, env, E, r, z.mono fun vs H1 z => ?_⟩
  obtain ⟨W1, S1, xs, env1, E1, r1, p1, z⟩ := z
  obtain ⟨d, e, f⟩ := z.fin
  obtain ⟨hz, e2⟩ := mkLst_some (xs := xs) e
  subst e2
  exact ⟨p1.sz hz, fun p hp => f.lst r1 p1 hp⟩

/-! ### calls -/
theorem star1 {as : E} {e : Expr} {es : List Expr} (h : chkA Y N as sc (e :: es) = true) : notStar e = true := by
  cases as <;> simp only [chkA, Bool.and_eq_true] at h <;> first | (cases h; done) | exact h.1.1
theorem star2 {as : E} {e e' : Expr} {es : List Expr} (h : chkA Y N as sc (e :: e' :: es) = true) : notStar e' = true := by
  cases as <;> simp only [chkA, Bool.and_eq_true] at h <;> first | (cases h; done) | exact star1 h.2
theorem s_call (g : GOk K mg G Y nm fa fd ps) (hF : ∀ f : Nat, (G.fns f).isSome = true → FnOk P w K mg base (L2.CX P w) (2 * kk) (fa f) (fd f) (ps f) (spF K nm G kk f)) (f : Nat) (as : E) (ia : Snd P w K mg base G Y nm kk N as) :
    Snd P w K mg base G Y nm kk N (.call f as) := by
  refine ⟨fun sc x X Wi h C tk => ?_, fun sc x X Wi h C tk => by simp [chkT] at h, fun sc a X Wi h C tk => by simp [chkA] at h⟩
  simp only [chk] at h
  split at h <;> try (cases h; done)
  simp only [Bool.and_eq_true, decide_eq_true_eq, Bool.not_eq_true'] at h
  obtain ⟨⟨⟨h1, h2⟩, h3⟩, h4⟩ := h
  obtain ⟨hl, hmg, hkp⟩ := g.fn f _ h1
  have F := hF f hl
  have pa := ia.l _ _ X Wi h4 C tk
  have hs := star1 h4
  have bb := g.bi f hl
  obtain ⟨e1, e2, e3, e4, e5⟩ := And.intro C.hP (And.intro C.hw (And.intro C.hK (And.intro C.hm C.hb)))
  subst e1 e2 e3 e4 e5
  refine (pe_callS (E := WE Wi) F (C.room.mono (by omega)) (gl_ok C h2) hmg hkp bb (fun σ => tk_at tk σ) pa (dbg_ok h3) (star_ok hs) (stars_ok1 h4)).imp fun σ H Q wq => ?_
  simp only [ev] at wq
  obtain ⟨W, S, env, E, r, z⟩ := tX.args (g := fun _ xs S => run G kk f (toTup xs) S) wq
  refine ⟨W, S, env, E, r, z.mono fun vs H1 z => ?_⟩
  obtain ⟨W1, S1, xs, env1, E1, r1, p1, z⟩ := z
  exact ⟨W1, S1, xs, r1, p1, z⟩
end
end PL

set_option Elab.async false
set_option linter.all false
set_option maxRecDepth 100000
set_option maxHeartbeats 1000000
/-! PLJ: isinstance, built-ins by name, subscripts. -/
namespace PL
open PySem PySem.Spec PyProof.Rows L2
section
variable {P : Program} {w : World} {K : PySem.W.Frag} {mg : Str → Option Value} {base : Heap} {G : Tab} {Y : Sx} {nm : Nm} {fa : Nat → Addr} {fd : Nat → FuncData} {ps : Nat → List Str} {kk : Nat} {N : List Str}
variable {sc : Scope} {X : Cx} {Wi : WX}
theorem ty_boot (t : Nat) (h : t < 4) : bootBuiltins (tyS t) = some (.type (tyN t)) ∧ tyS t ≠ "__name__" ∧ (tyS t == ("__debug__" : Str)) = false := by
  match t, h with
  | 0, _ => exact ⟨by decide +kernel, by decide +kernel, by decide +kernel⟩
  | 1, _ => exact ⟨by decide +kernel, by decide +kernel, by decide +kernel⟩
  | 2, _ => exact ⟨by decide +kernel, by decide +kernel, by decide +kernel⟩
  | 3, _ => exact ⟨by decide +kernel, by decide +kernel, by decide +kernel⟩
theorem s_isa (g : GOk K mg G Y nm fa fd ps) (a : E) (t : Nat) (ia : Snd P w K mg base G Y nm kk N a) : Snd P w K mg base G Y nm kk N (.isa a t) := by
  refine ⟨fun sc x X Wi h C tk => ?_, fun sc x X Wi h C tk => by simp [chkT] at h, fun sc a X Wi h C tk => by simp [chkA] at h⟩
  simp only [chk] at h
  split at h <;> try (cases h; done)
  simp only [Bool.and_eq_true, decide_eq_true_eq] at h
  obtain ⟨⟨⟨⟨⟨⟨⟨⟨h1, h2⟩, h3⟩, h4⟩, h5⟩, h6⟩, h7⟩, h8⟩, h9⟩ := h
  subst h1 h2
  obtain ⟨b1, b2, b3⟩ := ty_boot t h3
  have pa := ia.v _ _ X Wi h9 C tk
  have m1 : X.mg ("isinstance" : Str) = none := by rw [C.hm]; exact g.bl _ h6
  have m2 : X.mg (tyS t) = none := by rw [C.hm]; exact g.bl _ h7
  have e1 := C.hK
  subst e1
  refine (pe_callB call_isi (gl_ok C h4) m1 (by decide +kernel) (pa_cons pa (pa_cons (pe_bltn (v := V.ty (tyN t)) (gl_ok C h5) m2 b1 rfl b2 b3) pa_nil) (star_ok h8)) (he := star_ok h8)).imp fun σ H Q wq => ?_
  simp only [ev] at wq
  obtain ⟨W, S, env, E, r, z⟩ := tX.one (g := fun _ x S => if notIns x S then .ok (D.bl (isaD t x)) S else .bad) wq
  refine ⟨W, S, env, E, r, z.mono fun x H1 z => ?_⟩
  obtain ⟨W1, S1, dx, env1, E1, r1, p1, z⟩ := z
  cases hn : notIns dx S1 with
  | false => rw [hn] at z; exact z.elim
  | true =>
    rw [hn] at z
    obtain ⟨ty, b, k1, k2, k3⟩ := isa_ok (t := t) r1 p1 hn (show Fin X.K nm W1 S1 H1 (.bl (isaD t dx)) Q from z)
    exact ⟨x, .ty (tyN t), ty, _, b, rfl, .ty _, k1, k2, k3⟩
/-- a built-in function or type, called by its name -/
theorem s_bf_of (g : GOk K mg G Y nm fa fd ps) (f : Bf) (as : E) (ia : Snd P w K mg base G Y nm kk N as)
    (hb : ∀ (X : Cx), X.K = K → X.calm = true → X.A.units + 64 < cLine → ∃ (id : String) (r : List V → Hp → VK → Prop), ((CallR X (.builtin id) r ∧ bootBuiltins (bfN f) = some (.builtin id)) ∨ (CallR X (.type id) r ∧ bootBuiltins (bfN f) = some (.type id))) ∧ CallK X K nm (bfD f) r)
    (hn : bfN f ≠ "__name__" := by decide +kernel) (hd : (bfN f == ("__debug__" : Str)) = false := by decide +kernel) : Snd P w K mg base G Y nm kk N (.bf f as) := by
  refine ⟨fun sc x X Wi h C tk => ?_, fun sc x X Wi h C tk => by simp [chkT] at h, fun sc a X Wi h C tk => by simp [chkA] at h⟩
  simp only [chk] at h
  split at h <;> try (cases h; done)
  simp only [Bool.and_eq_true, decide_eq_true_eq] at h
  obtain ⟨⟨⟨⟨h0, h1⟩, h2⟩, h3⟩, h4⟩ := h
  subst h1
  have pa := ia.l _ _ X Wi h4 C tk
  have m1 : X.mg (bfN f) = none := by rw [C.hm]; exact g.bl _ h3
  obtain ⟨id, r, hc, ad⟩ := hb X C.hK C.calm C.room.units
  have fin : ∀ {σ : L2.St} {H : Hp} {Q : VK}, tE K nm Wi (ev G (run G kk) (.bf f as)) σ H Q → tCB r (tA K nm Wi (ev G (run G kk) as)) σ H Q := fun {σ H Q} wq => by
    simp only [ev] at wq
    obtain ⟨W, S, env, E, r', z⟩ := tX.args (g := fun _ xs S => R.of (bfD f (toTup xs) S) S) wq
    refine ⟨W, S, env, E, r', z.mono fun vs H1 z => ?_⟩
    obtain ⟨W1, S1, xs, env1, E1, r1, p1, z⟩ := z
    obtain ⟨d, e, fi⟩ := z.fin
    exact ad W1 S1 H1 xs vs d Q r1 p1 e fi
  rcases hc with ⟨hc, hv⟩ | ⟨hc, hv⟩
  · exact (pe_callB hc (gl_ok C h2) m1 hv pa hn hd (star_ok (star1 h4)) (stars_ok1 h4)).imp fun σ H Q wq => fin wq
  · exact (pe_callTy hc (gl_ok C h2) m1 hv pa hn hd (star_ok (star1 h4)) (stars_ok1 h4)).imp fun σ H Q wq => fin wq
theorem s_bf (g : GOk K mg G Y nm fa fd ps) (f : Bf) (as : E) (ia : Snd P w K mg base G Y nm kk N as) : Snd P w K mg base G Y nm kk N (.bf f as) := by
  cases f with
  | len => exact s_bf_of g .len as ia fun X e c u => ⟨"len", _, .inl ⟨call_len3, PySem.boot_len⟩, e ▸ len_ok (X := X)⟩
  | all => exact s_bf_of g .all as ia fun X e c u => ⟨"all", _, .inl ⟨cr_all c, by decide +kernel⟩, e ▸ all_ok (X := X)⟩
  | any => exact s_bf_of g .any as ia fun X e c u => ⟨"any", _, .inl ⟨cr_any c, by decide +kernel⟩, e ▸ any_ok (X := X)⟩
  | sum => exact s_bf_of g .sum as ia fun X e c u => ⟨"sum", _, .inl ⟨CallR.or (cr_sum c) (cr_sumT c), by decide +kernel⟩, e ▸ sum_ok (X := X)⟩
  | tuple => exact s_bf_of g .tuple as ia fun X e c u => ⟨"tuple", _, .inr ⟨call_tuple_of, by decide +kernel⟩, e ▸ tuple_ok (X := X)⟩
  | list => exact s_bf_of g .list as ia fun X e c u => ⟨"list", _, .inr ⟨call_list_of.or (call_listD c), by decide +kernel⟩, e ▸ list_ok (X := X)⟩
  | max => exact s_bf_of g .max as ia fun X e c u => ⟨"max", _, .inl ⟨call_max2 c, by decide +kernel⟩, max_ok (X := X)⟩
  | min => exact s_bf_of g .min as ia fun X e c u => ⟨"min", _, .inl ⟨call_min2 c, by decide +kernel⟩, min_ok (X := X)⟩
  | sorted => exact s_bf_of g .sorted as ia fun X e c u => ⟨"sorted", _, .inl ⟨cr_srt c, by decide +kernel⟩, e ▸ sorted_ok (X := X)⟩
  | str => exact s_bf_of g .str as ia fun X e c u => ⟨"str", _, .inr ⟨call_str_int, by decide +kernel⟩, str_ok (X := X)⟩
  | int => exact s_bf_of g .int as ia fun X e c u => ⟨"int", _, .inr ⟨call_int1.or call_int_str, by decide +kernel⟩, int_ok (X := X)⟩
theorem plainIx_ok {e : Expr} (h : notSlice e = true) : PlainIx e := by
  intro o i
  cases e <;> first | rfl | cases h
theorem s_ix (a i : E) (ia : Snd P w K mg base G Y nm kk N a) (ib : Snd P w K mg base G Y nm kk N i) : Snd P w K mg base G Y nm kk N (.ix a i) := by
  refine ⟨fun sc x X Wi h C tk => ?_, fun sc x X Wi h C tk => by simp [chkT] at h, fun sc a X Wi h C tk => by simp [chkA] at h⟩
  simp only [chk] at h
  split at h <;> try (cases h; done)
  simp only [Bool.and_eq_true] at h
  obtain ⟨⟨h1, h2⟩, h3⟩ := h
  have pa := ia.v _ _ X Wi h2 C tk
  have pb := ib.v _ _ X Wi h3 C tk
  have e1 := C.hK
  subst e1
  refine (pe_ix ix_seq pa pb (plainIx_ok h1)).imp fun σ H Q wq => ?_
  simp only [ev] at wq
  exact tX.op wq fun r p q z => by
    obtain ⟨d, e, f⟩ := z.fin
    exact ix_ok r p q e f
theorem s_emp : Snd P w K mg base G Y nm kk N .emp :=
  ⟨fun sc x X Wi h C tk => by simp [chk] at h, fun sc x X Wi h C tk => by simp [chkT] at h, fun sc a X Wi h C tk => by simp [chkA] at h⟩
def rpO : Wd → Hp → Option Int → Option Int → Prop := fun _ _ a b => a = b
/-- a slice's part -/
noncomputable def evP (G : Tab) (call : Calls) (lo : E) (env : Env) (S : Store) : R (Option Int) := if isEmp lo then .ok none S else (ev G call lo env S).bind fun d S => R.of (part d) S
theorem part_ok {lo : E} {l : Option Expr} (il : Snd P w K mg base G Y nm kk N lo) (h : (match l with | none => isEmp lo | some l => !isEmp lo && chk Y N lo sc l) = true) (C : COk P w K mg base kk N sc X) (tk : Tk X Wi) :
    PO X l (tX K nm rpO Wi (evP G (run G kk) lo)) := by
  cases l with
  | none =>
    have h : isEmp lo = true := h
    refine ⟨fun pins s σ H Q I q => po_none.run pins s σ H Q I ?_⟩
    obtain ⟨W, S, env, E, r, z⟩ := q
    unfold evP at z
    rw [if_pos h] at z
    exact z none W H Ext.refl r rfl
  | some l =>
    simp only [Bool.and_eq_true, Bool.not_eq_true'] at h
    have pl := il.v _ _ X Wi h.2 C tk
    refine ⟨fun pins s σ H Q I q => (po_some pl).run pins s σ H Q I ?_⟩
    obtain ⟨W, S, env, E, r, z⟩ := q
    unfold evP at z
    rw [if_neg (by rw [h.1]; exact Bool.false_ne_true)] at z
    refine ⟨W, S, env, E, r, (Wq.bind (rp := rpD K) z).mono fun x H1 z => ?_⟩
    obtain ⟨W1, S1, dx, e1, r1, p1, z⟩ := z
    obtain ⟨o, e, f⟩ := z.of
    cases p1 <;> simp only [part] at e <;> first | (cases e; done) | skip
    cases e
    exact ⟨_, rfl, f _ W1 H1 Ext.refl r1 rfl⟩
theorem s_sl (a lo hi : E) (ia : Snd P w K mg base G Y nm kk N a) (il : Snd P w K mg base G Y nm kk N lo) (ih : Snd P w K mg base G Y nm kk N hi) : Snd P w K mg base G Y nm kk N (.sl a lo hi) := by
  refine ⟨fun sc x X Wi h C tk => ?_, fun sc x X Wi h C tk => by simp [chkT] at h, fun sc a X Wi h C tk => by simp [chkA] at h⟩
  simp only [chk] at h
  split at h <;> try (cases h; done)
  simp only [Bool.and_eq_true] at h
  obtain ⟨⟨h1, h2⟩, h3⟩ := h
  have pa := ia.v _ _ X Wi h1 C tk
  have pl := part_ok il h2 C tk
  have ph := part_ok ih h3 C tk
  have e1 := C.hK
  subst e1
  refine (pe_slice sl_3 pa pl ph).imp fun σ H Q wq => ?_
  obtain ⟨W, S, env, E, r, z⟩ := wq
  have z : Wq X.K nm (rpD X.K) W H ((ev G (run G kk) a env S).bind fun x S => (evP G (run G kk) lo env S).bind fun l S => (evP G (run G kk) hi env S).bind fun h S => R.of (slD x l h S) S) Q (Xw nm Wi σ) := z
  refine ⟨W, S, env, E, r, (Wq.bind (rp := rpD X.K) z).mono fun x H1 z => ?_⟩
  obtain ⟨W1, S1, dx, e1, r1, p1, z⟩ := z
  have E1 := E.mono r.trk e1
  refine ⟨W1, S1, env, E1, r1, (Wq.bind (rp := rpO) z).mono fun l H2 z => ?_⟩
  obtain ⟨W2, S2, dl, e2, r2, p2, z⟩ := z
  have E2 := E1.mono r1.trk e2
  cases (show dl = l from p2)
  refine ⟨W2, S2, env, E2, r2, (Wq.bind (rp := rpO) z).mono fun h H3 z => ?_⟩
  obtain ⟨W3, S3, dh, e3, r3, p3, z⟩ := z
  cases (show dh = h from p3)
  obtain ⟨d, e, f⟩ := z.fin
  exact sl_ok r3 ((p1.mono r1.trk e2).mono r2.trk e3) e f
end
end PL

set_option Elab.async false
set_option linter.all false
set_option maxRecDepth 100000
set_option maxHeartbeats 1000000
/-! PLV: slices with a step, of tuples and of lists. -/
namespace HT
open PySem PyProof.Rows
open PL (stepIx)
section
variable {prog : Program} {w : World} {A : Around} {E : Value → Shared → Prop} {s : Shared}
theorem ceil_places {d c : Int} (hc : 0 < c) : (d + c - 1) / c = (d - 1) / c + 1 := by
  rw [show d + c - 1 = d - 1 + 1 * c by omega, Int.add_mul_ediv_right _ _ (by omega)]
theorem bounds_adjust {lo hi : Option Int} {st : Int} {n : Nat} (h0 : st ≠ 0) : ((sliceBounds lo hi (some st) n).1, (sliceBounds lo hi (some st) n).2.1) = Builtin.Slice.sliceAdjust lo hi st n := by
  unfold sliceBounds Builtin.Slice.sliceAdjust
  by_cases hp : st > 0
  · have hn : ¬ st < 0 := by omega
    simp only [Option.getD_some, hp, hn, if_true, if_false]
    refine Prod.ext ?_ ?_
    · cases lo with
      | none => rfl
      | some i => simp only; split <;> omega
    · cases hi with
      | none => rfl
      | some i => simp only; split <;> omega
  · have hn : st < 0 := by omega
    simp only [Option.getD_some, hp, hn, if_true, if_false]
    refine Prod.ext ?_ ?_
    · cases lo with
      | none => rfl
      | some i => simp only; split <;> omega
    · cases hi with
      | none => rfl
      | some i => simp only; split <;> omega
theorem range_places {a b c : Int} (h0 : c ≠ 0) : sliceRange a b c = (List.range (Builtin.Slice.slicePlaces a b c)).map fun (k : Nat) => (a + (k : Int) * c).toNat := by
  unfold sliceRange Builtin.Slice.slicePlaces
  have e : (if c > 0 then if a < b then (b - a + c - 1) / c else 0 else if a > b then (a - b - c - 1) / -c else 0) = (if c > 0 then (if a < b then (b - a - 1) / c + 1 else 0) else (if a > b then (a - b - 1) / (-c) + 1 else 0)) := by
    by_cases hc : c > 0
    · simp only [hc, if_true]
      split
      · rw [ceil_places hc]
      · rfl
    · simp only [hc, if_false]
      split
      · rw [show a - b - c - 1 = (a - b) + (-c) - 1 by omega, ceil_places (by omega)]
      · rfl
  simp only [e]
  refine List.map_congr_left fun k _ => ?_
  rw [Int.mul_comm]
theorem pick_step {items : Array Value} {lo hi : Option Int} {st : Int} (h0 : st ≠ 0) : slicePick items lo hi (some st) = ((stepIx items.size lo hi st).filterMap (items[·]?)).toArray := by
  have e := bounds_adjust (lo := lo) (hi := hi) (n := items.size) h0
  unfold slicePick stepIx
  have e1 : (sliceBounds lo hi (some st) items.size).1 = (Builtin.Slice.sliceAdjust lo hi st items.size).1 := by rw [← e]
  have e2 : (sliceBounds lo hi (some st) items.size).2.1 = (Builtin.Slice.sliceAdjust lo hi st items.size).2 := by rw [← e]
  have e3 : (sliceBounds lo hi (some st) items.size).2.2 = st := rfl
  rw [e1, e2, e3, range_places h0]
theorem applied_step {sl : Addr} {vl vu vs : Value} {lo hi : Option Int} {st : Int} {n : Nat} {Q : Int × Int × Nat → Shared → Prop} (hs : s.heap.IsSliceOf sl vl vu vs) (pl : IsPart vl lo) (pu : IsPart vu hi) (pz : IsPart vs (some st)) (h0 : st ≠ 0)
    (h : Q ((Builtin.Slice.sliceAdjust lo hi st n).1, st, Builtin.Slice.slicePlaces (Builtin.Slice.sliceAdjust lo hi st n).1 (Builtin.Slice.sliceAdjust lo hi st n).2 st) s) : wpAny (model prog w) A (Builtin.Slice.sliceApplied (.ref sl) (pure (n : Int))) Q E s := by
  obtain ⟨oz, hoz, hcz, hdz⟩ := id hs
  unfold Builtin.Slice.sliceApplied Builtin.Slice.sliceFields
  refine wpAny_bind (wpAny_bind (wpAny_field hoz hdz (x := vl) rfl (wpAny_bind (wpAny_field hoz hdz (x := vu) rfl (wpAny_bind (wpAny_field hoz hdz (x := vs) rfl (wpAny_pure ?_)))))))
  refine wpAny_bind (slicePart_ pz ?_)
  show wpAny _ _ (if (st == 0) = true then _ else _) _ _ s
  rw [if_neg (by simpa using h0)]
  refine wpAny_bind (slicePart_ pl (wpAny_bind (slicePart_ pu (wpAny_bind (wpAny_pure ?_)))))
  exact wpAny_pure h
theorem item_tuple_step {t sl : Addr} {items : Array Value} {vl vu vs : Value} {lo hi : Option Int} {st : Int} {Q : Value → Shared → Prop} (ht : IsTup s.heap t items) (hs : s.heap.IsSliceOf sl vl vu vs) (pl : IsPart vl lo) (pu : IsPart vu hi) (pz : IsPart vs (some st)) (h0 : st ≠ 0) (h1 : st ≠ 1)
    (h : Q (.ref s.heap.objs.size) { s with heap := s.heap.push { cls := .type "tuple", data := .seq ((stepIx items.size lo hi st).filterMap (items[·]?)).toArray } })
    (hsz : items.size ≤ sizeLine) : wpAny (model prog w) A (getItem (.ref t) (.ref sl)) Q E s := by
  have hfit : sizeOk (.seq ((stepIx items.size lo hi st).filterMap (items[·]?)).toArray) := by
    have := slicePick_size_le items lo hi (some st)
    rw [pick_step h0] at this
    exact Nat.le_trans this hsz
  obtain ⟨oz, hoz, hcz, hdz⟩ := id hs
  have hTz : s.TypeIs (.ref sl) "slice" := ⟨oz, hoz, hcz⟩
  unfold getItem
  try with_reducible refine wpAny_holding ?_
  first | refine wpAny_bind (wpAny_pure ?_) | skip
  refine wpAny_bind (wpAny_sequenceKey ht.typeIs (by decide) ?_)
  refine wpAny_bind (wpAny_callSpecial?_slot (name := Str.ofString "__getitem__") ht.typeIs PyProof.Rows.slot_tuple_getitem
    (wpAny_call_entry PyProof.Rows.slot_tuple_getitem ht.typeIs entry_tuple_getitem ?_ (args_tuple_getitem _ _)))
  show wpAny _ _ (Builtin.Tuple.tupleItemsOf (.ref t) >>= _) _ _ s
  refine wpAny_bind (tupleItemsOf_ ht ?_)
  refine wpAny_bind (wpAny_typeOf hTz ?_)
  rw [if_pos (by decide)]
  refine wpAny_bind (applied_step hs pl pu pz h0 ?_)
  have hno : ¬ (((Builtin.Slice.sliceAdjust lo hi st items.size).1 == 0 && st == 1 && (Builtin.Slice.slicePlaces (Builtin.Slice.sliceAdjust lo hi st items.size).1 (Builtin.Slice.sliceAdjust lo hi st items.size).2 st) == items.size) = true) := by
    intro q
    rw [Bool.and_eq_true, Bool.and_eq_true] at q
    exact h1 (eq_of_beq q.1.2)
  show wpAny _ _ (if ((Builtin.Slice.sliceAdjust lo hi st items.size).1 == 0 && st == 1 && (Builtin.Slice.slicePlaces (Builtin.Slice.sliceAdjust lo hi st items.size).1 (Builtin.Slice.sliceAdjust lo hi st items.size).2 st) == items.size) = true then _ else _) _ _ s
  rw [if_neg hno]
  unfold stepIx at h hfit
  rw [List.filterMap_map] at h hfit
  first
    | exact wpAny_bind (m := Builtin.Tuple.tupleExact _) (wpAny_newObj_type (wpAny_pure ⟨_, rfl, wpAny_pure h⟩) hfit)
    | exact wpAny_bind (m := Builtin.Tuple.tupleExact _) (wpAny_newObj_type (wpAny_bind (wpAny_pure (wpAny_pure ⟨_, rfl, wpAny_pure h⟩))) hfit)
    | exact wpAny_bind (wpAny_bind (m := Builtin.Tuple.tupleExact _) (wpAny_newObj_type (wpAny_pure (wpAny_pure ⟨_, rfl, wpAny_pure h⟩)) hfit))
    | exact wpAny_bind (wpAny_bind (m := Builtin.Tuple.tupleExact _) (wpAny_newObj_type (wpAny_pure ⟨_, rfl, wpAny_pure h⟩) hfit))
end
end HT

namespace PL
open PySem PySem.Spec PyProof.Rows L2
section
variable {X : Cx} {K : PySem.W.Frag}
theorem vals_at {xs : List V} {its : List Value} (r : Vals xs its) (i : Nat) : (∃ x v, xs[i]? = some x ∧ its[i]? = some v ∧ RelV x v) ∨ (xs[i]? = none ∧ its[i]? = none) := by
  induction xs generalizing its i with
  | nil => cases r; exact .inr ⟨rfl, rfl⟩
  | cons x xs ih =>
    cases r with
    | cons a b =>
      cases i with
      | zero => exact .inl ⟨_, _, rfl, rfl, a⟩
      | succ i => simpa using ih b i
theorem vals_pick {xs : List V} {its : List Value} (r : Vals xs its) : ∀ js : List Nat, Vals (js.filterMap (xs[·]?)) (js.filterMap (its[·]?))
  | [] => .nil
  | j :: js => by
    rcases vals_at r j with ⟨x, v, e, e', q⟩ | ⟨e, e'⟩
    · rw [List.filterMap_cons, List.filterMap_cons, e, e']
      exact .cons q (vals_pick r js)
    · rw [List.filterMap_cons, List.filterMap_cons, e, e']
      exact vals_pick r js
theorem reps_none {W : Wd} {H : Hp} {ds : List D} {vs : List V} (r : Reps K W H ds vs) (i : Nat) : (∃ x v, ds[i]? = some x ∧ vs[i]? = some v ∧ Rep K W H x v) ∨ (ds[i]? = none ∧ vs[i]? = none) := by
  induction ds generalizing vs i with
  | nil => cases r; exact .inr ⟨rfl, rfl⟩
  | cons x xs ih =>
    cases r with
    | cons a b =>
      cases i with
      | zero => exact .inl ⟨_, _, rfl, rfl, a⟩
      | succ i => simpa using ih b i
theorem reps_pick {W : Wd} {H : Hp} {ds : List D} {vs : List V} (r : Reps K W H ds vs) : ∀ js : List Nat, Reps K W H (js.filterMap (ds[·]?)) (js.filterMap (vs[·]?))
  | [] => .nil
  | j :: js => by
    rcases reps_none r j with ⟨x, v, e, e', q⟩ | ⟨e, e'⟩
    · rw [List.filterMap_cons, List.filterMap_cons, e, e']
      exact .cons q (reps_pick r js)
    · rw [List.filterMap_cons, List.filterMap_cons, e, e']
      exact reps_pick r js
theorem reps_step {W : Wd} {H : Hp} {ds : List D} {vs : List V} {lo hi : Option Int} {st : Int} (r : Reps K W H ds vs) : Reps K W H (stepD ds lo hi st) (stepD vs lo hi st) := by
  unfold stepD
  rw [r.lens]
  exact reps_pick r _
/-- a slice with a step, by values -/
def StepR (X : Cx) (r : V → Option Int → Option Int → Int → Hp → VK → Prop) : Prop :=
  ∀ (pins : List (Addr × Obj)) (s : Shared) (σ : L2.St) (H : Hp) (x : V) (v vl vu vs : Value) (lo hi : Option Int) (st : Int) (sl : Addr) (Q : VK), Inv X pins σ H s → RelV x v → s.heap.IsSliceOf sl vl vu vs → IsPart vl lo → IsPart vu hi → IsPart vs (some st) → r x lo hi st H Q →
    ∃ T id, typeLookup (.type T) "__getitem__" = pure (some (.builtin id)) ∧ s.TypeIs v T ∧ wpAny (model X.prog X.w) X.A (getItem v (.ref sl)) (EP X pins σ Q) X.xe s
def tStep (r : V → Option Int → Option Int → Int → Hp → VK → Prop) (te : TE) (tl th : TO) (st : Int) : TE := fun σ H Q => te σ H fun x H1 => tl σ H1 fun l H2 => th σ H2 fun u H3 => r x l u st H3 Q
theorem pe_step {e se : Expr} {te : TE} {lo hi : Option Expr} {tl th : TO} {pos p2 : Pos} {st : Int} {r : V → Option Int → Option Int → Int → Hp → VK → Prop} (hr : StepR X r) (he : PE X e te) (hl : PO X lo tl) (hu : PO X hi th) (hz : PO X (some se) fun _ H Q => Q (some st) H) :
    PE X (.Subscript e (.Slice lo hi (some se) p2) pos) (tStep r te tl th st) := by
  refine ⟨fun pins s σ H Q I h => ?_⟩
  refine Subscript_ (thn (he.run pins s σ H _ I h) fun v s1 ⟨x, H1, I1, r1, q1⟩ => ?_)
  refine wpAny_Slice (thn (hl.run pins s1 σ H1 _ I1 q1) fun vl s2 ⟨l, H2, I2, pl, q2⟩ => thn (hu.run pins s2 σ H2 _ I2 q2) fun vu s3 ⟨u, H3, I3, pu, q3⟩ => thn (hz.run pins s3 σ H3 (fun o H' => o = some st ∧ H' = H3) I3 ⟨rfl, rfl⟩) fun vz s4 ⟨o, H4, I4, pz, eo, e4⟩ => ?_)
  subst eo e4
  have I5 : Inv X pins σ H4 { s4 with heap := s4.heap.push { cls := .type "slice", data := .fields #[vl, vu, vz] } } := I4.kept (t' := s4.toks) fun b ob q => Heap.get?_push_of_some _ q
  obtain ⟨T, id, hT, ht, hg⟩ := hr pins { s4 with heap := s4.heap.push { cls := .type "slice", data := .fields #[vl, vu, vz] } } σ H4 x v vl vu vz l u st s4.heap.objs.size Q I5 r1 (Heap.IsSliceOf.new ..) pl pu pz q3
  exact tail_any (value := e) (slice := .Slice lo hi (some se) p2) (ops := [v, .ref s4.heap.objs.size]) ht hT hg (by with_unfolding_all rfl)
def rStT (K : PySem.W.Frag) : V → Option Int → Option Int → Int → Hp → VK → Prop := fun x lo hi st H Q => st ≠ 0 ∧ st ≠ 1 ∧ ∃ a xs, x = .ref a ∧ SqT K H a xs ∧ ∀ p, H p = none → Q (.ref p) (upd H p (.tup (stepD xs lo hi st)))
def rStL (K : PySem.W.Frag) : V → Option Int → Option Int → Int → Hp → VK → Prop := fun x lo hi st H Q => st ≠ 0 ∧ st ≠ 1 ∧ ∃ a xs, x = .ref a ∧ SqL K H a xs ∧ ∀ p, H p = none → Q (.ref p) (upd H p (.lst (stepD xs lo hi st)))
theorem st_tup : StepR X (rStT X.K) := by
  intro pins s σ H x v vl vu vz lo hi st sl Q I rx hs pl pu pz h
  obtain ⟨h0, h1, a, xs, rfl, hx, q⟩ := h
  cases rx
  obtain ⟨its, r, ht, hz⟩ := I.tuple hx
  have hlen : its.toArray.size = xs.length := by rw [List.size_toArray]; exact r.length.symm
  have ep : (stepIx its.toArray.size lo hi st).filterMap (its.toArray[·]?) = stepD its lo hi st := by
    unfold stepD
    rw [List.size_toArray]
    simp only [List.getElem?_toArray]
  have rp : Vals (stepD xs lo hi st) (stepD its lo hi st) := by
    unfold stepD
    rw [← r.length]
    exact vals_pick r _
  refine ⟨"tuple", _, PyProof.Rows.slot_tuple_getitem.lookup, ht.typeIs, ?_⟩
  refine HT.item_tuple_step ht hs pl pu pz h0 h1 ?_ (by rw [hlen]; exact hz)
  rw [ep]
  refine ⟨.ref s.heap.objs.size, _, I.laid (t' := s.toks) (o := .tup (stepD xs lo hi st)) (fun b ob q => Heap.get?_push_of_some _ q) (Nat.le_refl _) ?_, rfl, q _ (I.hok.fresh (Nat.le_refl _))⟩
  have fit := slicePick_size_le its.toArray lo hi (some st)
  rw [HT.pick_step h0, ep, List.size_toArray, List.size_toArray] at fit
  exact ⟨by rw [rp.length]; exact Nat.le_trans fit (by rw [← r.length]; exact hz), _, rp, IsTup.new _ _⟩
theorem st_lst : StepR X (rStL X.K) := by
  intro pins s σ H x v vl vu vz lo hi st sl Q I rx hs pl pu pz h
  obtain ⟨h0, h1, a, xs, rfl, hx, q⟩ := h
  cases rx
  obtain ⟨its, r, ht, hz⟩ := I.list hx
  have ep : (stepIx its.toArray.size lo hi st).filterMap (its.toArray[·]?) = stepD its lo hi st := by
    unfold stepD
    rw [List.size_toArray]
    simp only [List.getElem?_toArray]
  have rp : Vals (stepD xs lo hi st) (stepD its lo hi st) := by
    unfold stepD
    rw [← r.length]
    exact vals_pick r _
  refine ⟨"list", _, slot_list_getitem.lookup, ht.isList.typeIs, ?_⟩
  refine wpAny_getItem_list_slice ht.isList hs pl pu pz (by simpa using h0) ?_ (by rw [List.size_toArray, ← r.length]; exact hz)
  have fit := slicePick_size_le its.toArray lo hi (some st)
  rw [HT.pick_step h0, ep] at fit ⊢
  rw [List.size_toArray, List.size_toArray] at fit
  refine ⟨.ref s.heap.objs.size, _, I.laid (t' := s.toks) (o := .lst (stepD xs lo hi st)) (fun b ob q => Heap.get?_push_of_some _ q) (Nat.le_refl _) ?_, rfl, q _ (I.hok.fresh (Nat.le_refl _))⟩
  exact ⟨by rw [rp.length]; exact Nat.le_trans fit (by rw [← r.length]; exact hz), _, 0, rp, Heap.get?_push_size _ rfl⟩
def rSt (K : PySem.W.Frag) : V → Option Int → Option Int → Int → Hp → VK → Prop := fun x lo hi st H Q => rStT K x lo hi st H Q ∨ rStL K x lo hi st H Q
theorem st_any : StepR X (rSt X.K) := by
  intro pins s σ H x v vl vu vz lo hi st sl Q I rx hs pl pu pz h
  rcases h with h | h
  · exact st_tup pins s σ H x v vl vu vz lo hi st sl Q I rx hs pl pu pz h
  · exact st_lst pins s σ H x v vl vu vz lo hi st sl Q I rx hs pl pu pz h
variable {nm : Nm} {W : Wd} {H : Hp} {S : Store}
theorem st_ok {x d : D} {u : V} {lo hi : Option Int} {st : Int} {Q : VK} (r : Rel K nm W S H) (p : Rep K W H x u) (h : sl3D x lo hi st S = some d) (f : Fin K nm W S H d Q) : rSt K u lo hi st H Q := by
  unfold sl3D at h
  split at h
  · rename_i hz
    split at h
    · cases h
      cases p with
      | @tup _ a vs h1 p1 => exact .inl ⟨hz.1, hz.2, a, vs, rfl, h1, fun p hp => f.tup r (reps_step p1) hp⟩
    · cases h
      cases p with
      | @scr _ a h1 => exact .inr ⟨hz.1, hz.2, a, _, rfl, h1.sq, fun p hp => f.lst r (reps_step (reps_int _)) hp⟩
    · split at h
      · rename_i e
        cases h
        obtain ⟨a, vs, rfl, h1, p1⟩ := rep_lst r p e
        exact .inr ⟨hz.1, hz.2, a, vs, rfl, .inl h1, fun p hp => f.lst r (reps_step p1) hp⟩
      · cases h
  · cases h
theorem po_step {st : Int} {q : Expr} (h : stepC st q = true) : PO X (some q) fun _ H Q => Q (some st) H := by
  unfold stepC at h
  split at h
  · rw [decide_eq_true_eq] at h
    subst h
    exact ⟨fun pins s σ H Q I z => (po_some pe_int).run pins s σ H Q I ⟨_, rfl, z⟩⟩
  · rw [decide_eq_true_eq] at h
    subst h
    exact ⟨fun pins s σ H Q I z => (po_some (pe_un un_neg pe_int)).run pins s σ H Q I ⟨_, rfl, _, rfl, z⟩⟩
  · cases h
end
section
variable {P : Program} {w : World} {K : PySem.W.Frag} {mg : Str → Option Value} {base : Heap} {G : Tab} {Y : Sx} {nm : Nm} {fa : Nat → Addr} {fd : Nat → FuncData} {ps : Nat → List Str} {kk : Nat} {N : List Str}
theorem s_sl3 (a lo hi : E) (st : Int) (ia : Snd P w K mg base G Y nm kk N a) (il : Snd P w K mg base G Y nm kk N lo) (ih : Snd P w K mg base G Y nm kk N hi) : Snd P w K mg base G Y nm kk N (.sl3 a lo hi st) := by
  refine ⟨fun sc x X Wi h C tk => ?_, fun sc x X Wi h C tk => by simp [chkT] at h, fun sc a X Wi h C tk => by simp [chkA] at h⟩
  simp only [chk] at h
  split at h <;> try (cases h; done)
  simp only [Bool.and_eq_true] at h
  obtain ⟨⟨⟨h1, h2⟩, h3⟩, h4⟩ := h
  have pa := ia.v _ _ X Wi h1 C tk
  have pl := part_ok il h2 C tk
  have ph := part_ok ih h3 C tk
  have e1 := C.hK
  subst e1
  refine (pe_step st_any pa pl ph (po_step h4)).imp fun σ H Q wq => ?_
  obtain ⟨W, S, env, E, r, z⟩ := wq
  have z : Wq X.K nm (rpD X.K) W H ((ev G (run G kk) a env S).bind fun x S => (evP G (run G kk) lo env S).bind fun l S => (evP G (run G kk) hi env S).bind fun h S => R.of (sl3D x l h st S) S) Q (Xw nm Wi σ) := z
  refine ⟨W, S, env, E, r, (Wq.bind (rp := rpD X.K) z).mono fun x H1 z => ?_⟩
  obtain ⟨W1, S1, dx, e1, r1, p1, z⟩ := z
  have E1 := E.mono r.trk e1
  refine ⟨W1, S1, env, E1, r1, (Wq.bind (rp := rpO) z).mono fun l H2 z => ?_⟩
  obtain ⟨W2, S2, dl, e2, r2, p2, z⟩ := z
  have E2 := E1.mono r1.trk e2
  cases (show dl = l from p2)
  refine ⟨W2, S2, env, E2, r2, (Wq.bind (rp := rpO) z).mono fun h H3 z => ?_⟩
  obtain ⟨W3, S3, dh, e3, r3, p3, z⟩ := z
  cases (show dh = h from p3)
  obtain ⟨d, e, f⟩ := z.fin
  exact st_ok r3 ((p1.mono r1.trk e2).mono r2.trk e3) e f
end
end PL

set_option Elab.async false
set_option linter.all false
set_option maxRecDepth 100000
set_option maxHeartbeats 1000000
/-! PLT: enumerate of a tuple. -/
namespace PySem
open Sem (wp)
open AutoSeq1 (wpAny_loadPart')
theorem enumT_new {v : Value} {ob : Obj} {Hs : Heap → Prop} (B : Begins v ob Hs) :
    Meets (Builtin.«enumerate.__new__» ⟨[.type "enumerate", v], []⟩) (fun _ R s => Hs s.heap ∧
      R (.ok (.ret (.ref (s.heap.push ob).objs.size))) { s with heap := (s.heap.push ob).push { cls := .type "enumerate", data := .fields #[.none, .bool false, .ref s.heap.objs.size, rawInt 0, .none, .none] } }) :=
  .of_wp fun prog w A R s ⟨h1, h2⟩ => by
    obtain ⟨hp, gl, dd, tk, os⟩ := s
    have hsub := sub_enumerate
    have it1 : ∀ {A' : Around} {E : Value → Shared → Prop} {Q : Value → Shared → Prop}, Q (.ref hp.objs.size) ⟨hp.push ob, gl, dd, tk, os⟩ → wpAny (model prog w) A' (pyIter v) Q E ⟨hp, gl, dd, tk, os⟩ :=
      fun q => B.iter prog w _ _ ⟨hp, gl, dd, tk, os⟩ _ h1 q
    wp_walk using it1
    refine wpAny_stack_any fun st => wpAny_pure ?_
    split
    · rename_i c _ _ _ _ _
      cases c == Value.type "enumerate" <;> (wp_walk using it1; exact ⟨_, rfl, h2⟩)
    · wp_walk using it1
      exact ⟨_, rfl, h2⟩
theorem enumT_call {prog : Program} {w : World} {A : Around} {E : Value → Shared → Prop} {s : Shared} {v : Value} {ob : Obj} {Hs : Heap → Prop} {Q : Value → Shared → Prop} (B : Begins v ob Hs) (h1 : Hs s.heap)
    (k : ∀ g : Heap, IsEnum g (s.heap.objs.size + 1) s.heap.objs.size 0 .none → g.get? s.heap.objs.size = some ob → (∀ b o, s.heap.get? b = some o → g.get? b = some o) → Q (.ref (s.heap.objs.size + 1)) { s with heap := g }) :
    wpAny (model prog w) A (call (.type "enumerate") [v]) Q E s := by
  refine callType_new F.called_enumerate (by decide) (F.typeCall_enumerate_1 v) (F.newCall_enumerate_1 v) (fun obj => F.args_object_init_2 obj v) F.entry_enumerate_new (enumT_new B) ⟨h1, ?_⟩
  have sz : (s.heap.push ob).objs.size = s.heap.objs.size + 1 := Heap.size_push s.heap ob
  show _ ∧ _
  rw [sz]
  have en : IsEnum ((s.heap.push ob).push { cls := .type "enumerate", data := .fields #[.none, .bool false, .ref s.heap.objs.size, rawInt 0, .none, .none] }) (s.heap.objs.size + 1) s.heap.objs.size 0 .none := by
    have z := Heap.get?_push_size (s.heap.push ob) (o := { cls := .type "enumerate", data := .fields #[.none, .bool false, .ref s.heap.objs.size, rawInt 0, .none, .none] }) rfl
    rw [sz] at z
    exact z
  exact ⟨⟨_, en, rfl⟩, k _ en (Heap.get?_push_of_some _ (Heap.get?_push_size s.heap B.free)) fun b o e => Heap.get?_push_of_some _ (Heap.get?_push_of_some _ e)⟩
end PySem
namespace PL
open PySem PySem.Spec PyProof.Rows L2
/-- the tuple at a, each item in a new pair -/
def IteT (K : PySem.W.Frag) (a : Addr) : It :=
  ⟨fun i H => ∃ (xs : List V) (x : V), SqT K H a xs ∧ xs[i]? = some x, fun i H v H' => ∃ T x, v = .ref T ∧ H T = none ∧ H' = upd H T (.tup [.int (i : Nat), x]) ∧ ∀ xs, SqT K H a xs → xs[i]? = some x, fun i H => ∃ xs : List V, SqT K H a xs ∧ xs.length ≤ i⟩
theorem enum_apart {h : Heap} {e it t : Addr} {c : Int} {old : Value} {items : Array Value} (he : IsEnum h e it c old) (ht : h.IsTuple t items) : e ≠ t := by
  intro q
  subst q
  obtain ⟨o, h1, h2, _⟩ := ht
  cases (show h.get? e = some _ from he).symm.trans h1
  exact absurd (Value.type.inj h2) (by decide)
theorem titer_apart {h : Heap} {it t u : Addr} {i : Nat} {items : Array Value} (hi : h.IsTupleIter it u i) (ht : h.IsTuple t items) : t ≠ it := by
  intro q
  subst q
  obtain ⟨o, h1, h2, _⟩ := ht
  obtain ⟨o', h1', h2', _⟩ := hi
  cases h1.symm.trans h1'
  rw [h2] at h2'
  exact absurd (Value.type.inj h2') (by decide)
theorem turn_enumT {P : Program} {w : World} {K : PySem.W.Frag} {elts : List Expr} {kk : Nat} {tpos : Pos} (a e it : Addr) :
    Turn P w K (.Tuple elts kk tpos) (IteT K a) [e, it] e (fun i h => (∃ old, IsEnum h e it ((i : Nat) : Int) old) ∧ h.IsTupleIter it a i ∧ e ≠ it) where
  mem := by simp
  obj := fun i h st b hb => by
    obtain ⟨⟨old, he⟩, ⟨o, ho, hc, hd⟩, _⟩ := st
    have e' : b = e ∨ b = it := by simpa using hb
    rcases e' with z | z
    · rw [z]; exact ⟨_, he, fun v q => nomatch q⟩
    · rw [z]; exact ⟨o, ho, fun v q => by rw [hd] at q; cases q⟩
  keep := fun i h h' ⟨⟨old, he⟩, hi, hne⟩ k => ⟨⟨old, k e (by simp) _ he⟩, hi.at fun o q => k it (by simp) o q, hne⟩
  item := by
    intro X hP hw hK hc i pins s σ H E I hf st hg
    subst hP hw hK
    obtain ⟨⟨old, he⟩, hit, hne⟩ := st
    obtain ⟨xs, x, hq, hx⟩ := hg
    obtain ⟨its, rv, p, hz⟩ := I.tuple hq
    obtain ⟨u, hu, ru⟩ := rv.get hx
    have p' : s.heap.IsTuple a its.toArray := p
    have hel : e < s.heap.objs.size := Heap.lt_size he
    have hil : it < s.heap.objs.size := by obtain ⟨_, q, _⟩ := hit; exact Heap.lt_size q
    have hea := enum_apart he p'
    refine wpAny_pyNext_enum_itemC (Draws.tuple (A := X.A.in1) (I.ok.hd hc) it a (titer_apart hit p') its.toArray) he ⟨hit, p'⟩ (by have := (List.getElem?_eq_some_iff.mp hu).1; simpa using this) hne (by simp [hne, hea]) fun y h' tk hy ho hst hT hsz hk => ?_
    obtain rfl : y = u := by
      have z : its.toArray[i]? = some u := by simpa using hu
      rw [z] at hy
      exact (Option.some.inj hy).symm
    refine ⟨_, rfl, wpAny_letOwnedTupleGo_enum (s := { s with heap := h', toks := tk + 1 }) ho fun h2 he' sb => ?_⟩
    have hT2 : h2.get? s.heap.objs.size = some { cls := .type "tuple", data := .seq #[.int (i : Nat) tk, y] } := (sb.2 _ (Nat.ne_of_gt hel)).trans hT
    have new : ObjOk X.prog X.w (upd H s.heap.objs.size (.tup [.int (i : Nat), x])) h2 s.heap.objs.size (.tup [.int (i : Nat), x]) :=
      ⟨by show 2 ≤ sizeLine; decide, [.int (i : Nat) tk, y], .cons ⟨_, rfl⟩ (.cons ru .nil), ⟨_, hT2, rfl, _, rfl⟩⟩
    have I1 : Inv X pins σ (upd H s.heap.objs.size (.tup [.int (i : Nat), x])) { s with heap := h2, toks := tk + 1 } :=
      I.turnedNew (ch := [e, it]) (fun b ob hb q => (sb.2 b (fun z => hb (by simp [z]))).trans (hk b ob (fun z => hb (by simp [z])) (fun z => hb (by simp [z])) q)) hf (Nat.le_refl _) new
    refine ⟨.ref s.heap.objs.size, _, I1, rfl, ⟨_, x, rfl, I.hok.fresh (Nat.le_refl _), rfl, fun ys hy => by rw [I.tuple_inj hy hq]; exact hx⟩, ⟨⟨y, ?_⟩, hst.1.at fun o q => (sb.2 it (Ne.symm hne)).trans q, hne⟩, fun b hb => ?_⟩
    · have e1 : ((i + 1 : Nat) : Int) = (i : Int) + 1 := by omega
      rw [e1]
      exact he'
    · have hb' : b < s.heap.objs.size := by
        rcases List.mem_cons.mp hb with z | z
        · rw [z]; exact hel
        · rw [List.mem_singleton.mp z]; exact hil
      rw [upd_ne (Nat.ne_of_lt hb')]
      exact (hf b hb).1
  done := by
    intro X hP hw hK hc i pins s σ H E I hf st hg
    subst hP hw hK
    obtain ⟨⟨old, he⟩, hit, hne⟩ := st
    obtain ⟨xs, hq, hx⟩ := hg
    obtain ⟨its, rv, p, hz⟩ := I.tuple hq
    have p' : s.heap.IsTuple a its.toArray := p
    obtain ⟨f0, f1, f2, f3, f4, f5⟩ := hf it (by simp)
    have hl := rv.length
    have D : Draws X.prog X.w X.A.in1 it [it, a] i (fun _ _ => True) (fun j h => j = i ∧ h.IsTupleIter it a i ∧ h.IsTuple a its.toArray) :=
      { live := fun _ _ st => let ⟨o, ho, _⟩ := st.2.1; ⟨o, ho⟩
        frame := fun _ _ _ st hk => ⟨st.1, st.2.1.at fun o e => hk it (by simp) o e, st.2.2.at fun o e => hk a (by simp) o e⟩
        item := fun j s Q E hj st hQ => absurd st.1 (Nat.ne_of_lt hj)
        done := fun s Q E st hE => wpAny_nextOf_tuple_end (I.ok.hd hc) st.2.1 st.2.2 (by simp; omega) hE }
    exact wpAny_pyNext_enum_endD D he ⟨rfl, hit, p'⟩ fun h' eb => ⟨rfl, I.turned (t' := s.toks) (fun b o hb q => eb b o hb q) f0 f1 f3 f4 f5⟩
  self := fun A i s Q E st h => let ⟨⟨_, he⟩, _⟩ := st; wpAny_pyIter_enum he h
def iEnumA (K : PySem.W.Frag) (ta : TA) : TI := fun σ H R => ta σ H fun vs H1 => ∃ a xs, vs = [.ref a] ∧ ((SqL K H1 a xs ∧ R (Ite K a) H1) ∨ (SqT K H1 a xs ∧ R (IteT K a) H1))
theorem pi_enumA {X : Cx} {e : Expr} {ta : TA} {p pos tpos : Pos} {elts : List Expr} {kk : Nat} (hg : Gl X "enumerate") (hm : X.mg "enumerate" = none) (ha : PA X [e] ta) (hs : starEach [e] X.env = [(false, eval e X.env)]) :
    PI X (.Tuple elts kk tpos) (.Call (.Name "enumerate" p) [e] [] pos) (iEnumA X.K ta) := by
  refine ⟨fun pins s σ H R I h => Call_ (ld_blt I hg hm boot_enumerate (PyProof.Rows.callWith_type1 (thn (ha.run pos pins s σ H _ I h) fun us s1 ⟨vs, H1, I1, r1, q1⟩ => ?_) hs rfl))⟩
  obtain ⟨a, xs, rfl, q1⟩ := q1
  obtain rfl := Vals.ref1 r1
  have le : ∀ b ∈ [s1.heap.objs.size + 1, s1.heap.objs.size], FpOk X pins H1 b := fun b hb => by
    have le : s1.heap.objs.size ≤ b := by
      rcases List.mem_cons.mp hb with z | z
      · rw [z]; exact Nat.le_succ _
      · rw [List.mem_singleton.mp z]; exact Nat.le_refl _
    exact I1.fpOk le (I1.hok.fresh le)
  rcases q1 with ⟨hq, q⟩ | ⟨hq, q⟩
  · obtain ⟨its, rv, p', hz⟩ := I1.list hq
    refine enumT_call (begins_list a its.toArray) p'.isList fun g he hit hk => wpAny_pyIter_enum he ?_
    have I2 : Inv X pins σ H1 { s1 with heap := g } := I1.kept (t' := s1.toks) hk
    exact ⟨s1.heap.objs.size + 1, [s1.heap.objs.size + 1, s1.heap.objs.size], _, _, H1, rfl, I2, turn_enum a (s1.heap.objs.size + 1) s1.heap.objs.size, ⟨⟨.none, he⟩, ⟨_, hit, rfl, rfl⟩, Nat.succ_ne_self _⟩, le, q⟩
  · obtain ⟨its, rv, p', hz⟩ := I1.tuple hq
    have p2 : s1.heap.IsTuple a its.toArray := p'
    refine enumT_call (begins_tuple a its.toArray) p2 fun g he hit hk => wpAny_pyIter_enum he ?_
    have I2 : Inv X pins σ H1 { s1 with heap := g } := I1.kept (t' := s1.toks) hk
    exact ⟨s1.heap.objs.size + 1, [s1.heap.objs.size + 1, s1.heap.objs.size], _, _, H1, rfl, I2, turn_enumT a (s1.heap.objs.size + 1) s1.heap.objs.size, ⟨⟨.none, he⟩, ⟨_, hit, rfl, rfl⟩, Nat.succ_ne_self _⟩, le, q⟩
end PL

set_option Elab.async false
set_option linter.all false
set_option maxRecDepth 100000
set_option maxHeartbeats 1000000
/-! PLK: what a loop walks. -/
namespace PL
open PySem PySem.Spec PyProof.Rows L2
section
variable {K : PySem.W.Frag} {nm : Nm} {W W' : Wd} {H H' : Hp} {S : Store}
/-- an address more is set aside -/
def Wd.add (W : Wd) (p : Addr) : Wd := ⟨W.m, p :: W.B⟩
mutual
theorem Rep.addB {p : Addr} {o : HO} (n : H p = none) : ∀ {d : D} {v : V}, Rep K W H d v → Rep K (W.add p) (upd H p o) d v
  | _, _, .non => .non
  | _, _, .bl b => .bl b
  | _, _, .int i => .int i
  | _, _, .str x => .str x
  | _, _, .tup h r => .tup (by
      rcases h with (h | ⟨u, h⟩) | h
      · exact .inl (.inl (same_upd n _ _ h))
      · exact .inl (.inr ⟨u, same_upd n _ _ h⟩)
      · exact .inr h) (Reps.addB n r)
  | _, _, .lst h a b r => .lst (by
      rcases h with h | ⟨u, h⟩
      · exact .inl (same_upd n _ _ h)
      · exact .inr ⟨u, same_upd n _ _ h⟩) a (by
      simp only [Wd.add, List.mem_cons, not_or]
      refine ⟨fun e => ?_, b⟩
      subst e
      rcases h with h | ⟨u, h⟩ <;> (rw [n] at h; cases h)) (Reps.addB n r)
  | _, _, .dct h a b r => .dct (by
      rcases h with h | ⟨u, h⟩
      · exact .inl (same_upd n _ _ h)
      · exact .inr ⟨u, same_upd n _ _ h⟩) a (by
      simp only [Wd.add, List.mem_cons, not_or]
      refine ⟨fun e => ?_, b⟩
      subst e
      rcases h with h | ⟨u, h⟩ <;> (rw [n] at h; cases h)) (RepK.addB n r)
  | _, _, .ref h => .ref h
  | _, _, .scr h => .scr (by
      rcases h with ⟨u, h⟩ | h
      · exact .inl ⟨u, same_upd n _ _ h⟩
      · exact .inr h)
theorem Reps.addB {p : Addr} {o : HO} (n : H p = none) : ∀ {d : List D} {v : List V}, Reps K W H d v → Reps K (W.add p) (upd H p o) d v
  | _, _, .nil => .nil
  | _, _, .cons r rs => .cons (Rep.addB n r) (Reps.addB n rs)
theorem RepK.addB {p : Addr} {o : HO} (n : H p = none) : ∀ {d : List (Ky × D)} {v : List (Key × V)}, RepK K W H d v → RepK K (W.add p) (upd H p o) d v
  | _, _, .nil => .nil
  | _, _, .cons r rs => .cons (Rep.addB n r) (RepK.addB n rs)
end
mutual
theorem Rep.delB {p : Addr} : ∀ {d : D} {v : V}, Rep K (W.add p) H d v → Rep K W H d v
  | _, _, .non => .non
  | _, _, .bl b => .bl b
  | _, _, .int i => .int i
  | _, _, .str x => .str x
  | _, _, .tup h r => .tup h (Reps.delB r)
  | _, _, .lst h a b r => .lst h a (fun z => b (List.mem_cons_of_mem _ z)) (Reps.delB r)
  | _, _, .dct h a b r => .dct h a (fun z => b (List.mem_cons_of_mem _ z)) (RepK.delB r)
  | _, _, .ref h => .ref h
  | _, _, .scr h => .scr h
theorem Reps.delB {p : Addr} : ∀ {d : List D} {v : List V}, Reps K (W.add p) H d v → Reps K W H d v
  | _, _, .nil => .nil
  | _, _, .cons r rs => .cons (Rep.delB r) (Reps.delB rs)
theorem RepK.delB {p : Addr} : ∀ {d : List (Ky × D)} {v : List (Key × V)}, RepK K (W.add p) H d v → RepK K W H d v
  | _, _, .nil => .nil
  | _, _, .cons r rs => .cons (Rep.delB r) (RepK.delB rs)
end
theorem ob_map {W W' : Wd} {H H' : Hp} {a : Addr} {o : Ob} (hm : ∀ d v, Rep K W H d v → Rep K W' H' d v) (hs : ∀ d v, Reps K W H d v → Reps K W' H' d v) (hk : ∀ d v, RepK K W H d v → RepK K W' H' d v) (ha : ∀ u, H a = some u → H' a = some u)
    (q : ObRep K nm W H a o) : ObRep K nm W' H' a o := by
  cases o with
  | lst xs => obtain ⟨vs, e, z⟩ := q; exact ⟨vs, ha _ e, hs _ _ z⟩
  | dct xs => obtain ⟨vs, e, z⟩ := q; exact ⟨vs, ha _ e, hk _ _ z⟩
  | dtt xs =>
    obtain ⟨vs, e, z⟩ := q
    refine ⟨vs, ha _ e, ?_⟩
    clear e
    induction z with
    | nil => exact .nil
    | cons r _ ih => exact .cons (hm _ _ r) ih
  | ins c fs =>
    obtain ⟨dx, vs, e, z⟩ := q
    refine ⟨dx, vs, ha _ e, ?_⟩
    clear e
    induction z with
    | nil => exact .nil
    | cons r _ ih => exact .cons (hm _ _ r) ih
theorem Rel.addB {p : Addr} {o : HO} (r : Rel K nm W S H) (n : H p = none) : Rel K nm (W.add p) S (upd H p o) := by
  refine ⟨r.len, r.nd, fun k a ob h1 h2 => ob_map (fun d v q => q.addB n) (fun d v q => q.addB n) (fun d v q => q.addB n) (fun u e => same_upd n _ _ e) (r.ob k a ob h1 h2), fun b hb => ?_⟩
  rcases List.mem_cons.mp hb with rfl | hb
  · exact ⟨(r.fresh n).1, o, upd_same⟩
  · obtain ⟨h1, u, h2⟩ := r.bs b hb
    exact ⟨h1, u, same_upd n _ _ h2⟩
theorem Rel.delB {p : Addr} (r : Rel K nm (W.add p) S H) : Rel K nm W S H :=
  ⟨r.len, r.nd, fun k a ob h1 h2 => ob_map (fun d v q => q.delB) (fun d v q => q.delB) (fun d v q => q.delB) (fun u e => e) (r.ob k a ob h1 h2), fun b hb => r.bs b (List.mem_cons_of_mem _ hb)⟩
/-- the list that is set aside grows -/
theorem Rel.putB {p : Addr} {o : HO} (r : Rel K nm (W.add p) S H) (hB : ∀ d v, Rep K (W.add p) H d v → Rep K (W.add p) (upd H p o) d v) (hBs : ∀ d v, Reps K (W.add p) H d v → Reps K (W.add p) (upd H p o) d v) (hBk : ∀ d v, RepK K (W.add p) H d v → RepK K (W.add p) (upd H p o) d v) :
    Rel K nm (W.add p) S (upd H p o) := by
  refine ⟨r.len, r.nd, fun k a ob h1 h2 => ob_map hB hBs hBk (fun u e => ?_) (r.ob k a ob h1 h2), fun b hb => ?_⟩
  · have : a ≠ p := fun z => (r.bs p (List.mem_cons_self)).1 (z ▸ List.mem_of_getElem? h1)
    rw [upd_ne this]; exact e
  · by_cases e : b = p
    · subst e; exact ⟨(r.bs b hb).1, o, upd_same⟩
    · obtain ⟨h1, u, h2⟩ := r.bs b hb
      exact ⟨h1, u, by rw [upd_ne e]; exact h2⟩
mutual
theorem Rep.putB {p : Addr} {xs : List V} {o : HO} (hp : H p = some (.lst xs)) : ∀ {d : D} {v : V}, Rep K (W.add p) H d v → Rep K (W.add p) (upd H p o) d v
  | _, _, .non => .non
  | _, _, .bl b => .bl b
  | _, _, .int i => .int i
  | _, _, .str x => .str x
  | _, _, .tup (a := a) h r => .tup (by
      have ne : ∀ u, H a = some u → (∀ l, u ≠ .lst l) → upd H p o a = some u := fun u e hu => by
        have : a ≠ p := fun z => by subst z; rw [hp] at e; cases e; exact hu _ rfl
        rw [upd_ne this]; exact e
      rcases h with (h | ⟨u, h⟩) | h
      · exact .inl (.inl (ne _ h (by simp)))
      · exact .inl (.inr ⟨u, ne _ h (by simp)⟩)
      · exact .inr h) (Reps.putB hp r)
  | _, _, .lst h a b r => .lst (by
      have : _ ≠ p := fun z => b (z ▸ List.mem_cons_self)
      rcases h with h | ⟨u, h⟩
      · exact .inl (by rw [upd_ne this]; exact h)
      · exact .inr ⟨u, by rw [upd_ne this]; exact h⟩) a b (Reps.putB hp r)
  | _, _, .dct h a b r => .dct (by
      have : _ ≠ p := fun z => b (z ▸ List.mem_cons_self)
      rcases h with h | ⟨u, h⟩
      · exact .inl (by rw [upd_ne this]; exact h)
      · exact .inr ⟨u, by rw [upd_ne this]; exact h⟩) a b (RepK.putB hp r)
  | _, _, .ref h => .ref h
  | _, _, .scr (a := a) h => .scr (by
      rcases h with ⟨u, h⟩ | h
      · have : a ≠ p := fun z => by subst z; rw [hp] at h; cases h
        exact .inl ⟨u, by rw [upd_ne this]; exact h⟩
      · exact .inr h)
theorem Reps.putB {p : Addr} {xs : List V} {o : HO} (hp : H p = some (.lst xs)) : ∀ {d : List D} {v : List V}, Reps K (W.add p) H d v → Reps K (W.add p) (upd H p o) d v
  | _, _, .nil => .nil
  | _, _, .cons r rs => .cons (Rep.putB hp r) (Reps.putB hp rs)
theorem RepK.putB {p : Addr} {xs : List V} {o : HO} (hp : H p = some (.lst xs)) : ∀ {d : List (Ky × D)} {v : List (Key × V)}, RepK K (W.add p) H d v → RepK K (W.add p) (upd H p o) d v
  | _, _, .nil => .nil
  | _, _, .cons r rs => .cons (Rep.putB hp r) (RepK.putB hp rs)
end
theorem ERep.addB {env : Env} {σ : L2.St} {p : Addr} {o : HO} (E : ERep K W H env σ) (n : H p = none) : ERep K (W.add p) (upd H p o) env σ :=
  ⟨E.len, fun i d h => let ⟨v, a, b⟩ := E.get i d h; ⟨v, a, b.addB n⟩⟩
theorem ERep.delB {env : Env} {σ : L2.St} {p : Addr} (E : ERep K (W.add p) H env σ) : ERep K W H env σ :=
  ⟨E.len, fun i d h => let ⟨v, a, b⟩ := E.get i d h; ⟨v, a, b.delB⟩⟩

mutual
theorem Rep.monoB {p : Addr} (t : Trk W H) (e : Ext W H W' H') (n : H p = none) : ∀ {d : D} {v : V}, Rep K W H d v → Rep K (W'.add p) H' d v
  | _, _, .non => .non
  | _, _, .bl b => .bl b
  | _, _, .int i => .int i
  | _, _, .str x => .str x
  | _, _, .tup h r => .tup (e.sqT t h) (Reps.monoB t e n r)
  | _, _, .lst h a b r => .lst (e.rd h a).1 (e.rd h a).2 (by
      simp only [Wd.add, List.mem_cons, not_or]
      refine ⟨fun z => ?_, by rw [e.B]; exact b⟩
      subst z
      rcases h with h | ⟨u, h⟩ <;> (rw [n] at h; cases h)) (Reps.monoB t e n r)
  | _, _, .dct h a b r => .dct (e.rd h a).1 (e.rd h a).2 (by
      simp only [Wd.add, List.mem_cons, not_or]
      refine ⟨fun z => ?_, by rw [e.B]; exact b⟩
      subst z
      rcases h with h | ⟨u, h⟩ <;> (rw [n] at h; cases h)) (RepK.monoB t e n r)
  | _, _, .ref h => .ref (by
      obtain ⟨t, e1, _⟩ := e.m
      show W'.m[_]? = _
      rw [e1]
      exact (List.getElem?_append_left (List.getElem?_eq_some_iff.mp h).1).trans h)
  | _, _, .scr h => .scr (e.scr t h)
theorem Reps.monoB {p : Addr} (t : Trk W H) (e : Ext W H W' H') (n : H p = none) : ∀ {d : List D} {v : List V}, Reps K W H d v → Reps K (W'.add p) H' d v
  | _, _, .nil => .nil
  | _, _, .cons r rs => .cons (Rep.monoB t e n r) (Reps.monoB t e n rs)
theorem RepK.monoB {p : Addr} (t : Trk W H) (e : Ext W H W' H') (n : H p = none) : ∀ {d : List (Ky × D)} {v : List (Key × V)}, RepK K W H d v → RepK K (W'.add p) H' d v
  | _, _, .nil => .nil
  | _, _, .cons r rs => .cons (Rep.monoB t e n r) (RepK.monoB t e n rs)
end
theorem ERep.monoB {env : Env} {σ : L2.St} {p : Addr} (t : Trk W H) (e : Ext W H W' H') (n : H p = none) (E : ERep K W H env σ) : ERep K (W'.add p) H' env σ :=
  ⟨E.len, fun i d h => let ⟨v, a, b⟩ := E.get i d h; ⟨v, a, b.monoB t e n⟩⟩

/-! ### walks of items -/
/-- wherever Gr holds J gives the items xs -/
def Wlk (K : PySem.W.Frag) (nm : Nm) (Gr : Wd → Hp → Prop) (J : It) (xs : List D) : Prop := ∃ (Gd : Hp → Prop) (Yd : Nat → Hp → V → Hp → Prop), Walk J xs.length Gd Yd ∧ (∀ W H, Gr W H → Gd H) ∧
  ∀ (i : Nat) W S H x H', i < xs.length → Gr W H → Rel K nm W S H → Yd i H x H' → ∃ d, xs[i]? = some d ∧ Ext W H W H' ∧ (∀ a o, H a = some o → H' a = some o) ∧ Rep K W H' d x
def ExtB (W0 : Wd) (H0 : Hp) (p : Addr) : Wd → Hp → Prop := fun W H => ∃ W', W = W'.add p ∧ Ext W0 H0 W' H
/-- .. with an address set aside, too -/
def ItOk (K : PySem.W.Frag) (nm : Nm) (W : Wd) (H : Hp) (J : It) (xs : List D) : Prop := Wlk K nm (Ext W H) J xs ∧ ∀ p, H p = none → Wlk K nm (ExtB W H p) J xs
variable {Gr : Wd → Hp → Prop}
theorem wlk_list {a : Addr} {xs : List D} {vs : List V} (h : ∀ W H, Gr W H → Rd H a (.lst vs)) (p : ∀ W H, Gr W H → Reps K W H xs vs) (hl : xs.length = vs.length) : Wlk K nm Gr (Itl K a) xs := by
  refine ⟨_, _, hl ▸ walk_list (xs := vs), fun W' H' e => .inl (h _ _ e), fun i W' S H' x H2 hi e r y => ?_⟩
  obtain ⟨rfl, y⟩ := y
  have hl : i < xs.length := hi
  obtain ⟨v, h1, h2⟩ := (p _ _ e).get (i := i) (d := xs[i]) (by simp [hl])
  rw [h1] at y; cases y
  exact ⟨_, by simp [hl], Ext.refl, fun _ _ z => z, h2⟩
theorem wlk_tup {a : Addr} {xs : List D} {vs : List V} (h : ∀ W H, Gr W H → SqT K H a vs) (p : ∀ W H, Gr W H → Reps K W H xs vs) (hl : xs.length = vs.length) : Wlk K nm Gr (Itt K a) xs := by
  refine ⟨_, _, hl ▸ walk_tup (xs := vs), fun W' H' e => h _ _ e, fun i W' S H' x H2 hi e r y => ?_⟩
  obtain ⟨rfl, y⟩ := y
  have hl : i < xs.length := hi
  obtain ⟨v, h1, h2⟩ := (p _ _ e).get (i := i) (d := xs[i]) (by simp [hl])
  rw [h1] at y; cases y
  exact ⟨_, by simp [hl], Ext.refl, fun _ _ z => z, h2⟩
theorem rngD_get {lo c : Int} {n i : Nat} (h : i < n) : (rngD lo c n)[i]? = some (.int (lo + i * c)) := by
  simp [rngD, h]
theorem rngD_len {lo c : Int} {n : Nat} : (rngD lo c n).length = n := by simp [rngD]
theorem wlk_range {lo : Int} {n : Nat} : Wlk K nm Gr (L2.Itr lo n) (rngD lo 1 n) := by
  refine ⟨_, _, (by rw [rngD_len]; exact walk_range), fun _ _ _ => trivial, fun i W' S H' x H2 hi e r y => ?_⟩
  obtain ⟨rfl, rfl⟩ := y
  rw [rngD_len] at hi
  exact ⟨_, rngD_get hi, Ext.refl, fun _ _ z => z, by rw [Int.mul_one]; exact .int _⟩
theorem wlk_rangeC {lo c : Int} {n : Nat} : Wlk K nm Gr (Itc lo c n) (rngD lo c n) := by
  refine ⟨_, _, (by rw [rngD_len]; exact walk_rangeC), fun _ _ _ => trivial, fun i W' S H' x H2 hi e r y => ?_⟩
  obtain ⟨rfl, rfl⟩ := y
  rw [rngD_len] at hi
  exact ⟨_, rngD_get hi, Ext.refl, fun _ _ z => z, .int _⟩
theorem chars_len {x : Str} : (chars x).length = x.cps.size := by simp [chars]
theorem wlk_str {z : Str} : Wlk K nm Gr (Its z) (chars z) := by
  refine ⟨_, _, (by rw [chars_len]; exact walk_str), fun _ _ _ => trivial, fun i W' S H' x H2 hi e r y => ?_⟩
  obtain ⟨rfl, c, h1, rfl⟩ := y
  exact ⟨.str ⟨#[c]⟩, by simp [chars, h1], Ext.refl, fun _ _ z => z, .str _⟩
theorem pair_new {W : Wd} {H : Hp} {S : Store} {T : Addr} {x y : V} {d e : D} (r : Rel K nm W S H) (n : H T = none) (p : Rep K W H d x) (q : Rep K W H e y) : Ext W H W (upd H T (.tup [x, y])) ∧ (∀ a o, H a = some o → upd H T (.tup [x, y]) a = some o) ∧ Rep K W (upd H T (.tup [x, y])) (.tup [d, e]) (.ref T) :=
  ⟨Ext.alloc n, same_upd n, .tup (SqT.of upd_same) (.cons (p.mono r.trk (Ext.alloc n)) (.cons (q.mono r.trk (Ext.alloc n)) .nil))⟩
theorem zipD_get {xs ys : List D} {i : Nat} {d e : D} (h1 : xs[i]? = some d) (h2 : ys[i]? = some e) : (xs.zipWith (fun x y => D.tup [x, y]) ys)[i]? = some (.tup [d, e]) := by
  simp [List.getElem?_zipWith, h1, h2]
theorem walk_zipT {a b : Addr} {xs ys : List V} {n : Nat} (hn : n = min xs.length ys.length) : Walk (RZ.ItzT K a b) n (fun H => SqT K H a xs ∧ SqT K H b ys) (YPair (fun i => xs[i]?) (fun i => ys[i]?)) := by
  subst hn
  refine ⟨fun i _ hi q => ?_, fun _ q => ⟨xs, ys, q.1, q.2, by omega⟩, fun i H v H' _ q y => ?_⟩
  · have h1 : i < xs.length := by omega
    have h2 : i < ys.length := by omega
    exact ⟨xs, ys, xs[i], ys[i], q.1, q.2, by simp [h1], by simp [h2]⟩
  · obtain ⟨T, x, z, h1, h2, h3, h4, h5⟩ := y
    exact ⟨T, x, z, h1, h2, h3, h4 xs q.1, h5 ys q.2⟩
theorem wlk_zip {J : It} {xs ys : List D} {vs us : List V} {Gd : Hp → Prop} (w : Walk J (xs.zipWith (fun x y => D.tup [x, y]) ys).length Gd (YPair (fun i => vs[i]?) (fun i => us[i]?))) (h : ∀ W H, Gr W H → Gd H) (p : ∀ W H, Gr W H → Reps K W H xs vs) (p' : ∀ W H, Gr W H → Reps K W H ys us) :
    Wlk K nm Gr J (xs.zipWith (fun x y => .tup [x, y]) ys) := by
  refine ⟨_, _, w, h, fun i W' S H' x H2 hi e r y => ?_⟩
  rw [List.length_zipWith] at hi
  obtain ⟨T, x1, y1, rfl, hT, rfl, g1, g2⟩ := y
  obtain ⟨v, q1, q2⟩ := (p _ _ e).get (i := i) (d := xs[i]'(by omega)) (by simp [show i < xs.length by omega])
  obtain ⟨v', q3, q4⟩ := (p' _ _ e).get (i := i) (d := ys[i]'(by omega)) (by simp [show i < ys.length by omega])
  cases q1.symm.trans g1
  cases q3.symm.trans g2
  obtain ⟨z1, z2, z3⟩ := pair_new r hT q2 q4
  exact ⟨_, zipD_get (by simp [show i < xs.length by omega]) (by simp [show i < ys.length by omega]), z1, z2, z3⟩
theorem enumD_len {xs : List D} : (enumD xs).length = xs.length := by simp [enumD]
theorem enumD_get {xs : List D} {i : Nat} {d : D} (h : xs[i]? = some d) : (enumD xs)[i]? = some (.tup [.int i, d]) := by
  have hl := (List.getElem?_eq_some_iff.mp h).1
  obtain ⟨_, rfl⟩ := List.getElem?_eq_some_iff.mp h
  simp [enumD, List.getElem?_zipWith, hl, List.getElem?_range hl]
theorem wlk_enum {J : It} {xs : List D} {vs : List V} {Gd : Hp → Prop} (w : Walk J (enumD xs).length Gd (YPair (fun i => some (.int (i : Nat))) (fun i => vs[i]?))) (h : ∀ W H, Gr W H → Gd H) (p : ∀ W H, Gr W H → Reps K W H xs vs) : Wlk K nm Gr J (enumD xs) := by
  refine ⟨_, _, w, h, fun i W' S H' x H2 hi e r y => ?_⟩
  rw [enumD_len] at hi
  obtain ⟨T, x1, y1, rfl, hT, rfl, g1, g2⟩ := y
  obtain ⟨v, q1, q2⟩ := (p _ _ e).get (i := i) (d := xs[i]) (by simp [hi])
  cases q1.symm.trans g2
  cases g1
  obtain ⟨z1, z2, z3⟩ := pair_new r hT (.int _) q2
  exact ⟨_, enumD_get (by simp [hi]), z1, z2, z3⟩
theorem ItOk.of {J : It} {xs : List D} (h : ∀ Gr : Wd → Hp → Prop, (∀ W' H', Gr W' H' → ∃ W2, Ext W H W2 H' ∧ (W' = W2 ∨ ∃ p, H p = none ∧ W' = W2.add p)) → Wlk K nm Gr J xs) : ItOk K nm W H J xs :=
  ⟨h _ fun W' H' e => ⟨W', e, .inl rfl⟩, fun p hp => h _ fun W' H' ⟨W2, e1, e2⟩ => ⟨W2, e2, .inr ⟨p, hp, e1⟩⟩⟩
theorem reps_gr {xs : List D} {vs : List V} (t : Trk W H) (p : Reps K W H xs vs) {W' W2 : Wd} {H' : Hp} (e : Ext W H W2 H') (h : W' = W2 ∨ ∃ p, H p = none ∧ W' = W2.add p) : Reps K W' H' xs vs := by
  rcases h with rfl | ⟨q, hq, rfl⟩
  · exact p.mono t e
  · exact p.monoB t e hq
theorem ItOk.list {a : Addr} {xs : List D} {vs : List V} (t : Trk W H) (h : Rd H a (.lst vs)) (n : a ∉ W.m) (p : Reps K W H xs vs) : ItOk K nm W H (Itl K a) xs :=
  .of fun Gr g => wlk_list (fun W' H' e => let ⟨_, e1, _⟩ := g _ _ e; (e1.rd h n).1) (fun W' H' e => let ⟨_, e1, e2⟩ := g _ _ e; reps_gr t p e1 e2) p.length
theorem ItOk.tup {a : Addr} {xs : List D} {vs : List V} (t : Trk W H) (h : SqT K H a vs) (p : Reps K W H xs vs) : ItOk K nm W H (Itt K a) xs :=
  .of fun Gr g => wlk_tup (fun W' H' e => let ⟨_, e1, _⟩ := g _ _ e; e1.sqT t h) (fun W' H' e => let ⟨_, e1, e2⟩ := g _ _ e; reps_gr t p e1 e2) p.length
theorem ItOk.enumL {a : Addr} {xs : List D} {vs : List V} (t : Trk W H) (h : Rd H a (.lst vs)) (n : a ∉ W.m) (p : Reps K W H xs vs) : ItOk K nm W H (Ite K a) (enumD xs) :=
  .of fun Gr g => wlk_enum (by rw [enumD_len, p.length]; exact walk_enum (xs := vs)) (fun W' H' e => let ⟨_, e1, _⟩ := g _ _ e; Or.inl (e1.rd h n).1) (fun W' H' e => let ⟨_, e1, e2⟩ := g _ _ e; reps_gr t p e1 e2)
theorem walk_enumT {a : Addr} {xs : List V} : Walk (IteT K a) xs.length (fun H => SqT K H a xs) (YPair (fun i => some (.int (i : Nat))) (fun i => xs[i]?)) := by
  refine ⟨fun i _ hi q => ⟨xs, xs[i], q, by simp [hi]⟩, fun _ q => ⟨xs, q, Nat.le_refl _⟩, fun i H v H' _ q y => ?_⟩
  obtain ⟨T, x, h1, h2, h3, h4⟩ := y
  exact ⟨T, .int (i : Nat), x, h1, h2, h3, rfl, h4 xs q⟩
theorem ItOk.enumT {a : Addr} {xs : List D} {vs : List V} (t : Trk W H) (h : SqT K H a vs) (p : Reps K W H xs vs) : ItOk K nm W H (IteT K a) (enumD xs) :=
  .of fun Gr g => wlk_enum (by rw [enumD_len, p.length]; exact walk_enumT (xs := vs)) (fun W' H' e => let ⟨_, e1, _⟩ := g _ _ e; e1.sqT t h) (fun W' H' e => let ⟨_, e1, e2⟩ := g _ _ e; reps_gr t p e1 e2)
theorem wlk_keys {d : Addr} {o : Obj} {ds : List (Ky × D)} {kvs : List (Key × V)} (h : ∀ W H, Gr W H → H d = some (.frz o (.dK kvs))) (p : kvs.map (·.1) = ds.map (·.1)) : Wlk K nm Gr (Itk d o kvs) (ds.map fun p => kyD p.1) := by
  have hl : kvs.length = (ds.map fun p => kyD p.1).length := by
    have := congrArg List.length p
    simpa using this
  refine ⟨_, _, hl ▸ walk_keys, fun W' H' e => h _ _ e, fun i W' S H' x H2 hi e r y => ?_⟩
  obtain ⟨rfl, k, v, hk, rfl⟩ := y
  have hi' : i < ds.length := by simpa using hi
  have e1 : (kvs.map (·.1))[i]? = some k := by simp [hk]
  rw [p, List.getElem?_map] at e1
  obtain ⟨q, e2, e3⟩ := Option.map_eq_some_iff.mp e1
  subst e3
  refine ⟨kyD q.1, by simp [e2], Ext.refl, fun _ _ z => z, ?_⟩
  cases q.1 with
  | inl i => exact .int i
  | inr x => exact .str x
theorem ItOk.keys {d : Addr} {o : Obj} {ds : List (Ky × D)} {kvs : List (Key × V)} (h : H d = some (.frz o (.dK kvs))) (n : d ∉ W.m) (p : RepK K W H ds kvs) : ItOk K nm W H (Itk d o kvs) (ds.map fun p => kyD p.1) :=
  .of fun Gr g => wlk_keys (fun W' H' e => let ⟨_, e1, _⟩ := g _ _ e; e1.keep _ _ h n) (repK_keys p)
theorem ItOk.zipL {a b : Addr} {xs ys : List D} {vs us : List V} (t : Trk W H) (h : Rd H a (.lst vs)) (n : a ∉ W.m) (p : Reps K W H xs vs) (h' : Rd H b (.lst us)) (n' : b ∉ W.m) (p' : Reps K W H ys us) : ItOk K nm W H (Itz K a b) (xs.zipWith (fun x y => .tup [x, y]) ys) :=
  .of fun Gr g => wlk_zip (walk_zip (xs := vs) (ys := us) (by rw [List.length_zipWith, p.length, p'.length])) (fun W' H' e => let ⟨_, e1, _⟩ := g _ _ e; ⟨Or.inl (e1.rd h n).1, Or.inl (e1.rd h' n').1⟩) (fun W' H' e => let ⟨_, e1, e2⟩ := g _ _ e; reps_gr t p e1 e2) (fun W' H' e => let ⟨_, e1, e2⟩ := g _ _ e; reps_gr t p' e1 e2)
theorem ItOk.zipT {a b : Addr} {xs ys : List D} {vs us : List V} (t : Trk W H) (h : SqT K H a vs) (p : Reps K W H xs vs) (h' : SqT K H b us) (p' : Reps K W H ys us) : ItOk K nm W H (RZ.ItzT K a b) (xs.zipWith (fun x y => .tup [x, y]) ys) :=
  .of fun Gr g => wlk_zip (walk_zipT (xs := vs) (ys := us) (by rw [List.length_zipWith, p.length, p'.length])) (fun W' H' e => let ⟨_, e1, _⟩ := g _ _ e; ⟨e1.sqT t h, e1.sqT t h'⟩) (fun W' H' e => let ⟨_, e1, e2⟩ := g _ _ e; reps_gr t p e1 e2) (fun W' H' e => let ⟨_, e1, e2⟩ := g _ _ e; reps_gr t p' e1 e2)
/-- what is walked -/
def ItFor (K : PySem.W.Frag) (nm : Nm) (W : Wd) (H : Hp) (it : PL.Itr) (J : It) : Prop := match it with
  | .items xs => ItOk K nm W H J xs
  | .live n en => ∃ a, W.m[n]? = some a ∧ J = (if en then Ite K a else Itl K a)
end
section
variable {P : Program} {w : World} {K : PySem.W.Frag} {mg : Str → Option Value} {base : Heap} {G : Tab} {Y : Sx} {nm : Nm} {fa : Nat → Addr} {fd : Nat → FuncData} {ps : Nat → List Str} {kk : Nat} {N : List Str}
variable {sc : Scope} {X : Cx} {Wi : WX}
theorem _root_.L2.PI.or {tg e : Expr} {w1 w2 : TI} (h1 : PI X tg e w1) (h2 : PI X tg e w2) : PI X tg e (fun σ H R => w1 σ H R ∨ w2 σ H R) :=
  ⟨fun pins s σ H R I w => w.elim (h1.run pins s σ H R I) (h2.run pins s σ H R I)⟩
theorem _root_.L2.PI.imp {tg e : Expr} {w1 w2 : TI} (h1 : PI X tg e w1) (h : ∀ σ H R, w2 σ H R → w1 σ H R) : PI X tg e w2 := ⟨fun pins s σ H R I w => h1.run pins s σ H R I (h σ H R w)⟩
def tI (K : PySem.W.Frag) (nm : Nm) (Wi : WX) (k : IK) (f : Env → Store → R D) : TI := tX K nm (ItFor K nm) Wi fun env S => (f env S).bind fun d S => R.of (mkIt k (srcL k d) S) S
theorem pi_plain {tg e : Expr} {f : Env → Store → R D} (hK : X.K = K) (he : PE X e (tE K nm Wi f)) : PI X tg e (tI K nm Wi .plain f) := by
  subst hK
  refine (((pi_list he).or (pi_tup he)).or (pi_str he)).imp fun σ H R q => ?_
  obtain ⟨W, S, env, E, r, z⟩ := q
  dsimp only at z
  cases hd : f env S with
  | bad => rw [hd] at z; exact z.elim
  | ex c S1 => rw [hd] at z; exact .inl (.inl ⟨W, S, env, E, r, by rw [hd]; exact z⟩)
  | ok d S1 =>
    rw [hd] at z
    cases d with
    | tup xs =>
      refine .inl (.inr ⟨W, S, env, E, r, ?_⟩)
      rw [hd]
      intro v W' H' e' r' p
      cases p with
      | @tup _ a vs h1 h2 => exact ⟨a, rfl, ⟨vs, h1⟩, z _ W' H' e' r' (.tup r'.trk h1 h2)⟩
    | lst xs =>
      refine .inl (.inl ⟨W, S, env, E, r, ?_⟩)
      rw [hd]
      intro v W' H' e' r' p
      cases p with
      | @lst _ a vs h1 h2 h3 h4 => exact ⟨a, rfl, ⟨vs, .inl h1⟩, z _ W' H' e' r' (.list r'.trk h1 h2 h4)⟩
    | str x =>
      refine .inr ⟨W, S, env, E, r, ?_⟩
      rw [hd]
      intro v W' H' e' r' p
      cases p
      exact ⟨x, rfl, z _ W' H' e' r' ⟨wlk_str, fun _ _ => wlk_str⟩⟩
    | ref n =>
      refine .inl (.inl ⟨W, S, env, E, r, ?_⟩)
      rw [hd]
      intro v W' H' e' r' p
      simp only [PL.R.bind_ok, srcL, mkIt] at z
      cases p with
      | @ref _ a h1 =>
        split at z
        · rename_i xs q
          obtain ⟨vs, h2, h3⟩ := r'.ob n a _ h1 q
          exact ⟨a, rfl, ⟨vs, .inl (.inl h2)⟩, z _ W' H' e' r' ⟨a, h1, rfl⟩⟩
        · exact z.elim
    | _ => exact z.elim
theorem b62_ok {i : Int} (h : b62 i = true) : -(2 ^ 62) ≤ i ∧ i < 2 ^ 62 := tst_iff.mp h
theorem star_one {a : Expr} {env : PySem.Env} (h : notStar a = true) : starEach [a] env = [(false, eval a env)] := star_ok h
theorem pi_args {tg iter : Expr} {es : List Expr} {ik : IK} {f : Env → Store → R D} {wi : TA → TI} (hne : ∀ d, srcL ik d = toTup d) (hi : PI X tg iter (wi (tA K nm Wi f)))
    (hw : ∀ {σ : L2.St} {H : Hp} {R : It → Hp → Prop} {Q : List V → Hp → Prop}, tA K nm Wi f σ H Q → (∀ vs H1, Q vs H1 → wi (fun _ H Q => Q vs H) σ H1 R) → wi (tA K nm Wi f) σ H R)
    (h : ∀ {W : Wd} {S : Store} {H1 : Hp} {xs : List D} {vs : List V} {it : PL.Itr} {σ : L2.St} {R : It → Hp → Prop}, Rel K nm W S H1 → Reps K W H1 xs vs → mkIt ik xs S = some it → (∀ J, ItFor K nm W H1 it J → R J H1) → wi (fun _ H Q => Q vs H) σ H1 R) : PI X tg iter (tI K nm Wi ik f) := by
  refine hi.imp fun σ H R q => ?_
  obtain ⟨W, S, env, E, r, z⟩ := tX.args (g := fun _ d S => PL.R.of (mkIt ik (srcL ik d) S) S) q
  refine hw (Q := _) ⟨W, S, env, E, r, z⟩ fun vs H1 z => ?_
  obtain ⟨W1, S1, xs, env1, E1, r1, p1, z⟩ := z
  obtain ⟨it, e, z⟩ := z.of
  rw [hne] at e
  have e : mkIt ik xs S1 = some it := e
  exact h r1 p1 e fun J hJ => z J W1 H1 Ext.refl r1 hJ
theorem tA.mono {f : Env → Store → R D} {σ : L2.St} {H : Hp} {Q Q' : List V → Hp → Prop} (w : tA K nm Wi f σ H Q) (h : ∀ v H, Q v H → Q' v H) : tA K nm Wi f σ H Q' := by
  obtain ⟨W, S, env, E, r, z⟩ := w
  exact ⟨W, S, env, E, r, z.mono h⟩
theorem pi_rng1 {tg a : Expr} {f : Env → Store → R D} {p pos : Pos} (hg : Gl X "range") (hm : X.mg "range" = none) (hs : notStar a = true) (ha : PA X [a] (tA K nm Wi f)) : PI X tg (.Call (.Name "range" p) [a] [] pos) (tI K nm Wi .rng1 f) := by
  refine pi_args (es := [a]) (wi := iRng1) (fun _ => rfl) (pi_range1 hg hm ha (star_one hs)) (fun q h => tA.mono q fun v H z => h v H z) fun r p1 e z => ?_
  cases p1 with
  | nil => cases e
  | cons p1 p2 => cases p2 with
    | nil =>
      cases p1 <;> simp only [mkIt] at e <;> first | (cases e; done) | skip
      split at e
      · rename_i h
        cases e
        exact ⟨_, rfl, (b62_ok h).1, (b62_ok h).2, z _ ⟨wlk_range, fun _ _ => wlk_range⟩⟩
      · cases e
    | cons p2 p3 => cases p1 <;> cases e
theorem pi_rng2 {tg a b : Expr} {f : Env → Store → R D} {p pos : Pos} (hg : Gl X "range") (hm : X.mg "range" = none) (hs : notStar a = true) (hs2 : notStar b = true) (ha : PA X [a, b] (tA K nm Wi f)) : PI X tg (.Call (.Name "range" p) [a, b] [] pos) (tI K nm Wi .rng2 f) := by
  refine pi_args (es := [a, b]) (wi := iRng2) (fun _ => rfl) (pi_range2 hg hm ha (by rw [star_ok hs, star_ok hs2]; rfl) (star_one hs2)) (fun q h => tA.mono q fun v H z => h v H z) fun r p1 e z => ?_
  simp only [mkIt] at e
  split at e <;> try (rename_i h; cases h; done)
  all_goals first | (cases e; done) | skip
  rename_i i j h
  split at e
  · rename_i hb
    cases e
    simp only [Bool.and_eq_true] at hb
    obtain ⟨v, u, rfl, q1, q2⟩ := reps2 p1
    cases q1; cases q2
    exact ⟨_, _, rfl, ⟨(b62_ok hb.1).1, (b62_ok hb.1).2, (b62_ok hb.2).1, (b62_ok hb.2).2⟩, z _ ⟨wlk_range, fun _ _ => wlk_range⟩⟩
  · cases e
theorem pi_zipR {a b : Expr} {f : Env → Store → R D} {p pos tpos : Pos} {elts : List Expr} {q : Nat} (hK : X.K = K) (hg : Gl X "zip") (hm : X.mg "zip" = none) (hs : notStar a = true) (hs2 : notStar b = true) (ha : PA X [a, b] (tA K nm Wi f)) :
    PI X (.Tuple elts q tpos) (.Call (.Name "zip" p) [a, b] [] pos) (tI K nm Wi .zip f) := by
  subst hK
  refine pi_args (es := [a, b]) (wi := RZ.iZipA X.K) (fun _ => rfl) (RZ.pi_zipA hg hm ha (star_ok hs) (by rw [star_ok hs2]; rfl)) (fun q h => tA.mono q fun v H z => h v H z) fun r p1 e z => ?_
  simp only [mkIt] at e
  split at e <;> try (rename_i h; cases h; done)
  all_goals first | (cases e; done) | skip
  · cases e
    obtain ⟨v, u, rfl, q1, q2⟩ := reps2 p1
    cases q1 with | tup h1 h2 => cases q2 with | tup h3 h4 => exact ⟨_, _, _, _, rfl, .inr ⟨h1, h3, z _ (.zipT r.trk h1 h2 h3 h4)⟩⟩
  · cases e
    obtain ⟨v, u, rfl, q1, q2⟩ := reps2 p1
    cases q1 with | lst h1 n1 b1 h2 => cases q2 with | lst h3 n3 b3 h4 => exact ⟨_, _, _, _, rfl, .inl ⟨.inl h1, .inl h3, z _ (.zipL r.trk h1 n1 h2 h3 n3 h4)⟩⟩

theorem rangeC_ok {i j c : Int} (hi : b62 i = true) (hj : b62 j = true) (hc : 0 < c ∧ c < 1000000) : RgC i j c ((j - i + c - 1) / c).toNat := by
  have a := b62_ok hi
  have b := b62_ok hj
  have key : Builtin.Range.rangeSize i j c = (((j - i + c - 1) / c).toNat : Int) := by
    unfold Builtin.Range.rangeSize
    rw [if_pos hc.1]
    split
    · have e : j - i + c - 1 = (j - i - 1) + c * 1 := by omega
      rw [e, Int.add_mul_ediv_left _ _ (by omega)]
      have := Int.ediv_nonneg (a := j - i - 1) (b := c) (by omega) (by omega)
      omega
    · have : (j - i + c - 1) / c ≤ 0 := by
        by_cases z : j - i + c - 1 < 0
        · have := Int.ediv_neg_of_neg_of_pos z hc.1; omega
        · rw [Int.ediv_eq_zero_of_lt (by omega) (by omega)]; omega
      omega
  have hz : Builtin.Range.rangeSize i j c ≤ 2 ^ 63 - 1 := by
    unfold Builtin.Range.rangeSize
    rw [if_pos hc.1]
    split
    · have := Int.ediv_le_self c (show (0 : Int) ≤ j - i - 1 by omega); omega
    · omega
  refine ⟨by omega, by omega, ?_, key⟩
  unfold Builtin.Range.small
  simp only [Builtin.Range.rangeFitsLong, Bool.and_eq_true, Bool.or_eq_true, decide_eq_true_eq, beq_iff_eq]
  refine ⟨⟨⟨⟨⟨by omega, by omega⟩, by omega, by omega⟩, by omega, by omega⟩, by rw [key]; omega, by omega⟩, .inr ?_⟩
  rw [if_pos hc.1, Bool.and_eq_true, decide_eq_true_eq, decide_eq_true_eq]
  omega
theorem pi_rng3 {tg a b c : Expr} {f : Env → Store → R D} {p pos : Pos} (hg : Gl X "range") (hm : X.mg "range" = none) (hs : notStar a = true) (hs2 : notStar b = true) (hs3 : notStar c = true) (ha : PA X [a, b, c] (tA K nm Wi f)) : PI X tg (.Call (.Name "range" p) [a, b, c] [] pos) (tI K nm Wi .rng3 f) := by
  refine pi_args (es := [a, b, c]) (wi := iRng3) (fun _ => rfl) (pi_range3 hg hm ha (star_ok hs) (by rw [star_ok hs2, star_ok hs3]; rfl)) (fun q h => tA.mono q fun v H z => h v H z) fun r p1 e z => ?_
  simp only [mkIt] at e
  split at e <;> try (rename_i h; cases h; done)
  all_goals first | (cases e; done) | skip
  rename_i i j c h
  split at e
  · rename_i hb
    cases e
    simp only [Bool.and_eq_true] at hb
    cases p1 with | cons q1 p1 => cases p1 with | cons q2 p1 => cases p1 with | cons q3 p1 =>
    cases p1; cases q1; cases q2; cases q3
    exact ⟨_, _, _, _, rfl, rangeC_ok hb.1.1 hb.1.2 (tst_iff.mp hb.2), z _ ⟨wlk_rangeC, fun _ _ => wlk_rangeC⟩⟩
  · cases e
theorem pi_enumR {a : Expr} {f : Env → Store → R D} {p pos tpos : Pos} {elts : List Expr} {q : Nat} (hK : X.K = K) (hg : Gl X "enumerate") (hm : X.mg "enumerate" = none) (hs : notStar a = true) (ha : PA X [a] (tA K nm Wi f)) :
    PI X (.Tuple elts q tpos) (.Call (.Name "enumerate" p) [a] [] pos) (tI K nm Wi .enum f) := by
  subst hK
  refine pi_args (es := [a]) (wi := iEnumA X.K) (fun _ => rfl) (pi_enumA hg hm ha (star_one hs)) (fun q h => tA.mono q fun v H z => h v H z) fun r p1 e z => ?_
  simp only [mkIt] at e
  split at e <;> try (rename_i h; cases h; done)
  all_goals first | (cases e; done) | skip
  · cases e
    obtain ⟨v, rfl, q1⟩ := reps1 p1
    cases q1 with | tup h1 h2 => exact ⟨_, _, rfl, .inr ⟨h1, z _ (.enumT r.trk h1 h2)⟩⟩
  · cases e
    obtain ⟨v, rfl, q1⟩ := reps1 p1
    cases q1 with | lst h1 n1 b1 h2 => exact ⟨_, _, rfl, .inl ⟨.inl h1, z _ (.enumL r.trk h1 n1 h2)⟩⟩
  · split at e
    · rename_i hs'
      cases e
      obtain ⟨v, rfl, q1⟩ := reps1 p1
      cases q1 with | ref h1 =>
      obtain ⟨vs, h2, h3⟩ := r.ob _ _ _ h1 hs'
      exact ⟨_, vs, rfl, .inl ⟨.inl (.inl h2), z _ ⟨_, h1, rfl⟩⟩⟩
    · cases e
/-! ### targets -/
structure ERepO (K : PySem.W.Frag) (W : Wd) (H : Hp) (env : Env) (σ : L2.St) (sl : List Nat) : Prop where
  len : env.length = σ.length
  get : ∀ (i : Nat) (d : D), i ∉ sl → env[i]? = some (some d) → ∃ v : V, σ[i]? = some (some v) ∧ Rep K W H d v
theorem ERep.o {W : Wd} {H : Hp} {env : Env} {σ : L2.St} (E : ERep K W H env σ) (sl : List Nat) : ERepO K W H env σ sl := ⟨E.len, fun i d _ h => E.get i d h⟩
theorem ERepO.set {W : Wd} {H : Hp} {env : Env} {σ : L2.St} {i : Nat} {sl : List Nat} {d : D} {v : V} (E : ERepO K W H env σ (i :: sl)) (p : Rep K W H d v) : ERepO K W H (env.set i (some d)) (σ.set i (some v)) sl := by
  refine ⟨by simp [E.len], fun j d' hj h => ?_⟩
  by_cases e : i = j
  · subst e
    by_cases hl : i < env.length
    · rw [List.getElem?_set_self hl] at h
      cases h
      exact ⟨v, by rw [List.getElem?_set_self (by rw [← E.len]; exact hl)], p⟩
    · rw [List.getElem?_eq_none (by simpa using hl)] at h
      cases h
  · rw [List.getElem?_set_ne e] at h
    obtain ⟨v', a, b⟩ := E.get j d' (by simp only [List.mem_cons, not_or]; exact ⟨fun z => e z.symm, hj⟩) h
    exact ⟨v', by rw [List.getElem?_set_ne e]; exact a, b⟩
theorem ERepO.nil {W : Wd} {H : Hp} {env : Env} {σ : L2.St} (E : ERepO K W H env σ []) : ERep K W H env σ := ⟨E.len, fun i d h => E.get i d (by simp) h⟩
theorem wipe_comm {σ : L2.St} {v : Nat} {x : Option V} : ∀ {vs : List Nat}, wipe (σ.set v x) (v :: vs) = wipe σ (v :: vs) := by
  have key : ∀ (vs : List Nat) (σ : L2.St), (wipe (σ.set v x) vs).set v none = (wipe σ vs).set v none := by
    intro vs
    induction vs with
    | nil => intro σ; show (σ.set v x).set v none = σ.set v none; rw [List.set_set]
    | cons u us ih =>
      intro σ
      show ((wipe (σ.set v x) us).set u none).set v none = ((wipe σ us).set u none).set v none
      by_cases e : u = v
      · subst e; rw [List.set_set, List.set_set, ih]
      · rw [List.set_comm _ _ e, ih, List.set_comm _ _ (Ne.symm e)]
  exact fun {vs} => key vs σ
theorem wipe_same {σ σ' : L2.St} {v : Nat} {vs : List Nat} (h : wipe σ vs = wipe σ' vs) : wipe σ (v :: vs) = wipe σ' (v :: vs) := by
  show (wipe σ vs).set v none = (wipe σ' vs).set v none
  rw [h]
def gTg (K : PySem.W.Frag) (tg : Tg) : TG := fun v σ H Q => ∃ W d env env', ERepO K W H env σ (slots tg) ∧ Rep K W H d v ∧ bindT tg d env = some env' ∧ ∀ σ', ERep K W H env' σ' → wipe σ' (slots tg) = wipe σ (slots tg) → Q σ' H
theorem pg_one {fl : Bool} (hN : X.N = N) (nd : N.Nodup) (hs : X.env.scope = sc) (hf : fl = true → ∀ x, X.fn x = true) {i : Nat} {e : Expr} (h : tgN N fl sc i e = true) : PG X e (gName i) ∧ ∀ es env, starEach (e :: es) env = (false, eval e env) :: starEach es env ∧ assignEach (e :: es) env = (false, assign e env) :: assignEach es env := by
  cases e <;> simp only [tgN] at h <;> first | (cases h; done) | skip
  simp only [Bool.and_eq_true, Bool.or_eq_true, decide_eq_true_eq] at h
  obtain ⟨h1, h2⟩ := h
  subst hN hs
  refine ⟨?_, fun es env => ⟨rfl, rfl⟩⟩
  rcases h2 with h2 | ⟨h3, h2⟩
  · exact pg_name nd h1 (.inl h2) (.inr h2)
  · exact pg_name nd h1 (.inr h2) (.inl (hf h3 _))
def gNames : List Nat → TGs
  | [] => gNil
  | i :: is => gCons (gName i) (gNames is)
theorem pgs_ok {fl : Bool} (hN : X.N = N) (nd : N.Nodup) (hs : X.env.scope = sc) (hf : fl = true → ∀ x, X.fn x = true) : ∀ {is : List Nat} {es : List Expr}, tgNs N fl sc is es = true →
    PGs X es (gNames is) ∧ (∀ env, (assignEach es env).length = is.length) ∧ ∀ env, (assignEach es env).findIdx? (·.1) = none
  | [], [], _ => ⟨pgs_nil, fun _ => rfl, fun _ => rfl⟩
  | [], _ :: _, h => by cases h
  | _ :: _, [], h => by cases h
  | i :: is, e :: es, h => by
    simp only [tgNs, Bool.and_eq_true] at h
    obtain ⟨a, b⟩ := pg_one hN nd hs hf h.1
    obtain ⟨c, d, f⟩ := pgs_ok hN nd hs hf h.2
    exact ⟨pgs_cons a c (by rw [(b es _).2]; rfl), fun env => by rw [(b es _).2]; simp [d], fun env => by rw [(b es _).2]; simp [List.findIdx?_cons, f]⟩
theorem gNames_ok {W : Wd} {H : Hp} : ∀ {is : List Nat} {xs : List D} {vs : List V} {env env' : Env} {σ : L2.St} {Q : L2.St → Hp → Prop}, ERepO K W H env σ is → Reps K W H xs vs → bindL is xs env = some env' →
    (∀ σ', ERep K W H env' σ' → wipe σ' is = wipe σ is → Q σ' H) → gNames is vs σ H Q
  | [], [], _, env, env', σ, Q, E, .nil, h, q => by
    cases h
    exact ⟨rfl, q _ E.nil rfl⟩
  | [], _ :: _, _, env, env', σ, Q, E, _, h, q => by cases h
  | _ :: _, [], _, env, env', σ, Q, E, _, h, q => by cases h
  | i :: is, x :: xs, _, env, env', σ, Q, E, .cons a b, h, q => by
    refine ⟨_, _, rfl, ?_⟩
    refine gNames_ok (E.set a) b h fun σ' E' hw => q σ' E' ?_
    rw [wipe_same hw, wipe_comm]
theorem pg_ok {fl : Bool} {tg : Tg} {t : Expr} (hK : X.K = K) (hN : X.N = N) (nd : N.Nodup) (hs : X.env.scope = sc) (hc : X.calm = true) (hf : fl = true → ∀ x, X.fn x = true) (h : tgC N fl sc tg t = true) : PG X t (gTg K tg) := by
  subst hK
  cases tg with
  | one i =>
    obtain ⟨a, _⟩ := pg_one hN nd hs hf h
    refine ⟨fun pins s σ H v u Q I r q => a.run pins s σ H v u Q I r ?_⟩
    obtain ⟨W, d, env, env', E, p, hb, q⟩ := q
    cases hb
    exact q _ (E.set p).nil (wipe_comm (vs := []))
  | many is =>
    cases t <;> simp only [tgC] at h <;> first | (cases h; done) | skip
    obtain ⟨a, b, c⟩ := pgs_ok hN nd hs hf h
    refine ⟨fun pins s σ H v u Q I r q => (pg_tup hc a (b _) (c _)).run pins s σ H v u Q I r ?_⟩
    obtain ⟨W, d, env, env', E, p, hb, q⟩ := q
    cases p <;> simp only [bindT] at hb <;> first | (cases hb; done) | skip
    rename_i xs a' vs h1 h2
    refine ⟨a', vs, rfl, h1, ?_, gNames_ok E h2 hb q⟩
    have key : ∀ {is : List Nat} {xs : List D} {env env' : Env}, bindL is xs env = some env' → xs.length = is.length := by
      intro is
      induction is with
      | nil => intro xs env env' h; cases xs <;> first | rfl | cases h
      | cons i is ih => intro xs env env' h; cases xs with
        | nil => cases h
        | cons x xs => simp [ih h]
    rw [h2.lens]; exact key hb
end
end PL

set_option Elab.async false
set_option linter.all false
set_option maxRecDepth 100000
set_option maxHeartbeats 2000000
/-! PLL: list comprehensions. -/
namespace PL
open PySem PySem.Spec PyProof.Rows L2
section
variable {P : Program} {w : World} {K : PySem.W.Frag} {mg : Str → Option Value} {base : Heap} {G : Tab} {Y : Sx} {nm : Nm} {fa : Nat → Addr} {fd : Nat → FuncData} {ps : Nat → List Str} {kk : Nat} {N : List Str}
variable {sc : Scope} {X : Cx} {Wi : WX}
theorem fold_ok {e : Expr} (h : isSet e = false) (env : PySem.Env) (x : Value) : foldedSetIterable e env x = pure x := by
  cases e <;> first | rfl | cases h
theorem blk_ok {s : Shared} {H : Hp} {scope : Scope} {cl : List (Str × Addr)} {Ca : Addr} {fp : List Addr} {σ0 : L2.St} (C : COk P w K mg base kk N sc X) : COk P w K mg base kk N (relS scope sc) (blkX X Wi σ0 s H scope (compEnvC scope cl Ca X.env) fp) :=
  ⟨C.hP, C.hw, C.hK, C.hm, C.hb, C.hN, C.nd, by rw [← C.sc]; rfl, C.room, C.calm, let ⟨e0, o0, L, h1, h2, h3⟩ := C.fr; ⟨e0, o0, L, h1, h2, h3⟩⟩
abbrev noX : WX := fun _ _ _ _ => False
theorem ext_loop {W1 W2 W4 : Wd} {H1 H H4 : Hp} {Dl : Addr} {o : HO} (e : Ext W1 H1 W2 H) (t : Trk W2 H) (e4 : Ext (W2.add Dl) H W4 H4) (n : H1 Dl = none) : Ext W1 H1 ⟨W4.m, W1.B⟩ (upd H4 Dl o) := by
  have e5 : Ext W2 H ⟨W4.m, W2.B⟩ H4 := ⟨rfl, e4.m, e4.keep⟩
  have e6 := e.trans t e5
  refine ⟨rfl, e6.m, fun a u h na => ?_⟩
  rw [upd_ne (ne_of_none h n)]
  exact e6.keep a u h na
theorem wd_eta {W2 W4 : Wd} {Dl : Addr} (h : W4.B = (W2.add Dl).B) : W4 = (⟨W4.m, W2.B⟩ : Wd).add Dl := by
  cases W4; cases h; rfl
theorem wipe_set {v : Nat} : ∀ (us : List Nat) (σ : L2.St), wipe (σ.set v none) us = (wipe σ us).set v none
  | [], _ => rfl
  | u :: us, σ => by
    show (wipe (σ.set v none) us).set u none = ((wipe σ us).set u none).set v none
    rw [wipe_set us]
    by_cases e : v = u
    · subst e; rfl
    · rw [List.set_comm _ _ e]
theorem wipe_idem (σ : L2.St) : ∀ vs : List Nat, wipe (wipe σ vs) vs = wipe σ vs
  | [] => rfl
  | v :: vs => by
    show (wipe ((wipe σ vs).set v none) vs).set v none = (wipe σ vs).set v none
    rw [wipe_set, wipe_idem σ vs, List.set_set]
/-- the target, the test, the element, of a turn -/
noncomputable def cBody (G : Tab) (call : Calls) (tg : Tg) (c e : E) (env : Env) : D → Store → R (Option D) := fun x S => match bindT tg x env with
  | some env' => (mapT (ev G call c env' S)).bind fun k S => if k then (ev G call e env' S).bind fun y S => .ok (some y) S else .ok none S
  | none => .bad
theorem ext_back {W1 W2 W4 : Wd} {H1 H H4 : Hp} {Dl : Addr} (e : Ext W1 H1 W2 H) (t : Trk W2 H) (e4 : Ext (W2.add Dl) H W4 H4) : Ext W1 H1 ⟨W4.m, W1.B⟩ H4 := by
  have e5 : Ext W2 H ⟨W4.m, W2.B⟩ H4 := ⟨rfl, e4.m, e4.keep⟩
  have e6 := e.trans t e5
  exact ⟨rfl, e6.m, e6.keep⟩
/-- b is a, perhaps quiet -/
def Quk (a b : D → Store → R (Option D)) : Prop := ∀ x S, (∀ o S', a x S = .ok o S' → b x S = .ok o S') ∧ (a x S = .bad → b x S = .bad) ∧ ∀ c S', a x S = .ex c S' → b x S = .bad ∨ b x S = .ex c S'
theorem quk (k : IK) (a : D → Store → R (Option D)) : Quk a (qk k a) := by
  intro x S
  cases k <;> first | (refine ⟨fun o S' h => ?_, fun h => ?_, fun c S' h => .inl ?_⟩ <;> (show (a x S).quiet = _; rw [h]; rfl)) | exact ⟨fun o S' h => h, fun h => h, fun c S' h => .inr h⟩
/-- a turn: its target, test and element -/
theorem comp_turn {call : Calls} {tg : Tg} {c e : E} {env : Env} {σ : L2.St} {W1 : Wd} {H1 : Hp} {S1 S2 : Store} {Dl : Addr} {m2 : List Addr} {acc : List D} {av : List V} {H H' : Hp} {d : D} {x : V} {bd : D → Store → R (Option D)} {kn : List D → Store → R (List D)} {res : R (List D)} {Nx : Hp → Prop}
    (E : ERep K W1 H1 env σ) (r1 : Rel K nm W1 S1 H1) (hD : H1 Dl = none) (hbd : Quk (cBody G call tg c e env) bd) (e1 : Ext W1 H1 ⟨m2, W1.B⟩ H) (r2 : Rel K nm ((⟨m2, W1.B⟩ : Wd).add Dl) S2 H) (hd : H Dl = some (.lst av)) (p2 : Reps K ((⟨m2, W1.B⟩ : Wd).add Dl) H acc av)
    (ex : Ext ((⟨m2, W1.B⟩ : Wd).add Dl) H ((⟨m2, W1.B⟩ : Wd).add Dl) H') (keep : ∀ a o, H a = some o → H' a = some o) (rep : Rep K ((⟨m2, W1.B⟩ : Wd).add Dl) H' d x)
    (eq : res = (bd d S2).bind fun o S' => match o with
      | some y => if acc.length < SZ then kn (acc ++ [y]) S' else .bad
      | none => kn acc S')
    (nb : res ≠ .bad) (exc : ∀ c' Sf m3 H3, res = .ex c' Sf → Ext W1 H1 ⟨m3, W1.B⟩ H3 → Rel K nm ⟨m3, W1.B⟩ Sf H3 → Wi (.ref (nm.X c')) none σ H3)
    (hNx : ∀ m3 S3 acc' av' H3, Ext W1 H1 ⟨m3, W1.B⟩ H3 → Rel K nm ((⟨m3, W1.B⟩ : Wd).add Dl) S3 H3 → H3 Dl = some (.lst av') → Reps K ((⟨m3, W1.B⟩ : Wd).add Dl) H3 acc' av' → res = kn acc' S3 → Nx H3) :
    gTg K tg x (wipe σ (slots tg)) H' fun σ2 H2 => wipe σ2 (slots tg) = wipe σ (slots tg) ∧ tT K nm (WB Wi σ) (fun env S => mapT (ev G call c env S)) σ2 H2 fun b H3 =>
        if b = true then tE K nm (WB Wi σ) (ev G call e) σ2 H3 fun y H4 => ∃ acc, H4 Dl = some (.lst acc) ∧ acc.length < sizeLine ∧ Nx (upd H4 Dl (.lst (acc ++ [y]))) else Nx H3 := by
  have r2' := r2.grow ex keep
  have t2 : Trk ((⟨m2, W1.B⟩ : Wd).add Dl) H := r2.trk
  have hDm : Dl ∉ m2 := (r2.bs Dl (List.mem_cons_self)).1
  obtain ⟨q1, q2, q3⟩ := hbd d S2
  cases hb : bindT tg d env with
  | none =>
    rw [q2 (by simp only [cBody, hb])] at eq
    exact absurd eq nb
  | some env' =>
    have EB : ERep K ((⟨m2, W1.B⟩ : Wd).add Dl) H' env σ := (E.monoB r1.trk e1 hD).mono t2 ex
    refine ⟨(⟨m2, W1.B⟩ : Wd).add Dl, d, env, env', ⟨by rw [EB.len, wipe_length], fun j d' hj h => ?_⟩, rep, hb, fun σ' E' hw => ⟨hw.trans (wipe_idem _ _), ?_⟩⟩
    · obtain ⟨v, a, b⟩ := EB.get j d' h
      exact ⟨v, by rw [wipe_out hj]; exact a, b⟩
    · refine ⟨(⟨m2, W1.B⟩ : Wd).add Dl, S2, env', E', r2', ?_⟩
      have cb : cBody G call tg c e env d S2 = (mapT (ev G call c env' S2)).bind fun k S => if k then (ev G call e env' S).bind fun y S => .ok (some y) S else .ok none S := by simp only [cBody, hb]
      cases hc : mapT (ev G call c env' S2) with
      | bad =>
        rw [hc] at cb
        rw [q2 cb] at eq
        exact absurd eq nb
      | ex c' S3 =>
        rw [hc] at cb
        rcases q3 c' S3 cb with h | h
        · rw [h] at eq; exact absurd eq nb
        · rw [h] at eq
          dsimp only
          rw [hc]
          intro W3 H3 e3 r3
          have w3 := wd_eta e3.B
          exact exc c' S3 W3.m H3 eq (ext_back e1 (fun a ha => t2 a ha) (ex.trans r2'.trk e3)) (w3 ▸ r3 : Rel K nm ((⟨W3.m, W1.B⟩ : Wd).add Dl) S3 H3).delB
      | ok b S3 =>
        rw [hc] at cb
        simp only [R.bind_ok] at cb
        dsimp only
        rw [hc]
        intro b' W3 H3 e3 r3 pb
        cases (show b = b' from pb)
        have hd3 : H3 Dl = some (.lst av) := e3.keep _ _ (keep _ _ hd) hDm
        have w3 := wd_eta e3.B
        have e13 := ext_back e1 (fun a ha => t2 a ha) (ex.trans r2'.trk e3)
        cases b with
        | false =>
          simp only [Bool.false_eq_true, if_false] at cb ⊢
          rw [q1 _ _ cb] at eq
          exact hNx W3.m S3 acc av H3 e13 (w3 ▸ r3) hd3 (w3 ▸ ((p2.mono t2 ex).mono r2'.trk e3)) eq
        | true =>
          simp only [if_true] at cb ⊢
          refine ⟨W3, S3, env', E'.mono r2'.trk e3, r3, ?_⟩
          cases he : ev G call e env' S3 with
          | bad =>
            rw [he] at cb
            rw [q2 cb] at eq
            exact absurd eq nb
          | ex c' S4 =>
            rw [he] at cb
            rcases q3 c' S4 cb with h | h
            · rw [h] at eq; exact absurd eq nb
            · rw [h] at eq
              intro W4 H4 e4 r4
              have w4 := wd_eta (e4.B.trans e3.B)
              exact exc c' S4 W4.m H4 eq (ext_back e1 (fun a ha => t2 a ha) ((ex.trans r2'.trk e3).trans r3.trk e4)) (w4 ▸ r4 : Rel K nm ((⟨W4.m, W1.B⟩ : Wd).add Dl) S4 H4).delB
          | ok y S4 =>
            rw [he] at cb
            simp only [R.bind_ok] at cb
            rw [q1 _ _ cb] at eq
            simp only [R.bind_ok] at eq
            intro v W4 H4 e4 r4 p4
            have hDm3 : Dl ∉ W3.m := (r3.bs Dl (by rw [e3.B]; exact List.mem_cons_self)).1
            have hd4 : H4 Dl = some (.lst av) := e4.keep _ _ hd3 hDm3
            have w4 := wd_eta (e4.B.trans e3.B)
            have p2' := (((p2.mono t2 ex).mono r2'.trk e3).mono r3.trk e4)
            by_cases hz : acc.length < SZ
            · rw [if_pos hz] at eq
              refine ⟨av, hd4, by rw [p2.lens, ← SZ_eq]; exact hz, hNx W4.m S4 (acc ++ [y]) (av ++ [v]) _ (ext_loop e1 (fun a ha => t2 a ha) ((ex.trans r2'.trk e3).trans r3.trk e4) hD) ?_ upd_same ?_ eq⟩
              · rw [w4] at r4
                exact r4.putB (fun _ _ q => q.putB hd4) (fun _ _ q => q.putB hd4) (fun _ _ q => q.putB hd4)
              · rw [w4] at p2' p4
                exact (p2'.putB hd4).append (.cons (p4.putB hd4) .nil)
            · rw [if_neg hz] at eq
              exact absurd eq nb
/-- the reading of a comprehension's loop -/
abbrev CLoop (K : PySem.W.Frag) (nm : Nm) (G : Tab) (Wi : WX) (call : Calls) (tg : Tg) (c e : E) (σ : L2.St) (H1 : Hp) (J : It) (Q : VK) : Prop := ∀ Dl, H1 Dl = none → ∃ Wm : Nat → Nat → Hp → Prop, (∃ m, Wm 0 m (upd H1 Dl (.lst []))) ∧ ∀ i m H, Wm i m H →
      (J.stop i H ∧ Q (.ref Dl) H) ∨ (J.go i H ∧ ∃ Nx : Hp → Prop, (∀ H', Nx H' → ∃ m', m' < m ∧ Wm (i + 1) m' H') ∧ ∀ x H', J.yld i H x H' → gTg K tg x (wipe σ (slots tg)) H' fun σ2 H2 => wipe σ2 (slots tg) = wipe σ (slots tg) ∧ tT K nm (WB Wi σ) (fun env S => mapT (ev G call c env S)) σ2 H2 fun b H3 =>
        if b = true then tE K nm (WB Wi σ) (ev G call e) σ2 H3 fun y H4 => ∃ acc, H4 Dl = some (.lst acc) ∧ acc.length < sizeLine ∧ Nx (upd H4 Dl (.lst (acc ++ [y]))) else Nx H3)
/-- over items -/
theorem comp_items {call : Calls} {tg : Tg} {c e : E} {env : Env} {σ : L2.St} {W1 : Wd} {H1 : Hp} {S1 : Store} {J : It} {xs : List D} {Q : VK} {bd : D → Store → R (Option D)}
    (E : ERep K W1 H1 env σ) (r1 : Rel K nm W1 S1 H1) (hJ : ItOk K nm W1 H1 J xs) (hbd : Quk (cBody G call tg c e env) bd) (nb : goComp bd xs [] S1 ≠ .bad)
    (exc : ∀ c' Sf m3 H3, goComp bd xs [] S1 = .ex c' Sf → Ext W1 H1 ⟨m3, W1.B⟩ H3 → Rel K nm ⟨m3, W1.B⟩ Sf H3 → Wi (.ref (nm.X c')) none σ H3)
    (fin : ∀ ys Sf, goComp bd xs [] S1 = .ok ys Sf → ∀ (Dl : Addr) (m2 : List Addr) (av : List V) (H : Hp), H1 Dl = none → Ext W1 H1 ⟨m2, W1.B⟩ H → Rel K nm ((⟨m2, W1.B⟩ : Wd).add Dl) Sf H → H Dl = some (.lst av) → Reps K ((⟨m2, W1.B⟩ : Wd).add Dl) H ys av → Q (.ref Dl) H) :
    CLoop K nm G Wi call tg c e σ H1 J Q := by
  intro Dl hD
  obtain ⟨Gd, Yd, wk, st, yl⟩ := hJ.2 Dl hD
  refine lc_it wk (fun i H => ∃ (m2 : List Addr) (S2 : Store) (acc : List D) (av : List V), Ext W1 H1 ⟨m2, W1.B⟩ H ∧ Rel K nm ((⟨m2, W1.B⟩ : Wd).add Dl) S2 H ∧ H Dl = some (.lst av) ∧ Reps K ((⟨m2, W1.B⟩ : Wd).add Dl) H acc av ∧
    goComp bd xs [] S1 = goComp bd (xs.drop i) acc S2) ?_ ?_ ?_ ?_
  · exact ⟨W1.m, S1, [], [], Ext.alloc hD, r1.addB hD, upd_same, .nil, rfl⟩
  · rintro i H hi ⟨m2, S2, acc, av, e1, r2, hd, p2, eq⟩
    exact st _ _ ⟨_, rfl, e1⟩
  · rintro i x H H' hi ⟨m2, S2, acc, av, e1, r2, hd, p2, eq⟩ y
    obtain ⟨d, hx, ex, keep, rep⟩ := yl i _ S2 H x H' hi ⟨_, rfl, e1⟩ r2 y
    have hdrop : xs.drop i = d :: xs.drop (i + 1) := by
      obtain ⟨hl, hv⟩ := List.getElem?_eq_some_iff.mp hx
      rw [List.drop_eq_getElem_cons hl, hv]
    rw [hdrop] at eq
    exact comp_turn (kn := goComp bd (xs.drop (i + 1))) E r1 hD hbd e1 r2 hd p2 ex keep rep eq nb exc fun m3 S3 acc' av' H3 g1 g2 g3 g4 g5 => ⟨m3, S3, acc', av', g1, g2, g3, g4, g5⟩
  · rintro H ⟨m2, S2, acc, av, e1, r2, hd, p2, eq⟩
    rw [List.drop_eq_nil_of_le (Nat.le_refl _)] at eq
    simp only [goComp] at eq
    exact fin _ _ eq Dl m2 av H hD e1 r2 hd p2
/-- over a list of the store -/
theorem comp_live {call : Calls} {tg : Tg} {c e : E} {env : Env} {σ : L2.St} {W1 : Wd} {H1 : Hp} {S1 : Store} {n : Nat} {en : Bool} {a : Addr} {Q : VK} {bd : D → Store → R (Option D)}
    (E : ERep K W1 H1 env σ) (r1 : Rel K nm W1 S1 H1) (ha : W1.m[n]? = some a) (hbd : Quk (cBody G call tg c e env) bd) (nb : goCompL n en bd LOOP 0 [] S1 ≠ .bad)
    (exc : ∀ c' Sf m3 H3, goCompL n en bd LOOP 0 [] S1 = .ex c' Sf → Ext W1 H1 ⟨m3, W1.B⟩ H3 → Rel K nm ⟨m3, W1.B⟩ Sf H3 → Wi (.ref (nm.X c')) none σ H3)
    (fin : ∀ ys Sf, goCompL n en bd LOOP 0 [] S1 = .ok ys Sf → ∀ (Dl : Addr) (m2 : List Addr) (av : List V) (H : Hp), H1 Dl = none → Ext W1 H1 ⟨m2, W1.B⟩ H → Rel K nm ((⟨m2, W1.B⟩ : Wd).add Dl) Sf H → H Dl = some (.lst av) → Reps K ((⟨m2, W1.B⟩ : Wd).add Dl) H ys av → Q (.ref Dl) H) :
    CLoop K nm G Wi call tg c e σ H1 (if en then Ite K a else Itl K a) Q := by
  intro Dl hD
  refine ⟨fun i m H => ∃ (m2 : List Addr) (S2 : Store) (acc : List D) (av : List V), Ext W1 H1 ⟨m2, W1.B⟩ H ∧ Rel K nm ((⟨m2, W1.B⟩ : Wd).add Dl) S2 H ∧ H Dl = some (.lst av) ∧ Reps K ((⟨m2, W1.B⟩ : Wd).add Dl) H acc av ∧
    goCompL n en bd LOOP 0 [] S1 = goCompL n en bd m i acc S2, ⟨LOOP, W1.m, S1, [], [], Ext.alloc hD, r1.addB hD, upd_same, .nil, rfl⟩, ?_⟩
  rintro i m H ⟨m2, S2, acc, av, e1, r2, hd, p2, eq⟩
  cases m with
  | zero => exact absurd eq nb
  | succ m =>
    have ha2 : ((⟨m2, W1.B⟩ : Wd).add Dl).m[n]? = some a := by
      obtain ⟨t, h, _⟩ := e1.m
      show m2[n]? = some a
      rw [show m2 = W1.m ++ t from h]
      exact (List.getElem?_append_left (List.getElem?_eq_some_iff.mp ha).1).trans ha
    simp only [goCompL, itemAt] at eq
    cases hs : S2[n]? with
    | none => rw [hs] at eq; exact absurd eq nb
    | some o =>
      rw [hs] at eq
      cases o with
      | lst ys =>
        obtain ⟨vs, h1, h2⟩ := r2.ob n a _ ha2 hs
        dsimp only at eq
        cases hy : ys[i]? with
        | none =>
          rw [hy] at eq
          have stop : vs.length ≤ i := by rw [h2.lens]; exact List.getElem?_eq_none_iff.mp hy
          refine .inl ⟨?_, fin _ _ eq Dl m2 av H hD e1 r2 hd p2⟩
          cases en with
          | true => exact ⟨vs, SqL.of h1, stop⟩
          | false => exact ⟨vs, SqL.of h1, stop⟩
        | some d =>
          rw [hy] at eq
          obtain ⟨v, h3, h4⟩ := h2.get hy
          refine .inr ⟨?_, fun H => ∃ (m2 : List Addr) (S2 : Store) (acc : List D) (av : List V), Ext W1 H1 ⟨m2, W1.B⟩ H ∧ Rel K nm ((⟨m2, W1.B⟩ : Wd).add Dl) S2 H ∧ H Dl = some (.lst av) ∧ Reps K ((⟨m2, W1.B⟩ : Wd).add Dl) H acc av ∧
            goCompL n en bd LOOP 0 [] S1 = goCompL n en bd m (i + 1) acc S2, fun H' q => ⟨m, Nat.lt_succ_self _, q⟩, ?_⟩
          · cases en with
            | true => exact ⟨vs, v, SqL.of h1, h3⟩
            | false => exact ⟨vs, v, SqL.of h1, h3⟩
          · intro x H' yl
            cases en with
            | false =>
              obtain ⟨rfl, hx⟩ := yl
              have := hx vs (SqL.of h1)
              rw [h3] at this
              cases this
              exact comp_turn (kn := goCompL n false bd m (i + 1)) E r1 hD hbd e1 r2 hd p2 Ext.refl (fun _ _ z => z) h4 eq nb exc fun m3 S3 acc' av' H3 g1 g2 g3 g4 g5 => ⟨m3, S3, acc', av', g1, g2, g3, g4, g5⟩
            | true =>
              obtain ⟨T, x1, rfl, hT, rfl, hx⟩ := yl
              have := hx vs (SqL.of h1)
              rw [h3] at this
              cases this
              obtain ⟨z1, z2, z3⟩ := pair_new r2 hT (.int (i : Nat)) h4
              exact comp_turn (kn := goCompL n true bd m (i + 1)) E r1 hD hbd e1 r2 hd p2 z1 z2 z3 eq nb exc fun m3 S3 acc' av' H3 g1 g2 g3 g4 g5 => ⟨m3, S3, acc', av', g1, g2, g3, g4, g5⟩
      | _ => exact absurd eq nb
theorem itArgs_no {b : List Str} {t iter : Expr} {k : IK} (h : k = .items ∨ k = .keys) : itArgs b k sc t iter = none := by
  unfold itArgs
  split
  · split
    · rcases h with rfl | rfl <;> rfl
    · rfl
  · rfl
theorem star3 {as : E} {e e' e'' : Expr} {es : List Expr} (h : chkA Y N as sc (e :: e' :: e'' :: es) = true) : notStar e'' = true := by
  cases as <;> simp only [chkA, Bool.and_eq_true] at h <;> first | (cases h; done) | exact star2 h.2
theorem pi_src (g : GOk K mg G Y nm fa fd ps) {k : IK} {src : E} (is : Snd P w K mg base G Y nm kk N src) (C : COk P w K mg base kk N sc X) (tk : Tk X Wi) {t iter : Expr}
    (h : (match k with
        | .plain => chk Y N src sc iter
        | .keys => isVarE src && chk Y N src sc iter
        | k => match itArgs Y.blN k sc t iter with
          | some es => chkA Y N src sc es
          | none => false) = true) (hk : k ≠ .keys) : PI X t iter (tI K nm Wi k (ev G (run G kk) src)) := by
  cases k with
  | plain => exact pi_plain C.hK (is.v _ _ X Wi h C tk)
  | rng1 =>
    simp only [itArgs] at h
    split at h <;> try (cases h; done)
    rename_i es hes
    split at hes <;> try (cases hes; done)
    split at hes <;> try (cases hes; done)
    rename_i hg
    simp only [Bool.and_eq_true, decide_eq_true_eq] at hg
    split at hes <;> try (cases hes; done)
    all_goals try (rename_i hk; cases hk; done)
    split at hes <;> try (cases hes; done)
    rename_i hr
    cases hes
    subst hr
    exact pi_rng1 (gl_ok C hg.1) (by rw [C.hm]; exact g.bl _ hg.2) (star1 h) (is.l _ _ X Wi h C tk)
  | rng2 =>
    simp only [itArgs] at h
    split at h <;> try (cases h; done)
    rename_i es hes
    split at hes <;> try (cases hes; done)
    split at hes <;> try (cases hes; done)
    rename_i hg
    simp only [Bool.and_eq_true, decide_eq_true_eq] at hg
    split at hes <;> try (cases hes; done)
    all_goals try (rename_i hk; cases hk; done)
    split at hes <;> try (cases hes; done)
    rename_i hr
    cases hes
    subst hr
    have h2 : notStar _ = true := star2 h
    exact pi_rng2 (gl_ok C hg.1) (by rw [C.hm]; exact g.bl _ hg.2) (star1 h) h2 (is.l _ _ X Wi h C tk)
  | zip =>
    simp only [itArgs] at h
    split at h <;> try (cases h; done)
    rename_i es hes
    split at hes <;> try (cases hes; done)
    split at hes <;> try (cases hes; done)
    rename_i hg
    simp only [Bool.and_eq_true, decide_eq_true_eq] at hg
    split at hes <;> try (cases hes; done)
    all_goals try (rename_i hk; cases hk; done)
    split at hes <;> try (cases hes; done)
    rename_i hr
    cases hes
    obtain ⟨hr, ht⟩ := hr
    subst hr
    have h2 : notStar _ = true := star2 h
    cases t <;> simp only [isTup] at ht <;> first | (cases ht; done) | skip
    exact pi_zipR C.hK (gl_ok C hg.1) (by rw [C.hm]; exact g.bl _ hg.2) (star1 h) h2 (is.l _ _ X Wi h C tk)
  | keys => exact absurd rfl hk
  | rng3 =>
    simp only [itArgs] at h
    split at h <;> try (cases h; done)
    rename_i es hes
    split at hes <;> try (cases hes; done)
    split at hes <;> try (cases hes; done)
    rename_i hg
    simp only [Bool.and_eq_true, decide_eq_true_eq] at hg
    split at hes <;> try (cases hes; done)
    all_goals try (rename_i hk; cases hk; done)
    split at hes <;> try (cases hes; done)
    rename_i hr
    cases hes
    subst hr
    have h2 : notStar _ = true := star2 h
    have h3 : notStar _ = true := star3 h
    exact pi_rng3 (gl_ok C hg.1) (by rw [C.hm]; exact g.bl _ hg.2) (star1 h) h2 h3 (is.l _ _ X Wi h C tk)
  | enum =>
    simp only [itArgs] at h
    split at h <;> try (cases h; done)
    rename_i es hes
    split at hes <;> try (cases hes; done)
    split at hes <;> try (cases hes; done)
    rename_i hg
    simp only [Bool.and_eq_true, decide_eq_true_eq] at hg
    split at hes <;> try (cases hes; done)
    all_goals try (rename_i hk; cases hk; done)
    split at hes <;> try (cases hes; done)
    rename_i hr
    cases hes
    obtain ⟨hr, ht⟩ := hr
    subst hr
    cases t <;> simp only [isTup] at ht <;> first | (cases ht; done) | skip
    exact pi_enumR C.hK (gl_ok C hg.1) (by rw [C.hm]; exact g.bl _ hg.2) (star1 h) (is.l _ _ X Wi h C tk)
  | items =>
    dsimp only at h
    rw [itArgs_no (k := .items) (by simp)] at h
    cases h
/-! ### a dict is locked while its keys are walked -/
/-- the heaps differ at a alone, a dict, locked or not -/
structure Swp (a : Addr) (vs : List (Key × V)) (H H' : Hp) : Prop where
  ne : ∀ b, b ≠ a → H' b = H b
  at1 : Rd H a (.dK vs)
  at2 : Rd H' a (.dK vs)
theorem Rd.uniq {H : Hp} {a : Addr} {us vs : List (Key × V)} (h : Rd H a (.dK us)) (h' : Rd H a (.dK vs)) : us = vs := by
  rcases h with h | ⟨o, h⟩ <;> rcases h' with h' | ⟨o', h'⟩ <;> (rw [h] at h'; cases h'; try rfl)
theorem Swp.tup {a b : Addr} {vs : List (Key × V)} {us : List V} {H H' : Hp} (q : Swp a vs H H') (h : SqT K H b us) : SqT K H' b us := by
  by_cases e : b = a
  · subst e
    rcases h with (h | ⟨o, h⟩) | h
    · rcases q.at1 with z | ⟨_, z⟩ <;> (rw [h] at z; cases z)
    · rcases q.at1 with z | ⟨_, z⟩ <;> (rw [h] at z; cases z)
    · exact .inr h
  · rcases h with (h | ⟨o, h⟩) | h
    · exact .inl (.inl (by rw [q.ne b e]; exact h))
    · exact .inl (.inr ⟨o, by rw [q.ne b e]; exact h⟩)
    · exact .inr h
theorem Swp.lst {a b : Addr} {vs : List (Key × V)} {us : List V} {H H' : Hp} (q : Swp a vs H H') (h : Rd H b (.lst us)) : Rd H' b (.lst us) := by
  by_cases e : b = a
  · subst e
    rcases h with h | ⟨o, h⟩
    · rcases q.at1 with z | ⟨_, z⟩ <;> (rw [h] at z; cases z)
    · rcases q.at1 with z | ⟨_, z⟩ <;> (rw [h] at z; cases z)
  · rcases h with h | ⟨o, h⟩
    · exact .inl (by rw [q.ne b e]; exact h)
    · exact .inr ⟨o, by rw [q.ne b e]; exact h⟩
theorem Swp.dct {a b : Addr} {vs us : List (Key × V)} {H H' : Hp} (q : Swp a vs H H') (h : Rd H b (.dK us)) : Rd H' b (.dK us) := by
  by_cases e : b = a
  · subst e
    rw [Rd.uniq h q.at1]
    exact q.at2
  · rcases h with h | ⟨o, h⟩
    · exact .inl (by rw [q.ne b e]; exact h)
    · exact .inr ⟨o, by rw [q.ne b e]; exact h⟩
theorem Swp.scr {a b : Addr} {vs : List (Key × V)} {ns : List Int} {H H' : Hp} (q : Swp a vs H H') (h : ScrAt K H b ns) : ScrAt K H' b ns := by
  by_cases e : b = a
  · subst e
    rcases h with ⟨o, h⟩ | h
    · rcases q.at1 with z | ⟨_, z⟩ <;> (rw [h] at z; cases z)
    · exact .inr h
  · rcases h with ⟨o, h⟩ | h
    · exact .inl ⟨o, by rw [q.ne b e]; exact h⟩
    · exact .inr h
mutual
theorem Rep.swp {W : Wd} {a : Addr} {us : List (Key × V)} {H H' : Hp} (q : Swp a us H H') : ∀ {d : D} {v : V}, Rep K W H d v → Rep K W H' d v
  | _, _, .non => .non
  | _, _, .bl b => .bl b
  | _, _, .int i => .int i
  | _, _, .str x => .str x
  | _, _, .tup h r => .tup (q.tup h) (Reps.swp q r)
  | _, _, .lst h n b r => .lst (q.lst h) n b (Reps.swp q r)
  | _, _, .dct h n b r => .dct (q.dct h) n b (RepK.swp q r)
  | _, _, .ref h => .ref h
  | _, _, .scr h => .scr (q.scr h)
theorem Reps.swp {W : Wd} {a : Addr} {us : List (Key × V)} {H H' : Hp} (q : Swp a us H H') : ∀ {d : List D} {v : List V}, Reps K W H d v → Reps K W H' d v
  | _, _, .nil => .nil
  | _, _, .cons r rs => .cons (Rep.swp q r) (Reps.swp q rs)
theorem RepK.swp {W : Wd} {a : Addr} {us : List (Key × V)} {H H' : Hp} (q : Swp a us H H') : ∀ {d : List (Ky × D)} {v : List (Key × V)}, RepK K W H d v → RepK K W H' d v
  | _, _, .nil => .nil
  | _, _, .cons r rs => .cons (Rep.swp q r) (RepK.swp q rs)
end
theorem Rel.swp {W : Wd} {S : Store} {a : Addr} {us : List (Key × V)} {H H' : Hp} (q : Swp a us H H') (n : a ∉ W.m) (nb : a ∉ W.B) (r : Rel K nm W S H) : Rel K nm W S H' := by
  refine ⟨r.len, r.nd, fun k b ob h1 h2 => ob_map (fun d v p => p.swp q) (fun d v p => p.swp q) (fun d v p => p.swp q) (fun u e => ?_) (r.ob k b ob h1 h2), fun b hb => ?_⟩
  · rw [q.ne b (fun z => n (z ▸ List.mem_of_getElem? h1))]; exact e
  · obtain ⟨h1, u, h2⟩ := r.bs b hb
    exact ⟨h1, u, by rw [q.ne b (fun z => nb (z ▸ hb))]; exact h2⟩
theorem ERep.swp {W : Wd} {env : Env} {σ : L2.St} {a : Addr} {us : List (Key × V)} {H H' : Hp} (q : Swp a us H H') (E : ERep K W H env σ) : ERep K W H' env σ :=
  ⟨E.len, fun i d h => let ⟨v, a, b⟩ := E.get i d h; ⟨v, a, b.swp q⟩⟩
theorem swp_lock {a : Addr} {vs : List (Key × V)} {H : Hp} {od : Obj} (h : H a = some (.dK vs)) : Swp a vs H (upd H a (.frz od (.dK vs))) := ⟨fun b e => upd_ne e, .inl h, .inr ⟨od, upd_same⟩⟩
theorem swp_unlock {a : Addr} {vs : List (Key × V)} {H : Hp} {od : Obj} (h : H a = some (.frz od (.dK vs))) : Swp a vs H (upd H a (.dK vs)) := ⟨fun b e => upd_ne e, .inr ⟨od, h⟩, .inl upd_same⟩
theorem _root_.L2.PE.or {X : Cx} {e : Expr} {t u : TE} (h : PE X e t) (h' : PE X e u) : PE X e fun σ H Q => t σ H Q ∨ u σ H Q := ⟨fun pins s σ H Q I w => w.elim (h.run pins s σ H Q I) (h'.run pins s σ H Q I)⟩

/-! ### a comprehension; fr: what its list is taken as -/
def CompFr (K : PySem.W.Frag) (nm : Nm) (fr : List D → Store → R D) : Prop := ∀ (W1 : Wd) (H1 : Hp) (S1 Sf : Store) (ys : List D) (Dl : Addr) (m2 : List Addr) (av : List V) (H : Hp) (Q : VK) (Xc : Nat → Hp → Prop), Rel K nm W1 S1 H1 → H1 Dl = none → Ext W1 H1 ⟨m2, W1.B⟩ H →
  Rel K nm ((⟨m2, W1.B⟩ : Wd).add Dl) Sf H → H Dl = some (.lst av) → Reps K ((⟨m2, W1.B⟩ : Wd).add Dl) H ys av → Wq K nm (rpD K) W1 H1 (fr ys Sf) Q Xc → Q (.ref Dl) H
theorem fr_lst : CompFr K nm fun ys S => .ok (.lst ys) S := by
  intro W1 H1 S1 Sf ys Dl m2 av H Q Xc r1 hD e1 r2 hd p2 z
  refine z _ ⟨m2, W1.B⟩ H e1 r2.delB (.lst (.inl hd) (r2.bs Dl (List.mem_cons_self)).1 (fun hm => ?_) p2.delB)
  obtain ⟨_, o, ho⟩ := r1.bs Dl hm
  rw [hD] at ho; cases ho
noncomputable def evC (G : Tab) (call : Calls) (k : IK) (src : E) (tg : Tg) (c e : E) (fr : List D → Store → R D) (env : Env) (S : Store) : R D := (ev G call src env S).bind fun xs S => match mkIt k (srcL k xs) S with
  | some it => (goIt it (qk k (cBody G call tg c e env)) S).bind fr
  | none => .bad
theorem comp_gen (g : GOk K mg G Y nm fa fd ps) (k : IK) (src : E) (tg : Tg) (c e : E) (is : Snd P w K mg base G Y nm kk N src) (ic : Snd P w K mg base G Y nm kk N c) (ie : Snd P w K mg base G Y nm kk N e) {fr : List D → Store → R D} (hfr : CompFr K nm fr) {x : Expr}
    (h : chk Y N (.comp k src tg c e) sc x = true) (C : COk P w K mg base kk N sc X) (tk : Tk X Wi) (hk : k ≠ .keys) (F : TE → Prop) (himp : ∀ t u : TE, F t → (∀ σ H Q, u σ H Q → t σ H Q) → F u)
    (hF : ∀ (elt tg iter : Expr) (ifs : List Expr) (scope : Scope) (own : List (Str × Nat)) (pos : Pos) (wi : TI) (g : TG) (tt : L2.St → TT) (te : L2.St → TE), x = .ListComp elt [⟨tg, iter, ifs, 0⟩] scope pos → PI X tg iter wi → BlkOk X.N X.env.scope scope own →
      (∀ (s : Shared) (H : Hp) (C : Addr) (cl : List (Str × Addr)) (fp : List Addr), PG (X.blk s H scope (compEnvC scope cl C X.env) fp) tg g) →
      (∀ (σ : L2.St) (s : Shared) (H : Hp) (C : Addr) (cl : List (Str × Addr)) (fp : List Addr), PTs (blkX X Wi σ s H scope (compEnvC scope cl C X.env) fp) ifs (tt σ)) →
      (∀ (σ : L2.St) (s : Shared) (H : Hp) (C : Addr) (cl : List (Str × Addr)) (fp : List Addr), PE (blkX X Wi σ s H scope (compEnvC scope cl C X.env) fp) elt (te σ)) → (∀ x, foldedSetIterable iter X.env x = pure x) →
      F (fun σ H Q => tLc wi g (tt σ) (te σ) (own.map (·.2)) σ H Q)) : F (tE K nm Wi (evC G (run G kk) k src tg c e fr)) := by
  simp only [chk] at h
  split at h <;> try (cases h; done)
  rename_i elt t iter ifs asy scope pos
  simp only [Bool.and_eq_true, decide_eq_true_eq, Bool.not_eq_true'] at h
  obtain ⟨⟨⟨⟨⟨⟨⟨h1, h2⟩, h3⟩, h4⟩, h5⟩, h6⟩, h7⟩, h8⟩ := h
  subst h1
  have ok : BlkOk X.N X.env.scope scope (ownOf tg t) := by
    rw [C.hN, C.sc]
    exact blkOk_by h3
  have pcs : ∀ (σ0 : L2.St) (s : Shared) (H : Hp) (Ca : Addr) (cl : List (Str × Addr)) (fp : List Addr), PTs (blkX X Wi σ0 s H scope (compEnvC scope cl Ca X.env) fp) ifs (tT K nm (WB Wi σ0) (fun env S => mapT (ev G (run G kk) c env S))) := fun σ0 s H Ca cl fp => by
    have C' := blk_ok (s := s) (H := H) (scope := scope) (cl := cl) (Ca := Ca) (fp := fp) (σ0 := σ0) (Wi := Wi) C
    cases ifs with
    | nil =>
      have h7 : isEmp c = true := h7
      cases c <;> simp only [isEmp] at h7 <;> first | (cases h7; done) | skip
      refine ⟨fun pins s σ H Q I q => pts_nil.run pins s σ H Q I ?_⟩
      obtain ⟨W, S, env, E, r, z⟩ := q
      exact z true W H Ext.refl r rfl
    | cons i is =>
      cases is with
      | nil => exact pts_one (ic.t _ _ _ _ h7 C' blkX_tk)
      | cons _ _ => cases h7
  have pgs : ∀ (s : Shared) (H : Hp) (Ca : Addr) (cl : List (Str × Addr)) (fp : List Addr), PG (X.blk s H scope (compEnvC scope cl Ca X.env) fp) t (gTg K tg) := fun s H Ca cl fp =>
    pg_ok (X := X.blk s H scope (compEnvC scope cl Ca X.env) fp) (sc := relS scope sc) C.hK C.hN C.nd (by rw [← C.sc]; rfl) C.calm (fl := false) (by simp) h5
  have pes : ∀ (σ0 : L2.St) (s : Shared) (H : Hp) (Ca : Addr) (cl : List (Str × Addr)) (fp : List Addr), PE (blkX X Wi σ0 s H scope (compEnvC scope cl Ca X.env) fp) elt (tE K nm (WB Wi σ0) (ev G (run G kk) e)) := fun σ0 s H Ca cl fp =>
    ie.v _ _ _ _ h8 (blk_ok (s := s) (H := H) (scope := scope) (cl := cl) (Ca := Ca) (fp := fp) (σ0 := σ0) (Wi := Wi) C) blkX_tk
  have ndN : X.N.Nodup := by rw [C.hN]; exact C.nd
  refine himp _ _ (hF _ _ _ _ _ (ownOf tg t) _ _ (gTg K tg) _ (fun σ0 => tE K nm (WB Wi σ0) (ev G (run G kk) e)) rfl (pi_src g is C tk h6 hk) ok pgs pcs pes (fold_ok h2 X.env)) fun σ H Q wq => ?_
  obtain ⟨W, S, env, E, r, z⟩ := wq
  refine ⟨W, S, env, E, r, ?_⟩
  simp only [evC] at z
  cases hsrc : ev G (run G kk) src env S with
  | bad => rw [hsrc] at z; exact z.elim
  | ex _ _ => rw [hsrc] at z; dsimp only; rw [hsrc]; exact z
  | ok d S1 =>
    rw [hsrc] at z
    dsimp only
    rw [hsrc]
    simp only [R.bind_ok] at z ⊢
    cases hit : mkIt k (srcL k d) S1 with
    | none => rw [hit] at z; exact z.elim
    | some it =>
      rw [hit] at z
      dsimp only at z
      intro J W1 H1 e1 r1 hJ
      have z := Wq.ext e1 r1.trk z
      have hq : Quk (cBody G (run G kk) tg c e env) (qk k (cBody G (run G kk) tg c e env)) := quk _ _
      generalize hbd : qk k (cBody G (run G kk) tg c e env) = bd at z hq
      have bk : ∀ {m3 : List Addr} {H3 : Hp}, (⟨m3, W1.B⟩ : Wd) = ⟨m3, W1.B⟩ := fun {_ _} => rfl
      cases it with
      | items xs =>
        simp only [goIt] at z
        rw [h4]
        exact comp_items (E.mono r.trk e1) r1 hJ hq (fun h => by rw [h] at z; exact z.elim) (fun c' Sf m3 H3 h g1 g2 => by rw [h] at z; exact z _ H3 g1 g2) fun ys Sf hg Dl m2 av H2 hD ex r2 hd2 p2 => hfr W1 H1 S1 Sf ys Dl m2 av H2 Q (Xw nm Wi σ) r1 hD ex r2 hd2 p2 (by rw [hg] at z; exact z)
      | live n en =>
        simp only [goIt] at z
        rw [h4]
        obtain ⟨a, ha, rfl⟩ := hJ
        exact comp_live (E.mono r.trk e1) r1 ha hq (fun h => by rw [h] at z; exact z.elim) (fun c' Sf m3 H3 h g1 g2 => by rw [h] at z; exact z _ H3 g1 g2) fun ys Sf hg Dl m2 av H2 hD ex r2 hd2 p2 => hfr W1 H1 S1 Sf ys Dl m2 av H2 Q (Xw nm Wi σ) r1 hD ex r2 hd2 p2 (by rw [hg] at z; exact z)
theorem comp_of (g : GOk K mg G Y nm fa fd ps) (k : IK) (src : E) (tg : Tg) (c e : E) (is : Snd P w K mg base G Y nm kk N src) (ic : Snd P w K mg base G Y nm kk N c) (ie : Snd P w K mg base G Y nm kk N e) {fr : List D → Store → R D} (hfr : CompFr K nm fr) {x : Expr}
    (h : chk Y N (.comp k src tg c e) sc x = true) (C : COk P w K mg base kk N sc X) (tk : Tk X Wi) : PE X x (tE K nm Wi (evC G (run G kk) k src tg c e fr)) := by
  by_cases hk : k = .keys
  · simp only [chk] at h
    split at h <;> try (cases h; done)
    rename_i elt t iter ifs asy scope pos
    simp only [Bool.and_eq_true, decide_eq_true_eq, Bool.not_eq_true'] at h
    obtain ⟨⟨⟨⟨⟨⟨⟨h1, h2⟩, h3⟩, h4⟩, h5⟩, h6⟩, h7⟩, h8⟩ := h
    subst h1
    have ok : BlkOk X.N X.env.scope scope (ownOf tg t) := by
      rw [C.hN, C.sc]
      exact blkOk_by h3
    have pcs : ∀ (σ0 : L2.St) (s : Shared) (H : Hp) (Ca : Addr) (cl : List (Str × Addr)) (fp : List Addr), PTs (blkX X Wi σ0 s H scope (compEnvC scope cl Ca X.env) fp) ifs (tT K nm (WB Wi σ0) (fun env S => mapT (ev G (run G kk) c env S))) := fun σ0 s H Ca cl fp => by
      have C' := blk_ok (s := s) (H := H) (scope := scope) (cl := cl) (Ca := Ca) (fp := fp) (σ0 := σ0) (Wi := Wi) C
      cases ifs with
      | nil =>
        have h7 : isEmp c = true := h7
        cases c <;> simp only [isEmp] at h7 <;> first | (cases h7; done) | skip
        refine ⟨fun pins s σ H Q I q => pts_nil.run pins s σ H Q I ?_⟩
        obtain ⟨W, S, env, E, r, z⟩ := q
        exact z true W H Ext.refl r rfl
      | cons i is =>
        cases is with
        | nil => exact pts_one (ic.t _ _ _ _ h7 C' blkX_tk)
        | cons _ _ => cases h7
    have pgs : ∀ (s : Shared) (H : Hp) (Ca : Addr) (cl : List (Str × Addr)) (fp : List Addr), PG (X.blk s H scope (compEnvC scope cl Ca X.env) fp) t (gTg K tg) := fun s H Ca cl fp =>
      pg_ok (X := X.blk s H scope (compEnvC scope cl Ca X.env) fp) (sc := relS scope sc) C.hK C.hN C.nd (by rw [← C.sc]; rfl) C.calm (fl := false) (by simp) h5
    have pes : ∀ (σ0 : L2.St) (s : Shared) (H : Hp) (Ca : Addr) (cl : List (Str × Addr)) (fp : List Addr), PE (blkX X Wi σ0 s H scope (compEnvC scope cl Ca X.env) fp) elt (tE K nm (WB Wi σ0) (ev G (run G kk) e)) := fun σ0 s H Ca cl fp =>
      ie.v _ _ _ _ h8 (blk_ok (s := s) (H := H) (scope := scope) (cl := cl) (Ca := Ca) (fp := fp) (σ0 := σ0) (Wi := Wi) C) blkX_tk
    have ndN : X.N.Nodup := by rw [C.hN]; exact C.nd
    subst hk
    simp only [Bool.and_eq_true] at h6
    obtain ⟨h60, h6⟩ := h6
    cases src <;> simp only [isVarE] at h60 <;> first | (cases h60; done) | skip
    rename_i vi
    cases iter <;> simp only [chk] at h6 <;> first | (cases h6; done) | skip
    rename_i vx vp
    simp only [Bool.and_eq_true, Bool.not_eq_true', decide_eq_true_eq] at h6
    obtain ⟨⟨⟨g1, g2⟩, g3⟩, g4⟩ := h6
    have pv := pe_var (i := vi) (X := X) (pos := vp) (by rw [C.hN]; exact g1) (vis_ok C g2) g3 g4
    have pe1 := pe_lcX (pos := pos) (own := ownOf tg t) (g := gTg K tg) (te := fun σ0 => tE K nm (WB Wi σ0) (ev G (run G kk) e)) C.calm ndN tk C.fr (pi_keys pv) ok pgs pcs pes (fold_ok h2 X.env)
    refine (pe1.or (pe_lock pe1)).imp fun σ H Q wq => ?_
    obtain ⟨W, S, env, E, r, z⟩ := wq
    simp only [evC, ev] at z
    split at z
    · rename_i d hd
      simp only [R.bind_ok, srcL] at z
      obtain ⟨v, e1, e2⟩ := E.get vi d hd
      cases d <;> simp only [mkIt] at z <;> first | exact z.elim | skip
      rename_i kvs
      have hq : Quk (cBody G (run G kk) tg c e env) (qk .keys (cBody G (run G kk) tg c e env)) := quk _ _
      have noex : ∀ c' Sf xs acc S, goComp (qk .keys (cBody G (run G kk) tg c e env)) xs acc S ≠ .ex c' Sf := by
        intro c' Sf xs
        induction xs with
        | nil => intro acc S h; cases h
        | cons x xs ih =>
          intro acc S
          simp only [goComp, qk]
          cases cBody G (run G kk) tg c e env x S with
          | bad => intro h; cases h
          | ex _ _ => intro h; cases h
          | ok o S' =>
            cases o with
            | none => exact ih acc S'
            | some y =>
              simp only [R.quiet_ok, R.bind_ok]
              split
              · exact ih _ S'
              · intro h; cases h
      generalize hbd : qk .keys (cBody G (run G kk) tg c e env) = bd at z hq noex
      cases e2 with
      | @dct _ a vs h1 h2' h3' h4' =>
      simp only [goIt] at z
      have nb : goComp bd (kvs.map fun p => kyD p.1) [] S ≠ .bad := fun h => by rw [h] at z; exact z.elim
      rcases h1 with h1 | ⟨o, h1⟩
      · refine .inr ⟨a, .dK vs, h1, trivial, fun od => ?_⟩
        have q := swp_lock (od := od) h1
        have rL := r.swp q h2' h3'
        refine ⟨_, e1, a, od, rfl, .inl ⟨vs, upd_same, ?_⟩⟩
        rw [h4]
        refine comp_items (Q := fun v H' => H' a = some (.frz od (.dK vs)) ∧ Q v (upd H' a (.dK vs))) (E.swp q) rL (.keys upd_same h2' (h4'.swp q)) hq nb (fun c' Sf m3 H3 h => absurd h (noex _ _ _ _ _)) fun ys Sf hg Dl m2 av H2 hD ex r2 hd2 p2 => ?_
        have z : Wq K nm (rpD K) W H (fr ys Sf) Q (Xw nm Wi σ) := by rw [hg] at z; exact z
        have ha : H2 a = some (.frz od (.dK vs)) := ex.keep _ _ upd_same h2'
        have hDa : Dl ≠ a := fun z => by subst z; rw [upd_same] at hD; cases hD
        have q2 := swp_unlock ha
        have na : a ∉ m2 := ex.mem (W := W) upd_same h2'
        have nB : a ∉ ((⟨m2, W.B⟩ : Wd).add Dl).B := by
          simp only [Wd.add, List.mem_cons, not_or]
          exact ⟨Ne.symm hDa, h3'⟩
        have hD0 : H Dl = none := by rw [← upd_ne (H := H) (o := .frz od (.dK vs)) hDa]; exact hD
        refine ⟨ha, hfr W H S Sf ys Dl m2 av _ Q (Xw nm Wi σ) r hD0 ⟨rfl, ?_, fun b o hb nb => ?_⟩ (r2.swp q2 na nB) (by rw [upd_ne hDa]; exact hd2) (p2.swp q2) z⟩
        · obtain ⟨tt, et, ft⟩ := ex.m
          refine ⟨tt, et, fun b hb => ?_⟩
          have := ft b hb
          by_cases z : b = a
          · subst z; rw [upd_same] at this; cases this
          · rw [upd_ne z] at this; exact this
        · by_cases z : b = a
          · subst z
            rw [upd_same]
            rw [h1] at hb
            exact hb
          · rw [upd_ne z]
            exact ex.keep b o (by rw [upd_ne z]; exact hb) nb
      · refine .inl ⟨_, e1, a, o, rfl, .inl ⟨vs, h1, ?_⟩⟩
        rw [h4]
        exact comp_items E r (.keys h1 h2' h4') hq nb (fun c' Sf m3 H3 h => absurd h (noex _ _ _ _ _)) fun ys Sf hg Dl m2 av H2 hD ex r2 hd2 p2 => hfr W H S Sf ys Dl m2 av H2 Q (Xw nm Wi σ) r hD ex r2 hd2 p2 (by rw [hg] at z; exact z)
    · exact z.elim
  · refine comp_gen g k src tg c e is ic ie hfr h C tk hk (PE X x) (fun t u pt i => pt.imp i) fun elt tg iter ifs scope own pos wi g tt te hx hi ok hg ht he hs => ?_
    subst hx
    have ndN : X.N.Nodup := by rw [C.hN]; exact C.nd
    exact pe_lcX C.calm ndN tk C.fr hi ok hg ht he hs
/-- name = [..] -/
theorem comp_asg (g : GOk K mg G Y nm fa fd ps) (k : IK) (src : E) (tg : Tg) (c e : E) (is : Snd P w K mg base G Y nm kk N src) (ic : Snd P w K mg base G Y nm kk N c) (ie : Snd P w K mg base G Y nm kk N e) {fr : List D → Store → R D} (hfr : CompFr K nm fr) {x : Expr}
    (h : chk Y N (.comp k src tg c e) sc x = true) (C : COk P w K mg base kk N sc X) (tk : Tk X Wi) (hk : k ≠ .keys) {i : Nat} {y : Str} {py spos : Pos} (hy : X.N[i]? = some y) (hyl : X.env.scope.names.lookup y = some .local)
    (hsw : swapsWith x (some (.Name y py)) spos.line X.env = pure true) : PS X (.Assign [.Name y py] x spos) (tAsg (tE K nm Wi (evC G (run G kk) k src tg c e fr)) (gName i)) := by
  refine comp_gen g k src tg c e is ic ie hfr h C tk hk (fun t => PS X (.Assign [.Name y py] x spos) (tAsg t (gName i))) (fun t u pt im => pt.imp fun D σ H q => im _ _ _ q) fun elt tg iter ifs scope own pos wi g tt te hx hi ok hg ht he hs => ?_
  subst hx
  have ndN : X.N.Nodup := by rw [C.hN]; exact C.nd
  exact ps_setLcX C.calm ndN tk C.fr hy hyl hsw hi ok hg ht he hs
theorem s_comp (g : GOk K mg G Y nm fa fd ps) (k : IK) (src : E) (tg : Tg) (c e : E) (is : Snd P w K mg base G Y nm kk N src) (ic : Snd P w K mg base G Y nm kk N c) (ie : Snd P w K mg base G Y nm kk N e) : Snd P w K mg base G Y nm kk N (.comp k src tg c e) :=
  ⟨fun sc x X Wi h C tk => comp_of g k src tg c e is ic ie fr_lst h C tk, fun sc x X Wi h C tk => by simp [chkT] at h, fun sc a X Wi h C tk => by simp [chkA] at h⟩
end
end PL

set_option Elab.async false
set_option linter.all false
set_option maxRecDepth 100000
set_option maxHeartbeats 2000000
/-! PLX: objects of the store: a new list, append. -/
namespace PL
open PySem PySem.Spec PyProof.Rows L2
section
variable {P : Program} {w : World} {K : PySem.W.Frag} {mg : Str → Option Value} {base : Heap} {G : Tab} {Y : Sx} {nm : Nm} {fa : Nat → Addr} {fd : Nat → FuncData} {ps : Nat → List Str} {kk : Nat} {N : List Str}
variable {sc : Scope} {X : Cx} {Wi : WX} {W W' : Wd} {H H' : Hp} {S S' : Store}
theorem ObRep.mono {a : Addr} {o : Ob} (t : Trk W H) (e : Ext W H W' H') (h : ∀ u, H a = some u → H' a = some u) (q : ObRep K nm W H a o) : ObRep K nm W' H' a o := by
  cases o with
  | lst xs => obtain ⟨vs, e1, q⟩ := q; exact ⟨vs, h _ e1, q.mono t e⟩
  | dct xs => obtain ⟨vs, e1, q⟩ := q; exact ⟨vs, h _ e1, q.mono t e⟩
  | dtt xs => obtain ⟨vs, e1, q⟩ := q; exact ⟨vs, h _ e1, q.mono t e⟩
  | ins c fs => obtain ⟨dx, vs, e1, q⟩ := q; exact ⟨dx, vs, h _ e1, q.mono t e⟩
/-- a new object joins the store -/
theorem Ext.join {p : Addr} {o : HO} (h : H p = none) : Ext W H ⟨W.m ++ [p], W.B⟩ (upd H p o) := ⟨rfl, ⟨[p], rfl, by intro a ha; simp only [List.mem_singleton] at ha; rw [ha]; exact h⟩, fun a u e _ => by rw [upd_ne (ne_of_none e h)]; exact e⟩
theorem Rel.join (r : Rel K nm W S H) {p : Addr} {o : HO} {ob : Ob} (h : H p = none) (q : ObRep K nm ⟨W.m ++ [p], W.B⟩ (upd H p o) p ob) : Rel K nm ⟨W.m ++ [p], W.B⟩ (S ++ [ob]) (upd H p o) := by
  have t := r.trk
  have e : Ext W H ⟨W.m ++ [p], W.B⟩ (upd H p o) := Ext.join h
  have hp := (r.fresh h).1
  refine ⟨by simp [r.len], ?_, fun n a ob' h1 h2 => ?_, fun b hb => ?_⟩
  · refine List.nodup_append.mpr ⟨r.nd, by simp, fun a ha b hb => ?_⟩
    simp only [List.mem_singleton] at hb
    intro e; rw [e, hb] at ha; exact hp ha
  · by_cases hn : n < W.m.length
    · have h1' : W.m[n]? = some a := by
        have : (W.m ++ [p])[n]? = some a := h1
        rwa [List.getElem?_append_left hn] at this
      rw [List.getElem?_append_left (by rw [← r.len]; exact hn)] at h2
      exact (r.ob n a ob' h1' h2).mono t e (same_upd h a)
    · have h1' : (W.m ++ [p])[n]? = some a := h1
      rw [List.getElem?_append_right (by omega)] at h1'
      rw [List.getElem?_append_right (by rw [← r.len]; omega)] at h2
      rw [r.len] at h1'
      cases hk : n - S.length with
      | zero =>
        rw [hk] at h1' h2
        simp at h1' h2
        subst h1' h2
        exact q
      | succ k => rw [hk] at h2; simp at h2
  · obtain ⟨z, o', e1⟩ := r.bs b hb
    refine ⟨fun z' => ?_, o', same_upd h _ _ e1⟩
    rcases List.mem_append.mp z' with z' | z'
    · exact z z'
    · simp only [List.mem_singleton] at z'
      rw [z', h] at e1; cases e1
/-- an object of the store is written -/
theorem Ext.put {a : Addr} {o : HO} (h : a ∈ W.m) : Ext W H W (upd H a o) := ⟨rfl, ⟨[], by simp⟩, fun b u e hb => by rw [upd_ne (show b ≠ a from fun z => hb (by rw [z]; exact h))]; exact e⟩
theorem Rel.put (r : Rel K nm W S H) {n : Nat} {a : Addr} {o : HO} {ob : Ob} (h : W.m[n]? = some a) (q : ObRep K nm W (upd H a o) a ob) : Rel K nm W (S.set n ob) (upd H a o) := by
  have t := r.trk
  have ha : a ∈ W.m := List.mem_of_getElem? h
  have e : Ext W H W (upd H a o) := Ext.put ha
  refine ⟨by simp [r.len], r.nd, fun m b ob' h1 h2 => ?_, fun b hb => ?_⟩
  · by_cases hm : m = n
    · subst hm
      rw [h] at h1; cases h1
      rw [List.getElem?_set_self (by rw [← r.len]; exact (List.getElem?_eq_some_iff.mp h).1)] at h2
      cases h2
      exact q
    · rw [List.getElem?_set_ne (fun z => hm z.symm)] at h2
      have hne : b ≠ a := by
        intro z
        subst z
        obtain ⟨l1, e1⟩ := List.getElem?_eq_some_iff.mp h1
        obtain ⟨l2, e2⟩ := List.getElem?_eq_some_iff.mp h
        exact hm ((List.getElem_inj r.nd).mp (e1.trans e2.symm))
      exact (r.ob m b ob' h1 h2).mono t e fun u hu => by rw [upd_ne hne]; exact hu
  · obtain ⟨z, o', e1⟩ := r.bs b hb
    exact ⟨z, o', by rw [upd_ne (show b ≠ a from fun y => z (by rw [y]; exact ha))]; exact e1⟩
/-- the new list joins the store -/
theorem adopt {xs : List D} {vs : List V} {p : Addr} {Q : VK} {Xc : Nat → Hp → Prop} (r : Rel K nm W S H) (pr : Reps K W H xs vs) (hp : H p = none) (z : Wq K nm (rpD K) W H (R.ok (.ref S.length) (S ++ [.lst xs])) Q Xc) : Q (.ref p) (upd H p (.lst vs)) := by
  have e : Ext W H ⟨W.m ++ [p], W.B⟩ (upd H p (.lst vs)) := Ext.join hp
  refine z (.ref p) ⟨W.m ++ [p], W.B⟩ _ e (r.join hp ⟨vs, upd_same, pr.mono r.trk e⟩) (.ref ?_)
  show (W.m ++ [p])[S.length]? = some p
  rw [← r.len, List.getElem?_append_right (Nat.le_refl _), Nat.sub_self]
  rfl
theorem adoptL {xs : List D} {Q : VK} {Xc : Nat → Hp → Prop} (r : Rel K nm W S H) (z : Wq K nm (rpD K) W H (R.ok (.ref S.length) (S ++ [.lst xs])) Q Xc) : FinL K W H xs Q := fun _ _ pr hp => adopt r pr hp z
/-- what .new makes of a value -/
def nw (d : D) (S : Store) : R D := match d with
  | .lst xs => .ok (.ref S.length) (S ++ [.lst xs])
  | _ => .bad
theorem ev_new {call : Calls} {e : E} {env : Env} {S : Store} : ev G call (.new e) env S = (ev G call e env S).bind nw := rfl
theorem nw_of {o : Option D} {Q : VK} {Xc : Nat → Hp → Prop} (z : Wq K nm (rpD K) W H ((R.of o S).bind nw) Q Xc) : ∃ xs, o = some (.lst xs) ∧ Wq K nm (rpD K) W H (R.ok (.ref S.length) (S ++ [.lst xs])) Q Xc := by
  cases o with
  | none => exact z.elim
  | some d => cases d <;> first | exact z.elim | exact ⟨_, rfl, z⟩
variable (P w K mg base G Y nm kk N) in
/-- a new list of this expression -/
structure SndN (e : E) : Prop where
  v : ∀ (sc : Scope) (a : Expr) (X : Cx) (Wi : WX), isFresh e = true → chk Y N e sc a = true → COk P w K mg base kk N sc X → Tk X Wi → PE X a (tE K nm Wi (ev G (run G kk) (.new e)))
theorem SndN.no {e : E} (h : isFresh e = false) : SndN P w K mg base G Y nm kk N e := ⟨fun sc a X Wi q => by rw [h] at q; cases q⟩
theorem s_new (e : E) (ie : SndN P w K mg base G Y nm kk N e) : Snd P w K mg base G Y nm kk N (.new e) := by
  refine ⟨fun sc x X Wi h C tk => ?_, fun sc x X Wi h C tk => by simp [chkT] at h, fun sc a X Wi h C tk => by simp [chkA] at h⟩
  simp only [chk, Bool.and_eq_true] at h
  exact ie.v _ _ _ _ h.1 h.2 C tk
theorem n_lst (as : E) (ia : Snd P w K mg base G Y nm kk N as) : SndN P w K mg base G Y nm kk N (.lst as) := by
  refine ⟨fun sc x X Wi _ h C tk => ?_⟩
  simp only [chk] at h
  split at h <;> try (cases h; done)
  refine (pe_lst (ia.l _ _ X Wi h C tk)).imp fun σ H Q wq => ?_
  have wq : tE K nm Wi (fun env S => (ev G (run G kk) as env S).bind fun xs S => (R.of (mkLst (toTup xs)) S).bind nw) σ H Q := by
    refine (?_ : (fun env S => _) = (fun env S => ev G (run G kk) (.new (.lst as)) env S)) ▸ wq
    funext env S
    rw [ev_new]
    simp only [ev, R.bind_assoc]
  obtain ⟨W, S, env, E, r, z⟩ := tX.args (g := fun _ xs S => (R.of (mkLst (toTup xs)) S).bind nw) wq
  refine ⟨W, S, env, E, r, z.mono fun vs H1 z => ?_⟩
  obtain ⟨W1, S1, xs, env1, E1, r1, p1, z⟩ := z
  obtain ⟨ys, e, z⟩ := nw_of z
  obtain ⟨hz, e2⟩ := mkLst_some (xs := xs) e
  cases e2
  exact ⟨p1.sz hz, fun p hp => adopt r1 p1 hp z⟩
theorem n_bf_of (g : GOk K mg G Y nm fa fd ps) (f : Bf) (as : E) (ia : Snd P w K mg base G Y nm kk N as)
    (hb : ∀ (X : Cx), X.K = K → X.calm = true → ∃ (id : String) (r : List V → Hp → VK → Prop), ((CallR X (.builtin id) r ∧ bootBuiltins (bfN f) = some (.builtin id)) ∨ (CallR X (.type id) r ∧ bootBuiltins (bfN f) = some (.type id))) ∧
      ∀ (W : Wd) (S : Store) (H : Hp) (as : List D) (vs : List V) (xs : List D) (Q : VK), Rel K nm W S H → Reps K W H as vs → bfD f as S = some (.lst xs) → FinL K W H xs Q → r vs H Q)
    (hn : bfN f ≠ "__name__" := by decide +kernel) (hd : (bfN f == ("__debug__" : Str)) = false := by decide +kernel) : SndN P w K mg base G Y nm kk N (.bf f as) := by
  refine ⟨fun sc x X Wi _ h C tk => ?_⟩
  simp only [chk] at h
  split at h <;> try (cases h; done)
  simp only [Bool.and_eq_true, decide_eq_true_eq] at h
  obtain ⟨⟨⟨⟨h0, h1⟩, h2⟩, h3⟩, h4⟩ := h
  subst h1
  have pa := ia.l _ _ X Wi h4 C tk
  have m1 : X.mg (bfN f) = none := by rw [C.hm]; exact g.bl _ h3
  obtain ⟨id, r, hc, ad⟩ := hb X C.hK C.calm
  have fin : ∀ {σ : L2.St} {H : Hp} {Q : VK}, tE K nm Wi (ev G (run G kk) (.new (.bf f as))) σ H Q → tCB r (tA K nm Wi (ev G (run G kk) as)) σ H Q := fun {σ H Q} wq => by
    have wq : tE K nm Wi (fun env S => (ev G (run G kk) as env S).bind fun xs S => (R.of (bfD f (toTup xs) S) S).bind nw) σ H Q := by
      refine (?_ : (fun env S => _) = (fun env S => ev G (run G kk) (.new (.bf f as)) env S)) ▸ wq
      funext env S
      rw [ev_new]
      simp only [ev, R.bind_assoc]
    obtain ⟨W, S, env, E, r', z⟩ := tX.args (g := fun _ xs S => (R.of (bfD f (toTup xs) S) S).bind nw) wq
    refine ⟨W, S, env, E, r', z.mono fun vs H1 z => ?_⟩
    obtain ⟨W1, S1, xs, env1, E1, r1, p1, z⟩ := z
    obtain ⟨ys, e, z⟩ := nw_of z
    exact ad W1 S1 H1 xs vs ys Q r1 p1 e (adoptL r1 z)
  rcases hc with ⟨hc, hv⟩ | ⟨hc, hv⟩
  · exact (pe_callB hc (gl_ok C h2) m1 hv pa hn hd (star_ok (star1 h4)) (stars_ok1 h4)).imp fun σ H Q wq => fin wq
  · exact (pe_callTy hc (gl_ok C h2) m1 hv pa hn hd (star_ok (star1 h4)) (stars_ok1 h4)).imp fun σ H Q wq => fin wq
theorem n_bf (g : GOk K mg G Y nm fa fd ps) (f : Bf) (as : E) (ia : Snd P w K mg base G Y nm kk N as) : SndN P w K mg base G Y nm kk N (.bf f as) := by
  cases f with
  | list => exact n_bf_of g .list as ia fun X e c => ⟨"list", _, .inr ⟨call_list_of.or (call_listD c), by decide +kernel⟩, fun W S H as vs xs Q r p h f => e ▸ list_new r p h f⟩
  | sorted => exact n_bf_of g .sorted as ia fun X e c => ⟨"sorted", _, .inl ⟨cr_srt c, by decide +kernel⟩, fun W S H as vs xs Q r p h f => e ▸ sort_new r p h f⟩
  | _ => exact SndN.no rfl
theorem cat_new {x y : D} {u v : V} {zs : List D} {Q : VK} (r : Rel K nm W S H) (p : Rep K W H x u) (q : Rep K W H y v) (h : bop .add x y S = some (.lst zs)) (f : FinL K W H zs Q) : rAdd4 K u v H Q := by
  simp only [bop, addD] at h
  split at h
  · cases h
  · split at h <;> cases h
  · split at h <;> cases h
  · split at h
    · rename_i a b e1 e2
      split at h
      · rename_i hz
        cases h
        obtain ⟨a, vs, rfl, h1, p1⟩ := rep_lst r p e1
        obtain ⟨b, ws, rfl, h2, p2⟩ := rep_lst r q e2
        exact .inr ⟨a, b, vs, ws, rfl, rfl, h1, h2, by rw [p1.lens, p2.lens, ← SZ_eq]; exact hz, fun p hp => f _ _ (p1.append p2) hp⟩
      · cases h
    · cases h
theorem rep_new {x y : D} {u v : V} {zs : List D} {Q : VK} (r : Rel K nm W S H) (p : Rep K W H x u) (q : Rep K W H y v) (h : bop .mul x y S = some (.lst zs)) (f : FinL K W H zs Q) : rMul3 K u v H Q := by
  simp only [bop, mulD] at h
  split at h
  · split at h <;> cases h
  · split at h <;> cases h
  · split at h
    · split at h
      · rename_i e1 z
        cases h
        cases q
        obtain ⟨a, vs, rfl, h1, p1⟩ := rep_lst r p e1
        refine .inr ⟨a, _, vs, rfl, rfl, h1, by omega, by omega, ?_, fun p hp => f _ _ (p1.rep _) hp⟩
        rw [p1.lens, sizeLine_eq]
        have := Nat.mul_le_mul z.2.2 (show (Int.toNat _) ≤ 1000 from Int.toNat_le.mpr z.2.1)
        omega
      · cases h
    · cases h
  · cases h
theorem n_bin (o : BOp) (a b : E) (ia : Snd P w K mg base G Y nm kk N a) (ib : Snd P w K mg base G Y nm kk N b) : SndN P w K mg base G Y nm kk N (.bin o a b) := by
  refine ⟨fun sc x X Wi fr h C tk => ?_⟩
  cases x <;> simp only [chk] at h <;> first | (cases h; done) | skip
  simp only [Bool.and_eq_true, decide_eq_true_eq] at h
  obtain ⟨⟨h1, h2⟩, h3⟩ := h
  have pa := ia.v _ _ X Wi h2 C tk
  have pb := ib.v _ _ X Wi h3 C tk
  subst h1
  have eq : (fun env S => ev G (run G kk) (.new (.bin o a b)) env S) = fun env S => (ev G (run G kk) a env S).bind fun x S => (ev G (run G kk) b env S).bind fun y S => (R.of (bop o x y S) S).bind nw := by
    funext env S
    rw [ev_new]
    simp only [ev, R.bind_assoc]
  rw [show ev G (run G kk) (.new (.bin o a b)) = _ from eq]
  have e1 := C.hK
  subst e1
  cases o with
  | add => exact (pe_op op_add4 pa pb).imp fun σ H Q wq => tX.op wq fun r p q z => by obtain ⟨zs, e, z⟩ := nw_of z; exact cat_new r p q e (adoptL r z)
  | mul => exact (pe_op op_mul3 pa pb).imp fun σ H Q wq => tX.op wq fun r p q z => by obtain ⟨zs, e, z⟩ := nw_of z; exact rep_new r p q e (adoptL r z)
  | _ => cases fr
theorem sl_new {x : D} {u : V} {lo hi : Option Int} {zs : List D} {Q : VK} (r : Rel K nm W S H) (p : Rep K W H x u) (h : slD x lo hi S = some (.lst zs)) (f : FinL K W H zs Q) : rSl3 K u lo hi H Q := by
  simp only [slD] at h
  split at h
  · split at h <;> cases h
  · cases h
  · cases h
    cases p with
    | @scr _ a h1 => exact .inl (.inr ⟨a, _, rfl, h1.sq, fun p hp => f _ _ (reps_cut (reps_int _)) hp⟩)
  · split at h
    · rename_i e
      cases h
      obtain ⟨a, vs, rfl, h1, p1⟩ := rep_lst r p e
      exact .inl (.inr ⟨a, vs, rfl, .inl h1, fun p hp => f _ _ (reps_cut p1) hp⟩)
    · cases h
theorem n_sl (a lo hi : E) (ia : Snd P w K mg base G Y nm kk N a) (il : Snd P w K mg base G Y nm kk N lo) (ih : Snd P w K mg base G Y nm kk N hi) : SndN P w K mg base G Y nm kk N (.sl a lo hi) := by
  refine ⟨fun sc x X Wi _ h C tk => ?_⟩
  simp only [chk] at h
  split at h <;> try (cases h; done)
  simp only [Bool.and_eq_true] at h
  obtain ⟨⟨h1, h2⟩, h3⟩ := h
  have pa := ia.v _ _ X Wi h1 C tk
  have pl := part_ok il h2 C tk
  have ph := part_ok ih h3 C tk
  have e1 := C.hK
  subst e1
  refine (pe_slice sl_3 pa pl ph).imp fun σ H Q wq => ?_
  obtain ⟨W, S, env, E, r, z⟩ := wq
  have z : Wq X.K nm (rpD X.K) W H ((ev G (run G kk) a env S).bind fun x S => (evP G (run G kk) lo env S).bind fun l S => (evP G (run G kk) hi env S).bind fun h S => (R.of (slD x l h S) S).bind nw) Q (Xw nm Wi σ) := by
    rw [ev_new] at z
    simp only [ev, R.bind_assoc] at z
    exact z
  refine ⟨W, S, env, E, r, (Wq.bind (rp := rpD X.K) z).mono fun x H1 z => ?_⟩
  obtain ⟨W1, S1, dx, e1, r1, p1, z⟩ := z
  have E1 := E.mono r.trk e1
  refine ⟨W1, S1, env, E1, r1, (Wq.bind (rp := rpO) z).mono fun l H2 z => ?_⟩
  obtain ⟨W2, S2, dl, e2, r2, p2, z⟩ := z
  have E2 := E1.mono r1.trk e2
  cases (show dl = l from p2)
  refine ⟨W2, S2, env, E2, r2, (Wq.bind (rp := rpO) z).mono fun h H3 z => ?_⟩
  obtain ⟨W3, S3, dh, e3, r3, p3, z⟩ := z
  cases (show dh = h from p3)
  obtain ⟨zs, e, z⟩ := nw_of z
  exact sl_new r3 ((p1.mono r1.trk e2).mono r2.trk e3) e (adoptL r3 z)
mutual
theorem Rep.moveB {p : Addr} : ∀ {d : D} {v : V}, Rep K (W.add p) H d v → Rep K ⟨W.m ++ [p], W.B⟩ H d v
  | _, _, .non => .non
  | _, _, .bl b => .bl b
  | _, _, .int i => .int i
  | _, _, .str x => .str x
  | _, _, .tup h r => .tup h (Reps.moveB r)
  | _, _, .lst h a b r => .lst h (by
      simp only [Wd.add, List.mem_cons, not_or] at a b
      simp only [List.mem_append, List.mem_singleton, not_or]
      exact ⟨a, b.1⟩) (fun z => b (List.mem_cons_of_mem _ z)) (Reps.moveB r)
  | _, _, .dct h a b r => .dct h (by
      simp only [Wd.add, List.mem_cons, not_or] at a b
      simp only [List.mem_append, List.mem_singleton, not_or]
      exact ⟨a, b.1⟩) (fun z => b (List.mem_cons_of_mem _ z)) (RepK.moveB r)
  | _, _, .ref h => .ref ((List.getElem?_append_left (List.getElem?_eq_some_iff.mp h).1).trans h)
  | _, _, .scr h => .scr h
theorem Reps.moveB {p : Addr} : ∀ {d : List D} {v : List V}, Reps K (W.add p) H d v → Reps K ⟨W.m ++ [p], W.B⟩ H d v
  | _, _, .nil => .nil
  | _, _, .cons r rs => .cons (Rep.moveB r) (Reps.moveB rs)
theorem RepK.moveB {p : Addr} : ∀ {d : List (Ky × D)} {v : List (Key × V)}, RepK K (W.add p) H d v → RepK K ⟨W.m ++ [p], W.B⟩ H d v
  | _, _, .nil => .nil
  | _, _, .cons r rs => .cons (Rep.moveB r) (RepK.moveB rs)
end
theorem Rel.moveB {p : Addr} {xs : List D} {vs : List V} (r : Rel K nm (W.add p) S H) (hp : H p = some (.lst vs)) (pr : Reps K (W.add p) H xs vs) (nb : p ∉ W.B) : Rel K nm ⟨W.m ++ [p], W.B⟩ (S ++ [.lst xs]) H := by
  have hn := (r.bs p List.mem_cons_self).1
  refine ⟨?_, ?_, fun n a ob h1 h2 => ?_, fun b hb => ?_⟩
  · have := r.len
    simp only [Wd.add] at this
    simp [this]
  · exact List.nodup_append.mpr ⟨r.nd, by simp, fun a ha b hb => by
      simp only [List.mem_singleton] at hb
      intro e; rw [e, hb] at ha; exact hn ha⟩
  · have hl : W.m.length = S.length := r.len
    by_cases hlt : n < W.m.length
    · have h1' : W.m[n]? = some a := by
        have : (W.m ++ [p])[n]? = some a := h1
        rwa [List.getElem?_append_left hlt] at this
      rw [List.getElem?_append_left (by rw [← hl]; exact hlt)] at h2
      exact ob_map (fun d v q => q.moveB) (fun d v q => q.moveB) (fun d v q => q.moveB) (fun u e => e) (r.ob n a ob h1' h2)
    · have h1' : (W.m ++ [p])[n]? = some a := h1
      rw [List.getElem?_append_right (by omega)] at h1'
      rw [List.getElem?_append_right (by omega)] at h2
      rw [hl] at h1'
      cases hk : n - S.length with
      | zero =>
        rw [hk] at h1' h2
        simp at h1' h2
        subst h1' h2
        exact ⟨vs, hp, pr.moveB⟩
      | succ k => rw [hk] at h2; simp at h2
  · have hb' : b ∈ (W.add p).B := List.mem_cons_of_mem _ hb
    obtain ⟨z, o, e⟩ := r.bs b hb'
    refine ⟨fun q => ?_, o, e⟩
    rcases List.mem_append.mp q with q | q
    · exact z q
    · rw [List.mem_singleton.mp q] at hb; exact nb hb
theorem Rel.moveO {p : Addr} {ob : Ob} (r : Rel K nm (W.add p) S H) (hp : ObRep K nm ⟨W.m ++ [p], W.B⟩ H p ob) (nb : p ∉ W.B) : Rel K nm ⟨W.m ++ [p], W.B⟩ (S ++ [ob]) H := by
  have hn := (r.bs p List.mem_cons_self).1
  refine ⟨?_, ?_, fun n a o h1 h2 => ?_, fun b hb => ?_⟩
  · have := r.len
    simp only [Wd.add] at this
    simp [this]
  · exact List.nodup_append.mpr ⟨r.nd, by simp, fun a ha b hb => by
      simp only [List.mem_singleton] at hb
      intro e; rw [e, hb] at ha; exact hn ha⟩
  · have hl : W.m.length = S.length := r.len
    by_cases hlt : n < W.m.length
    · have h1' : W.m[n]? = some a := by
        have : (W.m ++ [p])[n]? = some a := h1
        rwa [List.getElem?_append_left hlt] at this
      rw [List.getElem?_append_left (by rw [← hl]; exact hlt)] at h2
      exact ob_map (fun d v q => q.moveB) (fun d v q => q.moveB) (fun d v q => q.moveB) (fun u e => e) (r.ob n a o h1' h2)
    · have h1' : (W.m ++ [p])[n]? = some a := h1
      rw [List.getElem?_append_right (by omega)] at h1'
      rw [List.getElem?_append_right (by omega)] at h2
      rw [hl] at h1'
      cases hk : n - S.length with
      | zero =>
        rw [hk] at h1' h2
        simp at h1' h2
        subst h1' h2
        exact hp
      | succ k => rw [hk] at h2; simp at h2
  · have hb' : b ∈ (W.add p).B := List.mem_cons_of_mem _ hb
    obtain ⟨z, o, e⟩ := r.bs b hb'
    refine ⟨fun q => ?_, o, e⟩
    rcases List.mem_append.mp q with q | q
    · exact z q
    · rw [List.mem_singleton.mp q] at hb; exact nb hb
/-! ### list(range(..)) -/
/-- the range of these arguments -/
theorem rng_of {k : IK} {xs ys : List D} {vs : List V} (p : Reps K W H xs vs) (h : mkIt k xs S = some (.items ys)) (hk : k = .rng1 ∨ k = .rng2 ∨ k = .rng3) :
    ∃ lo hi c n, RgA vs lo hi c ∧ Builtin.Range.small lo hi c = true ∧ Builtin.Range.rangeSize lo hi c = ((n : Nat) : Int) ∧ ys = rngD lo c n := by
  rcases hk with rfl | rfl | rfl
  · simp only [mkIt] at h
    split at h <;> try (cases h; done)
    all_goals first | (rename_i hc; cases hc; done) | skip
    rename_i j hk
    split at h <;> cases h
    rename_i hj
    obtain ⟨v, rfl, q⟩ := reps1 p
    cases q
    refine ⟨0, j, 1, j.toNat, .inl ⟨rfl, rfl, rfl⟩, small_one (by omega) (by omega) (b62_ok hj).1 (b62_ok hj).2, ?_, rfl⟩
    rw [rangeSize_one]
    split <;> omega
  · simp only [mkIt] at h
    split at h <;> try (cases h; done)
    all_goals first | (rename_i hc; cases hc; done) | skip
    rename_i i j hk
    split at h <;> cases h
    rename_i hb
    simp only [Bool.and_eq_true] at hb
    obtain ⟨v, u, rfl, q1, q2⟩ := reps2 p
    cases q1; cases q2
    refine ⟨i, j, 1, (j - i).toNat, .inr (.inl ⟨rfl, rfl⟩), small_one (b62_ok hb.1).1 (b62_ok hb.1).2 (b62_ok hb.2).1 (b62_ok hb.2).2, ?_, rfl⟩
    rw [rangeSize_one]
    split <;> omega
  · simp only [mkIt] at h
    split at h <;> try (cases h; done)
    all_goals first | (rename_i hc; cases hc; done) | skip
    rename_i i j c hk
    split at h <;> cases h
    rename_i hb
    simp only [Bool.and_eq_true] at hb
    have hc := tst_iff.mp hb.2
    obtain ⟨c0, c1, c2, c3⟩ := rangeC_ok hb.1.1 hb.1.2 hc
    cases p with | cons q1 p => cases p with | cons q2 p => cases p with | cons q3 p =>
    cases p; cases q1; cases q2; cases q3
    exact ⟨i, j, c, _, .inr (.inr ⟨rfl, by omega, by omega⟩), c2, c3, rfl⟩
theorem reps_rng {lo c : Int} {n : Nat} : Reps K W H (rngD lo c n) ((List.range n).map fun (i : Nat) => V.int (lo + i * c)) := by
  unfold rngD
  induction List.range n with
  | nil => exact .nil
  | cons k l ih => exact .cons (.int _) ih
theorem lrng_of (g : GOk K mg G Y nm fa fd ps) (k : IK) (as : E) (ia : Snd P w K mg base G Y nm kk N as) {fr : List D → Store → R D} (hfr : ∀ {W : Wd} {S : Store} {H : Hp} {ys : List D} {Q : VK} {Xc : Nat → Hp → Prop}, Rel K nm W S H → Wq K nm (rpD K) W H (fr ys S) Q Xc → FinL K W H ys Q) {x : Expr}
    (h : chk Y N (.lrng k as) sc x = true) (C : COk P w K mg base kk N sc X) (tk : Tk X Wi) : PE X x (tE K nm Wi fun env S => (ev G (run G kk) as env S).bind fun xs S => match mkIt k (toTup xs) S with
    | some (.items ys) => if ys.length ≤ SZ then fr ys S else .bad
    | _ => .bad) := by
  simp only [chk] at h
  split at h <;> try (cases h; done)
  rename_i g1 p1 r1 p2 q qs pos1 pos2
  simp only [Bool.and_eq_true, decide_eq_true_eq] at h
  obtain ⟨⟨⟨⟨⟨⟨⟨h1, h2⟩, h3⟩, h4⟩, h5⟩, h6⟩, h7⟩, h8⟩ := h
  subst h1 h2
  have hk : k = .rng1 ∨ k = .rng2 ∨ k = .rng3 := by
    cases k <;> first | exact .inl rfl | exact .inr (.inl rfl) | exact .inr (.inr rfl) | cases h7
  refine (pe_listRc C.calm (gl_ok C h3) (by rw [C.hm]; exact g.bl _ h5) (prc (gl_ok C h4) (by rw [C.hm]; exact g.bl _ h6) (ia.l _ _ X Wi h8 C tk) (star_ok (star1 h8)) (stars_ok1 h8)) rfl).imp fun σ H Q wq => ?_
  obtain ⟨W, S, env, E, r, z⟩ := tX.args (g := fun _ xs S => match mkIt k (toTup xs) S with
    | some (.items ys) => if ys.length ≤ SZ then fr ys S else .bad
    | _ => .bad) wq
  refine ⟨W, S, env, E, r, z.mono fun vs H1 z => ?_⟩
  obtain ⟨W1, S1, xs, env1, E1, r1, p1, z⟩ := z
  cases hm : mkIt k (toTup (.tup xs)) S1 with
  | none => rw [hm] at z; exact z.elim
  | some it =>
    rw [hm] at z
    cases it with
    | live _ _ => exact z.elim
    | items ys =>
      dsimp only at z
      split at z <;> try exact z.elim
      rename_i hz
      obtain ⟨lo, hi, c, n, e1, e2, e3, rfl⟩ := rng_of p1 hm hk
      refine ⟨lo, hi, c, e1, n, e2, e3, ?_, fun q hq => hfr r1 z _ _ reps_rng hq⟩
      rw [rngD_len] at hz
      exact hz
theorem s_lrng (g : GOk K mg G Y nm fa fd ps) (k : IK) (as : E) (ia : Snd P w K mg base G Y nm kk N as) : Snd P w K mg base G Y nm kk N (.lrng k as) :=
  ⟨fun sc x X Wi h C tk => lrng_of g k as ia (fr := fun ys S => .ok (.lst ys) S) (fun r z => by
    have f : Fin K nm _ _ _ _ _ := fun v W' H' e r' p => z v W' H' e r' p
    exact f.finL r) h C tk, fun sc x X Wi h C tk => by simp [chkT] at h, fun sc a X Wi h C tk => by simp [chkA] at h⟩
theorem n_lrng (g : GOk K mg G Y nm fa fd ps) (k : IK) (as : E) (ia : Snd P w K mg base G Y nm kk N as) : SndN P w K mg base G Y nm kk N (.lrng k as) := by
  refine ⟨fun sc x X Wi _ h C tk => ?_⟩
  have eq : ev G (run G kk) (.new (.lrng k as)) = fun env S => (ev G (run G kk) as env S).bind fun xs S => match mkIt k (toTup xs) S with
      | some (.items ys) => if ys.length ≤ SZ then R.ok (.ref S.length) (S ++ [.lst ys]) else .bad
      | _ => .bad := by
    funext env S
    rw [ev_new]
    simp only [ev, R.bind_assoc]
    congr 1
    funext xs S
    cases mkIt k (toTup xs) S with
    | none => rfl
    | some it =>
      cases it with
      | live _ _ => rfl
      | items ys =>
        dsimp only
        split <;> rfl
  rw [eq]
  exact lrng_of g k as ia (fr := fun ys S => .ok (.ref S.length) (S ++ [.lst ys])) (fun r z => adoptL r z) h C tk
theorem fr_new : CompFr K nm fun ys S => .ok (.ref S.length) (S ++ [.lst ys]) := by
  intro W1 H1 S1 Sf ys Dl m2 av H Q Xc r1 hD e1 r2 hd p2 z
  obtain ⟨t, et, ft⟩ := e1.m
  have et : m2 = W1.m ++ t := et
  refine z (.ref Dl) ⟨m2 ++ [Dl], W1.B⟩ H ⟨rfl, ⟨t ++ [Dl], by rw [et, List.append_assoc], fun a ha => ?_⟩, e1.keep⟩ (r2.moveB hd p2 fun hm => ?_) (.ref ?_)
  · rcases List.mem_append.mp ha with ha | ha
    · exact ft a ha
    · rw [List.mem_singleton.mp ha]; exact hD
  · obtain ⟨_, o, ho⟩ := r1.bs Dl hm
    rw [hD] at ho; cases ho
  · have hl : m2.length = Sf.length := r2.len
    show (m2 ++ [Dl])[Sf.length]? = some Dl
    rw [← hl, List.getElem?_append_right (Nat.le_refl _), Nat.sub_self]
    rfl
theorem new_comp_eq {k : IK} {src : E} {tg : Tg} {c e : E} : ev G (run G kk) (.new (.comp k src tg c e)) = evC G (run G kk) k src tg c e fun ys S => .ok (.ref S.length) (S ++ [.lst ys]) := by
  funext env S
  rw [ev_new]
  simp only [ev, evC, R.bind_assoc]
  congr 1
  funext xs S
  cases mkIt k (srcL k xs) S with
  | none => rfl
  | some it =>
    show ((goIt it (qk k (cBody G (run G kk) tg c e env)) S).bind fun ys S => R.ok (D.lst ys) S).bind nw = _
    rw [R.bind_assoc]
    rfl
theorem n_comp (g : GOk K mg G Y nm fa fd ps) (k : IK) (src : E) (tg : Tg) (c e : E) (is : Snd P w K mg base G Y nm kk N src) (ic : Snd P w K mg base G Y nm kk N c) (ie : Snd P w K mg base G Y nm kk N e) : SndN P w K mg base G Y nm kk N (.comp k src tg c e) := by
  refine ⟨fun sc x X Wi _ h C tk => ?_⟩
  rw [new_comp_eq]
  exact comp_of g k src tg c e is ic ie fr_new h C tk
end
end PL

set_option Elab.async false
set_option linter.all false
set_option maxRecDepth 100000
set_option maxHeartbeats 2000000
/-! PLY: dicts, methods of built-ins, f-strings. -/
namespace PL
open PySem PySem.Spec PyProof.Rows L2
section
variable {P : Program} {w : World} {K : PySem.W.Frag} {mg : Str → Option Value} {base : Heap} {G : Tab} {Y : Sx} {nm : Nm} {fa : Nat → Addr} {fd : Nat → FuncData} {ps : Nat → List Str} {kk : Nat} {N : List Str}
variable {sc : Scope} {X : Cx} {Wi : WX} {W W' : Wd} {H H' : Hp} {S S' : Store}
/-! ### dicts, by values -/
theorem key_ok {d : D} {v : V} {k : Ky} (p : Rep K W H d v) (h : keyOf d = some k) : v = kV k := by
  cases p <;> simp only [keyOf] at h <;> first | (cases h; done) | (cases h; rfl)
theorem val_ok {ds : List (Ky × D)} {vs : List (Key × V)} (p : RepK K W H ds vs) (k : Ky) : (∀ d, getK ds k = some d → ∃ v, valV vs k = some v ∧ Rep K W H d v) ∧ (getK ds k = none → valV vs k = none) := by
  induction ds generalizing vs with
  | nil => cases p; exact ⟨fun d h => (by cases h), fun _ => rfl⟩
  | cons x ds ih =>
    cases p with
    | @cons k' d v _ vs a b =>
      obtain ⟨i1, i2⟩ := ih b
      by_cases e : k' = k
      · subst e
        rw [valV_pos (p := (k', v)) rfl]
        simp only [getK, if_true]
        exact ⟨fun d' h => (by cases h; exact ⟨v, rfl, a⟩), fun h => (by cases h)⟩
      · rw [valV_neg (p := (k', v)) e]
        simp only [getK, if_neg e]
        exact ⟨i1, i2⟩
theorem any_keys {ds : List (Ky × D)} {vs : List (Key × V)} (p : RepK K W H ds vs) (k : Ky) : (vs.any fun kv => decide (kv.1 = k)) = ds.any fun e => decide (e.1 = k) := by
  induction ds generalizing vs with
  | nil => cases p; rfl
  | cons x ds ih =>
    cases p with
    | cons a b => simp [ih b]
theorem repK_append {ds es : List (Ky × D)} {vs us : List (Key × V)} (p : RepK K W H ds vs) (q : RepK K W H es us) : RepK K W H (ds ++ es) (vs ++ us) := by
  induction ds generalizing vs with
  | nil => cases p; exact q
  | cons x ds ih =>
    cases p with
    | cons a b => exact .cons a (ih b)
theorem put_map {ds : List (Ky × D)} {vs : List (Key × V)} {k : Ky} {d : D} {v : V} (p : RepK K W H ds vs) (q : Rep K W H d v) : RepK K W H (ds.map fun e => if e.1 = k then (e.1, d) else e) (vs.map fun kv => if kv.1 = k then (kv.1, v) else kv) := by
  induction ds generalizing vs with
  | nil => cases p; exact .nil
  | cons x ds ih =>
    cases p with
    | @cons k' d' v' _ vs a b =>
      simp only [List.map_cons]
      by_cases e : k' = k
      · subst e
        simp only [if_true]
        exact .cons q (ih b)
      · simp only [if_neg e]
        exact .cons a (ih b)
theorem put_ok {ds : List (Ky × D)} {vs : List (Key × V)} {k : Ky} {d : D} {v : V} (p : RepK K W H ds vs) (q : Rep K W H d v) : RepK K W H (setK ds k d) (putK vs k v) := by
  unfold setK putK
  rw [any_keys p k]
  split
  · exact put_map p q
  · exact repK_append p (.cons q .nil)
theorem drop_ok {ds : List (Ky × D)} {vs : List (Key × V)} {k : Ky} (p : RepK K W H ds vs) : RepK K W H (delK ds k) (dropK vs k) := by
  unfold delK dropK
  induction ds generalizing vs with
  | nil => cases p; exact .nil
  | cons x ds ih =>
    cases p with
    | @cons k' d' v' _ vs a b =>
      simp only [List.filter_cons]
      by_cases e : k' = k
      · subst e; simpa using ih b
      · simp only [ne_eq, e, not_false_eq_true, decide_true, if_true]
        exact .cons a (ih b)
/-- a dict of the store is written -/
theorem Rel.putD (r : Rel K nm W S H) {n : Nat} {a : Addr} {ds : List (Ky × D)} {vs : List (Key × V)} (h : W.m[n]? = some a) (q : RepK K W H ds vs) : Ext W H W (upd H a (.dK vs)) ∧ Rel K nm W (S.set n (.dct ds)) (upd H a (.dK vs)) := by
  have e : Ext W H W (upd H a (.dK vs)) := Ext.put (List.mem_of_getElem? h)
  exact ⟨e, r.put h ⟨vs, upd_same, q.mono r.trk e⟩⟩
theorem Rel.putL (r : Rel K nm W S H) {n : Nat} {a : Addr} {ds : List D} {vs : List V} (h : W.m[n]? = some a) (q : Reps K W H ds vs) : Ext W H W (upd H a (.lst vs)) ∧ Rel K nm W (S.set n (.lst ds)) (upd H a (.lst vs)) := by
  have e : Ext W H W (upd H a (.lst vs)) := Ext.put (List.mem_of_getElem? h)
  exact ⟨e, r.put h ⟨vs, upd_same, q.mono r.trk e⟩⟩
theorem s_dict0 : Snd P w K mg base G Y nm kk N .dict0 := by
  refine ⟨fun sc x X Wi h C tk => ?_, fun sc x X Wi h C tk => by simp [chkT] at h, fun sc a X Wi h C tk => by simp [chkA] at h⟩
  simp only [chk] at h
  split at h <;> try (cases h; done)
  refine pe_dnewK.imp fun σ H Q wq p hp => ?_
  obtain ⟨W, S, env, E, r, z⟩ := wq
  simp only [ev] at z
  have e : Ext W H ⟨W.m ++ [p], W.B⟩ (upd H p (.dK [])) := Ext.join hp
  refine z (.ref p) ⟨W.m ++ [p], W.B⟩ _ e (r.join hp ⟨[], upd_same, .nil⟩) (.ref ?_)
  show (W.m ++ [p])[S.length]? = some p
  rw [← r.len, List.getElem?_append_right (Nat.le_refl _), Nat.sub_self]
  rfl
theorem din_ok {x y : D} {b : Bool} {u v : V} (r : Rel K nm W S H) (p : Rep K W H x u) (q : Rep K W H y v) (h : dinD x y S = some b) : ∃ a o, v = .ref a ∧ DGet H a u o ∧ o.isSome = b := by
  simp only [dinD] at h
  split at h
  · rename_i kvs e
    rw [Option.map_eq_some_iff] at h
    obtain ⟨k, h1, h2⟩ := h
    obtain ⟨a, vs, rfl, h3, h4⟩ := rep_dct r q e
    refine ⟨a, valV vs k, rfl, .inl ⟨vs, k, h3, key_ok p h1, rfl⟩, ?_⟩
    obtain ⟨g1, g2⟩ := val_ok h4 k
    cases hg : getK kvs k with
    | none => rw [hg] at h2; rw [g2 hg]; exact h2
    | some d => rw [hg] at h2; obtain ⟨v, e1, _⟩ := g1 d hg; rw [e1]; exact h2
  · cases h
def ngB : Bool → Bool → Bool
  | true, b => !b
  | false, b => b
theorem din_core {ng : Bool} {a b : E} {σ : L2.St} {Q : VK} (wq : tE K nm Wi (ev G (run G kk) (.din ng a b)) σ H Q) : (tE K nm Wi (ev G (run G kk) a)) σ H fun y H1 => (tE K nm Wi (ev G (run G kk) b)) σ H1 fun x H2 => ∃ a o, x = .ref a ∧ DGet H2 a y o ∧ Q (.bl (ngB ng o.isSome)) H2 := by
  simp only [ev] at wq
  refine tX.op (rr := fun y x H2 Q => ∃ a o, x = .ref a ∧ DGet H2 a y o ∧ Q (.bl (ngB ng o.isSome)) H2) wq fun r p q z => ?_
  obtain ⟨d, e, f⟩ := z.fin
  rw [Option.map_eq_some_iff] at e
  obtain ⟨c, e1, e2⟩ := e
  subst e2
  obtain ⟨a, o, e3, e4, e5⟩ := din_ok r p q e1
  refine ⟨a, o, e3, e4, ?_⟩
  rw [e5, show ngB ng c = (c != ng) by cases ng <;> cases c <;> rfl]
  exact f.here r (.bl _)
theorem s_din (ng : Bool) (a b : E) (ia : Snd P w K mg base G Y nm kk N a) (ib : Snd P w K mg base G Y nm kk N b) : Snd P w K mg base G Y nm kk N (.din ng a b) := by
  refine ⟨fun sc x X Wi h C tk => ?_, fun sc x X Wi h C tk => ?_, fun sc a X Wi h C tk => by simp [chkA] at h⟩
  · simp only [chk] at h
    split at h <;> try (cases h; done)
    simp only [Bool.and_eq_true, decide_eq_true_eq, Bool.not_eq_true'] at h
    obtain ⟨⟨⟨h1, h0⟩, h2⟩, h3⟩ := h
    have pa := ia.v _ _ X Wi h2 C tk
    have pb := ib.v _ _ X Wi h3 C tk
    subst h1
    have hu : X.A.units + 1 < cLine := by have := C.room.units; omega
    cases ng with
    | false => exact (pe_cmp (pc_din hu pa pb) (mark_ok h0)).imp fun σ H Q wq => din_core wq
    | true => exact (pe_cmp (pc_dnotin hu pa pb) (mark_ok h0)).imp fun σ H Q wq => din_core wq
  · simp only [chkT] at h
    split at h <;> try (cases h; done)
    simp only [Bool.and_eq_true, decide_eq_true_eq, Bool.not_eq_true'] at h
    obtain ⟨⟨⟨h1, h0⟩, h2⟩, h3⟩ := h
    have pa := ia.v _ _ X Wi h2 C tk
    have pb := ib.v _ _ X Wi h3 C tk
    subst h1
    have hu : X.A.units + 1 < cLine := by have := C.room.units; omega
    have cv : ∀ {σ : L2.St} {H : Hp} {Q : Bool → Hp → Prop}, tT K nm Wi (fun env S => mapT (ev G (run G kk) (.din ng a b) env S)) σ H Q → tE K nm Wi (ev G (run G kk) (.din ng a b)) σ H fun x H' => ∃ k, x = .bl k ∧ Q k H' := fun {σ H Q} wq => by
      obtain ⟨W, S, env, E, r, z⟩ := wq
      refine ⟨W, S, env, E, r, ?_⟩
      revert z
      simp only [mapT]
      cases hd : ev G (run G kk) (.din ng a b) env S with
      | bad => exact fun z => z
      | ex c S1 => exact fun z => z
      | ok d S1 =>
        obtain ⟨c, rfl⟩ : ∃ c, d = .bl c := by
          simp only [ev] at hd
          cases h1 : ev G (run G kk) a env S with
          | ok x S2 =>
            rw [h1] at hd
            simp only [R.bind_ok] at hd
            cases h2 : ev G (run G kk) b env S2 with
            | ok y S3 =>
              rw [h2] at hd
              simp only [R.bind_ok] at hd
              cases h3 : dinD x y S3 with
              | none => rw [h3] at hd; cases hd
              | some c => rw [h3] at hd; cases hd; exact ⟨_, rfl⟩
            | ex _ _ => rw [h2] at hd; cases hd
            | bad => rw [h2] at hd; cases hd
          | ex _ _ => rw [h1] at hd; cases hd
          | bad => rw [h1] at hd; cases hd
        intro z v W' H' e r' p
        cases p
        exact ⟨c, rfl, z c W' H' e r' rfl⟩
    cases ng with
    | false => exact (pt_cmp (pc_din hu pa pb) (mark_ok h0)).imp fun σ H Q wq => din_core (cv wq)
    | true => exact (pt_cmp (pc_dnotin hu pa pb) (mark_ok h0)).imp fun σ H Q wq => din_core (cv wq)
theorem s_dix (a i : E) (ia : Snd P w K mg base G Y nm kk N a) (ib : Snd P w K mg base G Y nm kk N i) : Snd P w K mg base G Y nm kk N (.dix a i) := by
  refine ⟨fun sc x X Wi h C tk => ?_, fun sc x X Wi h C tk => by simp [chkT] at h, fun sc a X Wi h C tk => by simp [chkA] at h⟩
  simp only [chk] at h
  split at h <;> try (cases h; done)
  simp only [Bool.and_eq_true] at h
  obtain ⟨⟨h1, h2⟩, h3⟩ := h
  have hu : X.A.units + 1 < cLine := by have := C.room.units; omega
  have pa := ia.v _ _ X Wi h2 C tk
  have pb := ib.v _ _ X Wi h3 C tk
  refine (pe_dget hu pa pb (plainIx_ok h1)).imp fun σ H Q wq => ?_
  simp only [ev] at wq
  refine tX.op (rr := fun x y H2 Q => ∃ a v, x = .ref a ∧ DGet H2 a y (some v) ∧ Q v H2) wq fun r p q z => ?_
  obtain ⟨d, e, f⟩ := z.fin
  simp only [dixD] at e
  split at e
  · rename_i kvs e1
    obtain ⟨k, e2, e3⟩ := Option.bind_eq_some_iff.mp e
    obtain ⟨a, vs, rfl, h3, h4⟩ := rep_dct r p e1
    obtain ⟨v, g1, g2⟩ := (val_ok h4 k).1 d e3
    exact ⟨a, v, rfl, .inl ⟨vs, k, h3, key_ok q e2, g1.symm⟩, f.here r g2⟩
  · cases e

/-! ### methods of built-ins -/
theorem mt_dget (hu : X.A.units + 1 < cLine) : MtR X "dict.get" (fun x xs H Q => ∃ a kvs k, x = .ref a ∧ Rd H a (.dK kvs) ∧ ((xs = [kV k] ∧ Q ((valV kvs k).getD .non) H) ∨ ∃ d, xs = [kV k, d] ∧ Q ((valV kvs k).getD d) H)) := by
  intro pins s σ H x xs v us Q I rx rs h
  obtain ⟨a, kvs, k, rfl, hr, h⟩ := h
  cases rx
  rcases h with ⟨rfl, q⟩ | ⟨d, rfl, q⟩
  · obtain ⟨u, rfl, ru⟩ := vals1 rs
    exact d_get1 hu I (.inl ⟨kvs, k, hr, rfl, rfl⟩) ru fun w' s3 I3 rw' => ⟨_, H, I3, rw', q⟩
  · obtain ⟨u, u', rfl, ru, ru'⟩ := vals2 rs
    exact d_get2 hu I (.inl ⟨kvs, k, hr, rfl, rfl⟩) ru ru' fun w' s3 I3 rw' => ⟨_, H, I3, rw', q⟩
theorem mt_dpop : MtR X "dict.pop" (fun x xs H Q => ∃ a kvs k, x = .ref a ∧ H a = some (.dK kvs) ∧ ((∃ v, xs = [kV k] ∧ valV kvs k = some v ∧ Q v (upd H a (.dK (dropK kvs k)))) ∨
    ∃ d, xs = [kV k, d] ∧ (∀ v, valV kvs k = some v → Q v (upd H a (.dK (dropK kvs k)))) ∧ (valV kvs k = none → Q d H))) := by
  intro pins s σ H x xs v us Q I rx rs h
  obtain ⟨a, kvs, k, rfl, hr, h⟩ := h
  cases rx
  rcases h with ⟨v, rfl, l, q⟩ | ⟨d, rfl, q1, q2⟩
  · obtain ⟨u, rfl, ru⟩ := vals1 rs
    exact d_pop I hr ru l (.inl rfl) fun w' s3 I3 rw' => ⟨v, _, I3, rw', q⟩
  · obtain ⟨u, u', rfl, ru, ru'⟩ := vals2 rs
    cases l : valV kvs k with
    | some v => exact d_pop I hr ru l (.inr ⟨u', rfl⟩) fun w' s4 I4 rw' => ⟨v, _, I4, rw', q1 v l⟩
    | none => exact d_popD I hr ru l fun s4 I4 => ⟨d, H, I4, ru', q2 l⟩
theorem mt_dsetd : MtR X "dict.setdefault" (fun x xs H Q => ∃ a kvs k d, x = .ref a ∧ H a = some (.dK kvs) ∧ kvs.length < sizeLine ∧ xs = [kV k, d] ∧ (∀ v, valV kvs k = some v → Q v H) ∧ (valV kvs k = none → Q d (upd H a (.dK (putK kvs k d))))) := by
  intro pins s σ H x xs v us Q I rx rs h
  obtain ⟨a, kvs, k, d, rfl, hr, hl, rfl, q1, q2⟩ := h
  cases rx
  obtain ⟨u, u', rfl, ru, ru'⟩ := vals2 rs
  exact d_setd I hr ru ru' hl (fun v hv w' s4 I4 rw' => ⟨v, _, I4, rw', q1 v hv⟩) fun hn w' s4 I4 rw' => ⟨d, _, I4, rw', q2 hn⟩
/-- a method with arguments -/
theorem Reps.erase {ds : List D} {vs : List V} (i : Nat) (r : Reps K W H ds vs) : Reps K W H (ds.eraseIdx i) (vs.eraseIdx i) := by
  induction ds generalizing vs i with
  | nil => cases r; exact .nil
  | cons x ds ih => cases r with | cons a b => cases i with
    | zero => exact b
    | succ i => exact .cons a (ih i b)
theorem mt_index0 {X : Cx} (hc : X.calm = true) : MtS X "str.index" (rIndexX noX) := fun pins s σ H x xs v us Q I rx rs h =>
  wpAny_mono (mt_indexX (X := X.nox) (W := noX) hc takes0 pins s σ H x xs v us Q (I.wish _) rx rs h) (fun _ _ ⟨v, H', I', r, q⟩ => ⟨v, H', I'.unwish, r, q⟩) fun _ _ z => False.elim z
theorem s_bm_of (m : Bm) (o as : E) (io : Snd P w K mg base G Y nm kk N o) (ia : Snd P w K mg base G Y nm kk N as) (hne : bmA m 0 = false)
    (hb : ∀ (X : Cx) (Wi : WX), X.K = K → X.calm = true → X.A.units + 64 < cLine → Tk X Wi → ∃ (T id : String) (r : L2.St → V → List V → Hp → VK → Prop), PlainAttrs T ∧ Slot T (bmN m) id ∧ typeOf (.builtin id) = pure (.type "method_descriptor") ∧ MtS X id r ∧
      (∀ (W : Wd) (S : Store) (H : Hp) (d : D) (x : V), Rel K nm W S H → Rep K W H d x → bmOk m d S = true → tyV K T x H) ∧
      ∀ (W : Wd) (S : Store) (H : Hp) (d : D) (x : V) (as : List D) (vs : List V) (Q : VK) (σ : L2.St), Rel K nm W S H → Rep K W H d x → Reps K W H as vs → Wq K nm (rpD K) W H (bmD m d as S) Q (Xw nm Wi σ) → r σ x vs H Q) : Snd P w K mg base G Y nm kk N (.bm m o as) := by
  refine ⟨fun sc x X Wi h C tk => ?_, fun sc x X Wi h C tk => by simp [chkT] at h, fun sc a X Wi h C tk => by simp [chkA] at h⟩
  simp only [chk] at h
  split at h <;> try (cases h; done)
  rename_i e t ap ps cp
  simp only [Bool.and_eq_true, decide_eq_true_eq] at h
  obtain ⟨⟨⟨⟨⟨h0, h1⟩, h2⟩, h3⟩, h4⟩, h5⟩ := h
  subst h0
  obtain ⟨T, id, r, pA, sl, ty, mt, ok1, ok2⟩ := hb X Wi C.hK C.calm C.room.units tk
  have base : ∀ n : Str, attributeBase e n X.env (eval e X.env) = eval e X.env := fun n => base_ok h3
  have go : ∀ {σ : L2.St} {H : Hp} {Q : VK}, tE K nm Wi (ev G (run G kk) (.bm m o as)) σ H Q → tBMS K T r (tE K nm Wi (ev G (run G kk) o)) (tA K nm Wi (ev G (run G kk) as)) σ H Q := fun {σ H Q} wq => by
    obtain ⟨W, S, env, E, r0, z⟩ := wq
    simp only [ev] at z
    refine ⟨W, S, env, E, r0, (Wq.bind (rp := rpD K) z).mono fun x H1 z => ?_⟩
    obtain ⟨W1, S1, dx, e1, r1, p1, z⟩ := z
    split at z <;> try exact z.elim
    rename_i hk
    refine ⟨ok1 W1 S1 H1 dx x r1 p1 hk, W1, S1, env, E.mono r0.trk e1, r1, (Wq.bind (rp := rpA K) z).mono fun us H2 z => ?_⟩
    obtain ⟨W2, S2, dy, e2, r2, ⟨ys, e3, p2⟩, z⟩ := z
    subst e3
    exact ok2 W2 S2 H2 dx x ys us Q σ r2 (p1.mono r1.trk e2) p2 z
  have e1 := C.hK
  subst e1
  cases ps with
  | nil => rw [show ([] : List Expr).length = 0 from rfl, hne] at h1; cases h1
  | cons p ps =>
    have s1 := star1 h5
    have few : ((backTo cp (starEach (p :: ps) X.env)).all (fun x => !x.1) && (backToKw cp (keywordEach [] X.env)).all (fun x => x.1.isSome) && decide ((p :: ps).length + ([] : List Keyword).length + (if ([] : List Keyword).isEmpty then 0 else 1) < 30)) = true := by
      cases ps with
      | nil => rw [star_ok s1]; rfl
      | cons q ps =>
        have s2 := star2 h5
        cases ps with
        | nil => rw [star_ok s1, star_ok s2]; rfl
        | cons _ _ =>
          simp only [List.length_cons] at h1
          cases m <;> simp [bmA] at h1
    exact (pe_bmS pA sl ty mt (io.v _ _ X Wi h4 C tk) (ia.l _ _ X Wi h5 C tk) (base _) few h2 (star_ok s1) (stars_ok1 h5)).imp fun σ H Q wq => go wq
theorem tyV_str {d : D} {x : V} (p : Rep K W H d x) (h : isStrD d = true) : tyV K "str" x H := by
  cases p <;> first | rfl | cases h
theorem lstR_ok {d : D} {x : V} (r : Rel K nm W S H) (p : Rep K W H d x) (h : isLstR d S = true) : tyV K "list" x H := by
  cases p with
  | @ref n a h1 =>
    simp only [isLstR] at h
    split at h
    · rename_i xs e
      obtain ⟨vs, hv, _⟩ := r.ob n a _ h1 e
      exact .inl ⟨rfl, vs, .inl (.inl hv)⟩
    · cases h
  | _ => cases h
theorem dctR_ok {d : D} {x : V} (r : Rel K nm W S H) (p : Rep K W H d x) (h : isDctR d S = true) : tyV K "dict" x H := by
  cases p with
  | @ref n a h1 =>
    simp only [isDctR] at h
    split at h
    · rename_i xs e
      obtain ⟨vs, hv, _⟩ := r.ob n a _ h1 e
      exact .inr (.inr (.inl ⟨rfl, .inl ⟨vs, hv⟩⟩))
    · cases h
  | _ => cases h
theorem fin_of {d : D} {o : Option D} {Q : VK} {Xc : Nat → Hp → Prop} (z : Wq K nm (rpD K) W H (R.of o S) Q Xc) (h : o = some d) : Fin K nm W S H d Q := by
  obtain ⟨d', e, f⟩ := z.fin
  rw [h] at e; cases e; exact f
theorem reps_strs {xs : List D} {is : List Str} {vs : List V} (p : Reps K W H xs vs) (h : strsD xs = some is) : vs = is.map V.str := by
  induction xs generalizing is vs with
  | nil => cases p; cases h; rfl
  | cons x xs ih =>
    cases p with
    | cons a b =>
      cases a with
      | str i =>
        simp only [strsD, Option.map_eq_some_iff] at h
        obtain ⟨js, h1, h2⟩ := h
        subst h2
        simp [ih b h1]
      | _ => cases h
theorem len_ne0 {b : Str} (h : b.length ≠ 0) : (b.length == 0) = false := by simpa using h
theorem str_arg {d : D} {x : V} {a : Str} (p : Rep K W H d x) (h : d = .str a) : x = .str a := by subst h; cases p; rfl
/-- texts' methods: what the result comes from -/
theorem bm_str {m : Bm} {d : D} {as : List D} {Q : VK} {Xc : Nat → Hp → Prop} (hm : m ≠ .append ∧ m ≠ .get ∧ m ≠ .pop ∧ m ≠ .setdefault ∧ m ≠ .popL) (z : Wq K nm (rpD K) W H (bmD m d as S) Q Xc) : ∃ a d', d = .str a ∧ bmStr m a as S = some d' ∧ Fin K nm W S H d' Q := by
  unfold bmD at z
  split at z <;> first | (exfalso; exact absurd rfl hm.1) | (exfalso; exact absurd rfl hm.2.1) | (exfalso; exact absurd rfl hm.2.2.1) | (exfalso; exact absurd rfl hm.2.2.2.1) | (exfalso; exact absurd rfl hm.2.2.2.2) | skip
  · obtain ⟨d', e, f⟩ := z.fin
    exact ⟨_, d', rfl, e, f⟩
  · exact z.elim
theorem strs_laid {ys : List Str} {Q : VK} (r : Rel K nm W S H) (f : Fin K nm W S H (.lst (ys.map .str)) Q) : rNewStrs ys H Q := fun p hp => f.lst r (reps_str ys) hp
theorem s_bm (m : Bm) (o as : E) (io : Snd P w K mg base G Y nm kk N o) (ia : Snd P w K mg base G Y nm kk N as) : Snd P w K mg base G Y nm kk N (.bm m o as) := by
  cases m with
  | append =>
    refine s_bm_of .append o as io ia rfl fun X Wi eK c u tk => ⟨"list", "list.append", _, PySem.F.plainAttrs_list, PySem.F.slot_list_append, PySem.F.type_list_append, MtR.toS mt_append, fun W S H d x r p h => lstR_ok r p h, fun W S H d x as vs Q σ r p q z => ?_⟩
    unfold bmD at z
    split at z <;> first | exact z.elim | skip
    all_goals first | (rename_i hc; cases hc; done) | skip
    · split at z <;> try exact z.elim
      rename_i xs hS
      split at z <;> try exact z.elim
      rename_i hz
      cases p with
      | ref hm =>
      obtain ⟨v1, rfl, q1⟩ := reps1 q
      obtain ⟨ws, hw, pw⟩ := r.ob _ _ _ hm hS
      obtain ⟨e, r'⟩ := r.putL hm (pw.append (.cons q1 .nil))
      exact ⟨_, ws, v1, rfl, rfl, hw, by rw [pw.lens, ← SZ_eq]; exact hz, z .non W _ e r' .non⟩
  | get =>
    refine s_bm_of .get o as io ia rfl fun X Wi eK c u tk => ⟨"dict", "dict.get", _, PySem.F.plainAttrs_dict, PySem.F.slot_dict_get, PySem.F.type_dict_get, MtR.toS (mt_dget (by omega)), fun W S H d x r p h => dctR_ok r p h, fun W S H d x as vs Q σ r p q z => ?_⟩
    unfold bmD at z
    split at z <;> first | exact z.elim | skip
    all_goals first | (rename_i hc; cases hc; done) | skip
    · split at z <;> try exact z.elim
      rename_i kvs k e1 e2
      obtain ⟨v1, rfl, q1⟩ := reps1 q
      obtain ⟨a, ws, rfl, h3, h4⟩ := rep_dct r p e1
      refine ⟨a, ws, k, rfl, h3, .inl ⟨by rw [key_ok q1 e2], ?_⟩⟩
      obtain ⟨g1, g2⟩ := val_ok h4 k
      cases hg : getK kvs k with
      | none => rw [hg] at z; rw [g2 hg]; exact z _ W H Ext.refl r .non
      | some d => rw [hg] at z; obtain ⟨v, e3, e4⟩ := g1 d hg; rw [e3]; exact z _ W H Ext.refl r e4
    · split at z <;> try exact z.elim
      rename_i kvs k e1 e2
      obtain ⟨v1, v2, rfl, q1, q2⟩ := reps2 q
      obtain ⟨a, ws, rfl, h3, h4⟩ := rep_dct r p e1
      refine ⟨a, ws, k, rfl, h3, .inr ⟨v2, by rw [key_ok q1 e2], ?_⟩⟩
      obtain ⟨g1, g2⟩ := val_ok h4 k
      cases hg : getK kvs k with
      | none => rw [hg] at z; rw [g2 hg]; exact z _ W H Ext.refl r q2
      | some d => rw [hg] at z; obtain ⟨v, e3, e4⟩ := g1 d hg; rw [e3]; exact z _ W H Ext.refl r e4
  | pop =>
    refine s_bm_of .pop o as io ia rfl fun X Wi eK c u tk => ⟨"dict", "dict.pop", _, PySem.F.plainAttrs_dict, PySem.F.slot_dict_pop, PySem.F.type_dict_pop, MtR.toS mt_dpop, fun W S H d x r p h => dctR_ok r p h, fun W S H d x as vs Q σ r p q z => ?_⟩
    unfold bmD at z
    split at z <;> first | exact z.elim | skip
    all_goals first | (rename_i hc; cases hc; done) | skip
    · split at z <;> try exact z.elim
      rename_i kvs k hS e2
      split at z <;> try exact z.elim
      rename_i dv hg
      cases p with
      | ref hm =>
      obtain ⟨v1, rfl, q1⟩ := reps1 q
      obtain ⟨ws, hw, pw⟩ := r.ob _ _ _ hm hS
      obtain ⟨e, r'⟩ := r.putD hm (drop_ok (k := k) pw)
      obtain ⟨v, e3, e4⟩ := (val_ok pw k).1 _ hg
      exact ⟨_, ws, k, rfl, hw, .inl ⟨v, by rw [key_ok q1 e2], e3, z _ W _ e r' (e4.mono r.trk e)⟩⟩
    · split at z <;> try exact z.elim
      rename_i kvs k hS e2
      cases p with
      | ref hm =>
      obtain ⟨v1, v2, rfl, q1, q2⟩ := reps2 q
      obtain ⟨ws, hw, pw⟩ := r.ob _ _ _ hm hS
      obtain ⟨e, r'⟩ := r.putD hm (drop_ok (k := k) pw)
      obtain ⟨g1, g2⟩ := val_ok pw k
      refine ⟨_, ws, k, rfl, hw, .inr ⟨v2, by rw [key_ok q1 e2], fun v hv => ?_, fun hv => ?_⟩⟩
      · cases hg : getK kvs k with
        | none => rw [g2 hg] at hv; cases hv
        | some dv =>
          rw [hg] at z
          obtain ⟨v', e3, e4⟩ := g1 _ hg
          rw [e3] at hv; cases hv
          exact z _ W _ e r' (e4.mono r.trk e)
      · cases hg : getK kvs k with
        | none => rw [hg] at z; exact z _ W H Ext.refl r q2
        | some dv => obtain ⟨v', e3, e4⟩ := g1 _ hg; rw [e3] at hv; cases hv
  | setdefault =>
    refine s_bm_of .setdefault o as io ia rfl fun X Wi eK c u tk => ⟨"dict", "dict.setdefault", _, PySem.F.plainAttrs_dict, PySem.F.slot_dict_setdefault, PySem.F.type_dict_setdefault, MtR.toS mt_dsetd, fun W S H d x r p h => dctR_ok r p h, fun W S H d x as vs Q σ r p q z => ?_⟩
    unfold bmD at z
    split at z <;> first | exact z.elim | skip
    all_goals first | (rename_i hc; cases hc; done) | skip
    · split at z <;> try exact z.elim
      rename_i kvs k hS e2
      split at z <;> try exact z.elim
      rename_i hz
      cases p with
      | ref hm =>
      obtain ⟨v1, v2, rfl, q1, q2⟩ := reps2 q
      obtain ⟨ws, hw, pw⟩ := r.ob _ _ _ hm hS
      obtain ⟨g1, g2⟩ := val_ok pw k
      refine ⟨_, ws, k, v2, rfl, hw, by rw [← pw.length, ← SZ_eq]; exact hz, by rw [key_ok q1 e2], fun v hv => ?_, fun hv => ?_⟩
      · cases hg : getK kvs k with
        | none => rw [g2 hg] at hv; cases hv
        | some dv =>
          rw [hg] at z
          obtain ⟨v', e3, e4⟩ := g1 _ hg
          rw [e3] at hv; cases hv
          exact z _ W H Ext.refl r e4
      · cases hg : getK kvs k with
        | none =>
          rw [hg] at z
          obtain ⟨e, r'⟩ := r.putD hm (put_ok (k := k) pw q2)
          exact z _ W _ e r' (q2.mono r.trk e)
        | some dv => obtain ⟨v', e3, e4⟩ := g1 _ hg; rw [e3] at hv; cases hv
  | popL =>
    refine s_bm_of .popL o as io ia rfl fun X Wi eK c u tk => ⟨"list", "list.pop", _, PySem.F.plainAttrs_list, PySem.F.slot_list_pop, PySem.F.type_list_pop, MtR.toS mt_popAt, fun W S H d x r p h => lstR_ok r p h, fun W S H d x as vs Q σ r p q z => ?_⟩
    unfold bmD at z
    split at z <;> first | exact z.elim | skip
    all_goals first | (rename_i hc; cases hc; done) | skip
    · split at z <;> try exact z.elim
      rename_i xs hS
      split at z <;> try exact z.elim
      rename_i hz
      split at z <;> try exact z.elim
      rename_i dv hg
      cases p with
      | ref hm =>
      obtain ⟨v1, rfl, q1⟩ := reps1 q
      cases q1
      obtain ⟨ws, hw, pw⟩ := r.ob _ _ _ hm hS
      obtain ⟨hi, hx⟩ := List.getElem?_eq_some_iff.mp hg
      obtain ⟨v, e3, e4⟩ := pw.get hg
      obtain ⟨e, r'⟩ := r.putL hm (pw.erase _)
      have hS' : SZ = 16777216 := rfl
      refine ⟨_, ws, _, _, v, rfl, rfl, hw, by omega, by omega, ?_, e3, z _ W _ e r' (e4.mono r.trk e)⟩
      rw [pw.lens]
      unfold seqIndex?
      have h0 := Int.not_lt.mpr hz.1
      have h1 := hz.1
      simp only [if_neg h0]
      rw [if_pos (by simp; omega)]
  | split =>
    refine s_bm_of .split o as io ia rfl fun X Wi eK c u tk => ⟨"str", "str.split", _, PySem.F.plainAttrs_str, PySem.F.slot_str_split, PySem.F.type_str_split, MtR.toS mt_split, fun W S H d x r p h => tyV_str p h, fun W S H d x as vs Q σ r p q z => ?_⟩
    obtain ⟨a, d', rfl, e, f⟩ := bm_str (by simp) z
    have := str_arg p rfl; subst this
    simp only [bmStr] at e
    split at e <;> try (cases e; done)
    all_goals first | (rename_i hc _; cases hc; done) | (rename_i hc; cases hc; done) | skip
    obtain ⟨v1, rfl, q1⟩ := reps1 q
    cases q1
    split at e
    · rename_i hz
      cases e
      exact ⟨a, _, rfl, rfl, len_ne0 hz.1, by rw [← SZ_eq]; exact hz.2, strs_laid r f⟩
    · cases e
  | partition =>
    refine s_bm_of .partition o as io ia rfl fun X Wi eK c u tk => ⟨"str", "str.partition", _, PySem.F.plainAttrs_str, PySem.F.slot_str_partition, PySem.F.type_str_partition, MtR.toS mt_partition, fun W S H d x r p h => tyV_str p h, fun W S H d x as vs Q σ r p q z => ?_⟩
    obtain ⟨a, d', rfl, e, f⟩ := bm_str (by simp) z
    have := str_arg p rfl; subst this
    simp only [bmStr] at e
    split at e <;> try (cases e; done)
    all_goals first | (rename_i hc _; cases hc; done) | (rename_i hc; cases hc; done) | skip
    obtain ⟨v1, rfl, q1⟩ := reps1 q
    cases q1
    split at e
    · rename_i hz
      cases e
      exact ⟨a, _, rfl, rfl, len_ne0 hz.1, by rw [← SZ_eq]; exact hz.2, fun p hp => f.tup r (.cons (.str _) (.cons (.str _) (.cons (.str _) .nil))) hp⟩
    · cases e
  | join =>
    refine s_bm_of .join o as io ia rfl fun X Wi eK c u tk => ⟨"str", "str.join", _, PySem.F.plainAttrs_str, PySem.F.slot_str_join, PySem.F.type_str_join, MtR.toS mt_join, fun W S H d x r p h => tyV_str p h, fun W S H d x as vs Q σ r p q z => ?_⟩
    subst eK
    obtain ⟨a, d', rfl, e, f⟩ := bm_str (by simp) z
    have := str_arg p rfl; subst this
    simp only [bmStr] at e
    split at e <;> try (cases e; done)
    all_goals first | (rename_i hc _; cases hc; done) | (rename_i hc; cases hc; done) | skip
    obtain ⟨v1, rfl, q1⟩ := reps1 q
    split at e <;> try (cases e; done)
    rename_i xs hs
    split at e <;> try (cases e; done)
    rename_i ys hy
    split at e <;> try (cases e; done)
    rename_i hz
    cases e
    obtain ⟨b, ws, rfl, h1, h2⟩ := rep_seq r q1 hs
    have := reps_strs h2 hy
    subst this
    exact ⟨a, b, ys, rfl, rfl, h1, hz, f.here r (.str _)⟩
  | find =>
    refine s_bm_of .find o as io ia rfl fun X Wi eK c u tk => ⟨"str", "str.find", _, PySem.F.plainAttrs_str, PySem.F.slot_str_find, PySem.F.type_str_find, MtR.toS mt_find, fun W S H d x r p h => tyV_str p h, fun W S H d x as vs Q σ r p q z => ?_⟩
    obtain ⟨a, d', rfl, e, f⟩ := bm_str (by simp) z
    have := str_arg p rfl; subst this
    simp only [bmStr] at e
    split at e <;> try (cases e; done)
    all_goals first | (rename_i hc _; cases hc; done) | (rename_i hc; cases hc; done) | skip
    obtain ⟨v1, rfl, q1⟩ := reps1 q
    cases q1
    cases e
    exact ⟨a, _, rfl, rfl, f.here r (.int _)⟩
  | startswith =>
    refine s_bm_of .startswith o as io ia rfl fun X Wi eK c u tk => ⟨"str", "str.startswith", _, PySem.F.plainAttrs_str, PySem.F.slot_str_startswith, PySem.F.type_str_startswith, MtR.toS mt_startswith, fun W S H d x r p h => tyV_str p h, fun W S H d x as vs Q σ r p q z => ?_⟩
    obtain ⟨a, d', rfl, e, f⟩ := bm_str (by simp) z
    have := str_arg p rfl; subst this
    simp only [bmStr] at e
    split at e <;> try (cases e; done)
    all_goals first | (rename_i hc _; cases hc; done) | (rename_i hc; cases hc; done) | skip
    obtain ⟨v1, rfl, q1⟩ := reps1 q
    cases q1
    cases e
    exact ⟨a, _, rfl, rfl, f.here r (.bl _)⟩
  | index =>
    refine s_bm_of .index o as io ia rfl fun X Wi eK c u tk => ⟨"str", "str.index", _, PySem.F.plainAttrs_str, PySem.F.slot_str_index, PySem.F.type_str_index, mt_index0 c, fun W S H d x r p h => tyV_str p h, fun W S H d x as vs Q σ r p q z => ?_⟩
    obtain ⟨a, d', rfl, e, f⟩ := bm_str (by simp) z
    have := str_arg p rfl; subst this
    simp only [bmStr] at e
    split at e <;> try (cases e; done)
    all_goals first | (rename_i hc _; cases hc; done) | (rename_i hc; cases hc; done) | skip
    obtain ⟨v1, rfl, q1⟩ := reps1 q
    cases q1
    rw [Option.map_eq_some_iff] at e
    obtain ⟨k, e1, e2⟩ := e
    subst e2
    exact ⟨a, _, rfl, rfl, fun k' h' => by rw [e1] at h'; cases h'; exact f.here r (.int _), fun h' => by rw [e1] at h'; cases h'⟩
  | count =>
    exact ⟨fun sc x X Wi h C tk => by
      simp only [chk] at h
      split at h <;> try (cases h; done)
      rename_i ps _
      simp only [Bool.and_eq_true] at h
      have := h.1.1.1.1.2
      rcases ps with _ | ⟨_, _ | ⟨_, _ | _⟩⟩ <;> simp [bmA] at this, fun sc x X Wi h C tk => by simp [chkT] at h, fun sc a X Wi h C tk => by simp [chkA] at h⟩
  | upper =>
    refine ⟨fun sc x X Wi h C tk => ?_, fun sc x X Wi h C tk => by simp [chkT] at h, fun sc a X Wi h C tk => by simp [chkA] at h⟩
    simp only [chk] at h
    split at h <;> try (cases h; done)
    rename_i e t ap ps cp
    simp only [Bool.and_eq_true, decide_eq_true_eq] at h
    obtain ⟨⟨⟨⟨⟨h0, h1⟩, h2⟩, h3⟩, h4⟩, h5⟩ := h
    subst h0
    have base : ∀ n : Str, attributeBase e n X.env (eval e X.env) = eval e X.env := fun n => base_ok h3
    cases ps with
    | cons p ps => cases ps <;> simp [bmA] at h1
    | nil =>
      refine (pe_bm0 PySem.F.plainAttrs_str PySem.F.slot_str_upper PySem.F.type_str_upper mt_upper (io.v _ _ X Wi h4 C tk) (base _) h2).imp fun σ H Q wq => ?_
      obtain ⟨W, S, env, E, r0, z⟩ := wq
      simp only [ev] at z
      refine ⟨W, S, env, E, r0, (Wq.bind (rp := rpD K) z).mono fun x H1 z => ?_⟩
      obtain ⟨W1, S1, dx, e1, r1, p1, z⟩ := z
      split at z <;> try exact z.elim
      rename_i hk
      have e1 := C.hK
      subst e1
      refine ⟨tyV_str p1 hk, ?_⟩
      have hc : as = .nil := by cases as <;> simp only [chkA] at h5 <;> first | rfl | cases h5
      subst hc
      simp only [ev, R.bind_ok, toTup] at z
      obtain ⟨a, d', rfl, e, f⟩ := bm_str (by simp) z
      have := str_arg p1 rfl; subst this
      simp only [bmStr] at e
      split at e
      · rename_i hz
        cases e
        exact ⟨a, rfl, rfl, hz, f.here r1 (.str _)⟩
      · cases e
/-! ### f-strings -/
theorem fmt_len {d : D} {y : Str} (h : fmtD d = some y) : y.length ≤ 1000000 := by
  cases d with
  | str x =>
    simp only [fmtD] at h
    split at h
    · cases h; assumption
    · cases h
  | int i =>
    simp only [fmtD] at h
    split at h
    · rename_i z
      obtain ⟨z1, z2⟩ := tst_iff.mp z
      cases h
      obtain ⟨n, rfl⟩ : ∃ n : Nat, i = n := ⟨i.toNat, by omega⟩
      have e : (TL.tl (Str.ofString (toString ((n : Nat) : Int)))).length ≤ 100 := by
        rw [TL.tl_num]
        exact TL.numL_len (by decide) (by exact_mod_cast z2)
      have := TL.len_tl (Str.ofString (toString ((n : Nat) : Int)))
      show (Str.ofString (toString ((n : Nat) : Int))).length ≤ 1000000
      omega
    · cases h
  | _ => cases h
theorem str_len_append (x y : Str) : (x ++ y).length = x.length + y.length := by
  rw [TL.len_tl, TL.len_tl x, TL.len_tl y, TL.tl_append, List.length_append]
theorem log2_small {i : Int} (h0 : 0 ≤ i) (h : i < 10 ^ 100) : i.natAbs.log2 < 1920 := by
  by_cases z : i.natAbs = 0
  · rw [z]; decide
  · rw [Nat.log2_lt z]
    have h1 : i.natAbs < 10 ^ 100 := by
      have : ((i.natAbs : Nat) : Int) < ((10 ^ 100 : Nat) : Int) := by
        rw [Int.natAbs_of_nonneg h0]
        exact_mod_cast h
      exact_mod_cast this
    exact Nat.lt_of_lt_of_le h1 (by decide +kernel)
variable (P w K mg base G Y nm kk N) in
/-- a part of f'..' -/
structure SndM (e : E) : Prop where
  v : ∀ (sc : Scope) (a : Expr) (X : Cx) (Wi : WX), chkM Y N e sc a = true → COk P w K mg base kk N sc X → Tk X Wi → ∃ t : TE, PE X a t ∧ ∀ (σ : L2.St) (H : Hp) (Q : VK), tE K nm Wi (ev G (run G kk) e) σ H (fun x H' => (∃ y : Str, x = .str y ∧ y.length ≤ 1000000) → Q x H') → t σ H Q
theorem m_fmt (a : E) (ia : Snd P w K mg base G Y nm kk N a) : SndM P w K mg base G Y nm kk N (.fmt a) := by
  refine ⟨fun sc x X Wi h C tk => ?_⟩
  simp only [chkM] at h
  split at h <;> try (cases h; done)
  rename_i p c s pos
  simp only [Bool.and_eq_true, decide_eq_true_eq] at h
  obtain ⟨⟨h1, h2⟩, h3⟩ := h
  subst h1
  cases s with
  | some _ => cases h2
  | none =>
  refine ⟨_, pe_fmt (ia.v _ _ X Wi h3 C tk), fun σ H Q wq => ?_⟩
  simp only [ev] at wq
  obtain ⟨W, S, env, E, r, z⟩ := tX.one (g := fun _ x S => R.of ((fmtD x).map D.str) S) wq
  refine ⟨W, S, env, E, r, z.mono fun x H1 z => ?_⟩
  obtain ⟨W1, S1, dx, env1, E1, r1, p1, z⟩ := z
  obtain ⟨d, e, f⟩ := z.fin
  rw [Option.map_eq_some_iff] at e
  obtain ⟨y, e1, e2⟩ := e
  subst e2
  have hl := fmt_len e1
  have fin : Q (.str y) H1 := f _ W1 H1 Ext.refl r1 (.str _) ⟨y, rfl, hl⟩
  cases dx with
  | str x =>
    simp only [fmtD] at e1
    split at e1
    · cases e1
      cases p1
      exact .inl ⟨y, rfl, by rw [sizeLine_eq]; omega, fin⟩
    · cases e1
  | int i =>
    simp only [fmtD] at e1
    split at e1
    · rename_i z
      obtain ⟨z1, z2⟩ := tst_iff.mp z
      cases e1
      cases p1
      exact .inr ⟨i, rfl, log2_small z1 z2, fin⟩
    · cases e1
  | _ => cases e1
theorem m_con (d : D) : SndM P w K mg base G Y nm kk N (.con d) := by
  refine ⟨fun sc x X Wi h C tk => ?_⟩
  cases d <;> simp only [chkM] at h <;> first | (cases h; done) | skip
  split at h <;> try (cases h; done)
  simp only [Bool.and_eq_true, decide_eq_true_eq] at h
  obtain ⟨rfl, h2⟩ := h
  exact ⟨_, pe_str, fun σ H Q ⟨W, S, env, E, r, z⟩ => z _ W H Ext.refl r (.str _) ⟨_, rfl, h2⟩⟩
variable (P w K mg base G Y nm kk N) in
/-- the parts of f'..' -/
structure SndF (e : E) : Prop where
  v : ∀ (sc : Scope) (es : List Expr) (X : Cx) (Wi : WX), chkF Y N e sc es = true → COk P w K mg base kk N sc X → Tk X Wi → ∃ ts : List TE, PJ X es ts ∧ ∀ (n : Nat) (acc : Str) (σ : L2.St) (H : Hp) (Q : Str → Hp → Prop), es.length + n ≤ 12 → acc.length ≤ n * 1000000 →
    tA K nm Wi (ev G (run G kk) e) σ H (fun vs H' => ∀ y : Str, (∃ zs : List Str, vs = zs.map V.str ∧ y = zs.foldr (fun a b => a ++ b) Str.empty) → Q (acc ++ y) H') → tJs ts acc σ H Q
theorem f_nil : SndF P w K mg base G Y nm kk N .nil := by
  refine ⟨fun sc es X Wi h C tk => ?_⟩
  cases es with
  | cons _ _ => simp [chkF] at h
  | nil =>
    refine ⟨[], .nil, fun n acc σ H Q _ _ wq => ?_⟩
    obtain ⟨W, S, env, E, r, z⟩ := wq
    have := z [] W H Ext.refl r ⟨[], rfl, .nil⟩ Str.empty ⟨[], rfl, rfl⟩
    rwa [Str.append_right_empty (by rfl)] at this
theorem f_cons (a as : E) (ia : SndM P w K mg base G Y nm kk N a) (ib : SndF P w K mg base G Y nm kk N as) : SndF P w K mg base G Y nm kk N (.cons a as) := by
  refine ⟨fun sc es X Wi h C tk => ?_⟩
  cases es with
  | nil => simp [chkF] at h
  | cons e es =>
    simp only [chkF, Bool.and_eq_true] at h
    obtain ⟨t, pe, rt⟩ := ia.v _ _ X Wi h.1 C tk
    obtain ⟨ts, pj, rs⟩ := ib.v _ _ X Wi h.2 C tk
    refine ⟨t :: ts, .cons pe pj, fun n acc σ H Q hn ha wq => rt σ H _ ?_⟩
    obtain ⟨W, S, env, E, r, z⟩ := wq
    simp only [ev] at z
    refine ⟨W, S, env, E, r, (Wq.bind (rp := rpD K) z).mono fun x H1 z => ?_⟩
    rintro ⟨y, rfl, hy⟩
    obtain ⟨W1, S1, dx, e1, r1, p1, z⟩ := z
    have hl : (acc ++ y).length ≤ (n + 1) * 1000000 := by rw [str_len_append]; omega
    simp only [List.length_cons] at hn
    refine ⟨y, rfl, by rw [sizeLine_eq]; omega, rs (n + 1) (acc ++ y) σ H1 Q (by omega) hl ⟨W1, S1, env, E.mono r.trk e1, r1, (Wq.bind (rp := rpA K) z).mono fun vs H2 z => ?_⟩⟩
    rintro y2 ⟨zs, rfl, rfl⟩
    obtain ⟨W2, S2, dy, e2, r2, ⟨xs, e3, p2⟩, z⟩ := z
    subst e3
    have := z _ W2 H2 Ext.refl r2 ⟨_, rfl, .cons (p1.mono r1.trk e2) p2⟩ _ ⟨y :: zs, rfl, rfl⟩
    rw [PySem.Str.append_assoc]
    exact this
theorem f_no {e : E} (h : ∀ sc es, chkF Y N e sc es = false) : SndF P w K mg base G Y nm kk N e := ⟨fun sc es X Wi q => by rw [h] at q; cases q⟩
theorem m_no {e : E} (h : ∀ sc es, chkM Y N e sc es = false) : SndM P w K mg base G Y nm kk N e := ⟨fun sc es X Wi q => by rw [h] at q; cases q⟩
theorem catD_strs {xs : List D} {y : Str} {vs : List V} (p : Reps K W H xs vs) (h : catD xs = some y) : ∃ zs : List Str, vs = zs.map V.str ∧ y = zs.foldr (fun a b => a ++ b) Str.empty := by
  induction xs generalizing y vs with
  | nil => cases p; cases h; exact ⟨[], rfl, rfl⟩
  | cons x xs ih =>
    cases p with
    | cons a b =>
      cases a with
      | str i =>
        simp only [catD, Option.map_eq_some_iff] at h
        obtain ⟨js, h1, h2⟩ := h
        subst h2
        obtain ⟨zs, e1, e2⟩ := ih b h1
        exact ⟨i :: zs, by simp [e1], by simp [e2]⟩
      | _ => cases h
theorem vstr_inj : ∀ {a b : List Str}, a.map V.str = b.map V.str → a = b
  | [], [], _ => rfl
  | [], _ :: _, h => by cases h
  | _ :: _, [], h => by cases h
  | x :: a, y :: b, h => by
    simp only [List.map_cons, List.cons.injEq, V.str.injEq] at h
    rw [h.1, vstr_inj h.2]
theorem s_fstr (as : E) (ia : SndF P w K mg base G Y nm kk N as) : Snd P w K mg base G Y nm kk N (.fstr as) := by
  refine ⟨fun sc x X Wi h C tk => ?_, fun sc x X Wi h C tk => by simp [chkT] at h, fun sc a X Wi h C tk => by simp [chkA] at h⟩
  simp only [chk] at h
  split at h <;> try (cases h; done)
  simp only [Bool.and_eq_true, decide_eq_true_eq] at h
  obtain ⟨ts, pj, rs⟩ := ia.v _ _ X Wi h.2 C tk
  refine (pe_joined pj).imp fun σ H Q wq => rs 0 Str.empty σ H _ (by omega) (by decide) ?_
  simp only [ev] at wq
  obtain ⟨W, S, env, E, r, z⟩ := tX.args (g := fun _ xs S => R.of ((catD (toTup xs)).map D.str) S) wq
  refine ⟨W, S, env, E, r, z.mono fun vs H1 z => ?_⟩
  obtain ⟨W1, S1, xs, env1, E1, r1, p1, z⟩ := z
  obtain ⟨d, e, f⟩ := z.fin
  rw [Option.map_eq_some_iff] at e
  obtain ⟨y, e1, e2⟩ := e
  subst e2
  rintro y2 ⟨zs, h1, h2⟩
  obtain ⟨zs', h3, h4⟩ := catD_strs (xs := xs) p1 e1
  have : zs' = zs := vstr_inj (h3.symm.trans h1)
  subst this
  rw [← h4] at h2
  subst h2
  rw [Str.append_left_empty (by rfl)]
  exact f.here r1 (.str _)
/-! ### dict displays -/
variable (P w K mg base G Y nm kk N) in
/-- the values of a display -/
structure SndD (e : E) : Prop where
  v : ∀ (sc : Scope) (ks : List (Option Expr)) (es : List Expr) (xs : List Str) (X : Cx) (Wi : WX) (pos : Pos), chkA Y N e sc es = true → ks.map keyStr = xs.map some → ks.length = es.length → COk P w K mg base kk N sc X → Tk X Wi →
    ∃ trs : List (TE × TE), PPs X pos ks es trs ∧ ∀ (σ : L2.St) (H : Hp) (Q : List (V × V) → Hp → Prop), tA K nm Wi (ev G (run G kk) e) σ H (fun vs H' => vs.length = xs.length → Q ((xs.map V.str).zip vs) H') → tPairs trs σ H Q
theorem d_nil : SndD P w K mg base G Y nm kk N .nil := by
  refine ⟨fun sc ks es xs X Wi pos h hk hl C tk => ?_⟩
  cases es with
  | cons _ _ => simp [chkA] at h
  | nil =>
    have : ks = [] := List.eq_nil_of_length_eq_zero hl
    subst this
    have hx : xs = [] := by cases xs <;> first | rfl | cases hk
    subst hx
    refine ⟨[], pps_nil, fun σ H Q wq => ?_⟩
    obtain ⟨W, S, env, E, r, z⟩ := wq
    exact z [] W H Ext.refl r ⟨[], rfl, .nil⟩ rfl
theorem d_cons (a as : E) (ia : Snd P w K mg base G Y nm kk N a) (ib : SndD P w K mg base G Y nm kk N as) : SndD P w K mg base G Y nm kk N (.cons a as) := by
  refine ⟨fun sc ks es xs X Wi pos h hk hl C tk => ?_⟩
  cases es with
  | nil => simp [chkA] at h
  | cons e es =>
    cases ks with
    | nil => cases hl
    | cons k ks =>
      cases xs with
      | nil => cases hk
      | cons x xs =>
        simp only [List.map_cons, List.cons.injEq] at hk
        obtain ⟨hk1, hk2⟩ := hk
        simp only [chkA, Bool.and_eq_true] at h
        have pe := ia.v _ _ X Wi h.1.2 C tk
        obtain ⟨trs, pps, rd⟩ := ib.v sc ks es xs X Wi pos h.2 hk2 (by simpa using hl) C tk
        unfold keyStr at hk1
        split at hk1 <;> cases hk1
        refine ⟨_, pps_cons pe_str pe pps, fun σ H Q wq => ?_⟩
        show tE K nm Wi (ev G (run G kk) a) σ H fun y H2 => tPairs trs σ H2 fun ps H3 => Q ((V.str x, y) :: ps) H3
        obtain ⟨W, S, env, E, r, z⟩ := wq
        simp only [ev] at z
        refine ⟨W, S, env, E, r, (Wq.bind (rp := rpD K) z).mono fun y H1 z => rd σ H1 _ ?_⟩
        obtain ⟨W1, S1, dx, e1, r1, p1, z⟩ := z
        refine ⟨W1, S1, env, E.mono r.trk e1, r1, (Wq.bind (rp := rpA K) z).mono fun vs H2 z hv => ?_⟩
        obtain ⟨W2, S2, dy, e2, r2, ⟨ys, e3, p2⟩, z⟩ := z
        subst e3
        exact z _ W2 H2 Ext.refl r2 ⟨_, rfl, .cons (p1.mono r1.trk e2) p2⟩ (by simp [hv])
theorem d_no {e : E} (h : ∀ sc es, chkA Y N e sc es = false) : SndD P w K mg base G Y nm kk N e := ⟨fun sc ks es xs X Wi pos q => by rw [h] at q; cases q⟩
theorem repK_zip : ∀ {xs : List Str} {ds : List D} {vs : List V} {W : Wd} {H : Hp}, xs.length = ds.length → Reps K W H ds vs → RepK K W H ((xs.map Sum.inr).zip ds) ((xs.map Sum.inr).zip vs)
  | [], _, _, _, _, _, _ => .nil
  | _ :: _, [], _, _, _, h, _ => by cases h
  | x :: xs, d :: ds, _, _, _, h, .cons a b => .cons a (repK_zip (by simpa using h) b)
theorem merge_ok {W : Wd} {H : Hp} : ∀ {es ds : List (Ky × D)} {us vs : List (Key × V)}, RepK K W H es us → RepK K W H ds vs → RepK K W H (es.foldl (fun acc kv => setK acc kv.1 kv.2) ds) (mergeK vs us)
  | [], ds, us, vs, p, q => by cases p; exact q
  | e :: es, ds, us, vs, p, q => by
    cases p with
    | @cons k d v _ vs' a b =>
      have := merge_ok b (put_ok (k := k) q a)
      exact this
theorem s_dict (ks vs : E) (iv : SndD P w K mg base G Y nm kk N vs) : Snd P w K mg base G Y nm kk N (.dict ks vs) := by
  refine ⟨fun sc x X Wi h C tk => ?_, fun sc x X Wi h C tk => by simp [chkT] at h, fun sc a X Wi h C tk => by simp [chkA] at h⟩
  simp only [chk] at h
  split at h <;> try (cases h; done)
  rename_i keys es pos
  split at h <;> try (cases h; done)
  rename_i xs hxs
  simp only [Bool.and_eq_true, decide_eq_true_eq] at h
  obtain ⟨⟨⟨h1, h2⟩, h3⟩, h4⟩ := h
  obtain ⟨trs, pps, rd⟩ := iv.v sc keys es xs X Wi pos h4 h1 h3 C tk
  have lx : keys.length = xs.length := by have := congrArg List.length h1; simpa using this
  have all : keys.all (·.isSome) = true := by
    rw [List.all_eq_true]
    intro k hk
    cases k with
    | some _ => rfl
    | none =>
      have : keyStr none ∈ keys.map keyStr := List.mem_map.mpr ⟨none, hk, rfl⟩
      rw [h1] at this
      obtain ⟨y, _, e⟩ := List.mem_map.mp this
      cases e
  refine (pe_disp pps all h3 (fun z => by rw [z] at h2; simp at h2) h2.2).imp fun σ H Q wq => ?_
  obtain ⟨W, S, env, E, r, z⟩ := wq
  simp only [ev] at z
  intro p hp
  refine rd σ _ _ ⟨W.add p, S, env, E.addB hp, r.addB hp, ?_⟩
  have al : Ext W H W (upd H p (.dK [])) := Ext.alloc hp
  have ta : Trk W (upd H p (.dK [])) := (r.alloc hp).trk
  cases hv : ev G (run G kk) vs env S with
  | bad => rw [hv] at z; exact z.elim
  | ex c S1 =>
    rw [hv] at z
    intro W' H' e' r'
    have w' := wd_eta (W2 := W) e'.B
    exact z _ H' (ext_back al ta e') (w' ▸ r' : Rel K nm ((⟨W'.m, W.B⟩ : Wd).add p) S1 H').delB
  | ok d S1 =>
    rw [hv] at z
    simp only [R.bind_ok, hxs] at z
    intro us W' H' e' r' ⟨ys, e3, p3⟩ hl
    subst e3
    have hy : ys.length = xs.length := by rw [← hl]; exact p3.lens.symm
    simp only [toTup, hy, if_true] at z
    have w' := wd_eta (W2 := W) e'.B
    rw [w'] at r' p3
    have np : p ∉ W.m := (r.fresh hp).1
    have nB : p ∉ W.B := (r.fresh hp).2
    have hH : H' p = some (.dK []) := e'.keep p _ upd_same np
    refine ⟨hH, (xs.map Sum.inr).zip us, ?_, ?_, ?_⟩
    · have : ∀ (xs : List Str) (us : List V), (xs.map V.str).zip us = ((xs.map Sum.inr).zip us).map fun kv : Key × V => (kV kv.1, kv.2) := by
        intro xs
        induction xs with
        | nil => intro us; rfl
        | cons x xs ih => intro us; cases us with
          | nil => rfl
          | cons u us => simp only [List.map_cons, List.zip_cons_cons, ih us]; rfl
      exact this xs us
    · rw [List.length_zip, List.length_map]; omega
    · have em : Ext W H ⟨W'.m ++ [p], W.B⟩ H' := by
        obtain ⟨t, et, ft⟩ := (ext_back al ta e').m
        refine ⟨rfl, ⟨t ++ [p], by show W'.m ++ [p] = _; rw [show W'.m = W.m ++ t from et, List.append_assoc], fun a ha => ?_⟩, (ext_back al ta e').keep⟩
        rcases List.mem_append.mp ha with ha | ha
        · exact ft a ha
        · rw [List.mem_singleton.mp ha]; exact hp
      have r2 : Rel K nm ⟨W'.m ++ [p], W.B⟩ (S1 ++ [.dct []]) H' := r'.moveO (ob := .dct []) ⟨[], hH, .nil⟩ nB
      have hl' : W'.m.length = S1.length := r'.len
      have at1 : (⟨W'.m ++ [p], W.B⟩ : Wd).m[S1.length]? = some p := by
        show (W'.m ++ [p])[S1.length]? = some p
        rw [← hl', List.getElem?_append_right (Nat.le_refl _), Nat.sub_self]
        rfl
      have pk : RepK K ⟨W'.m ++ [p], W.B⟩ H' (mergeD ((xs.map Sum.inr).zip ys)) (mergeK [] ((xs.map Sum.inr).zip us)) := merge_ok (repK_zip hy.symm p3.moveB) .nil
      obtain ⟨e4, r4⟩ := r2.putD at1 pk
      rw [List.set_append_right _ _ (Nat.le_refl _), Nat.sub_self] at r4
      exact z (.ref p) _ _ (em.trans r2.trk e4) r4 (.ref at1)
end
end PL

set_option Elab.async false
set_option linter.all false
set_option maxRecDepth 100000
set_option maxHeartbeats 2000000
/-! PLZ: exceptions; fields, methods, making. -/
namespace PL
open PySem PySem.Spec PyProof.Rows L2
/-- X(), X an own exception class without own __init__ -/
theorem pmk_own0 {X : Cx} {C : Addr} {bmB : List Value} {B newId initId : String} {x : Str} {p pos : Pos} (F : ExcBaseFacts B newId initId bmB) (q : PySem.W.excIn X.K C bmB newId = true) (gC : X.mg x = some (.ref C)) (kC : PySem.W.keepIn X.K (.ref C) = true)
    (r : Raises X (.ref C)) (hg : Gl X x) (hdb : (x == ("__debug__" : Str)) = false) : PMk X (.Call (.Name x p) [] [] pos) (fun _ H Q => Q (.ref C) none H) := by
  intro pins s σ H Q I h
  refine wpAny_Call_Name_kw (ld_glob I hg gC (PySem.W.callWith_K0 I.kIn kC ?_) hdb)
  obtain ⟨bm, N, nm, qn, bs, hdct, sn, sub, ab, col, dd, k0, k1, k2, k3, k5, mN, hC, hN, hni, T⟩ := exc_obj I.kIn q
  refine wpAny_call_exc_subT F T hC hN hni (fun h' e hm => ?_) (Nat.zero_le _)
  exact mk_of I hm r h (I.hok.gone hm.new)
section
variable {P : Program} {w : World} {K : PySem.W.Frag} {mg : Str → Option Value} {base : Heap} {G : Tab} {Y : Sx} {nm : Nm} {fa : Nat → Addr} {fd : Nat → FuncData} {ps : Nat → List Str} {kk : Nat} {N : List Str}
variable {sc : Scope} {X : Cx} {Wi : WX} {W W' : Wd} {H H' : Hp} {S S' : Store}
/-! ### fields -/
theorem fld_at (inj : ∀ f g, nm.fn f = nm.fn g → f = g) {ds : List (Nat × D)} {vs : List (Str × V)} (p : RepF K W H nm.fn ds vs) {f : Nat} {d : D} (h : fldOf ds f = some d) : ∃ v, vs.lookup (nm.fn f) = some v ∧ Rep K W H d v := by
  induction p with
  | nil => cases h
  | @cons g d' v' ds vs a _ ih =>
    simp only [fldOf] at h
    by_cases e : g = f
    · subst e
      rw [if_pos rfl] at h
      cases h
      exact ⟨v', by simp, a⟩
    · rw [if_neg e] at h
      obtain ⟨v, h1, h2⟩ := ih h
      refine ⟨v, ?_, h2⟩
      have hb : (nm.fn f == nm.fn g) = false := beq_eq_false_iff_ne.mpr fun z => e (inj _ _ z).symm
      rw [List.lookup_cons, hb]
      exact h1
theorem fld_no {ds : List (Nat × D)} {vs : List (Str × V)} (p : RepF K W H nm.fn ds vs) {n : Str} (h : ∀ g, nm.fn g ≠ n) : vs.lookup n = none := by
  induction p with
  | nil => rfl
  | @cons g d' v' ds vs a _ ih =>
    have hb : (n == nm.fn g) = false := beq_eq_false_iff_ne.mpr fun z => h g z.symm
    rw [List.lookup_cons, hb]
    exact ih
theorem fld_len {ds : List (Nat × D)} {vs : List (Str × V)} (p : RepF K W H nm.fn ds vs) : ds.length = vs.length := by
  induction p with
  | nil => rfl
  | cons _ _ ih => simp [ih]
theorem fld_put (inj : ∀ f g, nm.fn f = nm.fn g → f = g) {ds : List (Nat × D)} {vs : List (Str × V)} (p : RepF K W H nm.fn ds vs) {f : Nat} {d : D} {v : V} (q : Rep K W H d v) : RepF K W H nm.fn (fldPut ds f d) (putF (nm.fn f) v vs) := by
  induction p with
  | nil => exact .cons q .nil
  | @cons g d' v' ds vs a b ih =>
    simp only [fldPut, putF]
    by_cases e : g = f
    · subst e
      rw [if_pos rfl, if_pos rfl]
      exact .cons q b
    · rw [if_neg e, if_neg fun z => e (inj _ _ z)]
      exact .cons a ih
theorem ins_at {d : D} {v : V} {c : Nat} (r : Rel K nm W S H) (p : Rep K W H d v) (h : clsD d S = some c) : ∃ (n : Nat) (a dx : Addr) (fs : List (Nat × D)) (vs : List (Str × V)), d = .ref n ∧ v = .ref a ∧ W.m[n]? = some a ∧ S[n]? = some (.ins c fs) ∧ H a = some (.ins (nm.C c) dx vs) ∧ RepF K W H nm.fn fs vs := by
  cases p with
  | @ref n a h1 =>
    simp only [clsD] at h
    split at h
    · rename_i c' fs e
      cases h
      obtain ⟨dx, vs, e1, e2⟩ := r.ob n a _ h1 e
      exact ⟨n, a, dx, fs, vs, rfl, rfl, h1, e, e1, e2⟩
    · cases h
  | _ => cases h
theorem s_fld (g : GOk K mg G Y nm fa fd ps) (c : Nat) (o : E) (f : Nat) (io : Snd P w K mg base G Y nm kk N o) : Snd P w K mg base G Y nm kk N (.fld c o f) := by
  refine ⟨fun sc x X Wi h C tk => ?_, fun sc x X Wi h C tk => by simp [chkT] at h, fun sc a X Wi h C tk => by simp [chkA] at h⟩
  simp only [chk] at h
  split at h <;> try (cases h; done)
  simp only [Bool.and_eq_true, decide_eq_true_eq] at h
  obtain ⟨⟨⟨h1, h2⟩, h3⟩, h4⟩ := h
  obtain ⟨cx, hc⟩ := Option.isSome_iff_exists.mp h1
  obtain ⟨cls, _, na⟩ := g.cl c cx hc
  obtain ⟨na, rfl⟩ := na f _ h2
  have eK := C.hK
  subst eK
  refine (pe_fld (io.v _ _ X Wi h4 C tk) (base_ok h3)).imp fun σ H Q wq => ?_
  simp only [ev] at wq
  obtain ⟨W, S, env, E, r, z⟩ := tX.one (g := fun _ x S => if clsD x S = some c then R.of (fldD x f S) S else R.bad) wq
  refine ⟨W, S, env, E, r, z.mono fun x H1 z => ?_⟩
  obtain ⟨W1, S1, dx, env1, E1, r1, p1, z⟩ := z
  split at z <;> try exact z.elim
  rename_i hcl
  obtain ⟨d, e, fi⟩ := z.fin
  obtain ⟨n, a, dx', fs, vs, rfl, rfl, h5, h6, h7, h8⟩ := ins_at r1 p1 hcl
  simp only [fldD, h6] at e
  obtain ⟨v, h9, h10⟩ := fld_at g.inj h8 e
  exact ⟨a, nm.C c, dx', vs, v, rfl, h7, cls, na, h9, fi.here r1 h10⟩

/-! ### methods -/
theorem meth_eval {o : Expr} {m : Str} {apos pos : Pos} {args : List Expr} {env : PySem.Env} (hb : attributeBase o m env (eval o env) = eval o env) (hf : methodCallForm (args.length + ([] : List Keyword).length) (backTo pos (starEach args env)) (backToKw pos (keywordEach [] env)) = true) (hl : (apos.endLine == pos.line) = true) :
    eval (.Call (.Attribute o m apos) args [] pos) env = (do let ov ← eval o env; standAt apos.atName; let (f, first) ← holding [ov] (getMethod ov m (do return (← importBound o env).getD true)); callWith pos f first (backTo pos (starEach args env)) (backToKw pos (keywordEach [] env))) := by
  have hp : methodCallPos true o env apos pos = pure pos := by unfold methodCallPos; simp [hl]
  rw [arm_eval_Call, hb]
  unfold methodCall
  rw [hf, hp]
  rfl
theorem form_ok {as : E} {es : List Expr} {env : PySem.Env} {pos : Pos} (h : chkA Y N as sc es = true) (hl : es.length ≤ 20) : methodCallForm (es.length + ([] : List Keyword).length) (backTo pos (starEach es env)) (backToKw pos (keywordEach [] env)) = true := by
  have h1 : (backTo pos (starEach es env)).any (·.1) = false := stars_ok (e := .emp) h
  have h2 : (backTo pos (starEach es env)).all (fun x => !x.1) = true := by
    rw [List.all_eq_not_any_not]
    simpa using h1
  unfold methodCallForm
  rw [h2]
  have h3 : decide (es.length + ([] : List Keyword).length + 0 < 30) = true := decide_eq_true (by simp; omega)
  exact h3
def tMethS (C : Addr) (m : Str) (sp : Sp) (E : L2.St → XK) (ta : TE) (t : TA) : TE := fun σ H Q => ta σ H fun x H1 => ∃ a dx fs, x = .ref a ∧ H1 a = some (.ins C dx fs) ∧ fs.lookup m = none ∧ t σ H1 fun vs H2 => sp (x :: vs) H2 Q (E σ)
theorem pe_methAt {X : Cx} {o e : Expr} {es : List Expr} {m : Str} {apos pos : Pos} {ta : TE} {t : TA} {C f : Addr} {CX : CXT} {k : Nat} {fdt : FuncData} {psf : List Str} {sp : Sp} {E : L2.St → XK} {pl : Sem Bool} (he : PE X o ta) (c : Cls X.K C) (hm : Meth X.K C m f) (F : FnOk X.prog X.w X.K X.mg X.base CX k f fdt psf sp)
    (hr : Room k X.A) (hb : Binds X.K fdt psf []) (hx : ∀ σ, PassesAt CX X σ (E σ)) (ha : PA X (e :: es) t) (hst : starEach (e :: es) X.env = (false, eval e X.env) :: starEach es X.env) (hpl : (backTo pos (starEach es X.env)).any (·.1) = false)
    (ht : eval (.Call (.Attribute o m apos) (e :: es) [] pos) X.env = (do let ov ← eval o X.env; standAt apos.atName; let (f, first) ← holding [ov] (getMethod ov m pl); callWith pos f first (backTo pos (starEach (e :: es) X.env)) (backToKw pos (keywordEach [] X.env)))) :
    PE X (.Call (.Attribute o m apos) (e :: es) [] pos) (tMethS C m sp E ta t) := by
  refine ⟨fun pins s σ H Q I h => ?_⟩
  refine PySem.W.methodCall_KW (pl := pl) (thn (he.run pins s σ H _ I h) fun u s1 ⟨x, H1, I1, rx, a, dx, fs, ex, ea, l, q⟩ => ?_) ht
  subst ex
  cases (show u = Value.ref a from rx)
  refine getmeth_ok I1 ea c hm l (PySem.W.callWith_K (first := [.ref a]) (h₀ := X.base) I1.ok.mod.kin hm.kp (thn (ha.run pos pins s1 σ H1 _ I1 q) fun us s2 ⟨vs, H2, I2, r, q2⟩ => ⟨I2.kIn, ?_⟩) hst hpl)
  exact run_fnS (us := .ref a :: us) (vs := .ref a :: vs) F hr hb (hx σ) I2 (.cons rfl r) q2
theorem pe_methAt0 {X : Cx} {o : Expr} {m : Str} {apos pos : Pos} {ta : TE} {C f : Addr} {CX : CXT} {k : Nat} {fdt : FuncData} {psf : List Str} {sp : Sp} {E : L2.St → XK} {pl : Sem Bool} (he : PE X o ta) (c : Cls X.K C) (hm : Meth X.K C m f) (F : FnOk X.prog X.w X.K X.mg X.base CX k f fdt psf sp)
    (hr : Room k X.A) (hb : Binds X.K fdt psf []) (hx : ∀ σ, PassesAt CX X σ (E σ))
    (ht : eval (.Call (.Attribute o m apos) [] [] pos) X.env = (do let ov ← eval o X.env; standAt apos.atName; let (f, first) ← holding [ov] (getMethod ov m pl); callWith pos f first (backTo pos (starEach [] X.env)) (backToKw pos (keywordEach [] X.env)))) :
    PE X (.Call (.Attribute o m apos) [] [] pos) (tMethS C m sp E ta tNil) := by
  refine ⟨fun pins s σ H Q I h => ?_⟩
  refine PySem.W.methodCall_KW (pl := pl) (thn (he.run pins s σ H _ I h) fun u s1 ⟨x, H1, I1, rx, a, dx, fs, ex, ea, l, q⟩ => ?_) ht
  subst ex
  cases (show u = Value.ref a from rx)
  refine getmeth_ok I1 ea c hm l ?_
  exact PySem.W.callWith_K0 (first := [.ref a]) I1.kIn hm.kp (run_fnS (us := [.ref a]) (vs := [.ref a]) F hr hb (hx σ) I1 (.cons rfl .nil) q)
theorem s_meth (g : GOk K mg G Y nm fa fd ps) (hF : ∀ f : Nat, (G.fns f).isSome = true → FnOk P w K mg base (L2.CX P w) (2 * kk) (fa f) (fd f) (ps f) (spF K nm G kk f)) (c : Nat) (o : E) (m : Nat) (as : E) (io : Snd P w K mg base G Y nm kk N o) (ia : Snd P w K mg base G Y nm kk N as) :
    Snd P w K mg base G Y nm kk N (.meth c o m as) := by
  refine ⟨fun sc x X Wi h C tk => ?_, fun sc x X Wi h C tk => by simp [chkT] at h, fun sc a X Wi h C tk => by simp [chkA] at h⟩
  simp only [chk] at h
  split at h <;> try (cases h; done)
  rename_i e n ap es cp
  simp only [Bool.and_eq_true, decide_eq_true_eq] at h
  obtain ⟨⟨⟨⟨⟨h1, h2⟩, hln⟩, h20⟩, h3⟩, h4⟩ := h
  obtain ⟨f, hf, hl, cls, meth, nof⟩ := g.me c m n h1
  have hev := meth_eval (o := e) (m := n) (base_ok (n := n) (env := X.env) h2) (form_ok (pos := cp) h4 h20) hln
  have F := hF f hl
  have bb := g.bi f hl
  obtain ⟨e1, e2, e3, e4, e5⟩ := And.intro C.hP (And.intro C.hw (And.intro C.hK (And.intro C.hm C.hb)))
  subst e1 e2 e3 e4 e5
  have po := io.v _ _ X Wi h3 C tk
  have pa := ia.l _ _ X Wi h4 C tk
  have go : ∀ {σ : L2.St} {H : Hp} {Q : VK}, tE X.K nm Wi (ev G (run G kk) (.meth c o m as)) σ H Q → tMethS (nm.C c) n (spF X.K nm G kk f) (WE Wi) (tE X.K nm Wi (ev G (run G kk) o)) (tA X.K nm Wi (ev G (run G kk) as)) σ H Q := fun {σ H Q} wq => by
    obtain ⟨W, S, env, E, r, z⟩ := wq
    simp only [ev] at z
    refine ⟨W, S, env, E, r, (Wq.bind (rp := rpD X.K) z).mono fun x H1 z => ?_⟩
    obtain ⟨W1, S1, dx, e1, r1, p1, z⟩ := z
    rw [hf] at z
    cases hc : clsD dx S1 with
    | none => rw [hc] at z; exact z.elim
    | some c' =>
      rw [hc] at z
      dsimp only at z
      split at z <;> try exact z.elim
      rename_i hcc
      subst hcc
      obtain ⟨n', a, dx', fs, vs, rfl, rfl, h5, h6, h7, h8⟩ := ins_at r1 p1 hc
      refine ⟨a, dx', vs, rfl, h7, fld_no h8 nof, W1, S1, env, E.mono r.trk e1, r1, (Wq.bind (rp := rpA X.K) z).mono fun us H2 z => ?_⟩
      obtain ⟨W2, S2, dy, e2, r2, ⟨ys, e3, p2⟩, z⟩ := z
      subst e3
      exact ⟨W2, S2, .ref n' :: ys, r2, .cons (p1.mono r1.trk e2) p2, z⟩
  cases es with
  | nil =>
    have hc : as = .nil := by cases as <;> simp only [chkA] at h4 <;> first | rfl | cases h4
    subst hc
    refine (pe_methAt0 (E := WE Wi) (k := 2 * kk) po cls meth F (C.room.mono (by omega)) bb (fun σ => tk_at tk σ) hev).imp fun σ H Q wq => ?_
    obtain ⟨W, S, env, E, r, z⟩ := go wq
    refine ⟨W, S, env, E, r, z.mono fun x H1 z => ?_⟩
    obtain ⟨a, dx, fs, h5, h6, h7, W1, S1, env1, E1, r1, z⟩ := z
    exact ⟨a, dx, fs, h5, h6, h7, z [] W1 H1 Ext.refl r1 ⟨[], rfl, .nil⟩⟩
  | cons p es =>
    exact (pe_methAt (E := WE Wi) (k := 2 * kk) po cls meth F (C.room.mono (by omega)) bb (fun σ => tk_at tk σ) pa (star_ok (star1 h4)) (stars_ok1 h4) hev).imp fun σ H Q wq => go wq

/-! ### making -/
def tMakeS (C : Addr) (sp : Sp) (E : L2.St → XK) (t : TA) : TE := fun σ H Q => t σ H fun vs H1 => ∀ x dx, H1 x = none → H1 dx = none → dx ≠ x → sp (.ref x :: vs) (upd (upd H1 dx (.own x)) x (.ins C dx [])) (fun v H2 => v = .non ∧ Q (.ref x) H2) (E σ)
theorem run_makeS {X : Cx} {CX : CXT} {k : Nat} {f C : Addr} {fdt : FuncData} {psf : List Str} {sp : Sp} {E : XK} {pins : List (Addr × Obj)} {σ : L2.St} {H : Hp} {s : Shared} {Q : VK} {us : List Value} {vs : List V} (M : Mk X.K C f) (F : FnOk X.prog X.w X.K X.mg X.base CX k f fdt psf sp)
    (hr : Room (k + 1) X.A) (hb : Binds X.K fdt psf []) (hx : PassesAt CX X σ E) (I : Inv X pins σ H s) (r : Vals vs us)
    (h : ∀ x dx, H x = none → H dx = none → dx ≠ x → sp (.ref x :: vs) (upd (upd H dx (.own x)) x (.ins C dx [])) (fun v H2 => v = .non ∧ Q (.ref x) H2) E) : wpAny (model X.prog X.w) X.A (call (.ref C) us) (EP X pins σ Q) X.xe s := by
  have hq := h (s.heap.objs.size + 1) s.heap.objs.size (I.hok.fresh (Nat.le_succ _)) (I.hok.fresh (Nat.le_refl _)) (Nat.ne_of_lt (Nat.lt_succ_self _))
  have I2 := Inv.made (C := C) I
  have r2 : Vals (V.ref (s.heap.objs.size + 1) :: vs) (Value.ref (s.heap.objs.size + 1) :: us) := .cons rfl r
  have hl : (Value.ref (s.heap.objs.size + 1) :: us ++ ([] : List Value)).length = psf.length := by
    have e := r2.length
    rw [F.len _ _ _ _ hq] at e
    rw [List.append_nil]
    exact e.symm
  have b := hb _ (Value.ref (s.heap.objs.size + 1) :: us) I2.kIn hl
  rw [List.append_nil] at b
  refine wpAny_call (make_map (f := f) I.kIn M.makes M.init (beq_iff_eq.mp M.fn) (codeAny_mono (F.run _ X.stack _ _ ⟨Value.ref (s.heap.objs.size + 1) :: us, []⟩ (Value.ref (s.heap.objs.size + 1) :: us) _ _ E (hr.make C us [])
    (I2.env0.make C us []) b r2 hq) fun r s' hq' => ?_))
  cases r with
  | error e => exact hx pins _ _ e s' I2 hq'
  | ok fl =>
    cases fl with
    | ret u =>
      obtain ⟨v, H', I3, rv, ev, q3⟩ := I2.after hq'
      subst ev
      exact ⟨rv, ⟨V.ref (s.heap.objs.size + 1), H', I3, rfl, q3⟩⟩
    | next => exact hq'.elim
    | brk => exact hq'.elim
    | cont => exact hq'.elim
theorem pe_makeAt {X : Cx} {CX : CXT} {k : Nat} {f C : Addr} {fdt : FuncData} {psf : List Str} {sp : Sp} {E : L2.St → XK} {x : Str} {p pos : Pos} {e : Expr} {es : List Expr} {t : TA} (M : Mk X.K C f) (F : FnOk X.prog X.w X.K X.mg X.base CX k f fdt psf sp)
    (hr : Room (k + 1) X.A) (hg : Gl X x) (hm : X.mg x = some (.ref C)) (hb : Binds X.K fdt psf []) (hx : ∀ σ, PassesAt CX X σ (E σ)) (ha : PA X (e :: es) t) (hdb : (x == ("__debug__" : Str)) = false)
    (he : starEach (e :: es) X.env = (false, eval e X.env) :: starEach es X.env) (hpl : (backTo pos (starEach es X.env)).any (·.1) = false) : PE X (.Call (.Name x p) (e :: es) [] pos) (tMakeS C sp E t) := by
  refine ⟨fun pins s σ H Q I h => wpAny_Call_Name_kw (ld_glob I hg hm (PySem.W.callWith_K (h₀ := X.base) I.ok.mod.kin M.kp (thn (ha.run pos pins s σ H _ I h) fun us s1 ⟨vs, H1, I1, r, q⟩ => ⟨I1.kIn, ?_⟩) he hpl) hdb)⟩
  exact run_makeS M F hr hb (hx σ) I1 r q
theorem pe_makeAt0 {X : Cx} {CX : CXT} {k : Nat} {f C : Addr} {fdt : FuncData} {psf : List Str} {sp : Sp} {E : L2.St → XK} {x : Str} {p pos : Pos} (M : Mk X.K C f) (F : FnOk X.prog X.w X.K X.mg X.base CX k f fdt psf sp)
    (hr : Room (k + 1) X.A) (hg : Gl X x) (hm : X.mg x = some (.ref C)) (hb : Binds X.K fdt psf []) (hx : ∀ σ, PassesAt CX X σ (E σ)) (hdb : (x == ("__debug__" : Str)) = false) : PE X (.Call (.Name x p) [] [] pos) (tMakeS C sp E tNil) :=
  ⟨fun pins s σ H Q I h => wpAny_Call_Name_kw (ld_glob I hg hm (PySem.W.callWith_K0 I.kIn M.kp (run_makeS (us := []) M F hr hb (hx σ) I .nil h)) hdb)⟩
theorem s_mk (g : GOk K mg G Y nm fa fd ps) (hF : ∀ f : Nat, (G.fns f).isSome = true → FnOk P w K mg base (L2.CX P w) (2 * kk) (fa f) (fd f) (ps f) (spF K nm G kk f)) (c : Nat) (as : E) (ia : Snd P w K mg base G Y nm kk N as) : Snd P w K mg base G Y nm kk N (.mk c as) := by
  refine ⟨fun sc x X Wi h C tk => ?_, fun sc x X Wi h C tk => by simp [chkT] at h, fun sc a X Wi h C tk => by simp [chkA] at h⟩
  simp only [chk] at h
  split at h <;> try (cases h; done)
  rename_i x np es cp
  simp only [Bool.and_eq_true, decide_eq_true_eq, Bool.not_eq_true'] at h
  obtain ⟨⟨⟨h1, h2⟩, h3⟩, h4⟩ := h
  obtain ⟨f, hf, hl, M⟩ := g.mke c x h1
  obtain ⟨cls, hmg, _⟩ := g.cl c x h1
  have F := hF f hl
  have bb := g.bi f hl
  obtain ⟨e1, e2, e3, e4, e5⟩ := And.intro C.hP (And.intro C.hw (And.intro C.hK (And.intro C.hm C.hb)))
  subst e1 e2 e3 e4 e5
  have pa := ia.l _ _ X Wi h4 C tk
  have core : ∀ {W : Wd} {S : Store} {H1 : Hp} {xs : List D} {vs : List V} {Q : VK} {σ : L2.St}, Rel X.K nm W S H1 → Reps X.K W H1 xs vs → Wq X.K nm (rpD X.K) W H1 ((run G kk f (.ref S.length :: xs) (S ++ [.ins c []])).bind fun d S' => match d with
      | .non => .ok (.ref S.length) S'
      | _ => .bad) Q (Xw nm Wi σ) → ∀ x dx, H1 x = none → H1 dx = none → dx ≠ x → spF X.K nm G kk f (.ref x :: vs) (upd (upd H1 dx (.own x)) x (.ins (nm.C c) dx [])) (fun v H2 => v = .non ∧ Q (.ref x) H2) (WE Wi σ) := by
    intro W S H1 xs vs Q σ r p z x dx hx hdx hne
    have r1 : Rel X.K nm W S (upd H1 dx (.own x)) := r.alloc hdx
    have hx1 : upd H1 dx (.own x) x = none := by rw [upd_ne (Ne.symm hne)]; exact hx
    have e1 : Ext W H1 W (upd H1 dx (.own x)) := Ext.alloc hdx
    have e2 : Ext W (upd H1 dx (.own x)) ⟨W.m ++ [x], W.B⟩ (upd (upd H1 dx (.own x)) x (.ins (nm.C c) dx [])) := Ext.join hx1
    have r2 := r1.join (ob := .ins c []) (o := .ins (nm.C c) dx []) hx1 ⟨dx, [], upd_same, .nil⟩
    have hm : (W.m ++ [x])[S.length]? = some x := by
      rw [← r.len, List.getElem?_append_right (Nat.le_refl _), Nat.sub_self]
      rfl
    have e12 : Ext W H1 ⟨W.m ++ [x], W.B⟩ (upd (upd H1 dx (.own x)) x (.ins (nm.C c) dx [])) := by
      refine ⟨rfl, ⟨[x], rfl, fun a ha => by rw [List.mem_singleton.mp ha]; exact hx⟩, fun a o h n => ?_⟩
      rw [upd_ne (ne_of_none h hx), upd_ne (ne_of_none h hdx)]
      exact h
    refine ⟨⟨W.m ++ [x], W.B⟩, S ++ [.ins c []], .ref S.length :: xs, r2, .cons (.ref hm) (p.mono r.trk e12), ?_⟩
    have z := Wq.ext e12 r2.trk z
    refine (Wq.bind (rp := rpD X.K) z).mono fun v H2 z => ?_
    obtain ⟨W2, S2, d, e3, r3, p3, z⟩ := z
    cases d with
    | non =>
      cases p3
      obtain ⟨t, et, _⟩ := e3.m
      exact ⟨rfl, z (.ref x) W2 H2 Ext.refl r3 (.ref (by rw [et, List.getElem?_append_left (List.getElem?_eq_some_iff.mp hm).1]; exact hm))⟩
    | _ => exact z.elim
  have go : ∀ {σ : L2.St} {H : Hp} {Q : VK}, tE X.K nm Wi (ev G (run G kk) (.mk c as)) σ H Q → tMakeS (nm.C c) (spF X.K nm G kk f) (WE Wi) (tA X.K nm Wi (ev G (run G kk) as)) σ H Q := fun {σ H Q} wq => by
    simp only [ev, hf] at wq
    obtain ⟨W, S, env, E, r, z⟩ := tX.args (g := fun _ xs S => (run G kk f (.ref S.length :: toTup xs) (S ++ [.ins c []])).bind fun d S' => match d with
      | .non => .ok (D.ref S.length) S'
      | _ => .bad) wq
    refine ⟨W, S, env, E, r, z.mono fun vs H1 z => ?_⟩
    obtain ⟨W1, S1, xs, env1, E1, r1, p1, z⟩ := z
    exact core r1 p1 z
  cases es with
  | nil =>
    have hc : as = .nil := by cases as <;> simp only [chkA] at h4 <;> first | rfl | cases h4
    subst hc
    refine (pe_makeAt0 (E := WE Wi) (k := 2 * kk) M F C.room (gl_ok C h2) hmg bb (fun σ => tk_at tk σ) (dbg_ok h3)).imp fun σ H Q wq => ?_
    obtain ⟨W, S, env, E, r, z⟩ := go wq
    exact z [] W H Ext.refl r ⟨[], rfl, .nil⟩
  | cons p es => exact (pe_makeAt (E := WE Wi) (k := 2 * kk) M F C.room (gl_ok C h2) hmg bb (fun σ => tk_at tk σ) pa (dbg_ok h3) (star_ok (star1 h4)) (stars_ok1 h4)).imp fun σ H Q wq => go wq

/-! ### within an except suite -/
structure COkH (P : Program) (w : World) (K : PySem.W.Frag) (mg : Str → Option Value) (N : List Str) (sc : Scope) (X : Cx) : Prop where
  hK : X.K = K
  hm : X.mg = mg
  hN : X.N = N
  nd : N.Nodup
  sc : X.env.scope = sc
  fn : ∀ x, X.fn x = true
/-- what may stand there -/
def plainE : E → Bool
  | .var _ => true
  | .con _ => true
  | .bin .add a b => plainE a && plainE b
  | .tup as => plainE as
  | .nil => true
  | .cons a as => plainE a && plainE as
  | _ => false
variable (P w K mg G Y nm N) in
structure SndH (call : Calls) (e : E) : Prop where
  v : ∀ (sc : Scope) (a : Expr) (X : Cx), plainE e = true → chk Y N e sc a = true → COkH P w K mg N sc X → PE X a (tE K nm noX (ev G call e))
  l : ∀ (sc : Scope) (a : List Expr) (X : Cx), plainE e = true → chkA Y N e sc a = true → COkH P w K mg N sc X → PA X a (tA K nm noX (ev G call e))
theorem sndH {call : Calls} (e : E) : SndH P w K mg G Y nm N call e := by
  induction e with
  | var i =>
    refine ⟨fun sc a X _ h C => ?_, fun sc a X _ h C => by simp [chkA] at h⟩
    cases a <;> simp only [chk] at h <;> first | (cases h; done) | skip
    rename_i vx vp
    simp only [Bool.and_eq_true, Bool.not_eq_true', decide_eq_true_eq] at h
    obtain ⟨⟨⟨h1, h2⟩, h3⟩, h4⟩ := h
    have hv : Vis X.env.scope vx := by
      rw [C.sc]
      unfold vis at h2
      split at h2
      · exact .inl (by assumption)
      · exact .inr (.inl (by assumption))
      · exact .inr (.inr (by assumption))
      · cases h2
    refine (pe_var (i := i) (by rw [C.hN]; exact h1) hv h3 h4).imp fun σ H Q ⟨W, S, env, E, r, q⟩ => ?_
    simp only [ev] at q
    split at q
    · rename_i d e
      obtain ⟨v, e1, e2⟩ := E.get i d e
      exact ⟨v, e1, q v W H Ext.refl r e2⟩
    · exact q.elim
  | con d =>
    refine ⟨fun sc a X _ h C => ?_, fun sc a X _ h C => by simp [chkA] at h⟩
    simp only [chk] at h
    have fin : ∀ {v : V} {σ : L2.St} {H : Hp} {Q : VK}, (∀ W, Rep K W H d v) → tE K nm noX (ev G call (.con d)) σ H Q → Q v H := fun {v σ H Q} p ⟨W, S, env, E, r, q⟩ => q v W H Ext.refl r (p W)
    split at h <;> first | (cases h; done) | (have h' := of_decide_eq_true h; subst h') | skip
    · exact pe_int.imp fun σ H Q q => fin (fun _ => .int _) q
    · exact pe_bl.imp fun σ H Q q => fin (fun _ => .bl _) q
    · exact pe_non.imp fun σ H Q q => fin (fun _ => .non) q
    · exact pe_str.imp fun σ H Q q => fin (fun _ => .str _) q
  | bin o a b ia ib =>
    refine ⟨fun sc x X hp h C => ?_, fun sc a X _ h C => by simp [chkA] at h⟩
    cases o <;> simp only [plainE] at hp <;> first | (cases hp; done) | skip
    simp only [Bool.and_eq_true] at hp
    cases x <;> simp only [chk] at h <;> first | (cases h; done) | skip
    simp only [Bool.and_eq_true, decide_eq_true_eq] at h
    obtain ⟨⟨h1, h2⟩, h3⟩ := h
    subst h1
    exact (pe_op op_add4 (ia.v _ _ X hp.1 h2 C) (ib.v _ _ X hp.2 h3 C)).imp fun σ H Q wq => tX.op wq fun r p q z => by obtain ⟨d, e, f⟩ := z.fin; have := C.hK; subst this; exact add_ok r p q e f
  | tup as ia =>
    refine ⟨fun sc x X hp h C => ?_, fun sc a X _ h C => by simp [chkA] at h⟩
    simp only [chk] at h
    split at h <;> try (cases h; done)
    refine (pe_tup (ia.l _ _ X hp h C)).imp fun σ H Q wq => ?_
    simp only [ev] at wq
    obtain ⟨W, S, env, E, r, z⟩ := tX.args (g := fun _ xs S => R.of (mkTup (toTup xs)) S) wq
    refine ⟨W, S, env, E, r, z.mono fun vs H1 z => ?_⟩
    obtain ⟨W1, S1, xs, env1, E1, r1, p1, z⟩ := z
    obtain ⟨d, e, f⟩ := z.fin
    obtain ⟨hz, e2⟩ := mkTup_some (xs := xs) e
    subst e2
    exact ⟨p1.sz hz, fun p hp => f.tup r1 p1 hp⟩
  | nil =>
    refine ⟨fun sc a X _ h C => by simp [chk] at h, fun sc a X _ h C => ?_⟩
    cases a with
    | nil => exact pa_nil.imp fun σ H Q ⟨W, S, env, E, r, q⟩ => q [] W H Ext.refl r ⟨[], rfl, .nil⟩
    | cons x y => simp [chkA] at h
  | cons a as ia ib =>
    refine ⟨fun sc a X _ h C => by simp [chk] at h, fun sc es X hp h C => ?_⟩
    simp only [plainE, Bool.and_eq_true] at hp
    simp only [chkA] at h
    split at h <;> try (cases h; done)
    simp only [Bool.and_eq_true] at h
    obtain ⟨⟨h1, h2⟩, h3⟩ := h
    refine (pa_cons (ia.v _ _ X hp.1 h2 C) (ib.l _ _ X hp.2 h3 C) (star_ok h1)).imp fun σ H Q wq => ?_
    obtain ⟨W, S, env, E, r, z⟩ := wq
    simp only [ev] at z
    refine ⟨W, S, env, E, r, (Wq.bind (rp := rpD K) z).mono fun x H1 z => ?_⟩
    obtain ⟨W1, S1, dx, e1, r1, p1, z⟩ := z
    refine ⟨W1, S1, env, E.mono r.trk e1, r1, (Wq.bind (rp := rpA K) z).mono fun vs H2 z => ?_⟩
    obtain ⟨W2, S2, dy, e2, r2, ⟨xs, e3, p2⟩, z⟩ := z
    subst e3
    exact z _ W2 H2 Ext.refl r2 ⟨_, rfl, .cons (p1.mono r1.trk e2) p2⟩
  | _ => exact ⟨fun sc a X hp => by simp [plainE] at hp, fun sc a X hp => by simp [plainE] at hp⟩
end
end PL

set_option Elab.async false
set_option linter.all false
set_option maxRecDepth 100000
set_option maxHeartbeats 2000000
/-! PLM: every expression; statements. -/
namespace PL
open PySem PySem.Spec PyProof.Rows L2
section
variable {P : Program} {w : World} {K : PySem.W.Frag} {mg : Str → Option Value} {base : Heap} {G : Tab} {Y : Sx} {nm : Nm} {fa : Nat → Addr} {fd : Nat → FuncData} {ps : Nat → List Str} {kk : Nat} {N : List Str}
variable {sc : Scope} {X : Cx} {Wi : WX}
abbrev Snd4 (P : Program) (w : World) (K : PySem.W.Frag) (mg : Str → Option Value) (base : Heap) (G : Tab) (Y : Sx) (nm : Nm) (kk : Nat) (N : List Str) (e : E) : Prop := Snd P w K mg base G Y nm kk N e ∧ SndN P w K mg base G Y nm kk N e ∧ SndM P w K mg base G Y nm kk N e ∧ SndF P w K mg base G Y nm kk N e ∧ SndD P w K mg base G Y nm kk N e
theorem snd4 (g : GOk K mg G Y nm fa fd ps) (hF : ∀ f : Nat, (G.fns f).isSome = true → FnOk P w K mg base (L2.CX P w) (2 * kk) (fa f) (fd f) (ps f) (spF K nm G kk f)) (e : E) : Snd4 P w K mg base G Y nm kk N e := by
  have no : ∀ {e : E}, Snd P w K mg base G Y nm kk N e → isFresh e = false → (∀ sc x, chkM Y N e sc x = false) → (∀ sc es, chkF Y N e sc es = false) → (∀ sc es, chkA Y N e sc es = false) → Snd4 P w K mg base G Y nm kk N e := fun a b c d q => ⟨a, .no b, m_no c, f_no d, d_no q⟩
  have no2 : ∀ {e : E}, Snd P w K mg base G Y nm kk N e → SndN P w K mg base G Y nm kk N e → (∀ sc x, chkM Y N e sc x = false) → (∀ sc es, chkF Y N e sc es = false) → (∀ sc es, chkA Y N e sc es = false) → Snd4 P w K mg base G Y nm kk N e := fun a b c d q => ⟨a, b, m_no c, f_no d, d_no q⟩
  induction e with
  | var i => exact no (s_var i) rfl (fun _ _ => by simp [chkM]) (fun _ _ => by simp [chkF]) (fun _ _ => by simp [chkA])
  | glb j => exact no (s_glb g j) rfl (fun _ _ => by simp [chkM]) (fun _ _ => by simp [chkF]) (fun _ _ => by simp [chkA])
  | cmp o a b ia ib => exact no (s_cmp o a b ia.1 ib.1) rfl (fun _ _ => by simp [chkM]) (fun _ _ => by simp [chkF]) (fun _ _ => by simp [chkA])
  | chain o o' a b c ia ib ic => exact no (s_chain o o' a b c ia.1 ib.1 ic.1) rfl (fun _ _ => by simp [chkM]) (fun _ _ => by simp [chkF]) (fun _ _ => by simp [chkA])
  | isn a ia => exact no (s_isn a ia.1) rfl (fun _ _ => by simp [chkM]) (fun _ _ => by simp [chkF]) (fun _ _ => by simp [chkA])
  | ntn a ia => exact no (s_ntn a ia.1) rfl (fun _ _ => by simp [chkM]) (fun _ _ => by simp [chkF]) (fun _ _ => by simp [chkA])
  | neg a ia => exact no (s_neg a ia.1) rfl (fun _ _ => by simp [chkM]) (fun _ _ => by simp [chkF]) (fun _ _ => by simp [chkA])
  | nt a ia => exact no (s_nt a ia.1) rfl (fun _ _ => by simp [chkM]) (fun _ _ => by simp [chkF]) (fun _ _ => by simp [chkA])
  | and a b ia ib => exact no (s_and a b ia.1 ib.1) rfl (fun _ _ => by simp [chkM]) (fun _ _ => by simp [chkF]) (fun _ _ => by simp [chkA])
  | or a b ia ib => exact no (s_or a b ia.1 ib.1) rfl (fun _ _ => by simp [chkM]) (fun _ _ => by simp [chkF]) (fun _ _ => by simp [chkA])
  | ite c a b ic ia ib => exact no (s_ite c a b ic.1 ia.1 ib.1) rfl (fun _ _ => by simp [chkM]) (fun _ _ => by simp [chkF]) (fun _ _ => by simp [chkA])
  | isa a t ia => exact no (s_isa g a t ia.1) rfl (fun _ _ => by simp [chkM]) (fun _ _ => by simp [chkF]) (fun _ _ => by simp [chkA])
  | call f as ia => exact no (s_call g hF f as ia.1) rfl (fun _ _ => by simp [chkM]) (fun _ _ => by simp [chkF]) (fun _ _ => by simp [chkA])
  | ix a i ia ib => exact no (s_ix a i ia.1 ib.1) rfl (fun _ _ => by simp [chkM]) (fun _ _ => by simp [chkF]) (fun _ _ => by simp [chkA])
  | sl3 a lo hi st ia il ih => exact no (s_sl3 a lo hi st ia.1 il.1 ih.1) rfl (fun _ _ => by simp [chkM]) (fun _ _ => by simp [chkF]) (fun _ _ => by simp [chkA])
  | tup as ia => exact no (s_tup as ia.1) rfl (fun _ _ => by simp [chkM]) (fun _ _ => by simp [chkF]) (fun _ _ => by simp [chkA])
  | emp => exact no (s_emp) rfl (fun _ _ => by simp [chkM]) (fun _ _ => by simp [chkF]) (fun _ _ => by simp [chkA])
  | one a ia => exact no (s_one a ia.1) rfl (fun _ _ => by simp [chkM]) (fun _ _ => by simp [chkF]) (fun _ _ => by simp [chkA])
  | val a ia => exact no (s_val a ia.1) rfl (fun _ _ => by simp [chkM]) (fun _ _ => by simp [chkF]) (fun _ _ => by simp [chkA])
  | new e ie => exact no (s_new e ie.2.1) rfl (fun _ _ => by simp [chkM]) (fun _ _ => by simp [chkF]) (fun _ _ => by simp [chkA])
  | dict0 => exact no (s_dict0) rfl (fun _ _ => by simp [chkM]) (fun _ _ => by simp [chkF]) (fun _ _ => by simp [chkA])
  | din ng a b ia ib => exact no (s_din ng a b ia.1 ib.1) rfl (fun _ _ => by simp [chkM]) (fun _ _ => by simp [chkF]) (fun _ _ => by simp [chkA])
  | dix a i ia ib => exact no (s_dix a i ia.1 ib.1) rfl (fun _ _ => by simp [chkM]) (fun _ _ => by simp [chkF]) (fun _ _ => by simp [chkA])
  | bm m o as io ia => exact no (s_bm m o as io.1 ia.1) rfl (fun _ _ => by simp [chkM]) (fun _ _ => by simp [chkF]) (fun _ _ => by simp [chkA])
  | fstr as ia => exact no (s_fstr as ia.2.2.2.1) rfl (fun _ _ => by simp [chkM]) (fun _ _ => by simp [chkF]) (fun _ _ => by simp [chkA])
  | fld c o f io => exact no (s_fld g c o f io.1) rfl (fun _ _ => by simp [chkM]) (fun _ _ => by simp [chkF]) (fun _ _ => by simp [chkA])
  | meth c o m as io ia => exact no (s_meth g hF c o m as io.1 ia.1) rfl (fun _ _ => by simp [chkM]) (fun _ _ => by simp [chkF]) (fun _ _ => by simp [chkA])
  | mk c as ia => exact no (s_mk g hF c as ia.1) rfl (fun _ _ => by simp [chkM]) (fun _ _ => by simp [chkF]) (fun _ _ => by simp [chkA])
  | con d => exact ⟨s_con d, .no rfl, m_con d, f_no (fun _ _ => by simp [chkF]), d_no (fun _ _ => by simp [chkA])⟩
  | fmt a ia => exact ⟨⟨fun sc x X Wi h C tk => by simp [chk] at h, fun sc x X Wi h C tk => by simp [chkT] at h, fun sc a X Wi h C tk => by simp [chkA] at h⟩, .no rfl, m_fmt a ia.1, f_no (fun _ _ => by simp [chkF]), d_no (fun _ _ => by simp [chkA])⟩
  | nil => exact ⟨s_nil, .no rfl, m_no (fun _ _ => by simp [chkM]), f_nil, d_nil⟩
  | cons a as ia ib => exact ⟨s_cons a as ia.1 ib.1, .no rfl, m_no (fun _ _ => by simp [chkM]), f_cons a as ia.2.2.1 ib.2.2.2.1, d_cons a as ia.1 ib.2.2.2.2⟩
  | lrng k as ia => exact no2 (s_lrng g k as ia.1) (n_lrng g k as ia.1) (fun _ _ => by simp [chkM]) (fun _ _ => by simp [chkF]) (fun _ _ => by simp [chkA])
  | dict ks vs _ iv => exact no (s_dict ks vs iv.2.2.2.2) rfl (fun _ _ => by simp [chkM]) (fun _ _ => by simp [chkF]) (fun _ _ => by simp [chkA])
  | bin o a b ia ib => exact no2 (s_bin o a b ia.1 ib.1) (n_bin o a b ia.1 ib.1) (fun _ _ => by simp [chkM]) (fun _ _ => by simp [chkF]) (fun _ _ => by simp [chkA])
  | bf f as ia => exact no2 (s_bf g f as ia.1) (n_bf g f as ia.1) (fun _ _ => by simp [chkM]) (fun _ _ => by simp [chkF]) (fun _ _ => by simp [chkA])
  | sl a lo hi ia il ih => exact no2 (s_sl a lo hi ia.1 il.1 ih.1) (n_sl a lo hi ia.1 il.1 ih.1) (fun _ _ => by simp [chkM]) (fun _ _ => by simp [chkF]) (fun _ _ => by simp [chkA])
  | lst as ia => exact no2 (s_lst as ia.1) (n_lst as ia.1) (fun _ _ => by simp [chkM]) (fun _ _ => by simp [chkF]) (fun _ _ => by simp [chkA])
  | comp k src tg c e is ic ie => exact no2 (s_comp g k src tg c e is.1 ic.1 ie.1) (n_comp g k src tg c e is.1 ic.1 ie.1) (fun _ _ => by simp [chkM]) (fun _ _ => by simp [chkF]) (fun _ _ => by simp [chkA])
  | _ => exact no ⟨fun sc x X Wi h C tk => by simp [chk] at h, fun sc x X Wi h C tk => by simp [chkT] at h, fun sc a X Wi h C tk => by simp [chkA] at h⟩ rfl (fun _ _ => by simp [chkM]) (fun _ _ => by simp [chkF]) (fun _ _ => by simp [chkA])
theorem snd (g : GOk K mg G Y nm fa fd ps) (hF : ∀ f : Nat, (G.fns f).isSome = true → FnOk P w K mg base (L2.CX P w) (2 * kk) (fa f) (fd f) (ps f) (spF K nm G kk f)) (e : E) : Snd P w K mg base G Y nm kk N e := (snd4 g hF e).1

/-! ### statements -/
def WqS (K : PySem.W.Frag) (nm : Nm) (W : Wd) (H : Hp) (r : RS) (D : Ends) (Wi : WX) : Prop := match r with
  | .nx env' S' => ∀ W' H' σ', Ext W H W' H' → Rel K nm W' S' H' → ERep K W' H' env' σ' → D.nx σ' H'
  | .rt d S' => ∀ v W' H', Ext W H W' H' → Rel K nm W' S' H' → Rep K W' H' d v → D.rt v H'
  | .ex c env' S' => ∀ W' H' σ', Ext W H W' H' → Rel K nm W' S' H' → ERep K W' H' env' σ' → Wi (.ref (nm.X c)) none σ' H'
  | .bad => False
def tS (K : PySem.W.Frag) (nm : Nm) (Wi : WX) (f : Env → Store → RS) : TS := fun D σ H => ∃ W S env, ERep K W H env σ ∧ Rel K nm W S H ∧ WqS K nm W H (f env S) D Wi
theorem WqS.ext {W W' : Wd} {H H' : Hp} {r : RS} {D : Ends} (e : Ext W H W' H') (t : Trk W' H') (w : WqS K nm W H r D Wi) : WqS K nm W' H' r D Wi := by
  cases r with
  | nx env S => exact fun W2 H2 σ e2 r p => w W2 H2 σ (e.trans t e2) r p
  | rt d S => exact fun v W2 H2 e2 r p => w v W2 H2 (e.trans t e2) r p
  | ex c env S => exact fun W2 H2 σ e2 r p => w W2 H2 σ (e.trans t e2) r p
  | bad => exact w
theorem WqS.andThen {W : Wd} {H : Hp} {r : RS} {f : Env → Store → RS} {D : Ends} (w : WqS K nm W H (r.andThen f) D Wi) : WqS K nm W H r { D with nx := fun σ H => tS K nm Wi f D σ H } Wi := by
  cases r with
  | nx env S => exact fun W2 H2 σ e2 r p => ⟨W2, S, env, p, r, WqS.ext e2 r.trk w⟩
  | rt d S => exact w
  | ex c env S => exact w
  | bad => exact w
theorem stm_andThen {α : Type} (r : R α) (env : Env) (f : α → Store → RS) (g : Env → Store → RS) : (r.stm env f).andThen g = r.stm env fun a S => (f a S).andThen g := by cases r <;> rfl
/-- a value within a statement -/
theorem WqS.stm {α β : Type} {rp : Wd → Hp → α → β → Prop} {W : Wd} {H : Hp} {r : R α} {env : Env} {S : Store} {σ : L2.St} {f : α → Store → RS} {D : Ends} (E : ERep K W H env σ) (r0 : Rel K nm W S H) (w : WqS K nm W H (r.stm env f) D Wi) :
    Wq K nm rp W H r (fun v H1 => ∃ W1 S1 d, Ext W H W1 H1 ∧ ERep K W1 H1 env σ ∧ Rel K nm W1 S1 H1 ∧ rp W1 H1 d v ∧ WqS K nm W1 H1 (f d S1) D Wi) (Xw nm Wi σ) := by
  cases r with
  | ok d S1 => exact fun v W1 H1 e r p => ⟨W1, S1, d, e, E.mono r0.trk e, r, p, WqS.ext e r.trk w⟩
  | ex c S1 => exact fun W1 H1 e r => w W1 H1 σ e r (E.mono r0.trk e)
  | bad => exact w
theorem pss_then {st : Stmt} {rest : List Stmt} {f g : Env → Store → RS} (h1 : PS X st (tS K nm Wi f)) (h2 : PSs X rest (tS K nm Wi g)) : PSs X (st :: rest) (tS K nm Wi fun env S => (f env S).andThen g) := by
  refine (pss_cons h1 h2).imp fun D σ H q => ?_
  obtain ⟨W, S, env, E, r, z⟩ := q
  exact ⟨W, S, env, E, r, z.andThen⟩
theorem tS_eq {f g : Env → Store → RS} (h : ∀ env S, f env S = g env S) : tS K nm Wi f = tS K nm Wi g := by
  have : f = g := by funext env S; exact h env S
  rw [this]

/-! ### the check -/
def isComp : Expr → Bool
  | .ListComp _ _ _ _ => true
  | .SetComp _ _ _ _ => true
  | .DictComp _ _ _ _ _ => true
  | _ => false
/-- a comprehension that is stored before its block goes: name = [..] on one line, the name a local of its own -/
def swOk (e : E) (v : Expr) (y : Str) (p : Pos) (sc : Scope) : Bool := match v with
  | .ListComp _ _ scope pos => (match e with
      | .comp k _ _ _ _ => decide (k ≠ .keys)
      | .new (.comp k _ _ _ _) => decide (k ≠ .keys)
      | _ => false) && decide (sc.kind = .function) && decide (sc.names.lookup y = some .local) && (p.line == pos.line) && !(scope.names.any fun (n, k) => n == y && (k == .local || k == .cell))
  | _ => false
def isTupE : Expr → Bool
  | .Tuple _ _ _ => true
  | _ => false
section
variable (Y : Sx) (N : List Str) (sc : Scope)
def chkH : T → List Stmt → Bool
  | .nil, sts => match sts with
    | [] => true
    | _ => false
  | .asg i e k, sts => match sts with
    | .Assign [.Name x p] v _ :: rest => tgN N true sc i (.Name x p) && !isComp v && plainE e && chk Y N e sc v && chkH k rest
    | _ => false
  | .fldS c o f e k, sts => match sts with
    | .Assign [.Attribute p n _] v _ :: rest => (Y.clN c).isSome && decide (Y.fdN f = some n) && !isComp v && plainE o && plainE e && chk Y N e sc v && chk Y N o sc p && chkH k rest
    | _ => false
  | .ret e, sts => match sts with
    | [.Return (some v) _] => plainE e && chk Y N e sc v
    | _ => false
  | _, _ => false
def chkS : T → List Stmt → Bool
  | .nil, sts => match sts with
    | [] => true
    | _ => false
  | .asg i e k, sts => match sts with
    | .Assign [.Name x p] v _ :: rest => tgN N true sc i (.Name x p) && (!isComp v || swOk e v x p sc) && chk Y N e sc v && chkS k rest
    | _ => false
  | .asgT is e k, sts => match sts with
    | .Assign [.Tuple es q p] v _ :: rest => tgC N true sc (.many is) (.Tuple es q p) && !isComp v && !isTupE v && chk Y N e sc v && chkS k rest
    | _ => false
  | .exp e k, sts => match sts with
    | .Expr v _ :: rest => !isComp v && chk Y N e sc v && chkS k rest
    | _ => false
  | .ret e, sts => match sts with
    | [.Return (some v) _] => chk Y N e sc v
    | _ => false
  | .ifs c a b k, sts => match sts with
    | .If t x y _ :: rest => chkT Y N c sc t && chkS a x && chkS b y && chkS k rest
    | _ => false
  | .whl c b k, sts => match sts with
    | .While t x [] _ :: rest => chkT Y N c sc t && chkS b x && chkS k rest
    | _ => false
  | .for_ ik src tg b k, sts => match sts with
    | .For t iter x [] _ :: rest => !isSet iter && tgC N true sc tg t && (match ik with
        | .plain => chk Y N src sc iter
        | .keys => isVarE src && chk Y N src sc iter
        | ik => match itArgs Y.blN ik sc t iter with
          | some es => chkA Y N src sc es
          | none => false) && decide (ik ≠ .keys) && chkS b x && chkS k rest
    | _ => false
  | .setI o i e k, sts => match sts with
    | .Assign [.Subscript p q _] v _ :: rest => !isComp v && notSlice q && chk Y N e sc v && chk Y N o sc p && chk Y N i sc q && chkS k rest
    | _ => false
  | .fldS c o f e k, sts => match sts with
    | .Assign [.Attribute p n _] v _ :: rest => (Y.clN c).isSome && decide (Y.fdN f = some n) && !isComp v && chk Y N e sc v && chk Y N o sc p && chkS k rest
    | _ => false
  | .rais c, sts => match sts with
    | [.Raise (some (.Call (.Name x _) [] [] _)) none _] => decide (Y.exN c = some x) && gl sc x && !dbg x
    | _ => false
  | .tr b cs h k, sts => match sts with
    | .Try body [.ExceptHandler (some (.Name x _)) none (b0 :: suite) _] [] [] _ :: rest => decide (Y.hdl x = some cs) && gl sc x && !dbg x && chkS b body && chkH Y N sc h (b0 :: suite) && chkS k rest
    | .Try body [.ExceptHandler (some (.Tuple [.Name x _, .Name x' _] _ _)) none (b0 :: suite) _] [] [] _ :: rest => (match Y.hdl x, Y.hdl x' with | some c1, some c2 => decide (cs = c1 ++ c2) | _, _ => false) && (gl sc x && !dbg x) && (gl sc x' && !dbg x') && chkS b body && chkH Y N sc h (b0 :: suite) && chkS k rest
    | _ => false
  | .tr2 b c h c' h' k, sts => match sts with
    | .Try body [.ExceptHandler (some (.Name x _)) none (b0 :: suite) _, .ExceptHandler (some (.Name x' _)) none (b0' :: suite') _] [] [] _ :: rest => decide (Y.hdl x = some [c]) && gl sc x && !dbg x && decide (Y.hdl x' = some [c']) && gl sc x' && !dbg x' && chkS b body && chkH Y N sc h (b0 :: suite) && chkH Y N sc h' (b0' :: suite') && chkS k rest
    | _ => false
end
variable (P w K mg base G Y nm kk N) in
def SndS (t : T) : Prop := ∀ (sc : Scope) (sts : List Stmt) (X : Cx) (Wi : WX), chkS Y N sc t sts = true → COk P w K mg base kk N sc X → ((∀ x, X.fn x = true) ∧ X.stack = X.env :: X.outer ∧ X.env.frame = some X.env.locals) → Takes X Wi → PassesOwn (model X.prog X.w) X.A X.env X.xe → PSs X sts (tS K nm Wi (exT G (run G kk) t))
theorem swaps_ok {v : Expr} {o : Option Expr} {n : Nat} {env : PySem.Env} (h : isComp v = false) : swapsWith v o n env = pure false := by
  cases v <;> first | rfl | cases h
theorem swapsS_ok {t v : Expr} {n : Nat} {env : PySem.Env} (h : isComp v = false) : swapsWithSole [t] v n env = pure false := by
  show swapsWith v (some t) n env = pure false
  exact swaps_ok h
theorem z_nil : SndS P w K mg base G Y nm kk N .nil := by
  intro sc sts X Wi h C hf tk hp
  cases sts with
  | nil => exact pss_nil.imp fun D σ H ⟨W, S, env, E, r, z⟩ => z W H σ Ext.refl r E
  | cons _ _ => cases h
theorem asg_base (g : GOk K mg G Y nm fa fd ps) (sn : ∀ e, Snd P w K mg base G Y nm kk N e) {i : Nat} {e : E} {x : Str} {p pos : Pos} {v : Expr} {sc : Scope} {X : Cx} {Wi : WX} (hf : (∀ x, X.fn x = true) ∧ X.stack = X.env :: X.outer ∧ X.env.frame = some X.env.locals)
    (h1 : tgN N true sc i (.Name x p) = true) (h2 : (!isComp v || swOk e v x p sc) = true) (h3 : chk Y N e sc v = true) (C : COk P w K mg base kk N sc X) (tk : Takes X Wi) : PS X (.Assign [.Name x p] v pos) (tAsg (tE K nm Wi (ev G (run G kk) e)) (gName i)) := by
  by_cases hc : isComp v = false
  · obtain ⟨pg, _⟩ := pg_one C.hN C.nd C.sc (fl := true) (fun _ => hf.1) h1
    exact ps_asg ((sn e).v _ _ X Wi h3 C (tk_of hf.2.2 tk)) pg (hs := swapsS_ok hc) (hw := rfl) (h1 := rfl)
  · rw [Bool.not_eq_false] at hc
    rw [hc] at h2
    simp only [Bool.not_true, Bool.false_or] at h2
    cases v <;> simp only [swOk] at h2 <;> first | (cases h2; done) | skip
    rename_i elt gens scope cpos
    simp only [Bool.and_eq_true, decide_eq_true_eq, Bool.not_eq_true'] at h2
    obtain ⟨⟨⟨⟨h2, hk⟩, hyl⟩, hl⟩, ha⟩ := h2
    have hyl' : X.env.scope.names.lookup x = some .local := by rw [C.sc]; exact hyl
    have hsw : swapsWith (.ListComp elt gens scope cpos) (some (.Name x p)) pos.line X.env = pure true := sw_true (by rw [C.sc]; exact hk) hyl' hl ha
    simp only [tgN, Bool.and_eq_true, decide_eq_true_eq] at h1
    have hy : X.N[i]? = some x := by rw [C.hN]; exact h1.1
    cases e <;> first | exact (Bool.false_ne_true h2).elim | skip
    · rename_i k src tg c e
      exact comp_asg g k src tg c e (sn src) (sn c) (sn e) fr_lst h3 C (tk_of hf.2.2 tk) (by simpa using h2) hy hyl' hsw
    · rename_i e
      cases e <;> first | exact (Bool.false_ne_true h2).elim | skip
      rename_i k src tg c e
      simp only [chk, Bool.and_eq_true] at h3
      have eq : ev G (run G kk) (.new (.comp k src tg c e)) = evC G (run G kk) k src tg c e fun ys S => .ok (.ref S.length) (S ++ [.lst ys]) := new_comp_eq
      rw [eq]
      exact comp_asg g k src tg c e (sn src) (sn c) (sn e) fr_new h3.2 C (tk_of hf.2.2 tk) (by simpa using h2) hy hyl' hsw
theorem z_asg (g : GOk K mg G Y nm fa fd ps) (sn : ∀ e, Snd P w K mg base G Y nm kk N e) (i : Nat) (e : E) (k : T) (ik : SndS P w K mg base G Y nm kk N k) : SndS P w K mg base G Y nm kk N (.asg i e k) := by
  intro sc sts X Wi h C hf tk hp
  simp only [chkS] at h
  split at h <;> try (cases h; done)
  simp only [Bool.and_eq_true] at h
  obtain ⟨⟨⟨h1, h2⟩, h3⟩, h4⟩ := h
  rw [tS_eq (g := fun env S => ((ev G (run G kk) e env S).stm env fun d S => .nx (env.set i (some d)) S).andThen (exT G (run G kk) k)) (fun env S => by rw [stm_andThen]; rfl)]
  refine pss_then ?_ (ik sc _ X Wi h4 C hf tk hp)
  refine (asg_base g sn hf h1 h2 h3 C tk).imp fun D σ H q => ?_
  obtain ⟨W, S, env, E, r, z⟩ := q
  refine ⟨W, S, env, E, r, (WqS.stm (rp := rpD K) E r z).mono fun v H1 z => ?_⟩
  obtain ⟨W1, S1, d, e1, E1, r1, p1, z⟩ := z
  exact z W1 H1 _ Ext.refl r1 (E1.set i p1)
theorem z_asgT (sn : ∀ e, Snd P w K mg base G Y nm kk N e) (is : List Nat) (e : E) (k : T) (ik : SndS P w K mg base G Y nm kk N k) : SndS P w K mg base G Y nm kk N (.asgT is e k) := by
  intro sc sts X Wi h C hf tk hp
  simp only [chkS] at h
  split at h <;> try (cases h; done)
  simp only [Bool.and_eq_true, Bool.not_eq_true'] at h
  obtain ⟨⟨⟨⟨h1, h2⟩, h5⟩, h3⟩, h4⟩ := h
  rw [tS_eq (g := fun env S => ((ev G (run G kk) e env S).stm env fun d S => match bindT (.many is) d env with
    | some env' => .nx env' S
    | none => .bad).andThen (exT G (run G kk) k)) (fun env S => by
      rw [stm_andThen]
      simp only [exT]
      congr 1
      funext d S
      cases bindT (.many is) d env <;> rfl)]
  refine pss_then ?_ (ik sc _ X Wi h4 C hf tk hp)
  have pg := pg_ok C.hK C.hN C.nd C.sc C.calm (fl := true) (fun _ => hf.1) h1
  refine (ps_asg ((sn e).v _ _ X Wi h3 C (tk_of hf.2.2 tk)) pg (hs := swapsS_ok h2) (hw := by rename_i v _ _; cases v <;> first | rfl | cases h5) (h1 := rfl)).imp fun D σ H q => ?_
  obtain ⟨W, S, env, E, r, z⟩ := q
  refine ⟨W, S, env, E, r, (WqS.stm (rp := rpD K) E r z).mono fun v H1 z => ?_⟩
  obtain ⟨W1, S1, d, e1, E1, r1, p1, z⟩ := z
  cases hb : bindT (.many is) d env with
  | none => rw [hb] at z; exact z.elim
  | some env' =>
    rw [hb] at z
    exact ⟨W1, d, env, env', E1.o _, p1, hb, fun σ' E' _ => z W1 H1 σ' Ext.refl r1 E'⟩
theorem z_exp (sn : ∀ e, Snd P w K mg base G Y nm kk N e) (e : E) (k : T) (ik : SndS P w K mg base G Y nm kk N k) : SndS P w K mg base G Y nm kk N (.exp e k) := by
  intro sc sts X Wi h C hf tk hp
  simp only [chkS] at h
  split at h <;> try (cases h; done)
  simp only [Bool.and_eq_true, Bool.not_eq_true'] at h
  obtain ⟨⟨h2, h3⟩, h4⟩ := h
  rw [tS_eq (g := fun env S => ((ev G (run G kk) e env S).stm env fun d S => .nx env S).andThen (exT G (run G kk) k)) (fun env S => by rw [stm_andThen]; rfl)]
  refine pss_then ?_ (ik sc _ X Wi h4 C hf tk hp)
  refine (ps_expr ((sn e).v _ _ X Wi h3 C (tk_of hf.2.2 tk)) (swaps_ok h2)).imp fun D σ H q => ?_
  obtain ⟨W, S, env, E, r, z⟩ := q
  refine ⟨W, S, env, E, r, (WqS.stm (rp := rpD K) E r z).mono fun v H1 z => ?_⟩
  obtain ⟨W1, S1, d, e1, E1, r1, p1, z⟩ := z
  exact z W1 H1 _ Ext.refl r1 E1
theorem z_ret (sn : ∀ e, Snd P w K mg base G Y nm kk N e) (e : E) : SndS P w K mg base G Y nm kk N (.ret e) := by
  intro sc sts X Wi h C hf tk hp
  simp only [chkS] at h
  split at h <;> try (cases h; done)
  refine pss_one ((ps_ret ((sn e).v _ _ X Wi h C (tk_of hf.2.2 tk))).imp fun D σ H q => ?_)
  obtain ⟨W, S, env, E, r, z⟩ := q
  refine ⟨W, S, env, E, r, (WqS.stm (rp := rpD K) E r z).mono fun v H1 z => ?_⟩
  obtain ⟨W1, S1, d, e1, E1, r1, p1, z⟩ := z
  exact z v W1 H1 Ext.refl r1 p1
theorem z_ifs (sn : ∀ e, Snd P w K mg base G Y nm kk N e) (c : E) (a b k : T) (ia : SndS P w K mg base G Y nm kk N a) (ib : SndS P w K mg base G Y nm kk N b) (ik : SndS P w K mg base G Y nm kk N k) : SndS P w K mg base G Y nm kk N (.ifs c a b k) := by
  intro sc sts X Wi h C hf tk hp
  simp only [chkS] at h
  split at h <;> try (cases h; done)
  simp only [Bool.and_eq_true] at h
  obtain ⟨⟨⟨h1, h2⟩, h3⟩, h4⟩ := h
  rw [tS_eq (g := fun env S => ((mapT (ev G (run G kk) c env S)).stm env fun t S => if t then exT G (run G kk) a env S else exT G (run G kk) b env S).andThen (exT G (run G kk) k)) (fun env S => by rw [stm_andThen]; rfl)]
  refine pss_then ?_ (ik sc _ X Wi h4 C hf tk hp)
  refine (ps_if ((sn c).t _ _ X Wi h1 C (tk_of hf.2.2 tk)) (ia sc _ X Wi h2 C hf tk hp) (ib sc _ X Wi h3 C hf tk hp)).imp fun D σ H q => ?_
  obtain ⟨W, S, env, E, r, z⟩ := q
  refine ⟨W, S, env, E, r, (WqS.stm (rp := rpB) E r z).mono fun t H1 z => ?_⟩
  obtain ⟨W1, S1, d, e1, E1, r1, p1, z⟩ := z
  cases (show d = t from p1)
  cases t with
  | true => exact ⟨W1, S1, env, E1, r1, z⟩
  | false => exact ⟨W1, S1, env, E1, r1, z⟩
theorem z_whl (sn : ∀ e, Snd P w K mg base G Y nm kk N e) (c : E) (b k : T) (ib : SndS P w K mg base G Y nm kk N b) (ik : SndS P w K mg base G Y nm kk N k) : SndS P w K mg base G Y nm kk N (.whl c b k) := by
  intro sc sts X Wi h C hf tk hp
  simp only [chkS] at h
  split at h <;> try (cases h; done)
  simp only [Bool.and_eq_true] at h
  obtain ⟨⟨h1, h2⟩, h4⟩ := h
  refine pss_then (f := fun env S => goWhl (fun env S => mapT (ev G (run G kk) c env S)) (fun env S => exT G (run G kk) b env S) LOOP env S) ?_ (ik sc _ X Wi h4 C hf tk hp)
  refine (ps_while hp ((sn c).t _ _ X Wi h1 C (tk_of hf.2.2 tk)) (ib sc _ X Wi h2 C hf tk hp)).imp fun D σ H q => ?_
  obtain ⟨W, S, env, E, r, z⟩ := q
  refine ⟨fun m σ H => ∃ W S env, ERep K W H env σ ∧ Rel K nm W S H ∧ WqS K nm W H (goWhl (fun env S => mapT (ev G (run G kk) c env S)) (fun env S => exT G (run G kk) b env S) m env S) D Wi, ⟨LOOP, W, S, env, E, r, z⟩, ?_⟩
  rintro m σ H ⟨W, S, env, E, r, z⟩
  cases m with
  | zero => exact z.elim
  | succ m =>
    simp only [goWhl] at z
    refine ⟨W, S, env, E, r, (WqS.stm (rp := rpB) E r z).mono fun t H1 z => ?_⟩
    obtain ⟨W1, S1, d, e1, E1, r1, p1, z⟩ := z
    cases (show d = t from p1)
    cases t with
    | false => exact z W1 H1 σ Ext.refl r1 E1
    | true =>
      refine ⟨fun σ H => ∃ W S env, ERep K W H env σ ∧ Rel K nm W S H ∧ WqS K nm W H (goWhl (fun env S => mapT (ev G (run G kk) c env S)) (fun env S => exT G (run G kk) b env S) m env S) D Wi, fun σ' H' q => ⟨m, Nat.lt_succ_self _, q⟩, ?_⟩
      refine ⟨W1, S1, env, E1, r1, ?_⟩
      have z := WqS.andThen z
      revert z
      cases exT G (run G kk) b env S1 with
      | nx env' S' => exact fun z W' H' σ' e r p => z W' H' σ' e r p
      | rt d S' => exact fun z => z
      | ex c env' S' => exact fun z => z
      | bad => exact fun z => z
theorem for_items {body : PL.D → Env → Store → RS} {tg : Tg} {b : Env → Store → RS} {tb : TS} {D : Ends} {σ : L2.St} {W1 : Wd} {H1 : Hp} {S1 : Store} {env : Env} {J : It} {xs : List PL.D}
    (hbody : ∀ x env S, body x env S = match bindT tg x env with | some env' => b env' S | none => .bad)
    (hb : ∀ D σ H, tS K nm Wi b D σ H → tb D σ H)
    (E : ERep K W1 H1 env σ) (r1 : Rel K nm W1 S1 H1) (hJ : ItOk K nm W1 H1 J xs) (z : WqS K nm W1 H1 (goFor body xs env S1) D Wi) :
    ∃ Wm : Nat → Nat → L2.St → Hp → Prop, (∃ m, Wm 0 m σ H1) ∧ ∀ i m σ H, Wm i m σ H →
      (J.stop i H ∧ D.nx σ H) ∨ (J.go i H ∧ ∃ Nx : L2.St → Hp → Prop, (∀ σ' H', Nx σ' H' → ∃ m', m' < m ∧ Wm (i + 1) m' σ' H') ∧ ∀ x H', J.yld i H x H' → gTg K tg x σ H' fun σ2 H2 => tb { D with nx := Nx, ct := Nx, bk := D.nx } σ2 H2) := by
  obtain ⟨Gd, Yd, wk, st, yl⟩ := hJ.1
  refine for_it wk (fun i σ H => ∃ W2 S2 env2, Ext W1 H1 W2 H ∧ ERep K W2 H env2 σ ∧ Rel K nm W2 S2 H ∧ WqS K nm W2 H (goFor body (xs.drop i) env2 S2) D Wi) ?_ ?_ ?_ ?_
  · exact ⟨W1, S1, env, Ext.refl, E, r1, z⟩
  · rintro i σ H hi ⟨W2, S2, env2, e1, E2, r2, z⟩
    exact st _ _ e1
  · rintro i x σ H H' hi ⟨W2, S2, env2, e1, E2, r2, z⟩ y
    obtain ⟨d, hx, ex, keep, rep⟩ := yl i _ S2 H x H' hi e1 r2 y
    have r2' := r2.grow ex keep
    have hdrop : xs.drop i = d :: xs.drop (i + 1) := by
      obtain ⟨hl, hv⟩ := List.getElem?_eq_some_iff.mp hx
      rw [List.drop_eq_getElem_cons hl, hv]
    rw [hdrop] at z
    simp only [goFor, hbody] at z
    cases hbt : bindT tg d env2 with
    | none => rw [hbt] at z; exact z.elim
    | some env' =>
      rw [hbt] at z
      have z := WqS.ext ex r2'.trk z
      refine ⟨W2, d, env2, env', (E2.mono r2.trk ex).o _, rep, hbt, fun σ' E' _ => hb _ _ _ ⟨W2, S2, env', E', r2', ?_⟩⟩
      dsimp only at z
      revert z
      cases b env' S2 with
      | nx env3 S3 => exact fun z W' H' σ' e r p => ⟨W', S3, env3, (e1.trans r2.trk ex |>.trans r2'.trk e), p, r, WqS.ext e r.trk z⟩
      | rt d S3 => exact fun z => z
      | ex c env3 S3 => exact fun z => z
      | bad => exact fun z => z
  · rintro σ H ⟨W2, S2, env2, e1, E2, r2, z⟩
    rw [List.drop_eq_nil_of_le (Nat.le_refl _)] at z
    exact z W2 H σ Ext.refl r2 E2
theorem for_live {body : PL.D → Env → Store → RS} {tg : Tg} {b : Env → Store → RS} {tb : TS} {D : Ends} {σ : L2.St} {W1 : Wd} {H1 : Hp} {S1 : Store} {env : Env} {n : Nat} {a : Addr}
    (hbody : ∀ x env S, body x env S = match bindT tg x env with | some env' => b env' S | none => .bad)
    (hb : ∀ D σ H, tS K nm Wi b D σ H → tb D σ H)
    (E : ERep K W1 H1 env σ) (r1 : Rel K nm W1 S1 H1) (ha : W1.m[n]? = some a) (z : WqS K nm W1 H1 (goForL n false body LOOP 0 env S1) D Wi) :
    ∃ Wm : Nat → Nat → L2.St → Hp → Prop, (∃ m, Wm 0 m σ H1) ∧ ∀ i m σ H, Wm i m σ H →
      ((Itl K a).stop i H ∧ D.nx σ H) ∨ ((Itl K a).go i H ∧ ∃ Nx : L2.St → Hp → Prop, (∀ σ' H', Nx σ' H' → ∃ m', m' < m ∧ Wm (i + 1) m' σ' H') ∧ ∀ x H', (Itl K a).yld i H x H' → gTg K tg x σ H' fun σ2 H2 => tb { D with nx := Nx, ct := Nx, bk := D.nx } σ2 H2) := by
  refine ⟨fun i m σ H => ∃ W2 S2 env2, Ext W1 H1 W2 H ∧ ERep K W2 H env2 σ ∧ Rel K nm W2 S2 H ∧ WqS K nm W2 H (goForL n false body m i env2 S2) D Wi, ⟨LOOP, W1, S1, env, Ext.refl, E, r1, z⟩, ?_⟩
  rintro i m σ H ⟨W2, S2, env2, e1, E2, r2, z⟩
  cases m with
  | zero => exact z.elim
  | succ m =>
    have ha2 : W2.m[n]? = some a := by
      obtain ⟨t, h, _⟩ := e1.m
      rw [h]
      exact (List.getElem?_append_left (List.getElem?_eq_some_iff.mp ha).1).trans ha
    simp only [goForL, itemAt] at z
    cases hs : S2[n]? with
    | none => rw [hs] at z; exact z.elim
    | some o =>
      rw [hs] at z
      cases o with
      | lst ys =>
        obtain ⟨vs, h1, h2⟩ := r2.ob n a _ ha2 hs
        dsimp only at z
        cases hy : ys[i]? with
        | none =>
          rw [hy] at z
          refine .inl ⟨⟨vs, SqL.of h1, ?_⟩, z W2 H σ Ext.refl r2 E2⟩
          rw [h2.lens]
          exact List.getElem?_eq_none_iff.mp hy
        | some d =>
          rw [hy] at z
          obtain ⟨v, h3, h4⟩ := h2.get hy
          refine .inr ⟨⟨vs, v, SqL.of h1, h3⟩, fun σ H => ∃ W2 S2 env2, Ext W1 H1 W2 H ∧ ERep K W2 H env2 σ ∧ Rel K nm W2 S2 H ∧ WqS K nm W2 H (goForL n false body m (i + 1) env2 S2) D Wi, fun σ' H' q => ⟨m, Nat.lt_succ_self _, q⟩, ?_⟩
          rintro x H' ⟨rfl, hx⟩
          have := hx vs (SqL.of h1)
          rw [h3] at this
          cases this
          simp only [Option.map_some, Bool.false_eq_true, if_false, hbody] at z
          cases hbt : bindT tg d env2 with
          | none => rw [hbt] at z; exact z.elim
          | some env' =>
            rw [hbt] at z
            refine ⟨W2, d, env2, env', E2.o _, h4, hbt, fun σ' E' _ => hb _ _ _ ⟨W2, S2, env', E', r2, ?_⟩⟩
            dsimp only at z
            revert z
            cases b env' S2 with
            | nx env3 S3 => exact fun z W' H' σ' e r p => ⟨W', S3, env3, e1.trans r2.trk e, p, r, WqS.ext e r.trk z⟩
            | rt d S3 => exact fun z => z
            | ex c env3 S3 => exact fun z => z
            | bad => exact fun z => z
      | _ => exact z.elim
theorem z_for (g : GOk K mg G Y nm fa fd ps) (sn : ∀ e, Snd P w K mg base G Y nm kk N e) (ik : IK) (src : E) (tg : Tg) (b k : T) (ib : SndS P w K mg base G Y nm kk N b) (iK : SndS P w K mg base G Y nm kk N k) : SndS P w K mg base G Y nm kk N (.for_ ik src tg b k) := by
  intro sc sts X Wi h C hf tk hp
  simp only [chkS] at h
  split at h <;> try (cases h; done)
  simp only [Bool.and_eq_true, Bool.not_eq_true'] at h
  obtain ⟨⟨⟨⟨⟨h1, h2⟩, h3⟩, hnk⟩, h4⟩, h5⟩ := h
  have hnk : ik ≠ .keys := by simpa using hnk
  rw [tS_eq (g := fun env S => ((ev G (run G kk) src env S).stm env fun xs S => match mkIt ik (srcL ik xs) S with
    | some it => goForI it (fun x env S => match bindT tg x env with
      | some env' => exT G (run G kk) b env' S
      | none => .bad) env S
    | none => .bad).andThen (exT G (run G kk) k)) (fun env S => by
      rw [stm_andThen]
      simp only [exT]
      congr 1
      funext d S
      cases mkIt ik (srcL ik d) S <;> rfl)]
  refine pss_then ?_ (iK sc _ X Wi h5 C hf tk hp)
  have pg := pg_ok C.hK C.hN C.nd C.sc C.calm (fl := true) (fun _ => hf.1) h2
  have pb := ib sc _ X Wi h4 C hf tk hp
  refine (ps_for hp C.calm (pi_src g (sn src) C (tk_of hf.2.2 tk) h3 hnk) pg pb (fold_ok h1 X.env)).imp fun D σ H q => ?_
  obtain ⟨W, S, env, E, r, z⟩ := q
  refine ⟨W, S, env, E, r, ?_⟩
  dsimp only at z ⊢
  cases hsrc : ev G (run G kk) src env S with
  | bad => rw [hsrc] at z; exact z.elim
  | ex c S1 =>
    rw [hsrc] at z
    exact fun W' H' e r' => z W' H' σ e r' (E.mono r.trk e)
  | ok d S1 =>
    rw [hsrc] at z
    simp only [R.stm_ok, R.bind_ok] at z ⊢
    cases hit : mkIt ik (srcL ik d) S1 with
    | none => rw [hit] at z; exact z.elim
    | some it =>
      rw [hit] at z
      dsimp only at z
      intro J W1 H1 e1 r1 hJ
      have z := WqS.ext e1 r1.trk z
      cases it with
      | items xs => exact for_items (b := exT G (run G kk) b) (fun _ _ _ => rfl) (fun _ _ _ q => q) (E.mono r.trk e1) r1 hJ z
      | live n en =>
        obtain ⟨a, ha, hJ⟩ := hJ
        cases en with
        | false =>
          subst hJ
          rw [show goForI (.live n false) _ env S1 = goForL n false _ LOOP 0 env S1 from rfl] at z
          exact for_live (b := exT G (run G kk) b) (fun _ _ _ => rfl) (fun _ _ _ q => q) (E.mono r.trk e1) r1 ha z
        | true =>
          rw [show goForI (.live n true) _ env S1 = .bad from rfl] at z
          exact z.elim

/-! ### stores, exceptions -/
theorem seti_ok {x y v : D} {o i u : V} {W : Wd} {S S' : Store} {H : Hp} {Q : Hp → Prop} (r : Rel K nm W S H) (p : Rep K W H x o) (q : Rep K W H y i) (pv : Rep K W H v u) (h : setIx x y v S = some S') (f : ∀ H', Ext W H W H' → Rel K nm W S' H' → Q H') : rSetL o i u H Q ∨ rSetD o i u H Q := by
  cases p with
  | @ref n a hm =>
    simp only [setIx] at h
    split at h
    · rename_i xs k hS
      rw [Option.map_eq_some_iff] at h
      obtain ⟨j, h1, h2⟩ := h
      subst h2
      obtain ⟨ws, hw, pw⟩ := r.ob n a _ hm hS
      obtain ⟨e, r'⟩ := r.putL hm (pw.set j pv)
      cases q
      exact .inl ⟨a, ws, k, j, rfl, rfl, hw, by rw [pw.lens]; exact h1, f _ e r'⟩
    · rename_i kvs hS
      split at h
      · rename_i hz
        rw [Option.map_eq_some_iff] at h
        obtain ⟨k, h1, h2⟩ := h
        subst h2
        obtain ⟨ws, hw, pw⟩ := r.ob n a _ hm hS
        obtain ⟨e, r'⟩ := r.putD hm (put_ok (k := k) pw pv)
        exact .inr ⟨a, _, rfl, .inl ⟨ws, k, hw, key_ok q h1, by rw [← pw.length, ← SZ_eq]; exact hz, rfl⟩, f _ e r'⟩
      · cases h
    · cases h
  | _ => cases h
theorem _root_.L2.PSet.or {X : Cx} {t u : TSet} (h : PSet X t) (h' : PSet X u) : PSet X fun o i v H Q => t o i v H Q ∨ u o i v H Q := fun pins s σ H o i v ov iv u' Q I ro ri rv q => q.elim (h pins s σ H o i v ov iv u' Q I ro ri rv) (h' pins s σ H o i v ov iv u' Q I ro ri rv)
theorem z_setI (sn : ∀ e, Snd P w K mg base G Y nm kk N e) (o i e : E) (k : T) (ik : SndS P w K mg base G Y nm kk N k) : SndS P w K mg base G Y nm kk N (.setI o i e k) := by
  intro sc sts X Wi h C hf tk hp
  simp only [chkS] at h
  split at h <;> try (cases h; done)
  rename_i p q _ v _ rest
  simp only [Bool.and_eq_true, Bool.not_eq_true'] at h
  obtain ⟨⟨⟨⟨⟨h1, h2⟩, h3⟩, h4⟩, h5⟩, h6⟩ := h
  rw [tS_eq (g := fun env S => ((ev G (run G kk) e env S).stm env fun v S => (ev G (run G kk) o env S).stm env fun x S => (ev G (run G kk) i env S).stm env fun y S => match setIx x y v S with
    | some S' => .nx env S'
    | none => .bad).andThen (exT G (run G kk) k)) (fun env S => by
      simp only [exT, stm_andThen]
      congr 1
      funext v S
      congr 1
      funext x S
      congr 1
      funext y S
      cases setIx x y v S <;> rfl)]
  refine pss_then ?_ (ik sc _ X Wi h6 C hf tk hp)
  have hu : X.A.units + 1 < cLine := by have := C.room.units; omega
  refine (ps_asg ((sn e).v _ _ X Wi h3 C (tk_of hf.2.2 tk)) (pg_sub ((sn o).v _ _ X Wi h4 C (tk_of hf.2.2 tk)) ((sn i).v _ _ X Wi h5 C (tk_of hf.2.2 tk)) (set_list.or (set_dict hu)) (by cases q <;> first | (intro _; rfl) | cases h2)) (hs := swapsS_ok h1) (hw := rfl) (h1 := rfl)).imp fun D σ H z => ?_
  obtain ⟨W, S, env, E, r, z⟩ := z
  refine ⟨W, S, env, E, r, (WqS.stm (rp := rpD K) E r z).mono fun v H1 z => ?_⟩
  obtain ⟨W1, S1, d, e1, E1, r1, p1, z⟩ := z
  refine ⟨W1, S1, env, E1, r1, (WqS.stm (rp := rpD K) E1 r1 z).mono fun x H2 z => ?_⟩
  obtain ⟨W2, S2, dx, e2, E2, r2, p2, z⟩ := z
  refine ⟨W2, S2, env, E2, r2, (WqS.stm (rp := rpD K) E2 r2 z).mono fun y H3 z => ?_⟩
  obtain ⟨W3, S3, dy, e3, E3, r3, p3, z⟩ := z
  cases hs : setIx dx dy d S3 with
  | none => rw [hs] at z; exact z.elim
  | some S' =>
    rw [hs] at z
    exact seti_ok r3 (p2.mono r2.trk e3) p3 ((p1.mono r1.trk e2).mono r2.trk e3) hs fun H' e' r' => z W3 H' _ e' r' (E3.mono r3.trk e')
theorem fldS_ok {W : Wd} {S S' : Store} {H : Hp} {x v : D} {o u : V} {c f : Nat} (g : GOk K mg G Y nm fa fd ps) (r : Rel K nm W S H) (p : Rep K W H x o) (pv : Rep K W H v u) (hc : clsD x S = some c) (h : setFld x f v S = some S') :
    ∃ a dx fs, o = .ref a ∧ H a = some (.ins (nm.C c) dx fs) ∧ fs.length < 1000 ∧ Ext W H W (upd H a (.ins (nm.C c) dx (putF (nm.fn f) u fs))) ∧ Rel K nm W S' (upd H a (.ins (nm.C c) dx (putF (nm.fn f) u fs))) := by
  obtain ⟨n, a, dx, fs, vs, rfl, rfl, h5, h6, h7, h8⟩ := ins_at r p hc
  simp only [setFld, h6] at h
  split at h
  · rename_i hz
    cases h
    have e : Ext W H W (upd H a (.ins (nm.C c) dx (putF (nm.fn f) u vs))) := Ext.put (List.mem_of_getElem? h5)
    exact ⟨a, dx, vs, rfl, h7, by rw [← fld_len h8]; exact hz, e, r.put h5 ⟨dx, _, upd_same, (fld_put g.inj h8 pv).mono r.trk e⟩⟩
  · cases h
theorem z_fldS (g : GOk K mg G Y nm fa fd ps) (sn : ∀ e, Snd P w K mg base G Y nm kk N e) (c : Nat) (o : E) (f : Nat) (e : E) (k : T) (ik : SndS P w K mg base G Y nm kk N k) : SndS P w K mg base G Y nm kk N (.fldS c o f e k) := by
  intro sc sts X Wi h C hf tk hp
  simp only [chkS] at h
  split at h <;> try (cases h; done)
  rename_i p n _ v _ rest
  simp only [Bool.and_eq_true, Bool.not_eq_true', decide_eq_true_eq] at h
  obtain ⟨⟨⟨⟨⟨h1, h2⟩, h3⟩, h4⟩, h5⟩, h6⟩ := h
  obtain ⟨cx, hc⟩ := Option.isSome_iff_exists.mp h1
  obtain ⟨cls, _, na⟩ := g.cl c cx hc
  obtain ⟨na, rfl⟩ := na f _ h2
  rw [tS_eq (g := fun env S => ((ev G (run G kk) e env S).stm env fun v S => (ev G (run G kk) o env S).stm env fun x S => if clsD x S = some c then match setFld x f v S with
    | some S' => .nx env S'
    | none => .bad else .bad).andThen (exT G (run G kk) k)) (fun env S => by
      simp only [exT, stm_andThen]
      congr 1
      funext v S
      congr 1
      funext x S
      by_cases hcl : clsD x S = some c
      · simp only [if_pos hcl]
        cases setFld x f v S <;> rfl
      · simp only [if_neg hcl]
        rfl)]
  refine pss_then ?_ (ik sc _ X Wi h6 C hf tk hp)
  have eK := C.hK
  subst eK
  refine (ps_fld ((sn o).v _ _ X Wi h5 C (tk_of hf.2.2 tk)) ((sn e).v _ _ X Wi h4 C (tk_of hf.2.2 tk)) (swaps_ok h3)).imp fun D σ H z => ?_
  obtain ⟨W, S, env, E, r, z⟩ := z
  refine ⟨W, S, env, E, r, (WqS.stm (rp := rpD X.K) E r z).mono fun v H1 z => ?_⟩
  obtain ⟨W1, S1, d, e1, E1, r1, p1, z⟩ := z
  refine ⟨W1, S1, env, E1, r1, (WqS.stm (rp := rpD X.K) E1 r1 z).mono fun x H2 z => ?_⟩
  obtain ⟨W2, S2, dx, e2, E2, r2, p2, z⟩ := z
  split at z <;> try exact z.elim
  rename_i hcl
  cases hs : setFld dx f d S2 with
  | none => rw [hs] at z; exact z.elim
  | some S' =>
    rw [hs] at z
    obtain ⟨a, dx', fs, rfl, h7, h8, ex, r'⟩ := fldS_ok g r2 p2 (p1.mono r1.trk e2) hcl hs
    exact ⟨a, nm.C c, dx', fs, rfl, h7, cls, na, h8, z W2 _ _ ex r' (E2.mono r2.trk ex)⟩
theorem z_rais (g : GOk K mg G Y nm fa fd ps) (c : Nat) : SndS P w K mg base G Y nm kk N (.rais c) := by
  intro sc sts X Wi h C hf tk hp
  simp only [chkS] at h
  split at h <;> try (cases h; done)
  simp only [Bool.and_eq_true, Bool.not_eq_true', decide_eq_true_eq] at h
  obtain ⟨⟨h1, h2⟩, h3⟩ := h
  obtain ⟨gm, gk, gx, gs, gt⟩ := g.ex c _ h1
  have e1 := C.hK
  have e2 := C.hm
  subst e1 e2
  refine pss_one ((ps_raise C.calm tk (pmk_own0 PySem.F.excBase_ValueError gx gm gk (raises_own gs gt) (gl_ok C h2) (dbg_ok h3))).imp fun D σ H z => ?_)
  obtain ⟨W, S, env, E, r, z⟩ := z
  exact z W H σ Ext.refl r E
/-- a suite of an except clause -/
theorem suite_ok (g : GOk K mg G Y nm fa fd ps) {call : Calls} (t : T) : ∀ (sts : List Stmt) (X : Cx), chkH Y N sc t sts = true → COkH P w K mg N sc X → PSs X sts (tS K nm noX (exT G call t)) := by
  have sh := fun e => sndH (P := P) (w := w) (K := K) (mg := mg) (G := G) (Y := Y) (nm := nm) (N := N) (call := call) e
  induction t with
  | nil =>
    intro sts X h C
    cases sts with
    | nil => exact pss_nil.imp fun D σ H ⟨W, S, env, E, r, z⟩ => z W H σ Ext.refl r E
    | cons _ _ => cases h
  | asg i e k ik =>
    intro sts X h C
    simp only [chkH] at h
    split at h <;> try (cases h; done)
    simp only [Bool.and_eq_true, Bool.not_eq_true'] at h
    obtain ⟨⟨⟨⟨h1, h2⟩, h0⟩, h3⟩, h4⟩ := h
    rw [tS_eq (g := fun env S => ((ev G call e env S).stm env fun d S => .nx (env.set i (some d)) S).andThen (exT G call k)) (fun env S => by rw [stm_andThen]; rfl)]
    refine pss_then ?_ (ik _ X h4 C)
    obtain ⟨pg, _⟩ := pg_one C.hN C.nd C.sc (fl := true) (fun _ => C.fn) h1
    refine (ps_asg ((sh e).v _ _ X h0 h3 C) pg (hs := swapsS_ok h2) (hw := rfl) (h1 := rfl)).imp fun D σ H q => ?_
    obtain ⟨W, S, env, E, r, z⟩ := q
    refine ⟨W, S, env, E, r, (WqS.stm (rp := rpD K) E r z).mono fun v H1 z => ?_⟩
    obtain ⟨W1, S1, d, e1, E1, r1, p1, z⟩ := z
    exact z W1 H1 _ Ext.refl r1 (E1.set i p1)
  | ret e =>
    intro sts X h C
    simp only [chkH] at h
    split at h <;> try (cases h; done)
    simp only [Bool.and_eq_true] at h
    refine pss_one ((ps_ret ((sh e).v _ _ X h.1 h.2 C)).imp fun D σ H q => ?_)
    obtain ⟨W, S, env, E, r, z⟩ := q
    refine ⟨W, S, env, E, r, (WqS.stm (rp := rpD K) E r z).mono fun v H1 z => ?_⟩
    obtain ⟨W1, S1, d, e1, E1, r1, p1, z⟩ := z
    exact z v W1 H1 Ext.refl r1 p1
  | fldS c o f e k ik =>
    intro sts X h C
    simp only [chkH] at h
    split at h <;> try (cases h; done)
    rename_i p n _ v _ rest
    simp only [Bool.and_eq_true, Bool.not_eq_true', decide_eq_true_eq] at h
    obtain ⟨⟨⟨⟨⟨⟨⟨h1, h2⟩, h3⟩, q1⟩, q2⟩, h4⟩, h5⟩, h6⟩ := h
    obtain ⟨cx, hc⟩ := Option.isSome_iff_exists.mp h1
    obtain ⟨cls, _, na⟩ := g.cl c cx hc
    obtain ⟨na, rfl⟩ := na f _ h2
    rw [tS_eq (g := fun env S => ((ev G call e env S).stm env fun v S => (ev G call o env S).stm env fun x S => if clsD x S = some c then match setFld x f v S with
      | some S' => .nx env S'
      | none => .bad else .bad).andThen (exT G call k)) (fun env S => by
        simp only [exT, stm_andThen]
        congr 1
        funext v S
        congr 1
        funext x S
        by_cases hcl : clsD x S = some c
        · simp only [if_pos hcl]
          cases setFld x f v S <;> rfl
        · simp only [if_neg hcl]
          rfl)]
    refine pss_then ?_ (ik _ X h6 C)
    have eK := C.hK
    subst eK
    refine (ps_fld ((sh o).v _ _ X q1 h5 C) ((sh e).v _ _ X q2 h4 C) (swaps_ok h3)).imp fun D σ H z => ?_
    obtain ⟨W, S, env, E, r, z⟩ := z
    refine ⟨W, S, env, E, r, (WqS.stm (rp := rpD X.K) E r z).mono fun v H1 z => ?_⟩
    obtain ⟨W1, S1, d, e1, E1, r1, p1, z⟩ := z
    refine ⟨W1, S1, env, E1, r1, (WqS.stm (rp := rpD X.K) E1 r1 z).mono fun x H2 z => ?_⟩
    obtain ⟨W2, S2, dx, e2, E2, r2, p2, z⟩ := z
    split at z <;> try exact z.elim
    rename_i hcl
    cases hs : setFld dx f d S2 with
    | none => rw [hs] at z; exact z.elim
    | some S' =>
      rw [hs] at z
      obtain ⟨a, dx', fs, rfl, h7, h8, ex, r'⟩ := fldS_ok g r2 p2 (p1.mono r1.trk e2) hcl hs
      exact ⟨a, nm.C c, dx', fs, rfl, h7, cls, na, h8, z W2 _ _ ex r' (E2.mono r2.trk ex)⟩
  | _ => exact fun sts X h C => by simp [chkH] at h
theorem exm_two {K : PySem.W.Frag} {cls a a' : Value} {c : Nat} {cs cs1 cs2 : List Nat} (h : PySem.W.exmOne K cls a = some (decide (c ∈ cs1))) (h' : PySem.W.exmOne K cls a' = some (decide (c ∈ cs2))) (e : cs = cs1 ++ cs2) : PySem.W.exmAny K cls [a, a'] = some (decide (c ∈ cs)) := by
  subst e
  simp only [PySem.W.exmAny, h, h', List.mem_append]
  by_cases q : c ∈ cs1 <;> by_cases q' : c ∈ cs2 <;> simp [q, q']
theorem z_tr (g : GOk K mg G Y nm fa fd ps) (b : T) (cs : List Nat) (hd k : T) (ib : SndS P w K mg base G Y nm kk N b) (ik : SndS P w K mg base G Y nm kk N k) : SndS P w K mg base G Y nm kk N (.tr b cs hd k) := by
  intro sc sts X Wi h C hf tk hp
  rw [tS_eq (g := fun env S => (match exT G (run G kk) b env S with
    | .ex c env' S' => if c ∈ G.exs then (if c ∈ cs then (exT G (run G kk) hd env' S').calm else .ex c env' S') else .bad
    | r => r : RS).andThen (exT G (run G kk) k)) (fun env S => by
      simp only [exT]
      cases exT G (run G kk) b env S with
      | ex c env' S' =>
        dsimp only
        by_cases z : c ∈ G.exs
        · simp only [if_pos z]
          by_cases z' : c ∈ cs
          · simp only [if_pos z']
          · simp only [if_neg z']; rfl
        · simp only [if_neg z]; rfl
      | _ => rfl)]
  have e1 := C.hK
  have e2 := C.hm
  subst e1 e2
  simp only [chkS] at h
  split at h <;> try (cases h; done)
  · rename_i body x np b0 suite p1 p2 rest
    simp only [Bool.and_eq_true, Bool.not_eq_true', decide_eq_true_eq] at h
    obtain ⟨⟨⟨⟨⟨h1, h2⟩, h3⟩, h4⟩, h5⟩, h6⟩ := h
    obtain ⟨a, hm, hx⟩ := g.hd x cs h1
    refine pss_then ?_ (ik sc _ X Wi h6 C hf tk hp)
    refine (ps_try_only (tb := fun W => tS X.K nm W (exT G (run G kk) b)) (ts := fun _ _ _ => tS X.K nm noX (exT G (run G kk) hd)) (c := .ref a) hf.2.1 hf.2.2 ⟨gl_ok C h2, h3, .inl hm⟩ tk (fun W pn xe tk' hp' => ?_) (fun a oe cls d pn _ _ => ?_)).imp fun D σ H z => ?_
    · exact ib sc _ (X.tr pn xe) W h4 ⟨C.hP, C.hw, C.hK, C.hm, C.hb, C.hN, C.nd, C.sc, C.room, C.calm, C.fr⟩ hf tk' hp'
    · exact suite_ok (P := P) (w := w) g hd _ (X.suite a ((a, oe) :: pn)) h5 ⟨rfl, rfl, C.hN, C.nd, C.sc, hf.1⟩
    · obtain ⟨W, S, env, E, r, z⟩ := z
      refine ⟨W, S, env, E, r, ?_⟩
      dsimp only at z
      revert z
      cases exT G (run G kk) b env S with
      | nx env' S' => exact fun z => z
      | rt d S' => exact fun z => z
      | bad => exact fun z => z
      | ex c env' S' =>
        dsimp only
        by_cases z1 : c ∈ G.exs
        · rw [if_pos z1]
          intro z W' H' σ' e' r' E'
          refine ⟨decide (c ∈ cs), hx c z1, fun q a _ => ?_, fun q => ?_⟩
          · rw [if_pos (of_decide_eq_true q)] at z
            refine ⟨W', S', env', E', r', ?_⟩
            have z := WqS.ext e' r'.trk z
            revert z
            cases exT G (run G kk) hd env' S' with
            | ex _ _ _ => exact fun z => z.elim
            | nx _ _ => exact fun z => z
            | rt _ _ => exact fun z => z
            | bad => exact fun z => z
          · rw [if_neg (of_decide_eq_false q)] at z
            exact z W' H' σ' e' r' E'
        · rw [if_neg z1]
          exact fun z => z.elim
  · rename_i body x np x' np' tn tp b0 suite p1 p2 rest
    simp only [Bool.and_eq_true, Bool.not_eq_true'] at h
    obtain ⟨⟨⟨⟨⟨h1, h2, h3⟩, h2', h3'⟩, h4⟩, h5⟩, h6⟩ := h
    split at h1 <;> try (cases h1; done)
    rename_i cs1 cs2 k1 k2
    have h1 : cs = cs1 ++ cs2 := of_decide_eq_true h1
    obtain ⟨a, hm, hx⟩ := g.hd x cs1 k1
    obtain ⟨a', hm', hx'⟩ := g.hd x' cs2 k2
    refine pss_then ?_ (ik sc _ X Wi h6 C hf tk hp)
    refine (ps_try_two (tb := fun W => tS X.K nm W (exT G (run G kk) b)) (ts := tS X.K nm noX (exT G (run G kk) hd)) (c1 := .ref a) (c2 := .ref a') hf.2.1 hf.2.2 ⟨gl_ok C h2, h3, .inl hm⟩ ⟨gl_ok C h2', h3', .inl hm'⟩ tk (fun W pn xe tk' hp' => ?_) (fun a oe pn => ?_)).imp fun D σ H z => ?_
    · exact ib sc _ (X.tr pn xe) W h4 ⟨C.hP, C.hw, C.hK, C.hm, C.hb, C.hN, C.nd, C.sc, C.room, C.calm, C.fr⟩ hf tk' hp'
    · exact suite_ok (P := P) (w := w) g hd _ (X.suite a ((a, oe) :: pn)) h5 ⟨rfl, rfl, C.hN, C.nd, C.sc, hf.1⟩
    · obtain ⟨W, S, env, E, r, z⟩ := z
      refine ⟨W, S, env, E, r, ?_⟩
      dsimp only at z
      revert z
      cases exT G (run G kk) b env S with
      | nx env' S' => exact fun z => z
      | rt d S' => exact fun z => z
      | bad => exact fun z => z
      | ex c env' S' =>
        dsimp only
        by_cases z1 : c ∈ G.exs
        · rw [if_pos z1]
          intro z W' H' σ' e' r' E'
          refine ⟨decide (c ∈ cs), exm_two (hx c z1) (hx' c z1) h1, fun q => ?_, fun q => ?_⟩
          · rw [if_pos (of_decide_eq_true q)] at z
            refine ⟨W', S', env', E', r', ?_⟩
            have z := WqS.ext e' r'.trk z
            revert z
            cases exT G (run G kk) hd env' S' with
            | ex _ _ _ => exact fun z => z.elim
            | nx _ _ => exact fun z => z
            | rt _ _ => exact fun z => z
            | bad => exact fun z => z
          · rw [if_neg (of_decide_eq_false q)] at z
            exact z W' H' σ' e' r' E'
        · rw [if_neg z1]
          exact fun z => z.elim
theorem z_tr2 (g : GOk K mg G Y nm fa fd ps) (b : T) (c1 : Nat) (h1 : T) (c2 : Nat) (h2 k : T) (ib : SndS P w K mg base G Y nm kk N b) (ik : SndS P w K mg base G Y nm kk N k) : SndS P w K mg base G Y nm kk N (.tr2 b c1 h1 c2 h2 k) := by
  intro sc sts X Wi h C hf tk hp
  simp only [chkS] at h
  split at h <;> try (cases h; done)
  rename_i body x np b0 suite p1 x' np' b0' suite' p1' p2 rest
  simp only [Bool.and_eq_true, Bool.not_eq_true', decide_eq_true_eq] at h
  obtain ⟨⟨⟨⟨⟨⟨⟨⟨⟨q1, q2⟩, q3⟩, r1⟩, r2⟩, r3⟩, h4⟩, h5⟩, h5'⟩, h6⟩ := h
  obtain ⟨a, hm, hx⟩ := g.hd x [c1] q1
  obtain ⟨a', hm', hx'⟩ := g.hd x' [c2] r1
  rw [tS_eq (g := fun env S => (match exT G (run G kk) b env S with
    | .ex c env' S' => if c ∈ G.exs then (if c = c1 then (exT G (run G kk) h1 env' S').calm else if c = c2 then (exT G (run G kk) h2 env' S').calm else .ex c env' S') else .bad
    | r => r : RS).andThen (exT G (run G kk) k)) (fun env S => by
      simp only [exT]
      cases exT G (run G kk) b env S with
      | ex c env' S' =>
        dsimp only
        by_cases z : c ∈ G.exs
        · simp only [if_pos z]
          by_cases z' : c = c1
          · simp only [if_pos z']
          · simp only [if_neg z']
            by_cases z'' : c = c2
            · simp only [if_pos z'']
            · simp only [if_neg z'']; rfl
        · simp only [if_neg z]; rfl
      | _ => rfl)]
  refine pss_then ?_ (ik sc _ X Wi h6 C hf tk hp)
  have e1 := C.hK
  have e2 := C.hm
  subst e1 e2
  have calmed : ∀ {t : T} {env' : Env} {S' : Store} {W : Wd} {H : Hp} {D : Ends}, WqS X.K nm W H (exT G (run G kk) t env' S').calm D Wi → WqS X.K nm W H (exT G (run G kk) t env' S') D noX := fun {t env' S' W H D} z => by
    revert z
    cases exT G (run G kk) t env' S' with
    | ex _ _ _ => exact fun z => z.elim
    | nx _ _ => exact fun z => z
    | rt _ _ => exact fun z => z
    | bad => exact fun z => z
  refine (ps_try_many (tb := fun W => tS X.K nm W (exT G (run G kk) b)) (l := [(.ref a, fun _ _ _ => tS X.K nm noX (exT G (run G kk) h1)), (.ref a', fun _ _ _ => tS X.K nm noX (exT G (run G kk) h2))]) hf.2.1 hf.2.2 tk (fun W pn xe tk' hp' => ?_)
    (.cons ⟨gl_ok C q2, q3, .inl hm⟩ (fun a oe cls d pn _ _ => ?_) (.cons ⟨gl_ok C r2, r3, .inl hm'⟩ (fun a oe cls d pn _ _ => ?_) .nil))).imp fun D σ H z => ?_
  · exact ib sc _ (X.tr pn xe) W h4 ⟨C.hP, C.hw, C.hK, C.hm, C.hb, C.hN, C.nd, C.sc, C.room, C.calm, C.fr⟩ hf tk' hp'
  · exact suite_ok (P := P) (w := w) g h1 _ (X.suite a ((a, oe) :: pn)) h5 ⟨rfl, rfl, C.hN, C.nd, C.sc, hf.1⟩
  · exact suite_ok (P := P) (w := w) g h2 _ (X.suite a ((a, oe) :: pn)) h5' ⟨rfl, rfl, C.hN, C.nd, C.sc, hf.1⟩
  · obtain ⟨W, S, env, E, r, z⟩ := z
    refine ⟨W, S, env, E, r, ?_⟩
    dsimp only at z
    revert z
    cases exT G (run G kk) b env S with
    | nx env' S' => exact fun z => z
    | rt d S' => exact fun z => z
    | bad => exact fun z => z
    | ex c env' S' =>
      dsimp only
      by_cases z1 : c ∈ G.exs
      · rw [if_pos z1]
        intro z W' H' σ' e' r' E'
        refine ⟨decide (c ∈ [c1]), hx c z1, fun q a _ => ?_, fun q => ⟨decide (c ∈ [c2]), hx' c z1, fun q' a _ => ?_, fun q' => ?_⟩⟩
        · have q := List.mem_singleton.mp (of_decide_eq_true q)
          rw [if_pos q] at z
          exact ⟨W', S', env', E', r', calmed (WqS.ext e' r'.trk z)⟩
        · have q : ¬ c = c1 := fun y => (of_decide_eq_false q) (List.mem_singleton.mpr y)
          have q' := List.mem_singleton.mp (of_decide_eq_true q')
          rw [if_neg q, if_pos q'] at z
          exact ⟨W', S', env', E', r', calmed (WqS.ext e' r'.trk z)⟩
        · have q : ¬ c = c1 := fun y => (of_decide_eq_false q) (List.mem_singleton.mpr y)
          have q' : ¬ c = c2 := fun y => (of_decide_eq_false q') (List.mem_singleton.mpr y)
          rw [if_neg q, if_neg q'] at z
          exact z W' H' σ' e' r' E'
      · rw [if_neg z1]
        exact fun z => z.elim
end
end PL

set_option Elab.async false
set_option linter.all false
set_option maxRecDepth 100000
set_option maxHeartbeats 2000000
/-! PLN: defs keep the evaluator's promise. -/
namespace PL
open PySem PySem.Spec PyProof.Rows L2
section
variable {P : Program} {w : World} {K : PySem.W.Frag} {mg : Str → Option Value} {base : Heap} {G : Tab} {Y : Sx} {nm : Nm} {fa : Nat → Addr} {fd : Nat → FuncData} {ps : Nat → List Str} {kk : Nat} {N : List Str}
variable {sc : Scope} {X : Cx} {Wi : WX}
theorem sndS (g : GOk K mg G Y nm fa fd ps) (hF : ∀ f : Nat, (G.fns f).isSome = true → FnOk P w K mg base (L2.CX P w) (2 * kk) (fa f) (fd f) (ps f) (spF K nm G kk f)) (t : T) : SndS P w K mg base G Y nm kk N t := by
  have sn := fun e => snd (P := P) (w := w) (base := base) (N := N) g hF e
  induction t with
  | nil => exact z_nil
  | asg i e k ik => exact z_asg g sn i e k ik
  | asgT is e k ik => exact z_asgT sn is e k ik
  | exp e k ik => exact z_exp sn e k ik
  | ret e => exact z_ret sn e
  | ifs c a b k ia ib ik => exact z_ifs sn c a b k ia ib ik
  | whl c b k ib ik => exact z_whl sn c b k ib ik
  | for_ ik src tg b k ib iK => exact z_for g sn ik src tg b k ib iK
  | setI o i e k ik => exact z_setI sn o i e k ik
  | fldS c o f e k ik => exact z_fldS g sn c o f e k ik
  | rais c => exact z_rais g c
  | tr b cs h k ib ih ik => exact z_tr g b cs h k ib ik
  | tr2 b c h c' h' k ib ih ih' ik => exact z_tr2 g b c h c' h' k ib ik

/-! ### pure defs -/
def W00 : Wd := ⟨[], []⟩
mutual
theorem rep_pure {W : Wd} {H : Hp} : ∀ {d : D} {v : V}, noRef d = true → Rep K W H d v → Rep K W00 H d v
  | _, _, _, .non => .non
  | _, _, _, .bl b => .bl b
  | _, _, _, .int i => .int i
  | _, _, _, .str x => .str x
  | _, _, n, .tup h r => .tup h (reps_pure (by simpa [noRef] using n) r)
  | _, _, n, .lst h a b r => .lst h (by simp [W00]) (by simp [W00]) (reps_pure (by simpa [noRef] using n) r)
  | _, _, n, .dct h a b r => .dct h (by simp [W00]) (by simp [W00]) (repK_pure (by simpa [noRef] using n) r)
  | _, _, n, .ref h => by simp [noRef] at n
  | _, _, n, .scr h => .scr h
theorem reps_pure {W : Wd} {H : Hp} : ∀ {d : List D} {v : List V}, noRefs d = true → Reps K W H d v → Reps K W00 H d v
  | _, _, _, .nil => .nil
  | _, _, n, .cons r rs => by
    simp only [noRefs, Bool.and_eq_true] at n
    exact .cons (rep_pure n.1 r) (reps_pure n.2 rs)
theorem repK_pure {W : Wd} {H : Hp} : ∀ {d : List (Ky × D)} {v : List (Key × V)}, noRefK d = true → RepK K W H d v → RepK K W00 H d v
  | _, _, _, .nil => .nil
  | _, _, n, .cons r rs => by
    simp only [noRefK, Bool.and_eq_true] at n
    exact .cons (rep_pure n.1 r) (repK_pure n.2 rs)
end
mutual
theorem rep_scl {W W' : Wd} {H : Hp} : ∀ {d : D} {v : V}, scl d = true → Rep K W H d v → Rep K W' H d v
  | _, _, _, .non => .non
  | _, _, _, .bl b => .bl b
  | _, _, _, .int i => .int i
  | _, _, _, .str x => .str x
  | _, _, n, .tup h r => .tup h (reps_scl (by simpa [scl] using n) r)
  | _, _, n, .lst h a b r => by simp [scl] at n
  | _, _, n, .dct h a b r => by simp [scl] at n
  | _, _, n, .ref h => by simp [scl] at n
  | _, _, n, .scr h => by simp [scl] at n
theorem reps_scl {W W' : Wd} {H : Hp} : ∀ {d : List D} {v : List V}, scls d = true → Reps K W H d v → Reps K W' H d v
  | _, _, _, .nil => .nil
  | _, _, n, .cons r rs => by
    simp only [scls, Bool.and_eq_true] at n
    exact .cons (rep_scl n.1 r) (reps_scl n.2 rs)
end
theorem repK_scl {W W' : Wd} {H : Hp} {d : List (Ky × D)} {v : List (Key × V)} (n : sclK d = true) (r : RepK K W H d v) : RepK K W' H d v := by
  induction d generalizing v with
  | nil => cases r; exact .nil
  | cons x xs ih =>
    cases r with
    | cons a b =>
      simp only [sclK, Bool.and_eq_true] at n
      exact .cons (rep_scl n.1 a) (ih n.2 b)
theorem frz_args {W : Wd} {S : Store} {H : Hp} (r : Rel K nm W S H) : ∀ {as : List D} {vs : List V} {as' : List D}, Reps K W H as vs → frzAs S as = some as' → Reps K W00 H as' vs
  | [], _, _, .nil, h => by cases h; exact .nil
  | d :: ds, _, as', .cons a b, h => by
    simp only [frzAs] at h
    split at h
    · rename_i x xs e1 e2
      cases h
      refine .cons ?_ (frz_args r b e2)
      cases a with
      | @ref n ad h1 =>
        simp only [frzA] at e1
        split at e1
        · rename_i ys q
          split at e1
          · rename_i hn
            cases e1
            obtain ⟨vs, h2, h3⟩ := r.ob n ad _ h1 q
            exact .lst (.inl h2) (by simp [W00]) (by simp [W00]) (reps_pure hn h3)
          · cases e1
        · rename_i ys q
          split at e1
          · rename_i hn
            cases e1
            obtain ⟨vs, h2, h3⟩ := r.ob n ad _ h1 q
            exact .dct (.inl h2) (by simp [W00]) (by simp [W00]) (repK_pure hn h3)
          · cases e1
        · cases e1
      | non => cases e1; exact .non
      | bl b => cases e1; exact .bl b
      | int i => cases e1; exact .int i
      | str x => cases e1; exact .str x
      | tup h1 h2 =>
        simp only [frzA] at e1
        split at e1
        · rename_i hn; cases e1; exact rep_pure hn (.tup h1 h2)
        · cases e1
      | lst h1 h2 h3 h4 =>
        simp only [frzA] at e1
        split at e1
        · rename_i hn; cases e1; exact rep_pure hn (.lst h1 h2 h3 h4)
        · cases e1
      | dct h1 h2 h3 h4 =>
        simp only [frzA] at e1
        split at e1
        · rename_i hn; cases e1; exact rep_pure hn (.dct h1 h2 h3 h4)
        · cases e1
      | scr h1 => cases e1; exact .scr h1
    · cases h
theorem rel00 {H : Hp} : Rel K nm W00 [] H := ⟨rfl, List.nodup_nil, fun n a o h => by simp [W00] at h, fun b hb => by simp [W00] at hb⟩
theorem erep_start {W : Wd} {H : Hp} {as : List D} {vs : List V} (p : Reps K W H as vs) (N : List Str) : ERep K W H (startE N.length as) (start N vs) := by
  refine ⟨by simp [startE, L2.start, p.length], fun i d h => ?_⟩
  by_cases hi : i < as.length
  · have hi' : i < (as.map some).length := by simpa using hi
    rw [startE, List.getElem?_append_left hi'] at h
    simp only [List.getElem?_map, Option.map_eq_some_iff, Option.some.injEq] at h
    obtain ⟨d', h1, h2⟩ := h
    subst h2
    obtain ⟨v, h3, h4⟩ := p.get h1
    refine ⟨v, ?_, h4⟩
    have hv : i < (vs.map some).length := by rw [List.length_map, p.lens]; exact hi
    show (vs.map some ++ _)[i]? = _
    rw [List.getElem?_append_left hv]
    simp [h3]
  · rw [startE, List.getElem?_append_right (by simpa using hi)] at h
    rw [List.getElem?_replicate] at h
    split at h <;> cases h
/-- where a def stands, and that its body is what the table says -/
structure FOk (K : PySem.W.Frag) (G : Tab) (Y : Sx) (f : Nat) (ad : Addr) (fdt : FuncData) (psf : List Str) : Prop where
  ex : ∃ (x qual : Str) (st : Stmt) (N : List Str) (F : Fn), G.fns f = some F ∧ Fun K x qual st ad fdt ∧ FnScope N psf (defScope st) ∧ F.np = psf.length ∧ F.nl = N.length ∧ chkS Y N (defScope st) F.body (defBody st) = true
theorem fn_all (g : GOk K mg G Y nm fa fd ps) (hO : ∀ f : Nat, (G.fns f).isSome = true → FOk K G Y f (fa f) (fd f) (ps f)) : ∀ (kk f : Nat), (G.fns f).isSome = true → FnOk P w K mg base (L2.CX P w) (2 * kk) (fa f) (fd f) (ps f) (spF K nm G kk f) := by
  intro kk
  induction kk with
  | zero => exact fun f hf => ⟨fun vs H Q E ⟨W, S, as, _, _, z⟩ => z.elim, fun A outer s H args us vs Q E _ _ _ _ ⟨W, S, as, _, _, z⟩ => z.elim⟩
  | succ kk ih =>
    intro f hf
    obtain ⟨x, qual, st, N, F, hFn, fu, S, hnp, hnl, hch⟩ := (hO f hf).ex
    refine fu.okX (k := 2 * kk + 1) (N := N) S (fun vs H Q E q => ?_) fun cdv A outer s H vs Q E hr q => ?_
    · obtain ⟨W, St, as, r, p, z⟩ := q
      simp only [run, hFn] at z
      split at z
      · exact z.elim
      · rename_i hl
        rw [p.lens, ← hnp]
        exact Decidable.not_not.mp hl
    · have hS := sndS (P := P) (w := w) (base := base) (N := N) (kk := kk) g ih F.body (defScope st) (defBody st) (cxOf (L2.CX P w) P w K mg base N qual (defScope st) (fa f) cdv A outer s H E) (fun cls d _ H => E cls d H) hch
        ⟨rfl, rfl, rfl, rfl, rfl, rfl, S.nd, rfl, hr, rfl, ⟨_, _, _, rfl, rfl, rfl⟩⟩ ⟨fun _ => rfl, rfl, rfl⟩ (takes_of rfl rfl rfl rfl) (passes_of rfl)
      refine ⟨_, hS, ?_⟩
      obtain ⟨W, St, as, r, p, z⟩ := q
      simp only [run, hFn] at z
      split at z
      · exact z.elim
      · by_cases hp : F.pure = true
        · rw [if_pos hp] at z
          cases hfr : frzAs St as with
          | none => rw [hfr] at z; exact z.elim
          | some as' =>
            rw [hfr] at z
            dsimp only at z
            have p0 := frz_args r p hfr
            refine ⟨W00, [], startE F.nl as', by rw [hnl]; exact erep_start p0 N, rel00, ?_⟩
            have all : ∀ {W' : Wd} {H' : Hp}, Ext W00 H W' H' → (∀ a o, H a = some o → H' a = some o) ∧ Ext W H W H' := fun e => ⟨fun a o h => e.keep a o h (by simp [W00]), ⟨rfl, ⟨[], by simp⟩, fun a o h _ => e.keep a o h (by simp [W00])⟩⟩
            revert z
            cases exT G (run G kk) F.body (startE F.nl as') [] with
            | bad => exact fun z => z.elim
            | nx env' S' =>
              intro z W' H' σ' e r' _
              obtain ⟨k1, k2⟩ := all e
              exact z .non W H' k2 (r.grow k2 k1) .non
            | ex c env' S' =>
              intro z W' H' σ' e r' _
              obtain ⟨k1, k2⟩ := all e
              exact z W H' k2 (r.grow k2 k1)
            | rt d S' =>
              intro z v W' H' e r' pv
              obtain ⟨k1, k2⟩ := all e
              have rW := r.grow k2 k1
              obtain ⟨d', hd, fi⟩ := z.of
              refine fi v W H' k2 rW ?_
              cases pv with
              | @ref n ad h1 =>
                have fresh : H ad = none := by
                  obtain ⟨t, e1, e2⟩ := e.m
                  have : ad ∈ W'.m := List.mem_of_getElem? h1
                  rw [e1] at this
                  exact e2 ad (by simpa [W00] using this)
                simp only [frzR] at hd
                split at hd
                · rename_i ys q
                  split at hd
                  · rename_i hn
                    cases hd
                    obtain ⟨vs', h2, h3⟩ := r'.ob n ad _ h1 q
                    exact .lst (.inl h2) (r.fresh fresh).1 (r.fresh fresh).2 (reps_scl hn h3)
                  · cases hd
                · rename_i ys q
                  split at hd
                  · rename_i hn
                    cases hd
                    obtain ⟨vs', h2, h3⟩ := r'.ob n ad _ h1 q
                    exact .dct (.inl h2) (r.fresh fresh).1 (r.fresh fresh).2 (repK_scl hn h3)
                  · cases hd
                · cases hd
              | non => cases hd; exact .non
              | bl b => cases hd; exact .bl b
              | int i => cases hd; exact .int i
              | str x => cases hd; exact .str x
              | tup h1 h2 =>
                simp only [frzR] at hd
                split at hd
                · rename_i hn; cases hd; exact rep_scl hn (.tup h1 h2)
                · cases hd
              | lst h1 h2 h3 h4 => simp [frzR, scl] at hd
              | dct h1 h2 h3 h4 => simp [frzR, scl] at hd
              | scr h1 => simp [frzR, scl] at hd
        · rw [if_neg hp] at z
          refine ⟨W, St, startE F.nl as, by rw [hnl]; exact erep_start p N, r, ?_⟩
          revert z
          cases exT G (run G kk) F.body (startE F.nl as) St with
          | bad => exact fun z => z.elim
          | nx env' S' => exact fun z W' H' σ' e r' _ => z .non W' H' e r' .non
          | ex c env' S' => exact fun z W' H' σ' e r' _ => z W' H' e r'
          | rt d S' => exact fun z v W' H' e r' pv => z v W' H' e r' pv
end
end PL

set_option Elab.async false
set_option linter.all false
set_option maxRecDepth 100000
set_option maxHeartbeats 2000000
/-! PLO: the law's end. -/
namespace PL
open PySem PySem.Spec PyProof.Rows L2
/-- the law's promise -/
def spL (K : PySem.W.Frag) : Sp := fun vs H Q _ => ∃ (a : Addr) (ns : List Int), vs = [.ref a] ∧ SqL K H a (ns.map V.int) ∧ ns.length ≤ 63 ∧ Only H ∧ ∀ H', Q (.bl true) H'
theorem scr_at {K : PySem.W.Frag} {H : Hp} {a : Addr} {ns : List Int} (h : SqL K H a (ns.map V.int)) (o : Only H) : ScrAt K H a ns := by
  rcases h with (h | ⟨u, h⟩) | h
  · rcases o a with z | ⟨_, _, z⟩ <;> (rw [h] at z; cases z)
  · exact .inl ⟨u, h⟩
  · exact .inr h
theorem law_fn {P : Program} {w : World} {K : PySem.W.Frag} {mg : Str → Option Value} {base : Heap} {G : Tab} {nm : Nm} {kk f : Nat} {fa : Addr} {fd : FuncData} {ps : List Str} {k : Nat}
    (F : FnOk P w K mg base (L2.CX P w) k fa fd ps (spF K nm G kk f)) (h : ∀ ns : List Int, ns.length ≤ 63 → run G kk f [.scr ns] [] = .ok (.bl true) []) : FnOk P w K mg base (L2.CX P w) k fa fd ps (spL K) := by
  refine F.imp fun vs H Q E q => ?_
  obtain ⟨a, ns, e, hs, hl, ho, q⟩ := q
  subst e
  refine ⟨W00, [], [.scr ns], rel00, .cons (.scr (scr_at hs ho)) .nil, ?_⟩
  rw [h ns hl]
  intro v W' H' e r p
  cases p
  exact q H'
theorem law_walk {l : PySem.W.OpenLaw} {q : Program} {loose : List Str} {XP : (Str → Option Value) → Heap → Prop} {YP : World → Heap → Prop} {d : DefRec} {K : Params → PySem.W.Frag} {x : Str} {k : Nat} (hn : l.most = some 63) (hdf : d.params.defaults = []) (hr : Room k callerA)
    (hY : ∀ (w : World) (h : Heap), YP w h → (K w.params).In h)
    (F : ∀ (w : World) (mg : Str → Option Value) (fa : Addr) (h : Heap), (K w.params).In h → h.Ns mainGlobals mg → mg d.name = some (.ref fa) →
      ∃ fd : FuncData, (∀ (s : Shared) (u : Value), BindsTo s fd ⟨[u], []⟩ [(x, u)]) ∧ ∀ base : Heap, (K w.params).In base → base.Ns mainGlobals mg → FnOk l.prog w (K w.params) mg base (L2.CX l.prog w) k fa fd [x] (spL (K w.params))) :
    PySem.W.WalkO q loose XP YP l.row.toRowW d [] (fun f vs => PySem.call f vs) :=
  L2.walk_of (n := 63) (k := k) (x := x) (CX := fun w => L2.CX l.prog w) (sp := fun w => spL (K w.params)) hn (by decide) hdf hr hY F (fun _ _ a ns hl ho hS => ⟨a, ns, rfl, hS, hl, ho, fun _ => rfl⟩) fun _ _ _ _ _ z => by
    obtain ⟨_, _, _, _, _, _, _, _, _, _, _, _, z⟩ := z
    exact z
theorem rep_int (K : PySem.W.Frag) (i : Int) : ∀ W H, Rep K W H (.int i) (.int i) := fun _ _ => .int i
theorem rep_str (K : PySem.W.Frag) (i : Str) : ∀ W H, Rep K W H (.str i) (.str i) := fun _ _ => .str i
theorem rep_tupK {K : PySem.W.Frag} {xs : List Int} {T : Addr} {n : Nat} {its : Array Value} {ts : Array (Option Value)} (h : K.lookup T = some ⟨.type "tuple", none, .seq its n, ts⟩) (v : Vals (xs.map V.int) its.toList) (hz : its.size ≤ sizeLine) : ∀ W H, Rep K W H (.tup (xs.map D.int)) (.ref T) := fun W H =>
  .tup (.inr ⟨_, its, n, h, rfl, rfl, hz, v⟩) (reps_int xs)
theorem exm_by {K : PySem.W.Frag} {x c : Addr} {b b' : Bool} (hb : PySem.W.subIn K (.ref c) (.type "BaseException") = some true) (hi : PySem.W.isClsIn K c = true) (ht : PySem.W.typeIn K (.ref c) = some (.type "type")) (hs : PySem.W.subIn K (.ref x) (.ref c) = some b) (e : b = b') :
    PySem.W.exmOne K (.ref x) (.ref c) = some b' := by
  subst e
  have q1 : (PySem.W.subIn K (.ref c) (.type "BaseException") == some true) = true := by rw [hb]; rfl
  have q2 : ((PySem.W.clsIn K c).isSome && PySem.W.typeIn K (.ref c) == some (.type "type")) = true := by
    rw [show (PySem.W.clsIn K c).isSome = true from hi, ht]; rfl
  unfold PySem.W.exmOne PySem.W.kitCls
  rw [if_pos q1]
  dsimp only
  rw [if_pos q2, hs]
/-! ### names of fields, told apart -/
def bigF (f : Nat) : Str := ⟨#[2000000 + f]⟩
theorem bigF_ne (f : Nat) {x : Str} (h : ∀ c ∈ x.cps.toList, c < 2000000) : bigF f ≠ x := fun e => by
  subst e
  have := h (2000000 + f) (show 2000000 + f ∈ [2000000 + f] from List.mem_singleton.mpr rfl)
  omega
theorem bigF_inj {f g : Nat} (h : bigF f = bigF g) : f = g := by
  have e : [2000000 + f] = [2000000 + g] := congrArg (fun x : Str => x.cps.toList) h
  injection e with e
  omega
def fntOf (l : List (Nat × Str)) (f : Nat) : Str := (lookN l f).getD (bigF f)
theorem fnt_cases (l : List (Nat × Str)) (f : Nat) : fntOf l f = bigF f ∨ ∃ p ∈ l, f = p.1 ∧ fntOf l f = p.2 := by
  unfold fntOf
  cases h : lookN l f with
  | none => exact .inl rfl
  | some x => exact .inr ⟨_, lookN_mem h, rfl, rfl⟩
theorem fnt_inj_of {l : List (Nat × Str)} (h1 : ∀ p ∈ l, ∀ q ∈ l, p.2 = q.2 → p.1 = q.1) (h2 : ∀ p ∈ l, ∀ c ∈ p.2.cps.toList, c < 2000000) (f g : Nat) (h : fntOf l f = fntOf l g) : f = g := by
  rcases fnt_cases l f with a | ⟨p, hp, ep, a⟩ <;> rcases fnt_cases l g with b | ⟨q, hq, eq, b⟩
  · exact bigF_inj (a.symm.trans (h.trans b))
  · exact absurd (a.symm.trans (h.trans b)) (bigF_ne f (h2 q hq))
  · exact absurd (b.symm.trans (h.symm.trans a)) (bigF_ne g (h2 p hp))
  · rw [ep, eq]
    exact h1 p hp q hq (a.symm.trans (h.trans b))
theorem fnt_ne_of {l : List (Nat × Str)} {x : Str} (h1 : ∀ p ∈ l, p.2 ≠ x) (h2 : ∀ c ∈ x.cps.toList, c < 2000000) (f : Nat) : fntOf l f ≠ x := by
  rcases fnt_cases l f with a | ⟨p, hp, _, a⟩
  · rw [a]; exact bigF_ne f h2
  · rw [a]; exact h1 p hp
end PL

set_option Elab.async false
set_option linter.all false
set_option maxRecDepth 100000
set_option maxHeartbeats 1000000
/-! PM1: loops and calls of the evaluator, in general. -/
namespace PL
open PySem
/-- what a pure def's end gives -/
def fin (S : Store) : RS → R D
  | .nx _ _ => .ok .non S
  | .rt d S' => R.of (frzR S' d) S
  | .ex c _ _ => .ex c S
  | .bad => .bad
theorem run_pure {G : Tab} {k f np nl : Nat} {b : T} {as as' : List D} {S : Store} (h : G.fns f = some ⟨true, np, nl, b⟩) (hl : as.length = np) (hf : frzAs S as = some as') :
    run G (k + 1) f as S = fin S (exT G (run G k) b (startE nl as') []) := by
  simp only [run, h]
  rw [if_neg (by simpa using hl)]
  simp only [if_true, hf]
  cases exT G (run G k) b (startE nl as') [] <;> rfl
theorem fin_rt {S S' : Store} {d : D} (h : scl d = true) : fin S (.rt d S') = .ok d S := by
  unfold fin
  cases d <;> simp_all [frzR, scl]
theorem fin_ret {S S' : Store} {d : D} {r : RS} (e : r = .rt d S') (h : scl d = true) : fin S r = .ok d S := by rw [e, fin_rt h]
/-- a for over items, as a fold -/
theorem goFor_fold {α β τ : Type} {body : D → Env → Store → RS} {enc : β → D} {st : α → τ → Env} {step : α → β → α} {S : Store} {xs : List β} {a0 : α} {t0 : τ}
    (h : ∀ pre x post t, xs = pre ++ x :: post → ∃ t', body (enc x) (st (pre.foldl step a0) t) S = .nx (st (step (pre.foldl step a0) x) t') S) :
    ∃ t', goFor body (xs.map enc) (st a0 t0) S = .nx (st (xs.foldl step a0) t') S := by
  have key : ∀ (post pre : List β) (t : τ), xs = pre ++ post → ∃ t', goFor body (post.map enc) (st (pre.foldl step a0) t) S = .nx (st (xs.foldl step a0) t') S := by
    intro post
    induction post with
    | nil => intro pre t e; rw [List.append_nil] at e; subst e; exact ⟨t, rfl⟩
    | cons x post ih =>
      intro pre t e
      obtain ⟨t1, h1⟩ := h pre x post t e
      obtain ⟨t2, h2⟩ := ih (pre ++ [x]) t1 (by rw [e]; simp)
      refine ⟨t2, ?_⟩
      rw [List.foldl_append] at h2
      simp only [List.map_cons, goFor, h1, RS.andThen_nx]
      exact h2
  exact key xs [] t0 rfl
/-- a for that ends early, over items: every turn before is plain -/
theorem goFor_none {body : D → Env → Store → RS} {env : Env} {S : Store} : goFor body [] env S = .nx env S := rfl
@[simp] theorem qk_plain {b : D → Store → R (Option D)} : qk .plain b = b := rfl
@[simp] theorem qk_zip {b : D → Store → R (Option D)} : qk .zip b = b := rfl
@[simp] theorem qk_enum {b : D → Store → R (Option D)} : qk .enum b = b := rfl
@[simp] theorem qk_rng1 {b : D → Store → R (Option D)} : qk .rng1 b = b := rfl
@[simp] theorem qk_rng2 {b : D → Store → R (Option D)} : qk .rng2 b = b := rfl
@[simp] theorem qk_rng3 {b : D → Store → R (Option D)} : qk .rng3 b = b := rfl
@[simp] theorem qk_items {b : D → Store → R (Option D)} : qk .items b = b := rfl
/-- a comprehension over items without a test -/
theorem goComp_map {β : Type} {body : D → Store → R (Option D)} {enc : β → D} {f : β → D} {S : Store} {xs : List β} (hl : xs.length ≤ SZ) (h : ∀ x ∈ xs, body (enc x) S = .ok (some (f x)) S) : goComp body (xs.map enc) [] S = .ok (xs.map f) S := by
  have key : ∀ (post pre : List β), xs = pre ++ post → goComp body (post.map enc) (pre.map f) S = .ok (xs.map f) S := by
    intro post
    induction post with
    | nil => intro pre e; rw [List.append_nil] at e; subst e; rfl
    | cons x post ih =>
      intro pre e
      have hx := h x (by rw [e]; simp)
      have := ih (pre ++ [x]) (by rw [e]; simp)
      simp only [List.map_cons, goComp, hx, R.bind_ok]
      rw [if_pos (by rw [List.length_map]; rw [e, List.length_append, List.length_cons] at hl; omega)]
      simpa using this
  exact key xs [] rfl
abbrev tupI (xs : List Int) : D := .tup (xs.map .int)
@[simp] theorem noRefs_int (xs : List Int) : noRefs (xs.map .int) = true := by induction xs <;> simp_all [noRefs, noRef]
@[simp] theorem scls_int (xs : List Int) : scls (xs.map .int) = true := by induction xs <;> simp_all [scls, scl]
theorem frz_int (S : Store) (i : Int) : frzA S (.int i) = some (.int i) := rfl
theorem frz_tupI (S : Store) (xs : List Int) : frzA S (tupI xs) = some (tupI xs) := by simp [frzA, noRef]
end PL
namespace PL
open PySem
/-! ### statements, one equation each (a loop has its own laws) -/
section
variable {G : Tab} {call : Calls} {env : Env} {S : Store}
@[simp] theorem x_nil : exT G call .nil env S = .nx env S := rfl
@[simp] theorem x_asg {i : Nat} {e : E} {k : T} : exT G call (.asg i e k) env S = (ev G call e env S).stm env fun d S => exT G call k (env.set i (some d)) S := rfl
@[simp] theorem x_exp {e : E} {k : T} : exT G call (.exp e k) env S = (ev G call e env S).stm env fun _ S => exT G call k env S := rfl
@[simp] theorem x_ret {e : E} : exT G call (.ret e) env S = (ev G call e env S).stm env fun d S => .rt d S := rfl
@[simp] theorem x_ifs {c : E} {a b k : T} : exT G call (.ifs c a b k) env S = (mapT (ev G call c env S)).stm env fun t S => (if t then exT G call a env S else exT G call b env S).andThen fun env S => exT G call k env S := rfl
@[simp] theorem x_rais {c : Nat} : exT G call (.rais c) env S = .ex c env S := rfl
noncomputable def turnB (G : Tab) (call : Calls) (b : T) (tg : Tg) (x : D) (env : Env) (S : Store) : RS := match bindT tg x env with
  | some env' => exT G call b env' S
  | none => .bad
/-- the body of the first loop -/
def forB : T → T
  | .asg _ _ k => forB k
  | .exp _ k => forB k
  | .for_ _ _ _ b _ => b
  | _ => .nil
theorem x_for_eq {ik : IK} {src : E} {b k : T} {tg : Tg} : exT G call (.for_ ik src tg b k) env S = (ev G call src env S).stm env fun xs S => match mkIt ik (srcL ik xs) S with
    | some it => (goForI it (turnB G call b tg) env S).andThen fun env S => exT G call k env S
    | none => .bad := rfl
/-- a for over items -/
theorem x_for {α β τ : Type} {ik : IK} {src : E} {b k : T} {tg : Tg} {enc : β → D} {st : α → τ → Env} {step : α → β → α} {xs : List β} {a0 : α} {t0 : τ} {d : D} {r : RS}
    (hs : ev G call src (st a0 t0) S = .ok d S) (hi : mkIt ik (srcL ik d) S = some (.items (xs.map enc)))
    (h : ∀ pre x post t, xs = pre ++ x :: post → ∃ t', (match bindT tg (enc x) (st (pre.foldl step a0) t) with
      | some env' => exT G call b env' S
      | none => .bad) = .nx (st (step (pre.foldl step a0) x) t') S)
    (hk : ∀ t', exT G call k (st (xs.foldl step a0) t') S = r) : exT G call (.for_ ik src tg b k) (st a0 t0) S = r := by
  obtain ⟨t', e⟩ := goFor_fold (S := S) (xs := xs) (enc := enc) (st := st) (step := step) (a0 := a0) (t0 := t0) (body := turnB G call b tg) h
  rw [x_for_eq, hs]
  simp only [R.stm_ok, hi, goForI, e, RS.andThen_nx]
  exact hk t'
/-- the same, for any saying about the end -/
theorem x_forP {α β τ : Type} {P : RS → Prop} {ik : IK} {src : E} {b k : T} {tg : Tg} {enc : β → D} {st : α → τ → Env} {step : α → β → α} {xs : List β} {a0 : α} {t0 : τ} {d : D}
    (hs : ev G call src (st a0 t0) S = .ok d S) (hi : mkIt ik (srcL ik d) S = some (.items (xs.map enc)))
    (h : ∀ pre x post t, xs = pre ++ x :: post → ∃ t', turnB G call b tg (enc x) (st (pre.foldl step a0) t) S = .nx (st (step (pre.foldl step a0) x) t') S)
    (hk : ∀ t', P (exT G call k (st (xs.foldl step a0) t') S)) : P (exT G call (.for_ ik src tg b k) (st a0 t0) S) := by
  obtain ⟨t', e⟩ := goFor_fold (S := S) (xs := xs) (enc := enc) (st := st) (step := step) (a0 := a0) (t0 := t0) (body := turnB G call b tg) h
  rw [x_for_eq, hs]
  simp only [R.stm_ok, hi, goForI, e, RS.andThen_nx]
  exact hk t'
def NxJ (J : Env → Prop) (S : Store) (r : RS) : Prop := ∃ env, r = .nx env S ∧ J env
theorem x_forJ {P : RS → Prop} {J : Env → Prop} {ik : IK} {src : E} {b k : T} {tg : Tg} {xs : List D} {d : D}
    (hs : ev G call src env S = .ok d S) (hi : mkIt ik (srcL ik d) S = some (.items xs)) (h0 : J env)
    (h : ∀ x ∈ xs, ∀ env, J env → NxJ J S (turnB G call b tg x env S))
    (hk : ∀ env, J env → P (exT G call k env S)) : P (exT G call (.for_ ik src tg b k) env S) := by
  have key : ∀ (ys : List D) (env : Env), (∀ x ∈ ys, x ∈ xs) → J env → NxJ J S (goFor (turnB G call b tg) ys env S) := by
    intro ys
    induction ys with
    | nil => intro env _ w; exact ⟨env, rfl, w⟩
    | cons x ys ih =>
      intro env q w
      obtain ⟨e1, r1, w1⟩ := h x (q x (by simp)) env w
      obtain ⟨e2, r2, w2⟩ := ih e1 (fun y hy => q y (by simp [hy])) w1
      exact ⟨e2, by simp only [goFor, r1, RS.andThen_nx, r2], w2⟩
  obtain ⟨e1, r1, w1⟩ := key xs env (fun _ h => h) h0
  rw [x_for_eq, hs]
  simp only [R.stm_ok, hi, goForI, r1, RS.andThen_nx]
  exact hk e1 w1
/-- a while, by a number that falls -/
theorem goWhl_inv {α : Type} {c : Env → Store → R Bool} {body : Env → Store → RS} {st : α → Env} {S : Store} (m : α → Nat) (go : α → Bool) (nxt : α → α)
    (hc : ∀ a, c (st a) S = .ok (go a) S) (hb : ∀ a, go a = true → body (st a) S = .nx (st (nxt a)) S ∧ m (nxt a) < m a) (fin : α → α) (h0 : ∀ a, go a = false → fin a = a) (h1 : ∀ a, go a = true → fin a = fin (nxt a)) :
    ∀ (n : Nat) (a : α), m a < n → goWhl c body n (st a) S = .nx (st (fin a)) S := by
  intro n
  induction n with
  | zero => intro a h; omega
  | succ n ih =>
    intro a h
    simp only [goWhl, hc, R.stm_ok]
    cases g : go a with
    | false => simp [h0 a g]
    | true =>
      obtain ⟨e, l⟩ := hb a g
      simp only [if_true, e, RS.andThen_nx]
      rw [ih (nxt a) (by omega), ← h1 a g]
theorem x_whl {α : Type} {c : E} {b k : T} {st : α → Env} {m : α → Nat} {go : α → Bool} {nxt fin : α → α} {a0 : α} {r : RS}
    (hc : ∀ a, mapT (ev G call c (st a) S) = .ok (go a) S) (hb : ∀ a, go a = true → exT G call b (st a) S = .nx (st (nxt a)) S ∧ m (nxt a) < m a) (h0 : ∀ a, go a = false → fin a = a) (h1 : ∀ a, go a = true → fin a = fin (nxt a))
    (hm : m a0 < 1000000000) (hk : exT G call k (st (fin a0)) S = r) : exT G call (.whl c b k) (st a0) S = r := by
  unfold exT
  rw [goWhl_inv m go nxt hc hb fin h0 h1 LOOP a0 (by rw [LOOP_eq]; exact hm)]
  exact hk
theorem x_whlI {α : Type} {I : α → Prop} {c : E} {b k : T} {st : α → Env} {m : α → Nat} {go : α → Bool} {a0 : α} {r : RS} (hI : I a0)
    (hc : ∀ a, I a → mapT (ev G call c (st a) S) = .ok (go a) S) (hb : ∀ a, I a → go a = true → ∃ a', exT G call b (st a) S = .nx (st a') S ∧ I a' ∧ m a' < m a)
    (hm : m a0 < 1000000000) (hk : ∀ a, I a → go a = false → exT G call k (st a) S = r) : exT G call (.whl c b k) (st a0) S = r := by
  have key : ∀ (n : Nat) (a : α), I a → m a < n → ∃ a', I a' ∧ go a' = false ∧ goWhl (fun env S => mapT (ev G call c env S)) (fun env S => exT G call b env S) n (st a) S = .nx (st a') S := by
    intro n
    induction n with
    | zero => intro a _ h; omega
    | succ n ih =>
      intro a w h
      simp only [goWhl, hc a w, R.stm_ok]
      cases g : go a with
      | false => exact ⟨a, w, g, by simp⟩
      | true =>
        obtain ⟨a1, e, w1, l⟩ := hb a w g
        obtain ⟨a2, w2, g2, e2⟩ := ih a1 w1 (by omega)
        exact ⟨a2, w2, g2, by simp only [if_true, e, RS.andThen_nx, e2]⟩
  obtain ⟨a', w, g, e⟩ := key LOOP a0 hI (by rw [LOOP_eq]; exact hm)
  unfold exT
  rw [e]
  exact hk a' w g
end
end PL
namespace PL
open PySem
/-! ### the evaluator's operations on known values -/
section
variable {S : Store} {i j : Int}
@[simp] theorem bop_add_int : bop .add (.int i) (.int j) S = some (.int (i + j)) := rfl
@[simp] theorem bop_sub_int : bop .sub (.int i) (.int j) S = some (.int (i - j)) := rfl
@[simp] theorem bop_mul_l (h : small i = true) : bop .mul (.int i) (.int j) S = some (.int (i * j)) := by simp [bop, mulD, h]
@[simp] theorem bop_mul_r (h : small j = true) : bop .mul (.int i) (.int j) S = some (.int (i * j)) := by simp [bop, mulD, h]
@[simp] theorem bop_mod_int (h : 0 < j) : bop .mod (.int i) (.int j) S = some (.int (i % j)) := by simp [bop, modD, h]
@[simp] theorem bop_fdiv_int (h : 0 < j) (h' : j < 18446744073709551616) : bop .fdiv (.int i) (.int j) S = some (.int (i / j)) := by
  show (if 0 < j ∧ j < 2 ^ 64 then some (D.int (i / j)) else none) = _
  rw [if_pos ⟨h, h'⟩]
@[simp] theorem bop_add_tup {a b : List D} (h : a.length + b.length ≤ SZ) : bop .add (.tup a) (.tup b) S = some (.tup (a ++ b)) := by simp [bop, addD, h]
theorem bop_add_tupI {xs : List Int} {y : Int} (h : xs.length + 1 ≤ SZ) : bop .add (.tup (xs.map .int)) (.tup [.int y]) S = some (.tup ((xs ++ [y]).map .int)) := by
  have e : (xs.map D.int).length + [D.int y].length ≤ SZ := by rw [List.length_map]; exact h
  rw [bop_add_tup e, List.map_append]
  rfl
@[simp] theorem cop_lt : cop .lt (.int i) (.int j) S = some (decide (i < j)) := rfl
@[simp] theorem cop_le : cop .le (.int i) (.int j) S = some (decide (i ≤ j)) := rfl
@[simp] theorem cop_gt : cop .gt (.int i) (.int j) S = some (decide (j < i)) := rfl
@[simp] theorem cop_ge : cop .ge (.int i) (.int j) S = some (decide (j ≤ i)) := rfl
@[simp] theorem cop_eq_int : cop .eq (.int i) (.int j) S = some (decide (i = j)) := rfl
@[simp] theorem cop_ne_int : cop .ne (.int i) (.int j) S = some (!decide (i = j)) := rfl
@[simp] theorem truthy_bl {b : Bool} : truthy (.bl b) S = some b := rfl
@[simp] theorem truthy_int : truthy (.int i) S = some (i != 0) := rfl
@[simp] theorem truthy_tup {xs : List D} : truthy (.tup xs) S = some (!xs.isEmpty) := rfl
@[simp] theorem mapT_ok {d : D} : mapT (.ok d S) = R.of (truthy d S) S := rfl
@[simp] theorem mapT_bad : mapT .bad = .bad := rfl
@[simp] theorem toTup_tup {xs : List D} : toTup (.tup xs) = xs := rfl
theorem small_of (h : -18446744073709551616 < i) (h' : i < 18446744073709551616) : small i = true := by
  exact tst_of ⟨h, h'⟩
@[simp] theorem small_104729 : small 104729 = true := small_of (by decide) (by decide)
@[simp] theorem small_48271 : small 48271 = true := small_of (by decide) (by decide)
@[simp] theorem small_257 : small 257 = true := small_of (by decide) (by decide)
@[simp] theorem mkTup_1 {a : D} : mkTup [a] = some (.tup [a]) := by simp [mkTup, SZ]
@[simp] theorem mkTup_0 : mkTup [] = some (.tup []) := by simp [mkTup, SZ]
@[simp] theorem mkTup_2 {a b : D} : mkTup [a, b] = some (.tup [a, b]) := by simp [mkTup, SZ]
@[simp] theorem mkTup_3 {a b c : D} : mkTup [a, b, c] = some (.tup [a, b, c]) := by simp [mkTup, SZ]
@[simp] theorem mkTup_4 {a b c d : D} : mkTup [a, b, c, d] = some (.tup [a, b, c, d]) := by simp [mkTup, SZ]
@[simp] theorem srcL_plain {d : D} : srcL .plain d = [d] := rfl
@[simp] theorem srcL_zip {d : D} : srcL .zip d = toTup d := rfl
@[simp] theorem srcL_rng1 {d : D} : srcL .rng1 d = toTup d := rfl
@[simp] theorem srcL_rng2 {d : D} : srcL .rng2 d = toTup d := rfl
@[simp] theorem mkIt_tup {xs : List D} : mkIt .plain [.tup xs] S = some (.items xs) := rfl
@[simp] theorem mkIt_lst {xs : List D} : mkIt .plain [.lst xs] S = some (.items xs) := rfl
theorem b62_of (h : -4611686018427387904 ≤ i) (h' : i < 4611686018427387904) : b62 i = true := by
  exact tst_of ⟨h, h'⟩
theorem mkIt_rng1 (h : b62 j = true) : mkIt .rng1 [.int j] S = some (.items (rngD 0 1 j.toNat)) := by simp [mkIt, h]
@[simp] theorem mkIt_zipT {xs ys : List D} : mkIt .zip [.tup xs, .tup ys] S = some (.items (xs.zipWith (fun x y => .tup [x, y]) ys)) := rfl
@[simp] theorem mkIt_zipL {xs ys : List D} : mkIt .zip [.lst xs, .lst ys] S = some (.items (xs.zipWith (fun x y => .tup [x, y]) ys)) := rfl
theorem rngD_map (n : Nat) : rngD 0 1 n = (List.range n).map fun (k : Nat) => .int k := by simp [rngD]
@[simp] theorem bindT_one {d : D} {k : Nat} {env : Env} : bindT (.one k) d env = some (env.set k (some d)) := rfl
@[simp] theorem isaD_int0 {t : Nat} : isaD t (.int i) = decide (t = 0) := by
  rcases t with _ | _ | _ | _ | t <;> simp [isaD]
@[simp] theorem isaD_tup {t : Nat} {xs : List D} : isaD t (.tup xs) = decide (t = 3) := by
  rcases t with _ | _ | _ | _ | t <;> simp [isaD]
@[simp] theorem isaD_str {t : Nat} {x : Str} : isaD t (.str x) = decide (t = 2) := by
  rcases t with _ | _ | _ | _ | t <;> simp [isaD]
@[simp] theorem isaD_non {t : Nat} : isaD t .non = false := by
  rcases t with _ | _ | _ | _ | t <;> simp [isaD]
@[simp] theorem isaD_bl {t : Nat} {b : Bool} : isaD t (.bl b) = decide (t < 2) := by
  rcases t with _ | _ | _ | _ | t <;> simp [isaD]
@[simp] theorem notIns_int : notIns (.int i) S = true := rfl
@[simp] theorem notIns_tup {xs : List D} : notIns (.tup xs) S = true := rfl
@[simp] theorem notIns_str {x : Str} : notIns (.str x) S = true := rfl
@[simp] theorem notIns_bl {b : Bool} : notIns (.bl b) S = true := rfl
@[simp] theorem notIns_non : notIns .non S = true := rfl
@[simp] theorem bf_len_tup {xs : List D} : bfD .len [.tup xs] S = some (.int xs.length) := rfl
@[simp] theorem bf_len_scr {ns : List Int} : bfD .len [.scr ns] S = some (.int ns.length) := by simp [bfD, lenF, lenD, seqOf]
@[simp] theorem bf_max : bfD .max [.int i, .int j] S = some (.int (if j > i then j else i)) := rfl
@[simp] theorem bf_min : bfD .min [.int i, .int j] S = some (.int (if j < i then j else i)) := rfl
theorem allB_map {α : Type} (f : α → Bool) (xs : List α) : allB (xs.map fun x => .bl (f x)) = some (xs.all f) := by induction xs <;> simp_all [allB]
theorem bf_all_map {α : Type} {f : α → Bool} {xs : List α} : bfD .all [.lst (xs.map fun x => .bl (f x))] S = some (.bl (xs.all f)) := by simp [bfD, allF, lstOf, allB_map]
end
end PL

set_option Elab.async false
set_option linter.all false
set_option maxRecDepth 100000
set_option maxHeartbeats 1000000
/-! PM2: the defs that most laws use, and what they compute. -/
namespace PL
open PySem
abbrev i_power : Nat := 0
/-- power: many 0 found 1 square 2 left 3 -/
def b_power : T := (.asg 1 (.con (.int 1))
  (.asg 2 (.glb 1)
  (.asg 3 (.var 0)
  (.whl (.cmp .gt (.var 3) (.con (.int 0)))
  (.ifs (.cmp .eq (.bin .mod (.var 3) (.con (.int 2))) (.con (.int 1)))
  (.asg 1 (.bin .mod (.bin .mul (.var 1) (.var 2)) (.glb 0))
  .nil)
  .nil
  (.asg 2 (.bin .mod (.bin .mul (.var 2) (.var 2)) (.glb 0))
  (.asg 3 (.bin .fdiv (.var 3) (.con (.int 2)))
  .nil)))
  (.ret (.var 1))))))
def f_power : Fn := ⟨true, 1, 4, b_power⟩
abbrev i_mark_of : Nat := 1
/-- mark_of: some 0 mark 1 one 2 -/
def b_mark_of : T := (.asg 1 (.con (.int 0))
  (.for_ .plain (.var 0) (.one 2)
  (.asg 1 (.bin .mod (.bin .add (.bin .add (.bin .mul (.var 1) (.glb 1)) (.var 2)) (.con (.int 1))) (.glb 0))
  .nil)
  (.ret (.var 1))))
def f_mark_of : Fn := ⟨true, 1, 3, b_mark_of⟩
abbrev i_l_d : Nat := 2
/-- l_d: _cell 0 _place 1 _many 2 _number 3 -/
def b_l_d : T := (.asg 3 (.bin .mod (.bin .add (.var 0) (.bin .mul (.con (.int 104729)) (.var 1))) (.con (.int 4294967291)))
  (.asg 3 (.bin .mod (.bin .mul (.bin .mod (.bin .mul (.var 3) (.var 3)) (.con (.int 4294967279))) (.con (.int 48271))) (.con (.int 4294967291)))
  (.ret (.bin .mod (.bin .fdiv (.var 3) (.con (.int 64))) (.var 2)))))
def f_l_d : Fn := ⟨true, 3, 4, b_l_d⟩
abbrev i_l_same : Nat := 3
/-- l_same: _told 0 _due 1 _one 2 _other 3 -/
def b_l_same : T := (.ifs (.isn (.var 1))
  (.ret (.isn (.var 0)))
  .nil
  (.ifs (.val (.isa (.var 1) 1))
  (.ret (.and (.isa (.var 0) 1) (.one (.cmp .eq (.var 0) (.var 1)))))
  .nil
  (.ifs (.val (.isa (.var 1) 3))
  (.ifs (.or (.nt (.val (.isa (.var 0) 3))) (.one (.cmp .ne (.bf .len (.cons (.var 0) .nil)) (.bf .len (.cons (.var 1) .nil)))))
  (.ret (.con (.bl false)))
  .nil
  (.ret (.bf .all (.cons (.comp .zip (.cons (.var 0) (.cons (.var 1) .nil)) (.many [2, 3]) .emp (.call i_l_same (.cons (.var 2) (.cons (.var 3) .nil)))) .nil))))
  .nil
  (.ifs (.val (.isa (.var 1) 2))
  (.ret (.and (.isa (.var 0) 2) (.one (.cmp .eq (.var 0) (.var 1)))))
  .nil
  (.ret (.and (.isa (.var 0) 0) (.and (.nt (.isa (.var 0) 1)) (.one (.cmp .eq (.var 0) (.var 1))))))))))
def f_l_same : Fn := ⟨true, 2, 4, b_l_same⟩
abbrev i_l_bytes : Nat := 4
/-- l_bytes: _cell 0 _many 1 _found 2 _k 3 _one 4 -/
def b_l_bytes : T := (.asg 2 (.tup .nil)
  (.for_ .rng1 (.cons (.var 1) .nil) (.one 3)
  (.asg 4 (.bin .add (.bin .fdiv (.var 0) (.con (.int 4))) (.bin .mul (.var 3) (.bin .add (.call i_l_d (.cons (.var 0) (.cons (.con (.int 11)) (.cons (.con (.int 250)) .nil)))) (.con (.int 1)))))
  (.asg 4 (.bin .add (.var 4) (.bin .mul (.bin .mul (.var 3) (.var 3)) (.call i_l_d (.cons (.var 0) (.cons (.con (.int 2750)) (.cons (.con (.int 7)) .nil))))))
  (.ifs (.cmp .eq (.call i_l_d (.cons (.var 0) (.cons (.con (.int 1)) (.cons (.con (.int 4)) .nil)))) (.con (.int 0)))
  (.asg 4 (.bin .mod (.var 4) (.con (.int 3)))
  .nil)
  .nil
  (.asg 2 (.bin .add (.var 2) (.tup (.cons (.bin .mod (.var 4) (.con (.int 256))) .nil)))
  .nil))))
  (.ret (.var 2))))
def f_l_bytes : Fn := ⟨true, 2, 5, b_l_bytes⟩
abbrev i_l_mark : Nat := 5
/-- l_mark: _some 0 _mark_here 1 _one 2 -/
def b_l_mark : T := (.asg 1 (.con (.int 0))
  (.for_ .plain (.var 0) (.one 2)
  (.asg 1 (.bin .add (.bin .add (.bin .mul (.var 1) (.con (.int 257))) (.var 2)) (.con (.int 1)))
  .nil)
  (.ret (.bin .sub (.var 1) (.bin .mul (.bin .fdiv (.var 1) (.con (.int 2147483647))) (.con (.int 2147483647)))))))
def f_l_mark : Fn := ⟨true, 1, 3, b_l_mark⟩
abbrev i_mark_joined : Nat := 7
/-- mark_joined: one 0 other 1 many 2 -/
def b_mark_joined : T := (.ret (.bin .mod (.bin .add (.bin .mul (.var 0) (.call i_power (.cons (.var 2) .nil))) (.var 1)) (.glb 0)))
def f_mark_joined : Fn := ⟨true, 3, 3, b_mark_joined⟩
abbrev i_l_cell : Nat := 8
/-- l_cell: _script 0 _k 1 -/
def b_l_cell : T := (.ifs (.cmp .lt (.var 1) (.bf .len (.cons (.var 0) .nil)))
  (.ret (.ix (.var 0) (.var 1)))
  .nil
  (.ret (.con (.int 0))))
def f_l_cell : Fn := ⟨true, 2, 2, b_l_cell⟩
/-! ### the laws' draws -/
def dF (c p m : Int) : Int :=
  let n := (c + 104729 * p) % 4294967291
  (n * n % 4294967279 * 48271 % 4294967291) / 64 % m
theorem dF_nn (c p : Int) {m : Int} (h : 0 < m) : 0 ≤ dF c p m := Int.emod_nonneg _ (by omega)
theorem dF_lt (c p : Int) {m : Int} (h : 0 < m) : dF c p m < m := Int.emod_lt_of_pos _ h
section
variable {G : Tab} {k : Nat} {S : Store}
theorem run_l_d {c p m : Int} (h : G.fns i_l_d = some f_l_d) (hm : 0 < m) : run G (k + 1) i_l_d [.int c, .int p, .int m] S = .ok (.int (dF c p m)) S := by
  rw [run_pure h rfl (as' := [.int c, .int p, .int m]) rfl]
  have h1 : 0 ≤ (c + 104729 * p) % 4294967291 := Int.emod_nonneg _ (by decide)
  have h2 : (c + 104729 * p) % 4294967291 < 4294967291 := Int.emod_lt_of_pos _ (by decide)
  have h3 : small ((c + 104729 * p) % 4294967291) = true := small_of (by omega) (by omega)
  simp [b_l_d, exT, ev, startE, h3, hm]
  exact fin_rt rfl
/-! ### marks -/
def markS (m x : Int) : Int := (m * 257 + x + 1) % 2147483647
def markF (xs : List Int) : Int := xs.foldl markS 0
theorem run_mark_of {xs : List Int} (h : G.fns i_mark_of = some f_mark_of) (h0 : G.consts 0 = some (.int 2147483647)) (h1 : G.consts 1 = some (.int 257)) :
    run G (k + 1) i_mark_of [tupI xs] S = .ok (.int (markF xs)) S := by
  rw [run_pure h rfl (as' := [tupI xs]) (by simp [frzAs, frz_tupI])]
  refine fin_ret (S' := []) ?_ rfl
  simp [b_mark_of, startE, ev]
  refine x_for (xs := xs) (enc := D.int) (a0 := (0 : Int)) (t0 := (none : Option D)) (st := fun a t => [some (tupI xs), some (.int a), t]) (step := markS) (d := tupI xs) ?_ rfl (fun pre x post t e => ⟨some (.int x), ?_⟩) (fun t' => ?_)
  · simp [ev]
  · simp [ev, h0, h1, markS]
  · simp [ev, markF]
def markT (xs : List Int) : Int := xs.foldl (fun m x => m * 257 + x + 1) 0
theorem markT_F (xs : List Int) : markT xs % 2147483647 = markF xs := by
  unfold markT markF
  have key : ∀ (xs : List Int) (a b : Int), a % 2147483647 = b % 2147483647 → (xs.foldl (fun m x => m * 257 + x + 1) a) % 2147483647 = (xs.foldl markS b) % 2147483647 := by
    intro xs
    induction xs with
    | nil => intro a b e; exact e
    | cons x xs ih =>
      intro a b e
      refine ih _ _ ?_
      unfold markS
      show (a * 257 + x + 1) % 2147483647 = (b * 257 + x + 1) % 2147483647 % 2147483647
      omega
  have k2 : ∀ (xs : List Int) (b : Int), 0 ≤ b → b < 2147483647 → (xs.foldl markS b) % 2147483647 = xs.foldl markS b := by
    intro xs
    induction xs with
    | nil => intro b h1 h2; exact Int.emod_eq_of_lt h1 h2
    | cons x xs ih => intro b h1 h2; exact ih _ (Int.emod_nonneg _ (by decide)) (Int.emod_lt_of_pos _ (by decide))
  rw [key xs 0 0 rfl, k2 xs 0 (by decide) (by decide)]
theorem run_l_mark {xs : List Int} (h : G.fns i_l_mark = some f_l_mark) : run G (k + 1) i_l_mark [tupI xs] S = .ok (.int (markF xs)) S := by
  rw [run_pure h rfl (as' := [tupI xs]) (by simp [frzAs, frz_tupI])]
  refine fin_ret (S' := []) ?_ rfl
  simp [b_l_mark, startE, ev]
  refine x_for (xs := xs) (enc := D.int) (a0 := (0 : Int)) (t0 := (none : Option D)) (st := fun a t => [some (tupI xs), some (.int a), t]) (step := fun m x => m * 257 + x + 1) (d := tupI xs) ?_ rfl (fun pre x post t e => ⟨some (.int x), ?_⟩) (fun t' => ?_)
  · simp [ev]
  · simp [ev]
  · have h2 : small 2147483647 = true := small_of (by decide) (by decide)
    have h3 : markT xs - markT xs / 2147483647 * 2147483647 = markF xs := by rw [← markT_F]; omega
    have h4 : xs.foldl (fun m x => m * 257 + x + 1) 0 = markT xs := rfl
    simp [ev, h2, h4, h3]
/-! ### bytes -/
def byteF (c : Int) (k : Nat) : Int :=
  let one := c / 4 + k * (dF c 11 250 + 1) + k * k * dF c 2750 7
  (if dF c 1 4 = 0 then one % 3 else one) % 256
def bytesF (c : Int) (n : Nat) : List Int := (List.range n).map (byteF c)
theorem foldl_snoc {α β : Type} (f : β → α) : ∀ (xs : List β) (a : List α), xs.foldl (fun a x => a ++ [f x]) a = a ++ xs.map f
  | [], a => by simp
  | x :: xs, a => by simp [foldl_snoc f xs]
theorem byte_turn {c n X : Int} {P : List Int} {t : Option D × Option D} (hd : G.fns i_l_d = some f_l_d) (s1 : small X = true) (s2 : small (X * X) = true) (hz : P.length + 1 ≤ SZ) :
    ∃ t' : Option D × Option D, turnB G (run G (k + 1)) (forB b_l_bytes) (.one 3) (.int X) [some (.int c), some (.int n), some (tupI P), t.1, t.2] [] =
      .nx [some (.int c), some (.int n), some (tupI (P ++ [(if dF c 1 4 = 0 then (c / 4 + X * (dF c 11 250 + 1) + X * X * dF c 2750 7) % 3 else c / 4 + X * (dF c 11 250 + 1) + X * X * dF c 2750 7) % 256])), t'.1, t'.2] [] := by
  have hb := fun y => bop_add_tupI (y := y) (S := []) hz
  by_cases hc : dF c 1 4 = 0
  · refine ⟨(some (.int X), some (.int ((c / 4 + X * (dF c 11 250 + 1) + X * X * dF c 2750 7) % 3))), ?_⟩
    simp [turnB, b_l_bytes, forB, ev, run_l_d hd, s1, s2, hc, hb]
  · refine ⟨(some (.int X), some (.int (c / 4 + X * (dF c 11 250 + 1) + X * X * dF c 2750 7))), ?_⟩
    simp [turnB, b_l_bytes, forB, ev, run_l_d hd, s1, s2, hc, hb]
theorem run_l_bytes {c n : Int} (h : G.fns i_l_bytes = some f_l_bytes) (hd : G.fns i_l_d = some f_l_d) (h0 : 0 ≤ n) (h1 : n ≤ 1000) : run G (k + 2) i_l_bytes [.int c, .int n] S = .ok (tupI (bytesF c n.toNat)) S := by
  rw [run_pure h rfl (as' := [.int c, .int n]) rfl]
  refine fin_ret (S' := []) ?_ (by simp [scl])
  simp [b_l_bytes, startE, ev]
  refine x_for (xs := List.range n.toNat) (enc := fun (k : Nat) => D.int k) (a0 := ([] : List Int)) (t0 := ((none, none) : Option D × Option D)) (st := fun a t => [some (.int c), some (.int n), some (tupI a), t.1, t.2]) (step := fun a k => a ++ [byteF c k])
    (d := .tup [.int n]) ?_ ?_ (fun pre x post t e => ?_) (fun t' => ?_)
  · simp [ev]
  · rw [srcL_rng1, toTup_tup, mkIt_rng1 (b62_of (by omega) (by omega)), rngD_map]
  · have hx : x < n.toNat := by
      have : x ∈ List.range n.toNat := by rw [e]; simp
      simpa using this
    have hl : pre.length ≤ 1000 := by
      have := congrArg List.length e
      simp at this
      omega
    have s1 : small (x : Int) = true := small_of (by omega) (by omega)
    have s2 : small ((x : Int) * x) = true := by
      have : x * x ≤ 1000 * 1000 := Nat.mul_le_mul (by omega) (by omega)
      have h3 : ((x * x : Nat) : Int) = (x : Int) * x := by push_cast; rfl
      exact small_of (by omega) (by omega)
    have hz : (pre.map (byteF c)).length + 1 ≤ SZ := by rw [List.length_map]; unfold SZ; omega
    rw [foldl_snoc]
    exact byte_turn hd s1 s2 hz
  · rw [foldl_snoc]
    simp [ev, bytesF]
end
end PL

set_option Elab.async false
set_option linter.all false
set_option maxRecDepth 100000
set_option maxHeartbeats 1000000
/-! PM3: powers, and the laws' own compare. -/
namespace PL
open PySem
section
variable {G : Tab} {k : Nat} {S : Store}
def powF (n : Nat) : Int := (257 : Int) ^ n % 2147483647
theorem run_power {n : Nat} (h : G.fns i_power = some f_power) (h0 : G.consts 0 = some (.int 2147483647)) (h1 : G.consts 1 = some (.int 257)) (hn : n < 1000000000) :
    run G (k + 1) i_power [.int n] S = .ok (.int (powF n)) S := by
  rw [run_pure h rfl (as' := [.int n]) rfl]
  refine fin_ret (S' := []) ?_ rfl
  simp [b_power, startE, ev, h1]
  refine x_whlI (α := Int × Int × Nat) (a0 := (1, 257, n)) (st := fun a => [some (.int n), some (.int a.1), some (.int a.2.1), some (.int (a.2.2 : Nat))])
    (I := fun a => (0 ≤ a.1 ∧ a.1 < 2147483647) ∧ (0 ≤ a.2.1 ∧ a.2.1 < 2147483647) ∧ (a.1 * a.2.1 ^ a.2.2) % 2147483647 = powF n)
    (m := fun a => a.2.2) (go := fun a => decide (0 < a.2.2)) ?_ ?_ ?_ ?_ ?_
  · exact ⟨⟨by show (0 : Int) ≤ 1; decide, by show (1 : Int) < 2147483647; decide⟩, ⟨by show (0 : Int) ≤ 257; decide, by show (257 : Int) < 2147483647; decide⟩, by show (1 * 257 ^ n) % 2147483647 = powF n; rw [Int.one_mul]; rfl⟩
  · rintro ⟨f, s, l⟩ _
    simp [ev]
  · rintro ⟨f, s, l⟩ ⟨⟨f0, f1⟩, ⟨s0, s1⟩, e⟩ g
    simp only [decide_eq_true_eq] at g f0 f1 s0 s1 e
    have z1 : small f = true := small_of (by omega) (by omega)
    have z2 : small s = true := small_of (by omega) (by omega)
    have hl : ((l / 2 : Nat) : Int) = (l : Int) / 2 := by omega
    have key : ∀ (m : Nat), ((s * s % 2147483647) ^ m) % 2147483647 = ((s * s) ^ m) % 2147483647 := by
      intro m
      induction m with
      | zero => rw [Int.pow_zero, Int.pow_zero]
      | succ m ih => rw [Int.pow_succ, Int.pow_succ, Int.mul_emod, ih, Int.emod_emod_of_dvd _ (Int.dvd_refl _), ← Int.mul_emod]
    have hsq : ∀ (a : Int) (b : Nat), (a * (s * s % 2147483647) ^ b) % 2147483647 = (a * (s * s) ^ b) % 2147483647 := by
      intro a b
      rw [Int.mul_emod, key, ← Int.mul_emod]
    by_cases hc : l % 2 = 1
    · have hc' : (l : Int) % 2 = 1 := by omega
      refine ⟨(f * s % 2147483647, s * s % 2147483647, l / 2), ?_, ⟨⟨?_, ?_⟩, ⟨?_, ?_⟩, ?_⟩, ?_⟩
      · simp [ev, hc', h0, z1, z2]
      · exact Int.emod_nonneg _ (by decide)
      · exact Int.emod_lt_of_pos _ (by decide)
      · exact Int.emod_nonneg _ (by decide)
      · exact Int.emod_lt_of_pos _ (by decide)
      · have := hsq (f * s % 2147483647) (l / 2)
        show (f * s % 2147483647) * (s * s % 2147483647) ^ (l / 2) % 2147483647 = _
        rw [this, Int.mul_emod, Int.emod_emod_of_dvd _ (Int.dvd_refl _), ← Int.mul_emod, ← e]
        congr 1
        rw [Int.mul_assoc]
        congr 1
        conv => rhs; rw [show l = 2 * (l / 2) + 1 by omega]
        rw [Int.pow_succ, Int.pow_mul, Int.mul_comm, show s ^ 2 = s * s from by rw [Int.pow_succ, Int.pow_succ]; simp]
      · show l / 2 < l
        omega
    · have hc' : ¬ (l : Int) % 2 = 1 := by omega
      refine ⟨(f, s * s % 2147483647, l / 2), ?_, ⟨⟨f0, f1⟩, ⟨?_, ?_⟩, ?_⟩, ?_⟩
      · simp [ev, hc', h0, z1, z2]
      · exact Int.emod_nonneg _ (by decide)
      · exact Int.emod_lt_of_pos _ (by decide)
      · have := hsq f (l / 2)
        show f * (s * s % 2147483647) ^ (l / 2) % 2147483647 = _
        rw [this, ← e]
        congr 2
        conv => rhs; rw [show l = 2 * (l / 2) by omega]
        rw [Int.pow_mul, show s ^ 2 = s * s from by rw [Int.pow_succ, Int.pow_succ]; simp]
      · show l / 2 < l
        omega
  · exact hn
  · rintro ⟨f, s, l⟩ ⟨⟨f0, f1⟩, _, e⟩ g
    simp only [decide_eq_false_iff_not, Nat.not_lt, Nat.le_zero] at g f0 f1 e
    subst g
    simp only [Int.pow_zero, Int.mul_one, Int.emod_eq_of_lt f0 f1] at e
    simp [ev, e]
/-! ### the compare -/
def okD : Nat → D → Bool
  | 0, _ => false
  | k + 1, .tup xs => decide (xs.length ≤ SZ) && xs.all (okD k)
  | _ + 1, .int _ => true
  | _ + 1, .str _ => true
  | _ + 1, .bl _ => true
  | _ + 1, .non => true
  | _ + 1, _ => false
theorem noRefs_all : ∀ xs : List D, noRefs xs = xs.all noRef
  | [] => rfl
  | x :: xs => by simp [noRefs, noRefs_all xs]
theorem okD_noRef : ∀ (k : Nat) (d : D), okD k d = true → noRef d = true
  | 0, _, h => by simp [okD] at h
  | k + 1, .tup xs, h => by
    simp only [okD, Bool.and_eq_true, List.all_eq_true] at h
    simp only [noRef, noRefs_all, List.all_eq_true]
    exact fun x hx => okD_noRef k x (h.2 x hx)
  | k + 1, .int _, h => rfl
  | k + 1, .str _, h => rfl
  | k + 1, .bl _, h => rfl
  | k + 1, .non, h => rfl
  | k + 1, .lst _, h => by simp [okD] at h
  | k + 1, .dct _, h => by simp [okD] at h
  | k + 1, .ref _, h => by simp [okD] at h
  | k + 1, .scr _, h => by simp [okD] at h
theorem frzA_noRef {d : D} (h : noRef d = true) : frzA S d = some d := by
  cases d <;> simp_all [frzA, noRef]
theorem zipWith_self {α β : Type} (f : α → α → β) : ∀ xs : List α, xs.zipWith f xs = xs.map fun x => f x x
  | [] => rfl
  | x :: xs => by simp [zipWith_self f xs]
@[simp] theorem isNonD_int {i : Int} : isNonD (.int i) = false := rfl
@[simp] theorem isNonD_bl {i : Bool} : isNonD (.bl i) = false := rfl
@[simp] theorem isNonD_str {i : Str} : isNonD (.str i) = false := rfl
@[simp] theorem isNonD_tup {i : List D} : isNonD (.tup i) = false := rfl
@[simp] theorem isNonD_non : isNonD .non = true := rfl
@[simp] theorem cop_eq_str {i j : Str} : cop .eq (.str i) (.str j) S = some (decide (i = j)) := rfl
@[simp] theorem cop_eq_bl {i j : Bool} : cop .eq (.bl i) (.bl j) S = some (decide (i = j)) := rfl
@[simp] theorem bindT_many2 {x y : D} {i j : Nat} {env : Env} : bindT (.many [i, j]) (.tup [x, y]) env = some ((env.set i (some x)).set j (some y)) := rfl
theorem run_same (h : G.fns i_l_same = some f_l_same) : ∀ (k : Nat) (d : D) (S : Store), okD k d = true → run G k i_l_same [d, d] S = .ok (.bl true) S := by
  intro k
  induction k with
  | zero => intro d S e; simp [okD] at e
  | succ k ih =>
    intro d S e
    have hn := okD_noRef _ _ e
    rw [run_pure h rfl (as' := [d, d]) (by simp only [frzAs, frzA_noRef hn])]
    refine fin_ret (S' := []) ?_ rfl
    cases d with
    | non => simp [b_l_same, startE, ev]
    | bl b => simp [b_l_same, startE, ev]
    | int i => simp [b_l_same, startE, ev]
    | str x => simp [b_l_same, startE, ev]
    | tup xs =>
      simp only [okD, Bool.and_eq_true, List.all_eq_true, decide_eq_true_eq] at e
      simp [b_l_same, startE, ev, goIt, zipWith_self]
      rw [goComp_map (f := fun _ => D.bl true) (enc := fun x => D.tup [x, x]) e.1 (fun x hx => by simp [isEmp, ih x [] (e.2 x hx)])]
      have := bf_all_map (S := []) (f := fun _ => true) (xs := xs)
      simp [this]
    | lst xs => simp [okD] at e
    | dct xs => simp [okD] at e
    | ref xs => simp [okD] at e
    | scr xs => simp [okD] at e
end
end PL

set_option Elab.async false
set_option linter.all false
set_option maxRecDepth 100000
set_option maxHeartbeats 1000000
/-! PM4: cells, slices and joins of tuples of numbers, marks of joined bytes. -/
namespace PL
open PySem
section
variable {G : Tab} {k : Nat} {S : Store}
theorem ix_int {xs : List Int} {i : Int} (h0 : 0 ≤ i) (h1 : i < xs.length) : getD_ (.tup (xs.map .int)) (.int i) S = some (.int (xs.getD i.toNat 0)) := by
  obtain ⟨j, rfl⟩ := Int.eq_ofNat_of_zero_le h0
  show L2.atI (xs.map D.int) (j : Int) = _
  have hj : j < xs.length := by omega
  refine L2.atI_nat ?_
  rw [List.getElem?_map, Int.toNat_natCast, List.getD_eq_getElem?_getD, List.getElem?_eq_getElem hj]
  rfl
theorem ix_scr {ns : List Int} {j : Nat} (h1 : j < ns.length) : getD_ (.scr ns) (.int (j : Int)) S = some (.int (ns.getD j 0)) := by
  show L2.atI (ns.map D.int) (j : Int) = _
  refine L2.atI_nat ?_
  rw [List.getElem?_map, List.getD_eq_getElem?_getD, List.getElem?_eq_getElem h1]
  rfl
theorem run_l_cell {ns : List Int} {j : Nat} (h : G.fns i_l_cell = some f_l_cell) : run G (k + 1) i_l_cell [.scr ns, .int (j : Int)] S = .ok (.int (ns.getD j 0)) S := by
  rw [run_pure h rfl (as' := [.scr ns, .int (j : Int)]) rfl]
  refine fin_ret (S' := []) ?_ rfl
  by_cases hj : j < ns.length
  · simp [b_l_cell, startE, ev, hj, ix_scr hj]
  · have : ns.getD j 0 = 0 := by rw [List.getD_eq_getElem?_getD, List.getElem?_eq_none (by omega)]; rfl
    simp [b_l_cell, startE, ev, hj]
theorem bop_add_tupII {xs ys : List Int} (h : xs.length + ys.length ≤ SZ) : bop .add (.tup (xs.map .int)) (.tup (ys.map .int)) S = some (.tup ((xs ++ ys).map .int)) := by
  have e : (xs.map D.int).length + (ys.map D.int).length ≤ SZ := by rw [List.length_map, List.length_map]; exact h
  rw [bop_add_tup e, List.map_append]
theorem sIx_ok {n d : Nat} {v : Int} (h0 : 0 ≤ v) (h1 : v ≤ n) : HT.sIx n d (some v) = v.toNat := by
  show (if v < 0 then (v + (n : Int)).toNat else min v.toNat n) = v.toNat
  rw [if_neg (by omega)]
  omega
theorem sl_to {xs : List Int} {v : Int} (h0 : 0 ≤ v) (h1 : v ≤ xs.length) : slD (.tup (xs.map .int)) none (some v) S = some (.tup ((xs.take v.toNat).map .int)) := by
  show some (D.tup (cutD (xs.map D.int) none (some v))) = _
  unfold cutD
  rw [List.length_map, sIx_ok h0 h1]
  show some (D.tup ((List.drop 0 (xs.map D.int)).take (v.toNat - 0))) = _
  rw [List.drop_zero, Nat.sub_zero, List.map_take]
theorem sl_from {xs : List Int} {v : Int} (h0 : 0 ≤ v) (h1 : v ≤ xs.length) : slD (.tup (xs.map .int)) (some v) none S = some (.tup ((xs.drop v.toNat).map .int)) := by
  show some (D.tup (cutD (xs.map D.int) (some v) none)) = _
  unfold cutD
  rw [List.length_map, sIx_ok h0 h1]
  show some (D.tup ((List.drop v.toNat (xs.map D.int)).take (xs.length - v.toNat))) = _
  rw [List.take_of_length_le (by simp), List.map_drop]
theorem sl_mid {xs : List Int} {v w : Int} (h0 : 0 ≤ v) (h1 : v ≤ w) (h2 : w ≤ xs.length) : slD (.tup (xs.map .int)) (some v) (some w) S = some (.tup (((xs.drop v.toNat).take (w.toNat - v.toNat)).map .int)) := by
  show some (D.tup (cutD (xs.map D.int) (some v) (some w))) = _
  unfold cutD
  rw [List.length_map, sIx_ok h0 (by omega), sIx_ok (by omega) h2, List.map_take, List.map_drop]
/-! ### marks of joined bytes -/
theorem markT_app (xs ys : List Int) : markT (xs ++ ys) = markT xs * 257 ^ ys.length + markT ys := by
  have key : ∀ (ys : List Int) (a : Int), ys.foldl (fun m x => m * 257 + x + 1) a = a * 257 ^ ys.length + ys.foldl (fun m x => m * 257 + x + 1) 0 := by
    intro ys
    induction ys with
    | nil => intro a; simp
    | cons y ys ih =>
      intro a
      simp only [List.foldl_cons, List.length_cons]
      rw [ih (a * 257 + y + 1), ih (0 * 257 + y + 1), Int.pow_succ, show a * 257 + y + 1 = a * 257 + (0 * 257 + y + 1) by omega, Int.add_mul, Int.mul_assoc, Int.mul_comm 257, Int.add_assoc]
  unfold markT
  rw [List.foldl_append, key ys]
theorem markF_lt (xs : List Int) : 0 ≤ markF xs ∧ markF xs < 2147483647 := by
  rw [← markT_F]
  exact ⟨Int.emod_nonneg _ (by decide), Int.emod_lt_of_pos _ (by decide)⟩
theorem markF_app (xs ys : List Int) : (markF xs * powF ys.length + markF ys) % 2147483647 = markF (xs ++ ys) := by
  rw [← markT_F (xs ++ ys), markT_app, ← markT_F xs, ← markT_F ys]
  unfold powF
  rw [Int.add_emod, ← Int.mul_emod, Int.emod_emod_of_dvd _ (Int.dvd_refl _), ← Int.add_emod]
theorem run_mark_joined {xs ys : List Int} {L : Int} (h : G.fns i_mark_joined = some f_mark_joined) (hp : G.fns i_power = some f_power) (h0 : G.consts 0 = some (.int 2147483647)) (h1 : G.consts 1 = some (.int 257))
    (hL : L = ys.length) (hl : L < 1000000000) : run G (k + 2) i_mark_joined [.int (markF xs), .int (markF ys), .int L] S = .ok (.int (markF (xs ++ ys))) S := by
  rw [run_pure h rfl (as' := [.int (markF xs), .int (markF ys), .int L]) rfl]
  refine fin_ret (S' := []) ?_ rfl
  have hw := fun S => run_power (k := k) (S := S) (n := ys.length) hp h0 h1 (by omega)
  rw [← hL] at hw
  have s1 : small (markF xs) = true := by have := markF_lt xs; exact small_of (by omega) (by omega)
  have e := markF_app xs ys
  generalize markF (xs ++ ys) = R at e ⊢
  generalize powF ys.length = q at hw e
  generalize markF xs = a at s1 e ⊢
  generalize markF ys = b at e ⊢
  simp [b_mark_joined, startE, ev, hw, s1, h0, e]
end
end PL

set_option Elab.async false
set_option linter.all false
set_option maxRecDepth 100000
set_option maxHeartbeats 1000000
/-! PM5: loops that write the store; windows. -/
namespace PL
open PySem
abbrev i_mark_moved : Nat := 11
/-- mark_moved: mark 0 size 1 gone 2 come 3 -/
def b_mark_moved : T := (.ret (.bin .mod (.bin .add (.bin .add (.bin .mul (.bin .sub (.var 0) (.bin .mul (.bin .add (.var 2) (.con (.int 1))) (.call i_power (.cons (.bin .sub (.var 1) (.con (.int 1))) .nil)))) (.glb 1)) (.var 3)) (.con (.int 1))) (.glb 0)))
def f_mark_moved : Fn := ⟨true, 4, 4, b_mark_moved⟩
abbrev i_windows : Nat := 12
/-- windows: some 0 size 1 mark 2 found 3 factor 4 gone 5 come 6 -/
def b_windows : T := (.ifs (.cmp .lt (.bf .len (.cons (.var 0) .nil)) (.var 1))
  (.ret (.tup .nil))
  .nil
  (.asg 2 (.call i_mark_of (.cons (.sl (.var 0) .emp (.var 1)) .nil))
  (.asg 3 (.new (.lst (.cons (.var 2) .nil)))
  (.asg 4 (.call i_power (.cons (.bin .sub (.var 1) (.con (.int 1))) .nil))
  (.for_ .zip (.cons (.var 0) (.cons (.sl (.var 0) (.var 1) .emp) .nil)) (.many [5, 6])
  (.asg 2 (.bin .mod (.bin .add (.bin .add (.bin .mul (.bin .sub (.var 2) (.bin .mul (.bin .add (.var 5) (.con (.int 1))) (.var 4))) (.glb 1)) (.var 6)) (.con (.int 1))) (.glb 0))
  (.exp (.bm .append (.var 3) (.cons (.var 2) .nil))
  .nil))
  (.ret (.bf .tuple (.cons (.var 3) .nil))))))))
def f_windows : Fn := ⟨true, 2, 7, b_windows⟩
section
variable {G : Tab} {call : Calls} {k : Nat} {env : Env} {S : Store}
/-- a for over items whose turns write the store -/
theorem x_forS {α β τ : Type} {P : RS → Prop} {ik : IK} {src : E} {b k : T} {tg : Tg} {enc : β → D} {st : α → τ → Env} {ss : α → Store} {step : α → β → α} {xs : List β} {a0 : α} {t0 : τ} {d : D}
    (hs : ev G call src (st a0 t0) (ss a0) = .ok d (ss a0)) (hi : mkIt ik (srcL ik d) (ss a0) = some (.items (xs.map enc)))
    (h : ∀ pre x post t, xs = pre ++ x :: post → ∃ t', turnB G call b tg (enc x) (st (pre.foldl step a0) t) (ss (pre.foldl step a0)) = .nx (st (step (pre.foldl step a0) x) t') (ss (step (pre.foldl step a0) x)))
    (hk : ∀ t', P (exT G call k (st (xs.foldl step a0) t') (ss (xs.foldl step a0)))) : P (exT G call (.for_ ik src tg b k) (st a0 t0) (ss a0)) := by
  have key : ∀ (post pre : List β) (t : τ), xs = pre ++ post → ∃ t', goFor (turnB G call b tg) (post.map enc) (st (pre.foldl step a0) t) (ss (pre.foldl step a0)) = .nx (st (xs.foldl step a0) t') (ss (xs.foldl step a0)) := by
    intro post
    induction post with
    | nil => intro pre t e; rw [List.append_nil] at e; subst e; exact ⟨t, rfl⟩
    | cons x post ih =>
      intro pre t e
      obtain ⟨t1, h1⟩ := h pre x post t e
      obtain ⟨t2, h2⟩ := ih (pre ++ [x]) t1 (by rw [e]; simp)
      refine ⟨t2, ?_⟩
      rw [List.foldl_append] at h2
      simp only [List.map_cons, goFor, h1, RS.andThen_nx]
      exact h2
  obtain ⟨t', e⟩ := key xs [] t0 rfl
  simp only [List.foldl_nil] at e
  rw [x_for_eq, hs]
  simp only [R.stm_ok, hi, goForI, e, RS.andThen_nx]
  exact hk t'
def winF (xs : List Int) (sz : Nat) : List Int := (List.range (xs.length + 1 - sz)).map fun j => markF ((xs.drop j).take sz)
def winS (F : Int) (a : Int × List Int) (p : Int × Int) : Int × List Int :=
  let m := ((a.1 - (p.1 + 1) * F) * 257 + p.2 + 1) % 2147483647
  (m, a.2 ++ [m])
theorem mark_step (g c : Int) (A : List Int) : ((markF (g :: A) - (g + 1) * powF A.length) * 257 + c + 1) % 2147483647 = markF (A ++ [c]) := by
  have h1 : (markF [g] * powF A.length + markF A) % 2147483647 = markF (g :: A) := markF_app [g] A
  have h2 : markF [g] = (g + 1) % 2147483647 := by
    show (0 * 257 + g + 1) % 2147483647 = _
    omega
  have h3 : markF (A ++ [c]) = (markF A * 257 + c + 1) % 2147483647 := by
    unfold markF
    rw [List.foldl_append]
    rfl
  rw [h2] at h1
  have h4 : (markF (g :: A) - (g + 1) * powF A.length) % 2147483647 = markF A % 2147483647 := by
    rw [← h1, Int.sub_emod, Int.emod_emod_of_dvd _ (Int.dvd_refl _), ← Int.sub_emod]
    have h5 : ((g + 1) % 2147483647 * powF A.length) % 2147483647 = ((g + 1) * powF A.length) % 2147483647 := by
      rw [Int.mul_emod, Int.emod_emod_of_dvd _ (Int.dvd_refl _), ← Int.mul_emod]
    generalize (g + 1) % 2147483647 * powF A.length = u at *
    generalize (g + 1) * powF A.length = v at *
    omega
  rw [h3]
  generalize markF (g :: A) - (g + 1) * powF A.length = u at *
  omega
theorem win_fold (s : Nat) : ∀ (xs f : List Int), s + 1 ≤ xs.length → ((xs.zip (xs.drop (s + 1))).foldl (winS (powF s)) (markF (xs.take (s + 1)), f)).2 = f ++ (winF xs (s + 1)).tail := by
  intro xs
  induction xs with
  | nil => intro f h; simp at h
  | cons g ys ih =>
    intro f h
    rw [List.drop_succ_cons, List.take_succ_cons]
    by_cases hs : s < ys.length
    · rw [List.drop_eq_getElem_cons hs, List.zip_cons_cons, List.foldl_cons]
      have hl : (ys.take s).length = s := by rw [List.length_take]; omega
      have e : winS (powF s) (markF (g :: ys.take s), f) (g, ys[s]) = (markF (ys.take (s + 1)), f ++ [markF (ys.take (s + 1))]) := by
        have := mark_step g ys[s] (ys.take s)
        rw [hl] at this
        unfold winS
        simp only [this, List.take_append_getElem hs]
      rw [e, ih _ (by omega)]
      unfold winF
      rw [List.length_cons, show ys.length + 1 + 1 - (s + 1) = (ys.length - s) + 1 by omega, show ys.length + 1 - (s + 1) = (ys.length - s - 1) + 1 by omega, show ys.length - s = (ys.length - s - 1) + 1 by omega]
      simp [List.range_succ_eq_map]
    · have hd : ys.drop s = [] := List.drop_eq_nil_of_le (by omega)
      rw [hd]
      unfold winF
      rw [List.length_cons, show ys.length + 1 + 1 - (s + 1) = 1 by simp at h; omega]
      simp
theorem win_len (F : Int) : ∀ (ps : List (Int × Int)) (a : Int × List Int), (ps.foldl (winS F) a).2.length = a.2.length + ps.length := by
  intro ps
  induction ps with
  | nil => intro a; simp
  | cons p ps ih => intro a; rw [List.foldl_cons, ih]; simp [winS]; omega
theorem win_head {xs : List Int} {s : Nat} (h : s + 1 ≤ xs.length) : [markF (xs.take (s + 1))] ++ (winF xs (s + 1)).tail = winF xs (s + 1) := by
  unfold winF
  rw [show xs.length + 1 - (s + 1) = (xs.length - (s + 1)) + 1 by omega]
  simp [List.range_succ_eq_map]
theorem powF_small (n : Nat) : small (powF n) = true := by
  have h0 : 0 ≤ powF n := Int.emod_nonneg _ (by decide)
  have h1 : powF n < 2147483647 := Int.emod_lt_of_pos _ (by decide)
  exact small_of (by omega) (by omega)
theorem run_mark_moved {m z g c : Int} (h : G.fns i_mark_moved = some f_mark_moved) (hp : G.fns i_power = some f_power) (h0 : G.consts 0 = some (.int 2147483647)) (h1 : G.consts 1 = some (.int 257)) (hz : 1 ≤ z) (hz' : z < 1000000) :
    run G (k + 2) i_mark_moved [.int m, .int z, .int g, .int c] S = .ok (.int (((m - (g + 1) * powF (z.toNat - 1)) * 257 + c + 1) % 2147483647)) S := by
  rw [run_pure h rfl (as' := [.int m, .int z, .int g, .int c]) rfl]
  refine fin_ret (S' := []) ?_ rfl
  have hw := fun S => run_power (k := k) (S := S) (n := z.toNat - 1) hp h0 h1 (by omega)
  rw [show ((z.toNat - 1 : Nat) : Int) = z - 1 by omega] at hw
  have sf := powF_small (z.toNat - 1)
  generalize powF (z.toNat - 1) = F at *
  simp [b_mark_moved, startE, ev, hw, sf, h0, h1]
theorem run_windows {xs : List Int} {z : Int} (h : G.fns i_windows = some f_windows) (hp : G.fns i_power = some f_power) (hm : G.fns i_mark_of = some f_mark_of) (h0 : G.consts 0 = some (.int 2147483647)) (h1 : G.consts 1 = some (.int 257)) (hz : 1 ≤ z) (hz' : z < 1000000) (hx : xs.length ≤ 1000) :
    run G (k + 2) i_windows [tupI xs, .int z] S = .ok (tupI (winF xs z.toNat)) S := by
  rw [run_pure h rfl (as' := [tupI xs, .int z]) (by simp [frzAs, frzA, noRef])]
  have hlen : ∀ S, bfD .len [.tup (xs.map .int)] S = some (.int (xs.length : Int)) := fun S => by rw [bf_len_tup, List.length_map]
  obtain ⟨L, hL⟩ : ∃ L : Int, L = (xs.length : Int) := ⟨_, rfl⟩
  rw [← hL] at hlen
  by_cases hc : L < z
  · refine fin_ret (S' := []) ?_ (by simp [scl])
    have : winF xs z.toNat = [] := by unfold winF; rw [show xs.length + 1 - z.toNat = 0 by omega]; rfl
    rw [this]
    simp [b_windows, startE, ev, hlen, hc]
  · obtain ⟨s, hs⟩ : ∃ s : Nat, z.toNat = s + 1 := ⟨z.toNat - 1, by omega⟩
    refine fin_ret (S' := [.lst ((winF xs z.toNat).map .int)]) ?_ (by simp [scl])
    have hw := fun S => run_power (k := k) (S := S) (n := s) hp h0 h1 (by omega)
    rw [show ((s : Nat) : Int) = z - 1 by omega] at hw
    have hk := fun xs S => run_mark_of (k := k) (S := S) (xs := xs) hm h0 h1
    have e1 := fun S => sl_to (S := S) (xs := xs) (v := z) (by omega) (by omega)
    have e2 := fun S => sl_from (S := S) (xs := xs) (v := z) (by omega) (by omega)
    have sf := powF_small s
    have wf := win_fold s xs [markF (xs.take (s + 1))] (by omega)
    rw [win_head (by omega)] at wf
    have wl := win_len (powF s)
    rw [hs] at e1 e2 ⊢
    have hzl : (xs.drop (s + 1)).length ≤ 1000 := by rw [List.length_drop]; omega
    generalize hm0 : markF (xs.take (s + 1)) = m0 at *
    generalize winF xs (s + 1) = R at *
    generalize powF s = F at *
    simp [b_windows, startE, ev, isEmp, part, hlen, hc, e1, hk, hm0, hw, SZ, mkLst, -List.map_take]
    refine x_forS (P := fun r => r = .rt (tupI R) [.lst (R.map .int)]) (xs := xs.zip (xs.drop (s + 1))) (enc := fun p => .tup [.int p.1, .int p.2]) (a0 := (m0, [m0])) (t0 := ((none, none) : Option D × Option D))
      (st := fun a t => [some (tupI xs), some (.int z), some (.int a.1), some (.ref 0), some (.int F), t.1, t.2]) (ss := fun a => [.lst (a.2.map .int)]) (step := winS F)
      (d := .tup [tupI xs, tupI (xs.drop (s + 1))]) ?_ ?_ (fun pre x post t e => ?_) (fun t' => ?_)
    · simp [ev, isEmp, part, e2, -List.map_drop]
    · rw [srcL_zip, toTup_tup, mkIt_zipT, List.zipWith_map, List.zip, List.map_zipWith]
    · have hq : (pre.foldl (winS F) (m0, [m0])).2.length < SZ := by
        rw [wl]
        have := congrArg List.length e
        rw [List.length_zip, List.length_append, List.length_cons] at this
        show 1 + pre.length < SZ
        unfold SZ
        omega
      have hq' : ((pre.foldl (winS F) (m0, [m0])).2.map D.int).length < SZ := by rw [List.length_map]; exact hq
      generalize pre.foldl (winS F) (m0, [m0]) = a at *
      obtain ⟨a1, a2⟩ := a
      obtain ⟨g, c⟩ := x
      refine ⟨(some (.int g), some (.int c)), ?_⟩
      simp only at hq hq'
      simp [turnB, ev, sf, h0, h1, bmOk, bmD, winS]
      rw [if_pos hq]
      rfl
    · rw [wf]
      simp [ev, bfD, tupF, seqOf, lstOf]
end
end PL

set_option Elab.async false
set_option linter.all false
set_option maxRecDepth 100000
set_option maxHeartbeats 1000000
/-! PM6: typed data, the evaluator's operations on them, loops in general. -/
namespace PL
open PySem
class Has (G : Tab) (i : Nat) (F : Fn) : Prop where
  h : G.fns i = some F
class HasC (G : Tab) (j : Nat) (d : outParam D) : Prop where
  h : G.consts j = some d
@[simp] theorem const_of {G : Tab} {j : Nat} {d : D} [h : HasC G j d] : G.consts j = some d := h.h
/-- a tuple, a list, of encoded items -/
def tl {α : Type} (f : α → D) (xs : List α) : D := .tup (xs.map f)
def ll {α : Type} (f : α → D) (xs : List α) : D := .lst (xs.map f)
class Okf {α : Type} (f : α → D) : Prop where
  nr : ∀ a, noRef (f a) = true
  sc : ∀ a, scl (f a) = true
theorem noRefs_map {α : Type} {f : α → D} (h : ∀ a, noRef (f a) = true) : ∀ xs : List α, noRefs (xs.map f) = true
  | [] => rfl
  | x :: xs => by simp [noRefs, h x, noRefs_map h xs]
theorem scls_map {α : Type} {f : α → D} (h : ∀ a, scl (f a) = true) : ∀ xs : List α, scls (xs.map f) = true
  | [] => rfl
  | x :: xs => by simp [scls, h x, scls_map h xs]
instance : Okf D.int := ⟨fun _ => rfl, fun _ => rfl⟩
instance : Okf D.str := ⟨fun _ => rfl, fun _ => rfl⟩
instance : Okf D.bl := ⟨fun _ => rfl, fun _ => rfl⟩
instance : Okf pairD := ⟨fun _ => rfl, fun _ => rfl⟩
instance {α : Type} {f : α → D} [o : Okf f] : Okf (tl f) := ⟨fun xs => noRefs_map o.nr xs, fun xs => scls_map o.sc xs⟩
/-- None or something -/
def opD {α : Type} (f : α → D) : Option α → D
  | none => .non
  | some a => f a
instance {α : Type} {f : α → D} [o : Okf f] : Okf (opD f) := ⟨fun x => by cases x <;> simp [opD, noRef, o.nr], fun x => by cases x <;> simp [opD, scl, o.sc]⟩
section
variable {G : Tab} {call : Calls} {env : Env} {S : Store}
@[simp] theorem x_asgT {is : List Nat} {e : E} {k : T} : exT G call (.asgT is e k) env S = (ev G call e env S).stm env fun d S => match bindT (.many is) d env with
    | some env' => exT G call k env' S
    | none => .bad := rfl
@[simp] theorem x_setI {o i e : E} {k : T} : exT G call (.setI o i e k) env S = (ev G call e env S).stm env fun v S => (ev G call o env S).stm env fun x S => (ev G call i env S).stm env fun y S => match setIx x y v S with
    | some S' => exT G call k env S'
    | none => .bad := rfl
@[simp] theorem x_fldS {c f : Nat} {o e : E} {k : T} : exT G call (.fldS c o f e k) env S = (ev G call e env S).stm env fun v S => (ev G call o env S).stm env fun x S => if clsD x S = some c then match setFld x f v S with
    | some S' => exT G call k env S'
    | none => .bad else .bad := rfl
@[simp] theorem x_tr {cs : List Nat} {b h k : T} : exT G call (.tr b cs h k) env S = match exT G call b env S with
    | .ex c env' S' => if c ∈ G.exs then (if c ∈ cs then (exT G call h env' S').calm.andThen fun env S => exT G call k env S else .ex c env' S') else .bad
    | .nx env' S' => exT G call k env' S'
    | r => r := rfl
@[simp] theorem x_tr2 {c c' : Nat} {b h h' k : T} : exT G call (.tr2 b c h c' h' k) env S = match exT G call b env S with
    | .ex d env' S' => if d ∈ G.exs then (if d = c then (exT G call h env' S').calm.andThen fun env S => exT G call k env S else if d = c' then (exT G call h' env' S').calm.andThen fun env S => exT G call k env S else .ex d env' S') else .bad
    | .nx env' S' => exT G call k env' S'
    | r => r := rfl
end
section
variable {α β : Type} {f : α → D} {g : β → D} {xs ys : List α} {S : Store} {i j : Int}
@[simp] theorem noRef_tl [o : Okf f] : noRef (tl f xs) = true := noRefs_map o.nr xs
@[simp] theorem scl_tl [o : Okf f] : scl (tl f xs) = true := scls_map o.sc xs
@[simp] theorem noRef_ll [o : Okf f] : noRef (ll f xs) = true := noRefs_map o.nr xs
@[simp] theorem noRef_int' : noRef (.int i) = true := rfl
@[simp] theorem noRef_str' {x : Str} : noRef (.str x) = true := rfl
@[simp] theorem noRef_bl' {x : Bool} : noRef (.bl x) = true := rfl
@[simp] theorem noRef_non' : noRef .non = true := rfl
@[simp] theorem scl_int' : scl (.int i) = true := rfl
@[simp] theorem scl_str' {x : Str} : scl (.str x) = true := rfl
@[simp] theorem scl_bl' {x : Bool} : scl (.bl x) = true := rfl
@[simp] theorem scl_non' : scl .non = true := rfl
@[simp] theorem frzA_tl [o : Okf f] : frzA S (tl f xs) = some (tl f xs) := frzA_noRef noRef_tl
@[simp] theorem frzA_ll [o : Okf f] : frzA S (ll f xs) = some (ll f xs) := frzA_noRef noRef_ll
@[simp] theorem frzA_int' : frzA S (.int i) = some (.int i) := rfl
@[simp] theorem frzA_str' {x : Str} : frzA S (.str x) = some (.str x) := rfl
@[simp] theorem frzA_bl' {x : Bool} : frzA S (.bl x) = some (.bl x) := rfl
@[simp] theorem frzA_non' : frzA S .non = some .non := rfl
@[simp] theorem frzA_scr {ns : List Int} : frzA S (.scr ns) = some (.scr ns) := rfl
@[simp] theorem len_tl : bfD .len [tl f xs] S = some (.int xs.length) := by simp [tl]
@[simp] theorem len_ll : bfD .len [ll f xs] S = some (.int xs.length) := by simp [ll, bfD, lenF, lenD, seqOf, lstOf]
@[simp] theorem truthy_tl : truthy (tl f xs) S = some (!xs.isEmpty) := by simp [tl, truthy]
@[simp] theorem truthy_ll : truthy (ll f xs) S = some (!xs.isEmpty) := by simp [ll, truthy]
@[simp] theorem mkIt_tl : mkIt .plain [tl f xs] S = some (.items (xs.map f)) := rfl
@[simp] theorem mkIt_ll : mkIt .plain [ll f xs] S = some (.items (xs.map f)) := rfl
@[simp] theorem notIns_tl : notIns (tl f xs) S = true := rfl
@[simp] theorem notIns_ll : notIns (ll f xs) S = true := rfl
@[simp] theorem isNonD_tl : isNonD (tl f xs) = false := rfl
@[simp] theorem isNonD_ll : isNonD (ll f xs) = false := rfl
@[simp] theorem isaD_tl {t : Nat} : isaD t (tl f xs) = decide (t = 3) := isaD_tup
@[simp] theorem isaD_ll {t : Nat} : isaD t (ll f xs) = false := by rcases t with _ | _ | _ | _ | t <;> simp [isaD, ll]
theorem cutD_map {lo hi : Option Int} : cutD (xs.map f) lo hi = (cutD xs lo hi).map f := by simp [cutD]
@[simp] theorem sl_tl {lo hi : Option Int} : slD (tl f xs) lo hi S = some (tl f (cutD xs lo hi)) := by
  show some (D.tup (cutD (xs.map f) lo hi)) = _
  rw [cutD_map]; rfl
@[simp] theorem sl_ll {lo hi : Option Int} : slD (ll f xs) lo hi S = some (ll f (cutD xs lo hi)) := by
  show some (D.lst (cutD (xs.map f) lo hi)) = _
  rw [cutD_map]; rfl
@[simp] theorem sl_scr {ns : List Int} {lo hi : Option Int} : slD (.scr ns) lo hi S = some (ll .int (cutD ns lo hi)) := by
  show some (D.lst (cutD (ns.map .int) lo hi)) = _
  rw [cutD_map]; rfl
theorem atI_map {i : Int} : L2.atI (xs.map f) i = (L2.atI xs i).map f := by
  unfold L2.atI
  rw [List.length_map]
  cases L2.ixN xs.length i with
  | none => rfl
  | some j => simp
@[simp] theorem ix_tl : getD_ (tl f xs) (.int i) S = (L2.atI xs i).map f := by
  show L2.atI (xs.map f) i = _
  exact atI_map
@[simp] theorem ix_ll : getD_ (ll f xs) (.int i) S = (L2.atI xs i).map f := by
  show L2.atI (xs.map f) i = _
  exact atI_map
theorem add_tl (h : xs.length + ys.length ≤ SZ) : bop .add (tl f xs) (tl f ys) S = some (tl f (xs ++ ys)) := by
  have e : (xs.map f).length + (ys.map f).length ≤ SZ := by rw [List.length_map, List.length_map]; exact h
  unfold tl
  rw [bop_add_tup e, List.map_append]
theorem add_ll (h : xs.length + ys.length ≤ SZ) : bop .add (ll f xs) (ll f ys) S = some (ll f (xs ++ ys)) := by
  have e : (xs.map f).length + (ys.map f).length ≤ SZ := by rw [List.length_map, List.length_map]; exact h
  show (if (xs.map f).length + (ys.map f).length ≤ SZ then some (D.lst (xs.map f ++ ys.map f)) else none) = _
  rw [if_pos e, ← List.map_append]; rfl
theorem add_tl1 {y : α} {d : D} (e : f y = d) (h : xs.length + 1 ≤ SZ) : bop .add (tl f xs) (.tup [d]) S = some (tl f (xs ++ [y])) := by
  subst e
  exact add_tl (ys := [y]) h
@[simp] theorem tuple_ll : bfD .tuple [ll f xs] S = some (tl f xs) := rfl
@[simp] theorem tuple_tl : bfD .tuple [tl f xs] S = some (tl f xs) := rfl
@[simp] theorem list_ll : bfD .list [ll f xs] S = some (ll f xs) := rfl
@[simp] theorem list_tl : bfD .list [tl f xs] S = some (ll f xs) := rfl
theorem zip_tl {us : List β} : (xs.map f).zipWith (fun x y => D.tup [x, y]) (us.map g) = (xs.zip us).map fun p => D.tup [f p.1, g p.2] := by
  rw [List.zipWith_map, List.zip, List.map_zipWith]
@[simp] theorem mkIt_ziptl {us : List β} : mkIt .zip [tl f xs, tl g us] S = some (.items ((xs.zip us).map fun p => D.tup [f p.1, g p.2])) := by
  show some (PL.Itr.items _) = _
  rw [zip_tl]
@[simp] theorem mkIt_zipll {us : List β} : mkIt .zip [ll f xs, ll g us] S = some (.items ((xs.zip us).map fun p => D.tup [f p.1, g p.2])) := by
  show some (PL.Itr.items _) = _
  rw [zip_tl]
theorem enum_tl : enumD (xs.map f) = ((List.range xs.length).zip xs).map fun p => D.tup [.int (p.1 : Nat), f p.2] := by
  unfold enumD
  rw [List.length_map, List.zipWith_map_right, List.zip, List.map_zipWith]
@[simp] theorem mkIt_enumtl : mkIt .enum [tl f xs] S = some (.items (((List.range xs.length).zip xs).map fun p => D.tup [.int (p.1 : Nat), f p.2])) := by
  show some (PL.Itr.items (enumD (xs.map f))) = _
  rw [enum_tl]
@[simp] theorem mkIt_enumll : mkIt .enum [ll f xs] S = some (.items (((List.range xs.length).zip xs).map fun p => D.tup [.int (p.1 : Nat), f p.2])) := by
  show some (PL.Itr.items (enumD (xs.map f))) = _
  rw [enum_tl]
@[simp] theorem srcL_enum {d : D} : srcL .enum d = toTup d := rfl
@[simp] theorem srcL_rng3 {d : D} : srcL .rng3 d = toTup d := rfl
@[simp] theorem srcL_keys {d : D} : srcL .keys d = [d] := rfl
@[simp] theorem bindT_pair {p : Int × Int} {a b : Nat} {env : Env} : bindT (.many [a, b]) (pairD p) env = some ((env.set a (some (.int p.1))).set b (some (.int p.2))) := rfl
@[simp] theorem mkLst_0 : mkLst [] = some (ll D.int []) := rfl
theorem mkLst_of {ds : List D} (h : ds.length ≤ 1000) : mkLst ds = some (.lst ds) := by
  unfold mkLst
  rw [if_pos (by unfold SZ; omega)]
theorem mkTup_of {ds : List D} (h : ds.length ≤ 1000) : mkTup ds = some (.tup ds) := by
  unfold mkTup
  rw [if_pos (by unfold SZ; omega)]
@[simp] theorem mkTup_5 {a b c d e : D} : mkTup [a, b, c, d, e] = some (.tup [a, b, c, d, e]) := mkTup_of (by simp)
@[simp] theorem mkLst_1 {a : D} : mkLst [a] = some (.lst [a]) := mkLst_of (by simp)
@[simp] theorem mkLst_2 {a b : D} : mkLst [a, b] = some (.lst [a, b]) := mkLst_of (by simp)
@[simp] theorem mkLst_3 {a b c : D} : mkLst [a, b, c] = some (.lst [a, b, c]) := mkLst_of (by simp)
@[simp] theorem mkLst_4 {a b c d : D} : mkLst [a, b, c, d] = some (.lst [a, b, c, d]) := mkLst_of (by simp)
@[simp] theorem mkLst_5 {a b c d e : D} : mkLst [a, b, c, d, e] = some (.lst [a, b, c, d, e]) := mkLst_of (by simp)
theorem sumB_int : ∀ xs : List Int, intsD (xs.map D.int) = some xs
  | [] => rfl
  | x :: xs => by simp [intsD, sumB_int xs]
theorem pairsD_map : ∀ ps : List (Int × Int), pairsD (ps.map pairD) = some ps
  | [] => rfl
  | p :: ps => by simp [pairsD, pairD, pairsD_map ps]
@[simp] theorem sum_ll {xs : List Int} : bfD .sum [ll .int xs] S = some (.int xs.sum) := by
  show (((some (xs.map D.int)).bind intsD).map fun is : List Int => D.int is.sum) = _
  simp [sumB_int]
@[simp] theorem sum_tl {xs : List Int} : bfD .sum [tl .int xs] S = none ∨ True := .inr trivial
theorem all_ll {p : α → Bool} : bfD .all [.lst (xs.map fun x => .bl (p x))] S = some (.bl (xs.all p)) := bf_all_map
theorem anyB_map {p : α → Bool} : ∀ xs : List α, anyB (xs.map fun x => .bl (p x)) = some (xs.any p)
  | [] => rfl
  | x :: xs => by simp [anyB, anyB_map xs]
theorem any_ll {p : α → Bool} : bfD .any [.lst (xs.map fun x => .bl (p x))] S = some (.bl (xs.any p)) := by
  show (((some (xs.map fun x => D.bl (p x))).bind anyB).map D.bl) = _
  simp [anyB_map]
@[simp] theorem sort_llP {ps : List (Int × Int)} : bfD .sorted [ll pairD ps] S = some (ll pairD (sortBy leP ps)) := by
  show ((sortD (ps.map pairD)).map D.lst) = _
  unfold sortD
  cases ps with
  | nil => rfl
  | cons p ps =>
    have : intsD ((p :: ps).map pairD) = none := rfl
    rw [this, pairsD_map]
    rfl
@[simp] theorem sort_tlP {ps : List (Int × Int)} : bfD .sorted [tl pairD ps] S = some (ll pairD (sortBy leP ps)) := sort_llP (S := S)
@[simp] theorem sort_llI {is : List Int} : bfD .sorted [ll .int is] S = some (ll .int (sortBy leI is)) := by
  show ((sortD (is.map D.int)).map D.lst) = _
  unfold sortD
  rw [sumB_int]
  rfl
/-! ### places, cuts -/
theorem atI_nat {n : Nat} : L2.atI xs (n : Int) = xs[n]? := by
  unfold L2.atI L2.ixN
  by_cases h : n < xs.length
  · rw [if_pos (by omega), if_pos (by exact_mod_cast h)]
    simp
  · rw [if_pos (by omega), if_neg (by omega)]
    simp [List.getElem?_eq_none (Nat.le_of_not_lt h)]
theorem atI_nn (h : 0 ≤ i) : L2.atI xs i = xs[i.toNat]? := by
  obtain ⟨n, rfl⟩ := Int.eq_ofNat_of_zero_le h
  exact atI_nat
theorem atI_last : L2.atI xs (-1) = xs.getLast? := by
  unfold L2.atI L2.ixN
  rw [if_neg (by omega)]
  cases xs with
  | nil => rfl
  | cons x xs =>
    rw [if_pos (by simp; omega), List.getLast?_eq_getElem?]
    show (x :: xs)[(-1 + ((x :: xs).length : Int)).toNat]? = _
    congr 1
    simp only [List.length_cons]
    omega
theorem sIx_nn {n d : Nat} {i : Int} (h : 0 ≤ i) : HT.sIx n d (some i) = min i.toNat n := by
  unfold HT.sIx
  simp only
  split
  · omega
  · omega
theorem cut_to (h : 0 ≤ j) : cutD xs none (some j) = xs.take j.toNat := by
  show (xs.drop (HT.sIx xs.length 0 none)).take _ = _
  rw [sIx_nn h]
  show (xs.drop 0).take (min j.toNat xs.length - 0) = _
  rw [List.drop_zero, Nat.sub_zero, ← List.take_eq_take_min]
theorem cut_from (h : 0 ≤ i) : cutD xs (some i) none = xs.drop i.toNat := by
  show (xs.drop (HT.sIx xs.length 0 (some i))).take (xs.length - HT.sIx xs.length 0 (some i)) = _
  rw [sIx_nn h]
  by_cases z : i.toNat ≤ xs.length
  · rw [Nat.min_eq_left z]
    exact List.take_of_length_le (by rw [List.length_drop]; omega)
  · rw [Nat.min_eq_right (by omega), List.drop_length, List.drop_eq_nil_of_le (by omega)]
    simp
theorem cut_both (h : 0 ≤ i) (h' : 0 ≤ j) : cutD xs (some i) (some j) = (xs.drop i.toNat).take (j.toNat - i.toNat) := by
  show (xs.drop (HT.sIx xs.length 0 (some i))).take (HT.sIx xs.length xs.length (some j) - HT.sIx xs.length 0 (some i)) = _
  rw [sIx_nn h, sIx_nn h']
  by_cases z : i.toNat ≤ xs.length
  · rw [Nat.min_eq_left z]
    by_cases z' : j.toNat ≤ xs.length
    · rw [Nat.min_eq_left z']
    · rw [Nat.min_eq_right (by omega), List.take_of_length_le (by rw [List.length_drop]; omega), List.take_of_length_le (by rw [List.length_drop]; omega)]
  · rw [show min i.toNat xs.length = xs.length from Nat.min_eq_right (by omega), List.drop_length, List.drop_eq_nil_of_le (show xs.length ≤ i.toNat by omega)]
    simp
theorem cut_butlast : cutD xs none (some (-1)) = xs.dropLast := by
  show (xs.drop 0).take (HT.sIx xs.length xs.length (some (-1)) - 0) = _
  rw [List.drop_zero, List.dropLast_eq_take]
  congr 1
  unfold HT.sIx
  simp only
  split <;> omega
end
end PL

set_option Elab.async false
set_option linter.all false
set_option maxRecDepth 100000
set_option maxHeartbeats 1000000
/-! PM7: loops with a saying; the known defs, by instances. -/
namespace PL
open PySem
section
variable {G : Tab} {call : Calls} {env : Env} {S : Store}
theorem goFor_inv {α β τ : Type} {body : D → Env → Store → RS} {enc : β → D} {st : α → τ → Env} {ss : α → Store} {step : α → β → α} {I : Nat → α → Prop} :
    ∀ (xs : List β) (i : Nat) (a : α) (t : τ), I i a → (∀ j x a t, xs[j]? = some x → I (i + j) a → ∃ t', body (enc x) (st a t) (ss a) = .nx (st (step a x) t') (ss (step a x)) ∧ I (i + j + 1) (step a x)) →
    ∃ t', goFor body (xs.map enc) (st a t) (ss a) = .nx (st (xs.foldl step a) t') (ss (xs.foldl step a)) ∧ I (i + xs.length) (xs.foldl step a)
  | [], i, a, t, h0, _ => ⟨t, rfl, h0⟩
  | x :: xs, i, a, t, h0, h => by
    obtain ⟨t1, e1, i1⟩ := h 0 x a t rfl h0
    obtain ⟨t2, e2, i2⟩ := goFor_inv xs (i + 1) (step a x) t1 i1 fun j y b u hj hi => by
      obtain ⟨t', e, q⟩ := h (j + 1) y b u (by simpa using hj) (by rw [show i + (j + 1) = i + 1 + j by omega]; exact hi)
      exact ⟨t', e, by rw [show i + 1 + j + 1 = i + (j + 1) + 1 by omega]; exact q⟩
    refine ⟨t2, ?_, by rw [List.length_cons, show i + (xs.length + 1) = i + 1 + xs.length by omega]; exact i2⟩
    simp only [List.map_cons, goFor, e1, RS.andThen_nx, List.foldl_cons]
    exact e2
/-- a for whose turns are steps of a fold -/
theorem x_forF {α β τ : Type} {P : RS → Prop} {ik : IK} {src : E} {b k : T} {tg : Tg} {enc : β → D} (st : α → τ → Env) (ss : α → Store) (step : α → β → α) (I : Nat → α → Prop) {xs : List β} {a0 : α} {t0 : τ} {d : D}
    (hs : ev G call src (st a0 t0) (ss a0) = .ok d (ss a0)) (hi : mkIt ik (srcL ik d) (ss a0) = some (.items (xs.map enc))) (h0 : I 0 a0)
    (h : ∀ j x a t, xs[j]? = some x → I j a → ∃ t', turnB G call b tg (enc x) (st a t) (ss a) = .nx (st (step a x) t') (ss (step a x)) ∧ I (j + 1) (step a x))
    (hk : ∀ t', I xs.length (xs.foldl step a0) → P (exT G call k (st (xs.foldl step a0) t') (ss (xs.foldl step a0)))) : P (exT G call (.for_ ik src tg b k) (st a0 t0) (ss a0)) := by
  obtain ⟨t', e, i'⟩ := goFor_inv (body := turnB G call b tg) (enc := enc) (st := st) (ss := ss) (step := step) (I := I) xs 0 a0 t0 h0 fun j x a t hj hi => by
    obtain ⟨t', e, q⟩ := h j x a t hj (by simpa using hi)
    exact ⟨t', e, by simpa using q⟩
  rw [x_for_eq, hs]
  simp only [R.stm_ok, hi, goForI, e, RS.andThen_nx]
  exact hk t' (by simpa using i')
/-- a fold that may end early -/
def foldR {α β γ : Type} (step : α → β → α ⊕ γ) : List β → α → α ⊕ γ
  | [], a => .inl a
  | x :: xs, a => match step a x with
    | .inl a' => foldR step xs a'
    | .inr d => .inr d
theorem goFor_R {α β γ τ : Type} {body : D → Env → Store → RS} {enc : β → D} {st : α → τ → Env} {ss : α → Store} {step : α → β → α ⊕ γ} {out : γ → RS} (hout : ∀ c f, (out c).andThen f = out c) {I : Nat → α → Prop} :
    ∀ (xs : List β) (i : Nat) (a : α) (t : τ), I i a → (∀ j x a t, xs[j]? = some x → I (i + j) a → match step a x with
      | .inl a' => ∃ t', body (enc x) (st a t) (ss a) = .nx (st a' t') (ss a') ∧ I (i + j + 1) a'
      | .inr c => body (enc x) (st a t) (ss a) = out c) →
    match foldR step xs a with
    | .inl a' => ∃ t', goFor body (xs.map enc) (st a t) (ss a) = .nx (st a' t') (ss a') ∧ I (i + xs.length) a'
    | .inr c => goFor body (xs.map enc) (st a t) (ss a) = out c
  | [], i, a, t, h0, _ => ⟨t, rfl, h0⟩
  | x :: xs, i, a, t, h0, h => by
    have h1 := h 0 x a t rfl h0
    simp only [foldR]
    cases hs : step a x with
    | inr c =>
      rw [hs] at h1
      simp only [List.map_cons, goFor, h1, hout]
    | inl a' =>
      rw [hs] at h1
      obtain ⟨t1, e1, i1⟩ := h1
      have := goFor_R (body := body) (enc := enc) (st := st) (ss := ss) (step := step) hout (I := I) xs (i + 1) a' t1 i1 fun j y b u hj hi => by
        have q := h (j + 1) y b u (by simpa using hj) (by rw [show i + (j + 1) = i + 1 + j by omega]; exact hi)
        cases hq : step b y with
        | inr c => rw [hq] at q; exact q
        | inl b' =>
          rw [hq] at q
          obtain ⟨t', e, q⟩ := q
          exact ⟨t', e, by rw [show i + 1 + j + 1 = i + (j + 1) + 1 by omega]; exact q⟩
      simp only [List.map_cons, goFor, e1, RS.andThen_nx]
      cases hf : foldR step xs a' with
      | inr c => rw [hf] at this; exact this
      | inl b =>
        rw [hf] at this
        obtain ⟨t', e, q⟩ := this
        exact ⟨t', e, by rw [List.length_cons, show i + (xs.length + 1) = i + 1 + xs.length by omega]; exact q⟩
/-- a for that may hand back early -/
theorem x_forR {α β γ τ : Type} {P : RS → Prop} {ik : IK} {src : E} {b k : T} {tg : Tg} {enc : β → D} (st : α → τ → Env) (ss : α → Store) (step : α → β → α ⊕ γ) (out : γ → RS) (hout : ∀ c f, (out c).andThen f = out c) (I : Nat → α → Prop) {xs : List β} {a0 : α} {t0 : τ} {d : D}
    (hs : ev G call src (st a0 t0) (ss a0) = .ok d (ss a0)) (hi : mkIt ik (srcL ik d) (ss a0) = some (.items (xs.map enc))) (h0 : I 0 a0)
    (h : ∀ j x a t, xs[j]? = some x → I j a → match step a x with
      | .inl a' => ∃ t', turnB G call b tg (enc x) (st a t) (ss a) = .nx (st a' t') (ss a') ∧ I (j + 1) a'
      | .inr c => turnB G call b tg (enc x) (st a t) (ss a) = out c)
    (hk : match foldR step xs a0 with
      | .inl a' => ∀ t', I xs.length a' → P (exT G call k (st a' t') (ss a'))
      | .inr c => P (out c)) : P (exT G call (.for_ ik src tg b k) (st a0 t0) (ss a0)) := by
  have key := goFor_R (body := turnB G call b tg) (enc := enc) (st := st) (ss := ss) (step := step) hout (I := I) xs 0 a0 t0 h0 fun j x a t hj hi => by
    have q := h j x a t hj (by simpa using hi)
    cases hq : step a x with
    | inr c => rw [hq] at q; exact q
    | inl b' =>
      rw [hq] at q
      obtain ⟨t', e, q⟩ := q
      exact ⟨t', e, by simpa using q⟩
  rw [x_for_eq, hs]
  simp only [R.stm_ok, hi, goForI]
  cases hf : foldR step xs a0 with
  | inr c =>
    rw [hf] at key hk
    rw [key, hout]
    exact hk
  | inl a' =>
    rw [hf] at key hk
    obtain ⟨t', e, q⟩ := key
    rw [e, RS.andThen_nx]
    exact hk t' (by simpa using q)
theorem rt_out (d : D) (S' : Store) : ∀ f, (RS.rt d S').andThen f = .rt d S' := fun _ => rfl
/-- a comprehension with a test -/
theorem goComp_filter {β : Type} {body : D → Store → R (Option D)} {enc : β → D} {p : β → Bool} {f : β → D} {S : Store} {xs : List β} (hl : xs.length ≤ SZ) (h : ∀ x ∈ xs, body (enc x) S = .ok (if p x then some (f x) else none) S) :
    goComp body (xs.map enc) [] S = .ok ((xs.filter p).map f) S := by
  have key : ∀ (post pre : List β), xs = pre ++ post → goComp body (post.map enc) ((pre.filter p).map f) S = .ok ((xs.filter p).map f) S := by
    intro post
    induction post with
    | nil => intro pre e; rw [List.append_nil] at e; subst e; rfl
    | cons x post ih =>
      intro pre e
      have hx := h x (by rw [e]; simp)
      have := ih (pre ++ [x]) (by rw [e]; simp)
      simp only [List.map_cons, goComp, hx, R.bind_ok]
      by_cases hp : p x = true
      · simp only [hp, if_true]
        have hle := List.length_filter_le p pre
        rw [if_pos (by rw [List.length_map]; rw [e, List.length_append, List.length_cons] at hl; omega)]
        simpa [List.filter_append, hp] using this
      · simp only [hp, if_false]
        simpa [List.filter_append, hp] using this
  exact key xs [] rfl
/-- a pure def's answer -/
theorem pure_rt {i k np nl : Nat} {b : T} {as : List D} {S' : Store} {d d' : D} {F : Fn} [h : Has G i F] (hF : F = ⟨true, np, nl, b⟩) (hl : as.length = np) (hf : frzAs S as = some as) (he : exT G (run G k) b (startE nl as) [] = .rt d S') (hd : frzR S' d = some d') :
    run G (k + 1) i as S = .ok d' S := by
  rw [run_pure (hF ▸ h.h) hl hf, he]
  unfold fin
  simp only [hd, R.of_some]
theorem frzR_scl {d : D} (h : scl d = true) : frzR S d = some d := by
  unfold frzR
  cases d <;> simp_all [scl]
theorem frzAs_cons {d : D} {r : List D} (h : frzA S d = some d) (h' : frzAs S r = some r) : frzAs S (d :: r) = some (d :: r) := by
  simp only [frzAs, h, h']
end

/-! ### the known defs -/
section
variable {G : Tab} {k : Nat} {S : Store}
@[simp] theorem r_d [h : Has G i_l_d f_l_d] {c p m : Int} (hm : 0 < m) : run G (k + 1) i_l_d [.int c, .int p, .int m] S = .ok (.int (dF c p m)) S := run_l_d h.h hm
theorem r_mark_of [h : Has G i_mark_of f_mark_of] [h0 : HasC G 0 (.int 2147483647)] [h1 : HasC G 1 (.int 257)] {xs : List Int} : run G (k + 1) i_mark_of [tl .int xs] S = .ok (.int (markF xs)) S := run_mark_of h.h h0.h h1.h
theorem r_l_mark [h : Has G i_l_mark f_l_mark] {xs : List Int} : run G (k + 1) i_l_mark [tl .int xs] S = .ok (.int (markF xs)) S := run_l_mark h.h
theorem r_bytes [h : Has G i_l_bytes f_l_bytes] [hd : Has G i_l_d f_l_d] {c n : Int} (h0 : 0 ≤ n) (h1 : n ≤ 1000) : run G (k + 2) i_l_bytes [.int c, .int n] S = .ok (tl .int (bytesF c n.toNat)) S := run_l_bytes h.h hd.h h0 h1
theorem r_power [h : Has G i_power f_power] [h0 : HasC G 0 (.int 2147483647)] [h1 : HasC G 1 (.int 257)] {n : Int} (h2 : 0 ≤ n) (hn : n < 1000000000) : run G (k + 1) i_power [.int n] S = .ok (.int (powF n.toNat)) S := by
  have := run_power (k := k) (S := S) (n := n.toNat) h.h h0.h h1.h (by omega)
  rwa [Int.toNat_of_nonneg h2] at this
theorem r_windows [h : Has G i_windows f_windows] [hp : Has G i_power f_power] [hm : Has G i_mark_of f_mark_of] [h0 : HasC G 0 (.int 2147483647)] [h1 : HasC G 1 (.int 257)] {xs : List Int} {z : Int} (hz : 1 ≤ z) (hz' : z < 1000000) (hx : xs.length ≤ 1000) :
    run G (k + 2) i_windows [tl .int xs, .int z] S = .ok (tl .int (winF xs z.toNat)) S := run_windows h.h hp.h hm.h h0.h h1.h hz hz' hx
theorem r_mark_moved [h : Has G i_mark_moved f_mark_moved] [hp : Has G i_power f_power] [h0 : HasC G 0 (.int 2147483647)] [h1 : HasC G 1 (.int 257)] {m z g c : Int} (hz : 1 ≤ z) (hz' : z < 1000000) :
    run G (k + 2) i_mark_moved [.int m, .int z, .int g, .int c] S = .ok (.int (((m - (g + 1) * powF (z.toNat - 1)) * 257 + c + 1) % 2147483647)) S := run_mark_moved h.h hp.h h0.h h1.h hz hz'
theorem r_cell [h : Has G i_l_cell f_l_cell] {ns : List Int} {n : Int} (h0 : 0 ≤ n) : run G (k + 1) i_l_cell [.scr ns, .int n] S = .ok (.int (ns.getD n.toNat 0)) S := by
  have := run_l_cell (k := k) (S := S) (ns := ns) (j := n.toNat) h.h
  rwa [Int.toNat_of_nonneg h0] at this
/-- data without lists, dicts, references, not too deep -/
theorem r_same [h : Has G i_l_same f_l_same] {d : D} (hd : okD k d = true) : run G k i_l_same [d, d] S = .ok (.bl true) S := run_same h.h k d S hd
theorem okD_int {k : Nat} {i : Int} : okD (k + 1) (.int i) = true := rfl
theorem okD_tl {α : Type} {f : α → D} {xs : List α} (hl : xs.length ≤ SZ) (h : ∀ x ∈ xs, okD k (f x) = true) : okD (k + 1) (tl f xs) = true := by
  simp only [tl, okD, List.length_map, Bool.and_eq_true, decide_eq_true_eq, List.all_eq_true, List.mem_map]
  exact ⟨hl, fun d ⟨x, hx, e⟩ => e ▸ h x hx⟩
theorem same_int [h : Has G i_l_same f_l_same] {i : Int} : run G (k + 1) i_l_same [.int i, .int i] S = .ok (.bl true) S := r_same rfl
theorem same_bl [h : Has G i_l_same f_l_same] {i : Bool} : run G (k + 1) i_l_same [.bl i, .bl i] S = .ok (.bl true) S := r_same rfl
theorem same_str [h : Has G i_l_same f_l_same] {i : Str} : run G (k + 1) i_l_same [.str i, .str i] S = .ok (.bl true) S := r_same rfl
theorem same_tlI [h : Has G i_l_same f_l_same] {xs : List Int} (hl : xs.length ≤ SZ) : run G (k + 2) i_l_same [tl .int xs, tl .int xs] S = .ok (.bl true) S := r_same (okD_tl hl fun _ _ => rfl)
theorem same_tlP [h : Has G i_l_same f_l_same] {xs : List (Int × Int)} (hl : xs.length ≤ SZ) : run G (k + 3) i_l_same [tl pairD xs, tl pairD xs] S = .ok (.bl true) S := r_same (okD_tl hl fun _ _ => by simp [pairD, okD, SZ])
end
end PL

set_option Elab.async false
set_option linter.all false
set_option maxRecDepth 100000
set_option maxHeartbeats 1000000
/-! PM8: ranges. -/
namespace PL
open PySem
abbrev i_tidied : Nat := 28
/-- tidied: pairs 0 found 1 begin 2 end 3 -/
def b_tidied : T := (.asg 1 (.new (.lst .nil))
  (.for_ .plain (.bf .sorted (.cons (.var 0) .nil)) (.many [2, 3])
  (.ifs (.cmp .lt (.var 2) (.var 3))
  (.ifs (.and (.val (.var 1)) (.one (.cmp .le (.var 2) (.ix (.ix (.var 1) (.neg (.con (.int 1)))) (.con (.int 1))))))
  (.setI (.var 1) (.neg (.con (.int 1))) (.tup (.cons (.ix (.ix (.var 1) (.neg (.con (.int 1)))) (.con (.int 0))) (.cons (.bf .max (.cons (.ix (.ix (.var 1) (.neg (.con (.int 1)))) (.con (.int 1))) (.cons (.var 3) .nil))) .nil)))
  .nil)
  (.exp (.bm .append (.var 1) (.cons (.tup (.cons (.var 2) (.cons (.var 3) .nil))) .nil))
  .nil)
  .nil)
  .nil
  .nil)
  (.ret (.bf .tuple (.cons (.var 1) .nil)))))
def f_tidied : Fn := ⟨true, 1, 4, b_tidied⟩
abbrev i_together : Nat := 29
/-- together: one 0 other 1 -/
def b_together : T := (.ret (.call i_tidied (.cons (.bin .add (.var 0) (.var 1)) .nil)))
def f_together : Fn := ⟨true, 2, 2, b_together⟩
abbrev i_both : Nat := 30
/-- both: one 0 other 1 found 2 begin 3 end 4 low 5 high 6 -/
def b_both : T := (.asg 2 (.new (.lst .nil))
  (.for_ .plain (.var 0) (.many [3, 4])
  (.for_ .plain (.var 1) (.many [5, 6])
  (.exp (.bm .append (.var 2) (.cons (.tup (.cons (.bf .max (.cons (.var 3) (.cons (.var 5) .nil))) (.cons (.bf .min (.cons (.var 4) (.cons (.var 6) .nil))) .nil))) .nil))
  .nil)
  .nil)
  (.ret (.call i_tidied (.cons (.var 2) .nil)))))
def f_both : Fn := ⟨true, 2, 7, b_both⟩
abbrev i_without : Nat := 31
/-- without: one 0 other 1 found 2 begin 3 end 4 at 5 low 6 high 7 -/
def b_without : T := (.asg 2 (.new (.lst .nil))
  (.for_ .plain (.var 0) (.many [3, 4])
  (.asg 5 (.var 3)
  (.for_ .plain (.var 1) (.many [6, 7])
  (.ifs (.and (.cmp .lt (.var 6) (.var 4)) (.one (.cmp .gt (.var 7) (.var 5))))
  (.exp (.bm .append (.var 2) (.cons (.tup (.cons (.var 5) (.cons (.var 6) .nil))) .nil))
  (.asg 5 (.bf .max (.cons (.var 5) (.cons (.var 7) .nil)))
  .nil))
  .nil
  .nil)
  (.exp (.bm .append (.var 2) (.cons (.tup (.cons (.var 5) (.cons (.var 4) .nil))) .nil))
  .nil)))
  (.ret (.call i_tidied (.cons (.var 2) .nil)))))
def f_without : Fn := ⟨true, 2, 8, b_without⟩
abbrev i_count : Nat := 32
/-- count: ranges 0 begin 1 end 2 -/
def b_count : T := (.ret (.bf .sum (.cons (.comp .plain (.var 0) (.many [1, 2]) .emp (.bin .sub (.var 2) (.var 1))) .nil)))
def f_count : Fn := ⟨true, 1, 3, b_count⟩
abbrev i_holds : Nat := 33
/-- holds: ranges 0 place 1 begin 2 end 3 -/
def b_holds : T := (.ret (.bf .any (.cons (.comp .plain (.var 0) (.many [2, 3]) .emp (.chain .le .lt (.var 2) (.var 1) (.var 3))) .nil)))
def f_holds : Fn := ⟨true, 2, 4, b_holds⟩
abbrev i_l_pairs : Nat := 23
/-- l_pairs: _cells 0 _found 1 _cell_here 2 _begin 3 -/
def b_l_pairs : T := (.asg 1 (.tup .nil)
  (.for_ .plain (.var 0) (.one 2)
  (.asg 3 (.call i_l_d (.cons (.var 2) (.cons (.con (.int 1)) (.cons (.con (.int 60)) .nil))))
  (.asg 1 (.bin .add (.var 1) (.tup (.cons (.tup (.cons (.var 3) (.cons (.bf .max (.cons (.bin .sub (.bin .add (.var 3) (.call i_l_d (.cons (.var 2) (.cons (.con (.int 60)) (.cons (.con (.int 14)) .nil))))) (.con (.int 2))) (.cons (.con (.int 0)) .nil))) .nil))) .nil)))
  .nil))
  (.ret (.var 1))))
def f_l_pairs : Fn := ⟨true, 1, 4, b_l_pairs⟩
abbrev i_l_places : Nat := 24
/-- l_places: _pairs_here 0 _found 1 _begin 2 _end 3 _place 4 -/
def b_l_places : T := (.asg 1 .dict0
  (.for_ .plain (.var 0) (.many [2, 3])
  (.for_ .rng2 (.cons (.var 2) (.cons (.var 3) .nil)) (.one 4)
  (.setI (.var 1) (.var 4) (.con (.bl true))
  .nil)
  .nil)
  (.ret (.var 1))))
def f_l_places : Fn := ⟨true, 1, 5, b_l_places⟩
abbrev i_l_ranges : Nat := 25
/-- l_ranges: _places_here 0 _found 1 _place 2 -/
def b_l_ranges : T := (.asg 1 (.tup .nil)
  (.for_ .plain (.bf .sorted (.cons (.var 0) .nil)) (.one 2)
  (.ifs (.and (.val (.var 1)) (.one (.cmp .eq (.ix (.ix (.var 1) (.neg (.con (.int 1)))) (.con (.int 1))) (.var 2))))
  (.asg 1 (.bin .add (.sl (.var 1) .emp (.neg (.con (.int 1)))) (.tup (.cons (.tup (.cons (.ix (.ix (.var 1) (.neg (.con (.int 1)))) (.con (.int 0))) (.cons (.bin .add (.var 2) (.con (.int 1))) .nil))) .nil)))
  .nil)
  (.asg 1 (.bin .add (.var 1) (.tup (.cons (.tup (.cons (.var 2) (.cons (.bin .add (.var 2) (.con (.int 1))) .nil))) .nil)))
  .nil)
  .nil)
  (.ret (.var 1))))
def f_l_ranges : Fn := ⟨true, 1, 3, b_l_ranges⟩

/-! ### what they compute -/
abbrev PI : Type := Int × Int
def tidyS (f : List PI) (p : PI) : List PI :=
  if p.1 < p.2 then match f.getLast? with
    | some q => if p.1 ≤ q.2 then f.dropLast ++ [(q.1, if p.2 > q.2 then p.2 else q.2)] else f ++ [p]
    | none => f ++ [p]
  else f
def tidyF (ps : List PI) : List PI := (sortBy leP ps).foldl tidyS []
theorem set_last {α : Type} {f : List α} {v : α} (h : f ≠ []) : f.set (f.length - 1) v = f.dropLast ++ [v] := by
  induction f with
  | nil => exact absurd rfl h
  | cons x xs ih =>
    cases xs with
    | nil => rfl
    | cons y ys =>
      have := ih (by simp)
      simpa using this
theorem ixN_last {n : Nat} (h : 0 < n) : L2.ixN n (-1) = some (n - 1) := by
  unfold L2.ixN
  rw [if_neg (by omega), if_pos (by omega)]
  congr 1
  omega
theorem tidyS_len (f : List PI) (p : PI) : (tidyS f p).length ≤ f.length + 1 := by
  unfold tidyS
  split
  · split
    · split
      · rename_i q hq _
        have : f ≠ [] := by intro e; subst e; cases hq
        rw [List.length_append, List.length_dropLast]
        simp
      · simp
    · simp
  · omega
section
variable {G : Tab} {k : Nat} {S : Store}
theorem tidy_turn {call : Calls} {f : List PI} {p : PI} {d : D} {t : Option D × Option D} (hz : f.length < 10000) :
    ∃ t' : Option D × Option D, turnB G call (forB b_tidied) (.many [2, 3]) (pairD p) [some d, some (.ref 0), t.1, t.2] [.lst (f.map pairD)] = .nx [some d, some (.ref 0), t'.1, t'.2] [.lst ((tidyS f p).map pairD)] := by
  refine ⟨(some (.int p.1), some (.int p.2)), ?_⟩
  have hz' : f.length < SZ := by unfold SZ; omega
  have ix1 : ∀ i, getD_ (.ref 0) (.int i) [.lst (f.map pairD)] = (L2.atI f i).map pairD := fun i => atI_map
  have tr : truthy (.ref 0) [.lst (f.map pairD)] = some (!(f.map pairD).isEmpty) := rfl
  have ap : ∀ y, bmD .append (.ref 0) [y] [.lst (f.map pairD)] = .ok .non [.lst (f.map pairD ++ [y])] := fun y => by
    show (if (f.map pairD).length < SZ then R.ok D.non [Ob.lst (f.map pairD ++ [y])] else .bad) = _
    rw [if_pos (by rw [List.length_map]; exact hz')]
  have ok : bmOk .append (.ref 0) [.lst (f.map pairD)] = true := rfl
  have gp : ∀ (q : PI) (S : Store), getD_ (pairD q) (.int 0) S = some (.int q.1) ∧ getD_ (pairD q) (.int 1) S = some (.int q.2) := fun q S => ⟨rfl, rfl⟩
  by_cases h1 : p.1 < p.2
  · cases hl : f.getLast? with
    | none =>
      have : f = [] := by simpa using hl
      subst this
      simp [turnB, b_tidied, forB, ev, h1, tidyS, tr, ok, ap]
      rfl
    | some q =>
      have hf : f ≠ [] := by intro e; subst e; cases hl
      have he : (f.map pairD).isEmpty = false := by cases f <;> simp at hf ⊢
      have i2 := ix1 (-1)
      rw [atI_last, hl] at i2
      have hx : L2.ixN f.length (-1) = some (f.length - 1) := ixN_last (List.length_pos_iff.mpr hf)
      have st : ∀ v, setIx (.ref 0) (.int (-1)) v [.lst (f.map pairD)] = some [.lst ((f.map pairD).dropLast ++ [v])] := fun v => by
        show ((L2.ixN (f.map pairD).length (-1)).map fun j => [Ob.lst ((f.map pairD).set j v)]) = _
        rw [List.length_map, hx]
        simp only [Option.map_some]
        rw [← set_last (by simpa using hf), List.length_map]
      by_cases h2 : p.1 ≤ q.2
      · simp [turnB, b_tidied, forB, ev, h1, tidyS, tr, he, negD, i2, gp, h2, hl, st, List.map_dropLast]
        rfl
      · simp [turnB, b_tidied, forB, ev, h1, tidyS, tr, he, negD, i2, gp, h2, hl, ok, ap]
        rfl
  · simp [turnB, b_tidied, forB, ev, h1, tidyS]
theorem r_tidied [h : Has G i_tidied f_tidied] {d : D} {ps : List PI} (hd : frzA S d = some (tl pairD ps) ∨ frzA S d = some (ll pairD ps)) (hz : ps.length ≤ 9000) : run G (k + 1) i_tidied [d] S = .ok (tl pairD (tidyF ps)) S := by
  obtain ⟨d', hd', hs⟩ : ∃ d', frzA S d = some d' ∧ ∀ S, bfD .sorted [d'] S = some (ll pairD (sortBy leP ps)) := by
    rcases hd with hd | hd
    · exact ⟨_, hd, fun S => sort_tlP⟩
    · exact ⟨_, hd, fun S => sort_llP⟩
  rw [run_pure (h.h) rfl (as' := [d']) (by simp [frzAs, hd'])]
  have hl : (sortBy leP ps).length = ps.length := (sortBy_perm leP ps).length_eq
  refine fin_ret (S' := [.lst ((tidyF ps).map pairD)]) ?_ scl_tl
  simp [b_tidied, startE, ev, ll]
  refine x_forF (P := fun r => r = _) (ik := .plain) (xs := sortBy leP ps) (enc := pairD) (a0 := ([] : List PI)) (t0 := ((none, none) : Option D × Option D)) (d := ll pairD (sortBy leP ps))
    (fun a t => [some d', some (.ref 0), t.1, t.2]) (fun a => [.lst (a.map pairD)]) tidyS (fun i a => a.length ≤ i) ?_ (by simp) (Nat.zero_le _) (fun j x a t hj hi => ?_) (fun t' _ => ?_)
  · simp [ev, hs]
  · have hj' : j < ps.length := by rw [← hl]; exact (List.getElem?_eq_some_iff.mp hj).1
    obtain ⟨t', e⟩ := tidy_turn (G := G) (call := run G k) (d := d') (t := t) (p := x) (show a.length < 10000 by omega)
    exact ⟨t', e, by have := tidyS_len a x; omega⟩
  · simp [ev, tidyF, bfD, tupF, seqOf, lstOf, tl]
end
end PL

set_option Elab.async false
set_option linter.all false
set_option maxRecDepth 100000
set_option maxHeartbeats 1000000
/-! PM9: the mathematics of ranges. -/
namespace PL
open PySem
/-- x lies in one of them -/
def inR (ps : List PI) (x : Int) : Prop := ∃ p ∈ ps, p.1 ≤ x ∧ x < p.2
instance {ps : List PI} {x : Int} : Decidable (inR ps x) := by unfold inR; infer_instance
/-- in order, apart, none empty -/
def Can (ps : List PI) : Prop := ps.Pairwise (fun p q => p.2 < q.1) ∧ ∀ p ∈ ps, p.1 < p.2
@[simp] theorem inR_nil {x : Int} : ¬ inR [] x := by simp [inR]
@[simp] theorem inR_cons {p : PI} {ps : List PI} {x : Int} : inR (p :: ps) x ↔ (p.1 ≤ x ∧ x < p.2) ∨ inR ps x := by simp [inR]
@[simp] theorem inR_append {ps qs : List PI} {x : Int} : inR (ps ++ qs) x ↔ inR ps x ∨ inR qs x := by
  simp only [inR, List.mem_append]
  constructor
  · rintro ⟨p, h | h, r⟩
    · exact .inl ⟨p, h, r⟩
    · exact .inr ⟨p, h, r⟩
  · rintro (⟨p, h, r⟩ | ⟨p, h, r⟩)
    · exact ⟨p, .inl h, r⟩
    · exact ⟨p, .inr h, r⟩
theorem can_nil : Can [] := ⟨.nil, by simp⟩
theorem can_cons {p : PI} {ps : List PI} : Can (p :: ps) ↔ p.1 < p.2 ∧ (∀ q ∈ ps, p.2 < q.1) ∧ Can ps := by
  simp only [Can, List.pairwise_cons, List.mem_cons, forall_eq_or_imp]
  constructor
  · rintro ⟨⟨a, b⟩, c, d⟩; exact ⟨c, a, b, d⟩
  · rintro ⟨c, a, b, d⟩; exact ⟨⟨a, b⟩, c, d⟩
theorem can_snoc {p : PI} {ps : List PI} : Can (ps ++ [p]) ↔ Can ps ∧ (∀ q ∈ ps, q.2 < p.1) ∧ p.1 < p.2 := by
  simp only [Can, List.pairwise_append, List.mem_append, List.mem_singleton, List.pairwise_cons]
  constructor
  · rintro ⟨⟨a, b, c⟩, d⟩; exact ⟨⟨a, fun q h => d q (.inl h)⟩, fun q h => c q h p rfl, d p (.inr rfl)⟩
  · rintro ⟨⟨a, d⟩, c, e⟩
    exact ⟨⟨a, by simp, fun q h r hr => hr ▸ c q h⟩, fun q h => h.elim (d q) fun e' => e' ▸ e⟩
theorem inR_ge {p : PI} {ps : List PI} {x : Int} (h : ∀ q ∈ ps, p.2 < q.1) (i : inR ps x) : p.2 < x := by
  obtain ⟨q, hq, a, _⟩ := i
  have := h q hq
  omega
theorem can_uniq : ∀ {ps qs : List PI}, Can ps → Can qs → (∀ x, inR ps x ↔ inR qs x) → ps = qs
  | [], [], _, _, _ => rfl
  | [], q :: qs, _, hq, h => by
    have := (h q.1).mpr (inR_cons.mpr (.inl ⟨Int.le_refl _, (can_cons.mp hq).1⟩))
    exact absurd this inR_nil
  | p :: ps, [], hp, _, h => by
    have := (h p.1).mp (inR_cons.mpr (.inl ⟨Int.le_refl _, (can_cons.mp hp).1⟩))
    exact absurd this inR_nil
  | p :: ps, q :: qs, hp, hq, h => by
    obtain ⟨p1, p2, p3⟩ := can_cons.mp hp
    obtain ⟨q1, q2, q3⟩ := can_cons.mp hq
    have a1 := (h p.1).mp (inR_cons.mpr (.inl ⟨Int.le_refl _, p1⟩))
    have a2 := (h q.1).mpr (inR_cons.mpr (.inl ⟨Int.le_refl _, q1⟩))
    have e1 : p.1 = q.1 := by
      rcases inR_cons.mp a1 with c | c <;> rcases inR_cons.mp a2 with d | d
      · omega
      · have := inR_ge p2 d; omega
      · have := inR_ge q2 c; omega
      · have := inR_ge p2 d; have := inR_ge q2 c; omega
    have b1 : ¬ inR (p :: ps) p.2 := fun i => by
      rcases inR_cons.mp i with c | c
      · omega
      · have := inR_ge p2 c; omega
    have b2 : ¬ inR (q :: qs) q.2 := fun i => by
      rcases inR_cons.mp i with c | c
      · omega
      · have := inR_ge q2 c; omega
    have e2 : p.2 = q.2 := by
      by_cases l : p.2 < q.2
      · exact absurd ((h p.2).mpr (inR_cons.mpr (.inl ⟨by omega, l⟩))) b1
      · by_cases l' : q.2 < p.2
        · exact absurd ((h q.2).mp (inR_cons.mpr (.inl ⟨by omega, l'⟩))) b2
        · omega
    have ep : p = q := Prod.ext e1 e2
    subst ep
    rw [can_uniq p3 q3 fun x => ?_]
    constructor
    · intro i
      have g := inR_ge p2 i
      rcases inR_cons.mp ((h x).mp (inR_cons.mpr (.inr i))) with c | c
      · omega
      · exact c
    · intro i
      have g := inR_ge q2 i
      rcases inR_cons.mp ((h x).mpr (inR_cons.mpr (.inr i))) with c | c
      · omega
      · exact c
/-! ### tidied -/
theorem last_split {α : Type} {f : List α} {q : α} (h : f.getLast? = some q) : ∃ g, f = g ++ [q] := by
  have ne : f ≠ [] := by intro e; subst e; cases h
  refine ⟨f.dropLast, ?_⟩
  rw [List.getLast?_eq_some_getLast ne] at h
  injection h with h
  rw [← h, List.dropLast_concat_getLast]
theorem tidyS_can {f : List PI} {p : PI} (hc : Can f) (hb : ∀ q ∈ f, q.1 ≤ p.1) : Can (tidyS f p) ∧ (∀ x, inR (tidyS f p) x ↔ inR f x ∨ (p.1 ≤ x ∧ x < p.2)) ∧ ∀ q ∈ tidyS f p, q.1 ≤ p.1 := by
  unfold tidyS
  split
  · rename_i h1
    split
    · rename_i q hq
      obtain ⟨g, rfl⟩ := last_split hq
      obtain ⟨c1, c2, c3⟩ := can_snoc.mp hc
      have hq1 : q.1 ≤ p.1 := hb q (by simp)
      split
      · rename_i h2
        rw [List.dropLast_concat]
        refine ⟨can_snoc.mpr ⟨c1, c2, ?_⟩, fun x => ?_, fun r hr => ?_⟩
        · simp only
          split <;> omega
        · simp only [inR_append, inR_cons, inR_nil, or_false]
          constructor
          · rintro (h | h)
            · exact .inl (.inl h)
            · by_cases z : x < q.2
              · exact .inl (.inr ⟨h.1, z⟩)
              · refine .inr ⟨by omega, ?_⟩
                have := h.2
                split at this <;> omega
          · rintro ((h | h) | h)
            · exact .inl h
            · refine .inr ⟨h.1, ?_⟩
              split <;> omega
            · refine .inr ⟨by omega, ?_⟩
              split <;> omega
        · rcases List.mem_append.mp hr with h | h
          · exact hb r (by simp [h])
          · rw [List.mem_singleton] at h
            subst h
            exact hq1
      · rename_i h2
        refine ⟨can_snoc.mpr ⟨hc, fun r hr => ?_, h1⟩, fun x => by rw [inR_append, inR_cons]; simp, fun r hr => ?_⟩
        · rcases List.mem_append.mp hr with h | h
          · have := c2 r h; omega
          · rw [List.mem_singleton] at h; subst h; omega
        · rcases List.mem_append.mp hr with h | h
          · exact hb r h
          · rw [List.mem_singleton] at h; subst h; exact Int.le_refl _
    · rename_i hn
      have : f = [] := by simpa using hn
      subst this
      refine ⟨can_snoc.mpr ⟨can_nil, by simp, h1⟩, fun x => by simp, fun r hr => ?_⟩
      simp at hr
      subst hr
      exact Int.le_refl _
  · refine ⟨hc, fun x => ⟨.inl, fun h => h.elim id fun h => ?_⟩, hb⟩
    omega
theorem tidy_fold : ∀ (ps f : List PI), ps.Pairwise (fun p q => p.1 ≤ q.1) → Can f → (∀ q ∈ f, ∀ p ∈ ps, q.1 ≤ p.1) → Can (ps.foldl tidyS f) ∧ ∀ x, inR (ps.foldl tidyS f) x ↔ inR f x ∨ inR ps x
  | [], f, _, hc, _ => ⟨hc, fun x => by simp⟩
  | p :: ps, f, hs, hc, hb => by
    obtain ⟨s1, s2⟩ := List.pairwise_cons.mp hs
    obtain ⟨a, b, c⟩ := tidyS_can hc fun q hq => hb q hq p (by simp)
    obtain ⟨d, e⟩ := tidy_fold ps (tidyS f p) s2 a fun q hq r hr => Int.le_trans (c q hq) (s1 r hr)
    refine ⟨d, fun x => ?_⟩
    rw [List.foldl_cons, e x, b x, inR_cons, or_assoc]
theorem inR_perm {ps qs : List PI} (h : ps.Perm qs) {x : Int} : inR ps x ↔ inR qs x := by
  unfold inR
  constructor
  · rintro ⟨p, a, b⟩; exact ⟨p, h.mem_iff.mp a, b⟩
  · rintro ⟨p, a, b⟩; exact ⟨p, h.mem_iff.mpr a, b⟩
theorem sortP_pw (ps : List PI) : (sortBy leP ps).Pairwise (fun p q => p.1 ≤ q.1) := by
  have := sortBy_pw (le := leP) (fun a b h => by
    simp only [leP, Bool.or_eq_false_iff, Bool.and_eq_false_iff, decide_eq_false_iff_not, Bool.or_eq_true, Bool.and_eq_true, decide_eq_true_eq] at h ⊢
    omega) (fun a b c h h' => by
    simp only [leP, Bool.or_eq_true, Bool.and_eq_true, decide_eq_true_eq] at h h' ⊢
    omega) ps
  refine this.imp fun {a b} h => ?_
  simp only [leP, Bool.or_eq_true, Bool.and_eq_true, decide_eq_true_eq] at h
  omega
theorem tidy_can (ps : List PI) : Can (tidyF ps) := (tidy_fold _ [] (sortP_pw ps) can_nil (by simp)).1
theorem tidy_in (ps : List PI) (x : Int) : inR (tidyF ps) x ↔ inR ps x := by
  rw [tidyF, (tidy_fold _ [] (sortP_pw ps) can_nil (by simp)).2 x, inR_perm (sortBy_perm leP ps)]
  simp
/-- what is tidied already -/
theorem tidy_id {ps : List PI} (h : Can ps) : tidyF ps = ps := can_uniq (tidy_can ps) h (tidy_in ps)
theorem tidy_len (ps : List PI) : (tidyF ps).length ≤ ps.length := by
  have key : ∀ (ps f : List PI), (ps.foldl tidyS f).length ≤ f.length + ps.length := by
    intro ps
    induction ps with
    | nil => intro f; simp
    | cons p ps ih =>
      intro f
      have := ih (tidyS f p)
      have := tidyS_len f p
      simp only [List.foldl_cons, List.length_cons]
      omega
  have := key (sortBy leP ps) []
  rw [(sortBy_perm leP ps).length_eq] at this
  simpa [tidyF] using this
/-! ### ranges of places -/
def ranS (f : List PI) (x : Int) : List PI := match f.getLast? with
  | some q => if q.2 = x then f.dropLast ++ [(q.1, x + 1)] else f ++ [(x, x + 1)]
  | none => f ++ [(x, x + 1)]
def rangesF (xs : List Int) : List PI := (sortBy leI xs).foldl ranS []
def width (ps : List PI) : Int := (ps.map fun p => p.2 - p.1).sum
theorem width_snoc (ps : List PI) (p : PI) : width (ps ++ [p]) = width ps + (p.2 - p.1) := by simp [width]
theorem ranS_can {f : List PI} {y : Int} (hc : Can f) (hb : ∀ q ∈ f, q.2 ≤ y) : Can (ranS f y) ∧ (∀ x, inR (ranS f y) x ↔ inR f x ∨ x = y) ∧ (∀ q ∈ ranS f y, q.2 ≤ y + 1) ∧ width (ranS f y) = width f + 1 := by
  unfold ranS
  split
  · rename_i q hq
    obtain ⟨g, rfl⟩ := last_split hq
    obtain ⟨c1, c2, c3⟩ := can_snoc.mp hc
    have hq1 : q.2 ≤ y := hb q (by simp)
    split
    · rename_i h2
      rw [List.dropLast_concat]
      refine ⟨can_snoc.mpr ⟨c1, c2, by simp only; omega⟩, fun x => ?_, fun r hr => ?_, ?_⟩
      · simp only [inR_append, inR_cons, inR_nil, or_false, or_assoc]
        exact or_congr_right (by omega)
      · rcases List.mem_append.mp hr with h | h
        · have := hb r (by simp [h]); omega
        · rw [List.mem_singleton] at h; subst h; exact Int.le_refl _
      · rw [width_snoc, width_snoc]
        simp only
        omega
    · rename_i h2
      refine ⟨can_snoc.mpr ⟨hc, fun r hr => ?_, by simp only; omega⟩, fun x => ?_, fun r hr => ?_, ?_⟩
      · rcases List.mem_append.mp hr with h | h
        · have := c2 r h; simp only; omega
        · rw [List.mem_singleton] at h; subst h; simp only; omega
      · simp only [inR_append, inR_cons, inR_nil, or_false, or_assoc]
        exact or_congr_right (or_congr_right (by omega))
      · rcases List.mem_append.mp hr with h | h
        · have := hb r h; omega
        · rw [List.mem_singleton] at h; subst h; exact Int.le_refl _
      · rw [width_snoc]
        simp only
        omega
  · rename_i hn
    have : f = [] := by simpa using hn
    subst this
    refine ⟨can_snoc.mpr ⟨can_nil, by simp, by simp only; omega⟩, fun x => ?_, fun r hr => ?_, ?_⟩
    · simp only [inR_append, inR_cons, inR_nil, or_false, false_or]
      omega
    · simp at hr
      subst hr
      exact Int.le_refl _
    · rw [width_snoc]
      simp only
      omega
theorem ran_fold : ∀ (xs : List Int) (f : List PI), xs.Pairwise (· < ·) → Can f → (∀ q ∈ f, ∀ x ∈ xs, q.2 ≤ x) → Can (xs.foldl ranS f) ∧ (∀ x, inR (xs.foldl ranS f) x ↔ inR f x ∨ x ∈ xs) ∧ width (xs.foldl ranS f) = width f + xs.length
  | [], f, _, hc, _ => ⟨hc, fun x => by simp, by simp⟩
  | y :: xs, f, hs, hc, hb => by
    obtain ⟨s1, s2⟩ := List.pairwise_cons.mp hs
    obtain ⟨a, b, c, w⟩ := ranS_can hc fun q hq => hb q hq y (by simp)
    obtain ⟨d, e, w'⟩ := ran_fold xs (ranS f y) s2 a fun q hq r hr => by have := c q hq; have := s1 r hr; omega
    refine ⟨d, fun x => ?_, ?_⟩
    · rw [List.foldl_cons, e x, b x, List.mem_cons, or_assoc]
    · rw [List.foldl_cons, w', w, List.length_cons]
      push_cast
      omega
theorem sortI_lt {xs : List Int} (h : xs.Nodup) : (sortBy leI xs).Pairwise (· < ·) := by
  have s := sortBy_pw (le := leI) (fun a b h => by simp only [leI, decide_eq_false_iff_not, decide_eq_true_eq] at h ⊢; omega) (fun a b c h h' => by simp only [leI, decide_eq_true_eq] at h h' ⊢; omega) xs
  have n : (sortBy leI xs).Nodup := (sortBy_perm leI xs).nodup_iff.mpr h
  refine (s.and n).imp fun {a b} h => ?_
  have := h.1
  have := h.2
  simp only [leI, decide_eq_true_eq] at *
  omega
section
variable {xs : List Int} (h : xs.Nodup)
theorem ran_can (h : xs.Nodup) : Can (rangesF xs) := (ran_fold _ [] (sortI_lt h) can_nil (by simp)).1
theorem ran_in (h : xs.Nodup) (x : Int) : inR (rangesF xs) x ↔ x ∈ xs := by
  rw [rangesF, (ran_fold _ [] (sortI_lt h) can_nil (by simp)).2.1 x, (sortBy_perm leI xs).mem_iff]
  simp
theorem ran_width (h : xs.Nodup) : width (rangesF xs) = xs.length := by
  rw [rangesF, (ran_fold _ [] (sortI_lt h) can_nil (by simp)).2.2, (sortBy_perm leI xs).length_eq]
  simp [width]
end
theorem ranS_len (f : List PI) (x : Int) : (ranS f x).length ≤ f.length + 1 := by
  unfold ranS
  split
  · split
    · rename_i q hq _
      simp [List.length_dropLast]
    · simp
  · simp
theorem ran_foldlen : ∀ (xs : List Int) (f : List PI), (xs.foldl ranS f).length ≤ f.length + xs.length
  | [], f => by simp
  | x :: xs, f => by
    have := ran_foldlen xs (ranS f x)
    have := ranS_len f x
    simp only [List.foldl_cons, List.length_cons]
    omega
theorem ran_len (xs : List Int) : (rangesF xs).length ≤ xs.length := by
  have := ran_foldlen (sortBy leI xs) []
  rw [(sortBy_perm leI xs).length_eq] at this
  simpa [rangesF] using this
/-! ### both, without -/
def botP (p q : PI) : PI := (if q.1 > p.1 then q.1 else p.1, if q.2 < p.2 then q.2 else p.2)
def botF (a b : List PI) : List PI := a.flatMap fun p => b.map (botP p)
theorem bot_in (a b : List PI) (x : Int) : inR (botF a b) x ↔ inR a x ∧ inR b x := by
  simp only [inR, botF, List.mem_flatMap, List.mem_map]
  constructor
  · rintro ⟨r, ⟨p, hp, q, hq, rfl⟩, h1, h2⟩
    simp only [botP] at h1 h2
    refine ⟨⟨p, hp, ?_⟩, ⟨q, hq, ?_⟩⟩ <;> (split at h1 <;> split at h2 <;> omega)
  · rintro ⟨⟨p, hp, h1⟩, ⟨q, hq, h2⟩⟩
    refine ⟨_, ⟨p, hp, q, hq, rfl⟩, ?_⟩
    simp only [botP]
    split <;> split <;> omega
def woS (e : Int) (st : List PI × Int) (q : PI) : List PI × Int := if q.1 < e ∧ q.2 > st.2 then (st.1 ++ [(st.2, q.1)], if q.2 > st.2 then q.2 else st.2) else st
def wo1 (b : List PI) (f : List PI) (p : PI) : List PI := (b.foldl (woS p.2) (f, p.1)).1 ++ [((b.foldl (woS p.2) (f, p.1)).2, p.2)]
def woF (a b : List PI) : List PI := a.foldl (wo1 b) []
theorem wo1_in : ∀ (b : List PI) (f : List PI) (s e : Int), Can b → ∀ x, inR ((b.foldl (woS e) (f, s)).1 ++ [((b.foldl (woS e) (f, s)).2, e)]) x ↔ inR f x ∨ ((s ≤ x ∧ x < e) ∧ ¬ inR b x)
  | [], f, s, e, _, x => by simp
  | q :: b, f, s, e, hc, x => by
    obtain ⟨c1, c2, c3⟩ := can_cons.mp hc
    by_cases z : q.1 < e ∧ q.2 > s
    · have e1 : woS e (f, s) q = (f ++ [(s, q.1)], q.2) := by
        unfold woS
        rw [if_pos z, if_pos z.2]
      rw [List.foldl_cons, e1, wo1_in b _ _ _ c3 x, inR_append, inR_cons, inR_cons]
      simp only [inR_nil, or_false, or_assoc]
      refine or_congr_right ?_
      constructor
      · rintro (h | ⟨h, h'⟩)
        · refine ⟨by omega, ?_⟩
          rintro (g | g)
          · omega
          · have := inR_ge c2 g; omega
        · refine ⟨by omega, ?_⟩
          rintro (g | g)
          · omega
          · exact h' g
      · rintro ⟨h, h'⟩
        by_cases y : x < q.1
        · exact .inl ⟨h.1, y⟩
        · refine .inr ⟨⟨?_, h.2⟩, fun g => h' (.inr g)⟩
          by_cases y' : x < q.2
          · exact absurd (.inl ⟨by omega, y'⟩) h'
          · omega
    · have e1 : woS e (f, s) q = (f, s) := by
        unfold woS
        rw [if_neg z]
      rw [List.foldl_cons, e1, wo1_in b _ _ _ c3 x, inR_cons]
      refine or_congr_right (and_congr_right fun h => not_congr ?_)
      constructor
      · exact .inr
      · rintro (g | g)
        · omega
        · exact g
theorem wo_in (a b : List PI) (hb : Can b) (x : Int) : inR (woF a b) x ↔ inR a x ∧ ¬ inR b x := by
  have key : ∀ (a f : List PI), inR (a.foldl (wo1 b) f) x ↔ inR f x ∨ (inR a x ∧ ¬ inR b x) := by
    intro a
    induction a with
    | nil => intro f; simp
    | cons p a ih =>
      intro f
      rw [List.foldl_cons, ih, wo1, wo1_in b f p.1 p.2 hb x, inR_cons, or_assoc, or_and_right]
  simpa [woF] using key a []
theorem woS_len (e : Int) : ∀ (b : List PI) (st : List PI × Int), (b.foldl (woS e) st).1.length ≤ st.1.length + b.length
  | [], st => by simp
  | q :: b, st => by
    have := woS_len e b (woS e st q)
    have h : (woS e st q).1.length ≤ st.1.length + 1 := by unfold woS; split <;> simp
    simp only [List.foldl_cons, List.length_cons]
    omega
/-! ### places -/
def putU (ks : List Int) (x : Int) : List Int := if x ∈ ks then ks else ks ++ [x]
/-- the places of one -/
def upL (p : PI) : List Int := (List.range (p.2 - p.1).toNat).map fun (k : Nat) => p.1 + (k : Int) * 1
def placesF (ps : List PI) : List Int := ps.foldl (fun ks p => (upL p).foldl putU ks) []
theorem putU_nodup {ks : List Int} {x : Int} (h : ks.Nodup) : (putU ks x).Nodup := by
  unfold putU
  split
  · exact h
  · rename_i n
    rw [List.nodup_append]
    exact ⟨h, by simp, fun a ha b hb e => n (by simp at hb; subst hb; subst e; exact ha)⟩
theorem putU_mem {ks : List Int} {x y : Int} : y ∈ putU ks x ↔ y ∈ ks ∨ y = x := by
  unfold putU
  split
  · exact ⟨.inl, fun h => h.elim id fun e => e ▸ ‹_›⟩
  · simp
theorem putU_fold : ∀ (xs ks : List Int), ks.Nodup → (xs.foldl putU ks).Nodup ∧ (∀ y, y ∈ xs.foldl putU ks ↔ y ∈ ks ∨ y ∈ xs) ∧ (xs.foldl putU ks).length ≤ ks.length + xs.length
  | [], ks, h => ⟨h, by simp, by simp⟩
  | x :: xs, ks, h => by
    obtain ⟨a, b, c⟩ := putU_fold xs (putU ks x) (putU_nodup h)
    refine ⟨a, fun y => ?_, ?_⟩
    · rw [List.foldl_cons, b y, putU_mem, List.mem_cons, or_assoc]
    · have : (putU ks x).length ≤ ks.length + 1 := by unfold putU; split <;> simp
      simp only [List.foldl_cons, List.length_cons]
      omega
theorem run_mem {p : PI} {y : Int} : y ∈ upL p ↔ p.1 ≤ y ∧ y < p.2 := by
  simp only [upL, List.mem_map, List.mem_range]
  constructor
  · rintro ⟨k, h, rfl⟩; omega
  · rintro ⟨h, h'⟩; exact ⟨(y - p.1).toNat, by omega, by omega⟩
def wid (ps : List PI) : Nat := (ps.map fun p => (p.2 - p.1).toNat).sum
theorem places_fold : ∀ (ps : List PI) (ks : List Int), ks.Nodup → (ps.foldl (fun ks p => (upL p).foldl putU ks) ks).Nodup ∧ (∀ y, y ∈ ps.foldl (fun ks p => (upL p).foldl putU ks) ks ↔ y ∈ ks ∨ inR ps y) ∧ (ps.foldl (fun ks p => (upL p).foldl putU ks) ks).length ≤ ks.length + wid ps
  | [], ks, h => ⟨h, by simp, by simp [wid]⟩
  | p :: ps, ks, h => by
    obtain ⟨a, b, c⟩ := putU_fold (upL p) ks h
    obtain ⟨a', b', c'⟩ := places_fold ps _ a
    refine ⟨a', fun y => ?_, ?_⟩
    · rw [List.foldl_cons, b' y, b y, run_mem, inR_cons, or_assoc]
    · have u : (upL p).length = (p.2 - p.1).toNat := by simp [upL]
      simp only [List.foldl_cons]
      have : wid (p :: ps) = (p.2 - p.1).toNat + wid ps := by simp [wid]
      omega
theorem pl_nodup (ps : List PI) : (placesF ps).Nodup := (places_fold ps [] (by simp)).1
theorem pl_mem (ps : List PI) (y : Int) : y ∈ placesF ps ↔ inR ps y := by
  rw [placesF, (places_fold ps [] (by simp)).2.1]; simp
theorem pl_len (ps : List PI) : (placesF ps).length ≤ wid ps := by
  have := (places_fold ps [] (by simp)).2.2
  simpa [placesF] using this
end PL

set_option Elab.async false
set_option linter.all false
set_option maxRecDepth 100000
set_option maxHeartbeats 1000000
/-! PMA: the runs of the defs on ranges. -/
namespace PL
open PySem
/-- what tuple(..), sorted(..) read here: a list of pairs, a list of numbers, a dict's keys -/
def plD (ks : List Int) : D := .dct (ks.map fun i => (.inl i, .bl true))
theorem keysI_pl : ∀ ks : List Int, keysI (ks.map fun i => ((.inl i : Ky), D.bl true)) = some ks
  | [] => rfl
  | k :: ks => by simp [keysI, keysI_pl ks]
theorem noRefK_pl : ∀ ks : List Int, noRefK (ks.map fun i => ((.inl i : Ky), D.bl true)) = true
  | [] => rfl
  | k :: ks => by simp [noRefK, noRef, noRefK_pl ks]
theorem sclK_pl : ∀ ks : List Int, sclK (ks.map fun i => ((.inl i : Ky), D.bl true)) = true
  | [] => rfl
  | k :: ks => by simp [sclK, scl, sclK_pl ks]
theorem getK_pl (x : Int) : ∀ ks : List Int, getK (ks.map fun i => ((.inl i : Ky), D.bl true)) (.inl x) = if x ∈ ks then some (.bl true) else none
  | [] => rfl
  | k :: ks => by
    simp only [List.map_cons, getK, getK_pl x ks, Sum.inl.injEq, List.mem_cons]
    by_cases e : k = x
    · simp [e]
    · have : ¬ x = k := fun h => e h.symm
      simp [e, this]
theorem any_pl (x : Int) : ∀ ks : List Int, ((ks.map fun i => ((.inl i : Ky), D.bl true)).any fun e => decide (e.1 = .inl x)) = decide (x ∈ ks)
  | [] => by simp
  | k :: ks => by
    simp only [List.map_cons, List.any_cons, any_pl x ks, List.mem_cons, Bool.decide_or]
    congr 1
    by_cases e : k = x
    · simp [e]
    · have : ¬ x = k := fun h => e h.symm
      simp [e, this]
theorem setK_pl (x : Int) (ks : List Int) : setK (ks.map fun i => ((.inl i : Ky), D.bl true)) (.inl x) (.bl true) = (putU ks x).map fun i => (.inl i, .bl true) := by
  unfold setK putU
  rw [any_pl]
  by_cases h : x ∈ ks
  · rw [if_pos (by simpa using h), if_pos h, List.map_map]
    refine List.map_congr_left fun i _ => ?_
    simp only [Function.comp]
    split <;> rfl
  · rw [if_neg (by simpa using h), if_neg h, List.map_append]
    rfl
section
variable {G : Tab} {k : Nat} {S : Store} {ks : List Int}
@[simp] theorem noRef_pl : noRef (plD ks) = true := noRefK_pl ks
@[simp] theorem frzA_pl : frzA S (plD ks) = some (plD ks) := frzA_noRef noRef_pl
theorem sort_pl (h : ks.length ≤ SZ) : bfD .sorted [plD ks] S = some (ll .int (sortBy leI ks)) := by
  show (match keysI (ks.map fun i => ((.inl i : Ky), D.bl true)) with
        | some is => if is.length ≤ SZ then some (D.lst ((sortBy (fun a b => decide (a ≤ b)) is).map D.int)) else none
        | none => _) = _
  rw [keysI_pl]
  exact if_pos h
@[simp] theorem len_pl : bfD .len [plD ks] S = some (.int ks.length) := by
  show (some (((ks.map fun i => ((.inl i : Ky), D.bl true)).length : Nat))).map (fun (n : Nat) => D.int n) = _
  rw [List.length_map]; rfl
@[simp] theorem din_pl {x : Int} : dinD (.int x) (plD ks) S = some (decide (x ∈ ks)) := by
  show some (getK (ks.map fun i => ((.inl i : Ky), D.bl true)) (.inl x)).isSome = _
  rw [getK_pl]
  by_cases h : x ∈ ks <;> simp [h]
@[simp] theorem list_pl : bfD .list [plD ks] S = some (ll .int ks) := by
  show some (D.lst ((ks.map fun i => ((.inl i : Ky), D.bl true)).map fun p => kyD p.1)) = _
  rw [List.map_map]; rfl
@[simp] theorem mkIt_pl : mkIt .keys [plD ks] S = some (.items (ks.map .int)) := by
  show some (PL.Itr.items ((ks.map fun i => ((.inl i : Ky), D.bl true)).map fun p => kyD p.1)) = _
  rw [List.map_map]; rfl
@[simp high] theorem ev_new0 {G : Tab} {call : Calls} {env : Env} {S : Store} : ev G call (.new (.lst .nil)) env S = .ok (.ref S.length) (S ++ [.lst []]) := rfl
theorem r_together [h : Has G i_together f_together] [ht : Has G i_tidied f_tidied] {a b : List PI} (hz : a.length + b.length ≤ 9000) : run G (k + 2) i_together [tl pairD a, tl pairD b] S = .ok (tl pairD (tidyF (a ++ b))) S := by
  refine pure_rt (h := h) (S' := []) rfl rfl (by simp [frzAs]) ?_ (frzR_scl scl_tl)
  have e : ∀ S, bop .add (tl pairD a) (tl pairD b) S = some (tl pairD (a ++ b)) := fun S => add_tl (by unfold SZ; omega)
  have t : ∀ S, run G (k + 1) i_tidied [tl pairD (a ++ b)] S = .ok (tl pairD (tidyF (a ++ b))) S := fun S => r_tidied (.inl (by simp)) (by rw [List.length_append]; omega)
  simp [b_together, startE, ev, e, t]
/-- a list in the store grows -/
theorem ap0 {α : Type} {f : α → D} {xs : List α} {y : D} (h : xs.length < 16777216) : bmD .append (.ref 0) [y] [.lst (xs.map f)] = .ok .non [.lst (xs.map f ++ [y])] := by
  show (if (xs.map f).length < SZ then R.ok D.non [Ob.lst (xs.map f ++ [y])] else .bad) = _
  rw [if_pos (by rw [List.length_map]; unfold SZ; omega)]
@[simp] theorem ok0 {xs : List D} : bmOk .append (.ref 0) [.lst xs] = true := rfl
theorem frzA_r0 {α : Type} {f : α → D} [o : Okf f] {xs : List α} : frzA [.lst (xs.map f)] (.ref 0) = some (ll f xs) := by
  show (if noRefs (xs.map f) then some (D.lst (xs.map f)) else none) = _
  rw [if_pos (noRefs_map o.nr xs)]; rfl
theorem both_in {call : Calls} {f : List PI} {p q : PI} {d1 d2 : D} {t : Option D × Option D} (hz : f.length < 10000) :
    ∃ t' : Option D × Option D, turnB G call (forB (forB b_both)) (.many [5, 6]) (pairD q) [some d1, some d2, some (.ref 0), some (.int p.1), some (.int p.2), t.1, t.2] [.lst (f.map pairD)] = .nx [some d1, some d2, some (.ref 0), some (.int p.1), some (.int p.2), t'.1, t'.2] [.lst ((f ++ [botP p q]).map pairD)] := by
  refine ⟨(some (.int q.1), some (.int q.2)), ?_⟩
  have ap := fun y => ap0 (f := pairD) (xs := f) (y := y) (by omega)
  simp [turnB, b_both, forB, ev, ap, botP]
  rfl
theorem r_both [h : Has G i_both f_both] [ht : Has G i_tidied f_tidied] {a b : List PI} (hz : a.length * b.length ≤ 9000) : run G (k + 2) i_both [tl pairD a, tl pairD b] S = .ok (tl pairD (tidyF (botF a b))) S := by
  refine pure_rt (h := h) (S' := [.lst ((botF a b).map pairD)]) rfl rfl (by simp [frzAs]) ?_ (frzR_scl scl_tl)
  have e : ∀ (a f : List PI), a.foldl (fun f p => f ++ b.map (botP p)) f = f ++ botF a b := by
    intro a
    induction a with
    | nil => intro f; simp [botF]
    | cons p a ih => intro f; rw [List.foldl_cons, ih]; simp [botF]
  have el : (botF a b).length = a.length * b.length := by
    have : ∀ a : List PI, (botF a b).length = a.length * b.length := by
      intro a
      induction a with
      | nil => simp [botF]
      | cons p a ih =>
        have e' : botF (p :: a) b = b.map (botP p) ++ botF a b := rfl
        rw [e', List.length_append, List.length_map, ih, List.length_cons, Nat.succ_mul, Nat.add_comm]
    exact this a
  simp [b_both, startE, ev, ll]
  refine x_forF (P := fun r => r = _) (ik := .plain) (xs := a) (enc := pairD) (a0 := ([] : List PI)) (t0 := (((none, none), none, none) : (Option D × Option D) × (Option D × Option D))) (d := tl pairD a)
    (fun f t => [some (tl pairD a), some (tl pairD b), some (.ref 0), t.1.1, t.1.2, t.2.1, t.2.2]) (fun f => [.lst (f.map pairD)]) (fun f p => f ++ b.map (botP p)) (fun i f => f.length = i * b.length) ?_ (by simp) (by simp) (fun j p f t hj hi => ?_) (fun t' _ => ?_)
  · simp [ev]
  · have hj' : j < a.length := (List.getElem?_eq_some_iff.mp hj).1
    have hm : (j + 1) * b.length ≤ a.length * b.length := Nat.mul_le_mul_right _ (by omega)
    have hm' : (j + 1) * b.length = j * b.length + b.length := Nat.succ_mul _ _
    suffices hh : ∃ t' : Option D × Option D, turnB G (run G (k + 1)) (.for_ .plain (.var 1) (.many [5, 6]) (forB (forB b_both)) .nil) (.many [3, 4]) (pairD p) [some (tl pairD a), some (tl pairD b), some (.ref 0), t.1.1, t.1.2, t.2.1, t.2.2] [.lst (f.map pairD)] = .nx [some (tl pairD a), some (tl pairD b), some (.ref 0), some (.int p.1), some (.int p.2), t'.1, t'.2] [.lst ((f ++ b.map (botP p)).map pairD)] by
      obtain ⟨t', ht'⟩ := hh
      exact ⟨((some (.int p.1), some (.int p.2)), t'), ht', by rw [List.length_append, List.length_map, hi]; omega⟩
    simp only [turnB, bindT_pair]
    show ∃ t', exT G _ (.for_ .plain (.var 1) (.many [5, 6]) (forB (forB b_both)) .nil) [some (tl pairD a), some (tl pairD b), some (.ref 0), some (.int p.1), some (.int p.2), t.2.1, t.2.2] _ = _
    have ef : ∀ (b f : List PI), b.foldl (fun f q => f ++ [botP p q]) f = f ++ b.map (botP p) := by
      intro b
      induction b with
      | nil => intro f; simp
      | cons q b ih => intro f; rw [List.foldl_cons, ih]; simp
    refine x_forF (P := fun r => ∃ t' : Option D × Option D, r = .nx [some (tl pairD a), some (tl pairD b), some (.ref 0), some (.int p.1), some (.int p.2), t'.1, t'.2] [.lst ((f ++ b.map (botP p)).map pairD)]) (ik := .plain) (xs := b) (enc := pairD) (a0 := f) (t0 := ((t.2.1, t.2.2) : Option D × Option D)) (d := tl pairD b)
      (fun f t => [some (tl pairD a), some (tl pairD b), some (.ref 0), some (.int p.1), some (.int p.2), t.1, t.2]) (fun f => [.lst (f.map pairD)]) (fun f q => f ++ [botP p q]) (fun i f => f.length = j * b.length + i) ?_ (by simp) (by simpa using hi) (fun i q f' t hq hi' => ?_) (fun t' _ => ?_)
    · simp [ev]
    · have hq' : i < b.length := (List.getElem?_eq_some_iff.mp hq).1
      obtain ⟨t', ht'⟩ := both_in (G := G) (call := run G (k + 1)) (f := f') (p := p) (q := q) (d1 := tl pairD a) (d2 := tl pairD b) (t := t) (by omega)
      exact ⟨t', ht', by rw [List.length_append, hi']; simp; omega⟩
    · exact ⟨t', by rw [ef]; rfl⟩
  · have t : run G (k + 1) i_tidied [.ref 0] [.lst ((botF a b).map pairD)] = .ok (tl pairD (tidyF (botF a b))) [.lst ((botF a b).map pairD)] := r_tidied (.inr frzA_r0) (by omega)
    rw [e, List.nil_append]
    simp [ev, t]

noncomputable def compB (G : Tab) (call : Calls) (tg : Tg) (c e : E) (env : Env) (x : D) (S : Store) : R (Option D) := match bindT tg x env with
  | some env' => (mapT (ev G call c env' S)).bind fun k S => if k then (ev G call e env' S).bind fun y S => .ok (some y) S else .ok none S
  | none => .bad
theorem ev_comp {G : Tab} {call : Calls} {env : Env} {S : Store} {β : Type} {ik : IK} {src c e : E} {tg : Tg} {d : D} {enc : β → D} {p : β → Bool} (f : β → D) {xs : List β} (hs : ev G call src env S = .ok d S) (hi : mkIt ik (srcL ik d) S = some (.items (xs.map enc))) (hl : xs.length ≤ SZ) (h : ∀ x ∈ xs, compB G call tg c e env (enc x) S = .ok (if p x then some (f x) else none) S) :
    ev G call (.comp ik src tg c e) env S = .ok (.lst ((xs.filter p).map f)) S := by
  have := goComp_filter (body := qk ik (compB G call tg c e env)) (enc := enc) (p := p) (f := f) hl fun x hx => qk_ok (h x hx)
  show (ev G call src env S).bind _ = _
  rw [hs]
  simp only [R.bind_ok, hi]
  show (goComp (qk ik (compB G call tg c e env)) (xs.map enc) [] S).bind _ = _
  rw [this]
  rfl
theorem ev_compM {G : Tab} {call : Calls} {env : Env} {S : Store} {β : Type} {ik : IK} {src c e : E} {tg : Tg} {d : D} {enc : β → D} (f : β → D) {xs : List β} (hs : ev G call src env S = .ok d S) (hi : mkIt ik (srcL ik d) S = some (.items (xs.map enc))) (hl : xs.length ≤ SZ) (h : ∀ x ∈ xs, compB G call tg c e env (enc x) S = .ok (some (f x)) S) :
    ev G call (.comp ik src tg c e) env S = .ok (.lst (xs.map f)) S := by
  have := goComp_map (body := qk ik (compB G call tg c e env)) (enc := enc) (f := f) hl fun x hx => qk_ok (h x hx)
  show (ev G call src env S).bind _ = _
  rw [hs]
  simp only [R.bind_ok, hi]
  show (goComp (qk ik (compB G call tg c e env)) (xs.map enc) [] S).bind _ = _
  rw [this]
  rfl
theorem ev_bf1 {G : Tab} {call : Calls} {env : Env} {S : Store} {f : Bf} {a : E} : ev G call (.bf f (.cons a .nil)) env S = (ev G call a env S).bind fun d S => R.of (bfD f [d] S) S := by
  show ((ev G call a env S).bind fun x S => _).bind _ = _
  cases ev G call a env S <;> rfl
theorem ev_call1 {G : Tab} {call : Calls} {env : Env} {S : Store} {f : Nat} {a : E} : ev G call (.call f (.cons a .nil)) env S = (ev G call a env S).bind fun d S => call f [d] S := by
  show ((ev G call a env S).bind fun x S => _).bind _ = _
  cases ev G call a env S <;> rfl
theorem r_count [h : Has G i_count f_count] {a : List PI} (hz : a.length ≤ 9000) : run G (k + 1) i_count [tl pairD a] S = .ok (.int (width a)) S := by
  refine pure_rt (h := h) (S' := []) rfl rfl (by simp [frzAs]) ?_ (frzR_scl rfl)
  simp only [b_count, x_ret, ev_bf1]
  rw [ev_compM (enc := pairD) (xs := a) (d := tl pairD a) (fun p => .int (p.2 - p.1)) (by simp [startE, ev]) (by simp) (by unfold SZ; omega) (fun x hx => by simp [compB, startE, ev])]
  have : bfD .sum [.lst (a.map fun p => D.int (p.2 - p.1))] [] = some (.int (width a)) := by
    have := sum_ll (S := []) (xs := a.map fun p => p.2 - p.1)
    rwa [ll, List.map_map] at this
  simp [this]
theorem r_holds [h : Has G i_holds f_holds] {a : List PI} {x : Int} (hz : a.length ≤ 9000) : run G (k + 1) i_holds [tl pairD a, .int x] S = .ok (.bl (decide (inR a x))) S := by
  refine pure_rt (h := h) (S' := []) rfl rfl (by simp [frzAs]) ?_ (frzR_scl rfl)
  simp only [b_holds, x_ret, ev_bf1]
  rw [ev_compM (enc := pairD) (xs := a) (d := tl pairD a) (fun p => .bl (decide (p.1 ≤ x) && decide (x < p.2))) (by simp [startE, ev]) (by simp) (by unfold SZ; omega) (fun p hx => by by_cases z : p.1 ≤ x <;> simp [compB, startE, ev, z])]
  have : bfD .any [.lst (a.map fun p => D.bl (decide (p.1 ≤ x) && decide (x < p.2)))] [] = some (.bl (decide (inR a x))) := by
    rw [any_ll]
    congr 2
    rw [Bool.eq_iff_iff, List.any_eq_true, decide_eq_true_eq]
    simp only [inR, Bool.and_eq_true, decide_eq_true_eq]
  simp [this]
theorem wo_turn {call : Calls} {f : List PI} {s e : Int} {q : PI} {d1 d2 d3 : D} {t : Option D × Option D} (hz : f.length < 10000) :
    ∃ t' : Option D × Option D, turnB G call (forB (forB b_without)) (.many [6, 7]) (pairD q) [some d1, some d2, some (.ref 0), some d3, some (.int e), some (.int s), t.1, t.2] [.lst (f.map pairD)] = .nx [some d1, some d2, some (.ref 0), some d3, some (.int e), some (.int (woS e (f, s) q).2), t'.1, t'.2] [.lst ((woS e (f, s) q).1.map pairD)] := by
  refine ⟨(some (.int q.1), some (.int q.2)), ?_⟩
  have ap := fun y => ap0 (f := pairD) (xs := f) (y := y) (by omega)
  by_cases h1 : q.1 < e
  · by_cases h2 : s < q.2
    · simp [turnB, b_without, forB, ev, ap, woS, h1, h2]
      rfl
    · simp [turnB, b_without, forB, ev, ap, woS, h1, h2]
  · simp [turnB, b_without, forB, ev, ap, woS, h1]
theorem r_without [h : Has G i_without f_without] [ht : Has G i_tidied f_tidied] {a b : List PI} (hz : a.length * (b.length + 1) ≤ 9000) : run G (k + 2) i_without [tl pairD a, tl pairD b] S = .ok (tl pairD (tidyF (woF a b))) S := by
  refine pure_rt (h := h) (S' := [.lst ((woF a b).map pairD)]) rfl rfl (by simp [frzAs]) ?_ (frzR_scl scl_tl)
  have w1 : ∀ (f : List PI) (p : PI), (wo1 b f p).length ≤ f.length + (b.length + 1) := fun f p => by
    have : (b.foldl (woS p.2) (f, p.1)).1.length ≤ f.length + b.length := woS_len p.2 b (f, p.1)
    simp only [wo1, List.length_append, List.length_cons, List.length_nil]
    omega
  simp [b_without, startE, ev, ll]
  refine x_forF (P := fun r => r = _) (ik := .plain) (xs := a) (enc := pairD) (a0 := ([] : List PI)) (t0 := ((((none, none), none), (none, none)) : ((Option D × Option D) × Option D) × (Option D × Option D))) (d := tl pairD a)
    (fun f t => [some (tl pairD a), some (tl pairD b), some (.ref 0), t.1.1.1, t.1.1.2, t.1.2, t.2.1, t.2.2]) (fun f => [.lst (f.map pairD)]) (wo1 b) (fun i f => f.length ≤ i * (b.length + 1)) ?_ (by simp) (by simp) (fun j p f t hj hi => ?_) (fun t' hi => ?_)
  · simp [ev]
  · have hj' : j < a.length := (List.getElem?_eq_some_iff.mp hj).1
    have hm : (j + 1) * (b.length + 1) ≤ a.length * (b.length + 1) := Nat.mul_le_mul_right _ (by omega)
    have hm' : (j + 1) * (b.length + 1) = j * (b.length + 1) + (b.length + 1) := Nat.succ_mul _ _
    suffices hh : ∃ (s : Int) (t' : Option D × Option D), turnB G (run G (k + 1)) (.asg 5 (.var 3) (.for_ .plain (.var 1) (.many [6, 7]) (forB (forB b_without)) (.exp (.bm .append (.var 2) (.cons (.tup (.cons (.var 5) (.cons (.var 4) .nil))) .nil)) .nil))) (.many [3, 4]) (pairD p) [some (tl pairD a), some (tl pairD b), some (.ref 0), t.1.1.1, t.1.1.2, t.1.2, t.2.1, t.2.2] [.lst (f.map pairD)] = .nx [some (tl pairD a), some (tl pairD b), some (.ref 0), some (.int p.1), some (.int p.2), some (.int s), t'.1, t'.2] [.lst ((wo1 b f p).map pairD)] by
      obtain ⟨s, t', ht'⟩ := hh
      exact ⟨(((some (.int p.1), some (.int p.2)), some (.int s)), t'), ht', by have := w1 f p; omega⟩
    simp only [turnB, bindT_pair]
    simp only [x_asg]
    show ∃ s t', exT G _ (.for_ .plain (.var 1) (.many [6, 7]) (forB (forB b_without)) _) [some (tl pairD a), some (tl pairD b), some (.ref 0), some (.int p.1), some (.int p.2), some (.int p.1), t.2.1, t.2.2] _ = _
    refine x_forF (P := fun r => ∃ (s : Int) (t' : Option D × Option D), r = .nx [some (tl pairD a), some (tl pairD b), some (.ref 0), some (.int p.1), some (.int p.2), some (.int s), t'.1, t'.2] [.lst ((wo1 b f p).map pairD)]) (ik := .plain) (xs := b) (enc := pairD) (a0 := ((f, p.1) : List PI × Int)) (t0 := ((t.2.1, t.2.2) : Option D × Option D)) (d := tl pairD b)
      (fun st t => [some (tl pairD a), some (tl pairD b), some (.ref 0), some (.int p.1), some (.int p.2), some (.int st.2), t.1, t.2]) (fun st => [.lst (st.1.map pairD)]) (woS p.2) (fun i st => st.1.length ≤ j * (b.length + 1) + i) ?_ (by simp) (by simpa using hi) (fun i q st t hq hi' => ?_) (fun t' hi' => ?_)
    · simp [ev]
    · have hq' : i < b.length := (List.getElem?_eq_some_iff.mp hq).1
      obtain ⟨t', ht'⟩ := wo_turn (G := G) (call := run G (k + 1)) (f := st.1) (s := st.2) (e := p.2) (q := q) (d1 := tl pairD a) (d2 := tl pairD b) (d3 := .int p.1) (t := t) (by omega)
      refine ⟨t', ht', ?_⟩
      have : (woS p.2 st q).1.length ≤ st.1.length + 1 := by unfold woS; split <;> simp
      omega
    · have ap := fun y => ap0 (f := pairD) (xs := (b.foldl (woS p.2) (f, p.1)).1) (y := y) (by omega)
      refine ⟨(b.foldl (woS p.2) (f, p.1)).2, t', ?_⟩
      simp [ev, ap, wo1]
      rfl
  · have hl : (woF a b).length ≤ 9000 := by unfold woF; omega
    have t : run G (k + 1) i_tidied [.ref 0] [.lst ((woF a b).map pairD)] = .ok (tl pairD (tidyF (woF a b))) [.lst ((woF a b).map pairD)] := r_tidied (.inr frzA_r0) hl
    show exT G _ _ [_, _, _, _, _, _, _, _] [.lst ((woF a b).map pairD)] = _
    simp [ev, t]
end
end PL

set_option Elab.async false
set_option linter.all false
set_option maxRecDepth 100000
set_option maxHeartbeats 1000000
/-! PMB: the laws' own defs on ranges. -/
namespace PL
open PySem
section
variable {G : Tab} {k : Nat} {S : Store}
def pairC (c : Int) : PI := (dF c 1 60, if 0 > dF c 1 60 + dF c 60 14 - 2 then 0 else dF c 1 60 + dF c 60 14 - 2)
theorem dF_lo {c p m : Int} (h : 0 < m) : 0 ≤ dF c p m := Int.emod_nonneg _ (by omega)
theorem dF_hi {c p m : Int} (h : 0 < m) : dF c p m < m := Int.emod_lt_of_pos _ h
theorem foldP_snoc {α β : Type} (f : β → α) : ∀ (xs : List β) (a : List α), xs.foldl (fun a x => a ++ [f x]) a = a ++ xs.map f
  | [], a => by simp
  | x :: xs, a => by rw [List.foldl_cons, foldP_snoc f xs]; simp
theorem r_pairs [h : Has G i_l_pairs f_l_pairs] [hd : Has G i_l_d f_l_d] {xs : List Int} (hz : xs.length ≤ 9000) : run G (k + 2) i_l_pairs [ll .int xs] S = .ok (tl pairD (xs.map pairC)) S := by
  refine pure_rt (h := h) (S' := []) rfl rfl (by simp [frzAs]) ?_ (frzR_scl scl_tl)
  simp [b_l_pairs, startE, ev]
  refine x_forF (P := fun r => r = _) (ik := .plain) (xs := xs) (enc := D.int) (a0 := ([] : List PI)) (t0 := ((none, none) : Option D × Option D)) (d := ll .int xs)
    (fun a t => [some (ll .int xs), some (tl pairD a), t.1, t.2]) (fun _ => []) (fun a x => a ++ [pairC x]) (fun i a => a.length ≤ i) ?_ (by simp) (Nat.zero_le _) (fun j x a t hj hi => ?_) (fun t' _ => ?_)
  · simp [ev]
  · have hj' : j < xs.length := (List.getElem?_eq_some_iff.mp hj).1
    refine ⟨(some (.int x), some (.int (dF x 1 60))), ?_, by simp; omega⟩
    have ad : ∀ S, bop .add (tl pairD a) (.tup [.tup [.int (dF x 1 60), .int (if 0 > dF x 1 60 + dF x 60 14 - 2 then 0 else dF x 1 60 + dF x 60 14 - 2)]]) S = some (tl pairD (a ++ [pairC x])) := fun S => add_tl1 (y := pairC x) rfl (by unfold SZ; omega)
    simp [turnB, b_l_pairs, forB, ev]
    simp at ad
    simp [ad]
  · rw [foldP_snoc]
    simp [ev]
/-- pairs of decent sizes -/
def Okp (ps : List PI) : Prop := ∀ p ∈ ps, 0 ≤ p.1 ∧ p.1 < 1000000000 ∧ p.2 - p.1 ≤ 1000 ∧ -1000000000 < p.2
theorem okp_pairC (xs : List Int) : Okp (xs.map pairC) := by
  intro p hp
  obtain ⟨c, _, rfl⟩ := List.mem_map.mp hp
  have a := dF_lo (c := c) (p := 1) (m := 60) (by decide)
  have b := dF_hi (c := c) (p := 1) (m := 60) (by decide)
  have d := dF_lo (c := c) (p := 60) (m := 14) (by decide)
  have e := dF_hi (c := c) (p := 60) (m := 14) (by decide)
  simp only [pairC]
  refine ⟨a, by omega, ?_, ?_⟩ <;> split <;> omega
def plO (ks : List Int) : Store := [.dct (ks.map fun i => (.inl i, .bl true))]
theorem frzR_plO {ks : List Int} : frzR (plO ks) (.ref 0) = some (plD ks) := by
  show (if sclK (ks.map fun i => ((.inl i : Ky), D.bl true)) then some (plD ks) else none) = _
  rw [if_pos (sclK_pl ks)]
theorem setIx_plO {ks : List Int} {x : Int} (h : ks.length < 16777216) : setIx (.ref 0) (.int x) (.bl true) (plO ks) = some (plO (putU ks x)) := by
  show (if (ks.map fun i => ((.inl i : Ky), D.bl true)).length < SZ then some [Ob.dct (setK (ks.map fun i => ((.inl i : Ky), D.bl true)) (.inl x) (.bl true))] else none) = _
  rw [if_pos (by rw [List.length_map]; unfold SZ; omega), setK_pl]
  rfl
theorem mkIt_rng2 {p : PI} {S : Store} (h0 : -1000000000 < p.1) (h1 : p.1 < 1000000000) (h2 : -1000000000 < p.2) (h3 : p.2 < 2000000000) : mkIt .rng2 [.int p.1, .int p.2] S = some (.items ((upL p).map .int)) := by
  show (if b62 p.1 && b62 p.2 then some (PL.Itr.items (rngD p.1 1 (p.2 - p.1).toNat)) else none) = _
  rw [b62_of (by omega) (by omega), b62_of (by omega) (by omega)]
  simp [rngD, upL, Function.comp_def]
theorem r_places [h : Has G i_l_places f_l_places] {ps : List PI} (hp : Okp ps) (hz : ps.length ≤ 9000) : run G (k + 1) i_l_places [tl pairD ps] S = .ok (plD (placesF ps)) S := by
  refine pure_rt (h := h) (S' := plO (placesF ps)) rfl rfl (by simp [frzAs]) ?_ frzR_plO
  simp [b_l_places, startE, ev]
  refine x_forF (P := fun r => r = _) (ik := .plain) (xs := ps) (enc := pairD) (a0 := ([] : List Int)) (t0 := ((none, none, none) : Option D × Option D × Option D)) (d := tl pairD ps)
    (fun _ t => [some (tl pairD ps), some (.ref 0), t.1, t.2.1, t.2.2]) plO (fun ks p => (upL p).foldl putU ks) (fun i ks => ks.length ≤ i * 1000) ?_ (by simp) (by simp) (fun j p ks t hj hi => ?_) (fun t' _ => ?_)
  · simp [ev]
  · have hj' : j < ps.length := (List.getElem?_eq_some_iff.mp hj).1
    obtain ⟨p0, p1, p2, p3⟩ := hp p (List.mem_of_getElem? hj)
    have up : (upL p).length ≤ 1000 := by simp [upL]; omega
    suffices hh : ∃ t' : Option D, turnB G (run G k) (forB b_l_places) (.many [2, 3]) (pairD p) [some (tl pairD ps), some (.ref 0), t.1, t.2.1, t.2.2] (plO ks) = .nx [some (tl pairD ps), some (.ref 0), some (.int p.1), some (.int p.2), t'] (plO ((upL p).foldl putU ks)) ∧ ((upL p).foldl putU ks).length ≤ ks.length + (upL p).length by
      obtain ⟨t', ht', hl⟩ := hh
      exact ⟨(some (.int p.1), some (.int p.2), t'), ht', by omega⟩
    simp only [turnB, bindT_pair, forB, b_l_places]
    refine x_forF (P := fun r => ∃ t' : Option D, r = .nx [some (tl pairD ps), some (.ref 0), some (.int p.1), some (.int p.2), t'] (plO ((upL p).foldl putU ks)) ∧ ((upL p).foldl putU ks).length ≤ ks.length + (upL p).length) (ik := .rng2) (xs := upL p) (enc := D.int) (a0 := ks) (t0 := t.2.2) (d := .tup [.int p.1, .int p.2])
      (fun _ t => [some (tl pairD ps), some (.ref 0), some (.int p.1), some (.int p.2), t]) plO putU (fun i a => a.length ≤ ks.length + i) ?_ ?_ (Nat.le_refl _) (fun i x a t hx hi' => ?_) (fun t' hi' => ?_)
    · simp [ev]
    · rw [srcL_rng2, toTup_tup, mkIt_rng2 (by omega) p1 p3 (by omega)]
    · have hx' : i < (upL p).length := (List.getElem?_eq_some_iff.mp hx).1
      have hs := setIx_plO (ks := a) (x := x) (by omega)
      refine ⟨some (.int x), by simp [turnB, ev, hs], ?_⟩
      have : (putU a x).length ≤ a.length + 1 := by unfold putU; split <;> simp
      omega
    · exact ⟨t', rfl, hi'⟩
  · simp [ev, placesF]
/-- what sorted() reads as these numbers -/
def SrtI (S : Store) (d : D) (xs : List Int) : Prop := ∃ d', frzA S d = some d' ∧ ∀ S, bfD .sorted [d'] S = some (ll .int (sortBy leI xs))
theorem srt_pl {ks : List Int} (h : ks.length ≤ 1000000) : SrtI S (plD ks) ks := ⟨_, frzA_pl, fun S => sort_pl (by unfold SZ; omega)⟩
theorem srt_ll {ks : List Int} : SrtI S (ll .int ks) ks := ⟨_, frzA_ll, fun S => sort_llI⟩
theorem ran_turn {call : Calls} {d : D} {f : List PI} {x : Int} {t : Option D} (hz : f.length ≤ 1000000) :
    turnB G call (forB b_l_ranges) (.one 2) (.int x) [some d, some (tl pairD f), t] [] = .nx [some d, some (tl pairD (ranS f x)), some (.int x)] [] := by
  have gp : ∀ (q : PI) (S : Store), getD_ (pairD q) (.int 0) S = some (.int q.1) ∧ getD_ (pairD q) (.int 1) S = some (.int q.2) := fun q S => ⟨rfl, rfl⟩
  have a1 : ∀ (g : List PI), g.length ≤ f.length → ∀ y S, bop .add (tl pairD g) (.tup [.tup [.int y, .int (x + 1)]]) S = some (tl pairD (g ++ [(y, x + 1)])) := fun g hg y S => add_tl1 (y := (y, x + 1)) rfl (by unfold SZ; omega)
  cases hl : f.getLast? with
  | none =>
    have : f = [] := by simpa using hl
    subst this
    have := a1 [] (Nat.le_refl _)
    simp [turnB, b_l_ranges, forB, ev, this, ranS]
  | some q =>
    have he : f.isEmpty = false := by cases f with
      | nil => cases hl
      | cons => rfl
    have a2 := a1 f (Nat.le_refl _)
    have a3 := a1 f.dropLast (by rw [List.length_dropLast]; omega)
    have cb : cutD f none (some (-1)) = f.dropLast := cut_butlast
    by_cases h : q.2 = x
    · simp [turnB, b_l_ranges, forB, ev, he, negD, atI_last, hl, gp, h, ranS, a3, isEmp, part, cb]
    · simp [turnB, b_l_ranges, forB, ev, he, negD, atI_last, hl, gp, h, ranS, a2]
theorem r_ranges [h : Has G i_l_ranges f_l_ranges] {d : D} {xs : List Int} (hs : SrtI S d xs) (hz : xs.length ≤ 1000000) : run G (k + 1) i_l_ranges [d] S = .ok (tl pairD (rangesF xs)) S := by
  obtain ⟨d', hd', hs⟩ := hs
  rw [run_pure (h.h) rfl (as' := [d']) (by simp [frzAs, hd'])]
  have hl : (sortBy leI xs).length = xs.length := (sortBy_perm leI xs).length_eq
  refine fin_ret (S' := []) ?_ scl_tl
  simp [b_l_ranges, startE, ev]
  refine x_forF (P := fun r => r = _) (ik := .plain) (xs := sortBy leI xs) (enc := D.int) (a0 := ([] : List PI)) (t0 := (none : Option D)) (d := ll .int (sortBy leI xs))
    (fun a t => [some d', some (tl pairD a), t]) (fun _ => []) ranS (fun i a => a.length ≤ i) ?_ (by simp) (Nat.zero_le _) (fun j x a t hj hi => ?_) (fun t' _ => ?_)
  · simp [ev, hs]
  · have hj' : j < xs.length := by rw [← hl]; exact (List.getElem?_eq_some_iff.mp hj).1
    exact ⟨_, ran_turn (by omega), by have := ranS_len a x; omega⟩
  · simp [ev, rangesF]
end
end PL

set_option Elab.async false
set_option linter.all false
set_option maxRecDepth 100000
set_option maxHeartbeats 1000000
/-! PMC: the evaluator's equations one by one; a comprehension stays closed. -/
namespace PL
open PySem
section
variable {G : Tab} {call : Calls} {env : Env} {S : Store} {a b c e : E}
@[simp] theorem e_var {i : Nat} : ev G call (.var i) env S = match env[i]? with
    | some (some d) => .ok d S
    | _ => .bad := rfl
@[simp] theorem e_con {d : D} : ev G call (.con d) env S = .ok d S := rfl
@[simp] theorem e_glb {j : Nat} : ev G call (.glb j) env S = R.of (G.consts j) S := rfl
@[simp] theorem e_bin {o : BOp} : ev G call (.bin o a b) env S = (ev G call a env S).bind fun x S => (ev G call b env S).bind fun y S => R.of (bop o x y S) S := rfl
@[simp] theorem e_cmp {o : COp} : ev G call (.cmp o a b) env S = (ev G call a env S).bind fun x S => (ev G call b env S).bind fun y S => R.of ((cop o x y S).map .bl) S := rfl
@[simp] theorem e_chain {o o' : COp} : ev G call (.chain o o' a b c) env S = (ev G call a env S).bind fun x S => (ev G call b env S).bind fun y S => (R.of (cop o x y S) S).bind fun k S =>
      if k then (ev G call c env S).bind fun z S => R.of ((cop o' y z S).map .bl) S else .ok (.bl false) S := rfl
@[simp] theorem e_isn : ev G call (.isn a) env S = (ev G call a env S).bind fun x S => .ok (.bl (isNonD x)) S := rfl
@[simp] theorem e_ntn : ev G call (.ntn a) env S = (ev G call a env S).bind fun x S => .ok (.bl (!isNonD x)) S := rfl
@[simp] theorem e_neg : ev G call (.neg a) env S = (ev G call a env S).bind fun x S => R.of (negD x) S := rfl
@[simp] theorem e_nt : ev G call (.nt a) env S = (mapT (ev G call a env S)).bind fun k S => .ok (.bl (!k)) S := rfl
@[simp] theorem e_and : ev G call (.and a b) env S = (ev G call a env S).bind fun x S => (R.of (truthy x S) S).bind fun k S => if k then ev G call b env S else .ok x S := rfl
@[simp] theorem e_or : ev G call (.or a b) env S = (ev G call a env S).bind fun x S => (R.of (truthy x S) S).bind fun k S => if k then .ok x S else ev G call b env S := rfl
@[simp] theorem e_ite : ev G call (.ite c a b) env S = (mapT (ev G call c env S)).bind fun k S => if k then ev G call a env S else ev G call b env S := rfl
@[simp] theorem e_isa {t : Nat} : ev G call (.isa a t) env S = (ev G call a env S).bind fun x S => if notIns x S then .ok (.bl (isaD t x)) S else .bad := rfl
@[simp] theorem e_call {f : Nat} : ev G call (.call f a) env S = (ev G call a env S).bind fun xs S => call f (toTup xs) S := rfl
@[simp] theorem e_meth {c m : Nat} : ev G call (.meth c a m b) env S = (ev G call a env S).bind fun x S => match clsD x S, G.meth c m with
    | some c', some f => if c' = c then (ev G call b env S).bind fun xs S => call f (x :: toTup xs) S else .bad
    | _, _ => .bad := rfl
@[simp] theorem e_mk {c : Nat} : ev G call (.mk c a) env S = (ev G call a env S).bind fun xs S => match G.init c with
    | some f => (call f (.ref S.length :: toTup xs) (S ++ [.ins c []])).bind fun d S' => match d with
      | .non => .ok (.ref S.length) S'
      | _ => .bad
    | none => .bad := rfl
@[simp] theorem e_bf {f : Bf} : ev G call (.bf f a) env S = (ev G call a env S).bind fun xs S => R.of (bfD f (toTup xs) S) S := rfl
@[simp] theorem e_bm {m : Bm} : ev G call (.bm m a b) env S = (ev G call a env S).bind fun x S => if bmOk m x S then (ev G call b env S).bind fun xs S => bmD m x (toTup xs) S else .bad := rfl
@[simp] theorem e_ix : ev G call (.ix a b) env S = (ev G call a env S).bind fun x S => (ev G call b env S).bind fun y S => R.of (getD_ x y S) S := rfl
@[simp] theorem e_sl : ev G call (.sl a b c) env S = (ev G call a env S).bind fun x S => (if isEmp b then .ok none S else (ev G call b env S).bind fun d S => R.of (part d) S).bind fun l S => (if isEmp c then .ok none S else (ev G call c env S).bind fun d S => R.of (part d) S).bind fun h S => R.of (slD x l h S) S := rfl
@[simp] theorem e_fld {c f : Nat} : ev G call (.fld c a f) env S = (ev G call a env S).bind fun x S => if clsD x S = some c then R.of (fldD x f S) S else .bad := rfl
@[simp] theorem e_tup : ev G call (.tup a) env S = (ev G call a env S).bind fun xs S => R.of (mkTup (toTup xs)) S := rfl
@[simp] theorem e_lst : ev G call (.lst a) env S = (ev G call a env S).bind fun xs S => R.of (mkLst (toTup xs)) S := rfl
@[simp] theorem e_dict0 : ev G call .dict0 env S = .ok (.ref S.length) (S ++ [.dct []]) := rfl
@[simp] theorem e_fstr : ev G call (.fstr a) env S = (ev G call a env S).bind fun xs S => R.of ((catD (toTup xs)).map .str) S := rfl
@[simp] theorem e_fmt : ev G call (.fmt a) env S = (ev G call a env S).bind fun x S => R.of ((fmtD x).map .str) S := rfl
/-- a list for the store -/
def newL (d : D) (S : Store) : R D := match d with
  | .lst xs => .ok (.ref S.length) (S ++ [.lst xs])
  | _ => .bad
@[simp] theorem newL_lst {xs : List D} : newL (.lst xs) S = .ok (.ref S.length) (S ++ [.lst xs]) := rfl
@[simp] theorem newL_ll {α : Type} {f : α → D} {xs : List α} : newL (ll f xs) S = .ok (.ref S.length) (S ++ [.lst (xs.map f)]) := rfl
@[simp] theorem e_new : ev G call (.new a) env S = (ev G call a env S).bind newL := rfl
@[simp] theorem e_nil : ev G call .nil env S = .ok (.tup []) S := rfl
@[simp] theorem e_cons : ev G call (.cons a b) env S = (ev G call a env S).bind fun x S => (ev G call b env S).bind fun xs S => .ok (.tup (x :: toTup xs)) S := rfl
@[simp] theorem e_one : ev G call (.one e) env S = ev G call e env S := rfl
@[simp] theorem e_val : ev G call (.val e) env S = ev G call e env S := rfl
@[simp] theorem e_din {ng : Bool} : ev G call (.din ng a b) env S = (ev G call a env S).bind fun x S => (ev G call b env S).bind fun y S => R.of ((dinD x y S).map fun k => .bl (k != ng)) S := rfl
@[simp] theorem e_dix : ev G call (.dix a b) env S = (ev G call a env S).bind fun x S => (ev G call b env S).bind fun y S => R.of (dixD x y S) S := rfl
@[simp] theorem e_emp : ev G call .emp env S = .ok (.bl true) S := rfl
end
end PL

set_option Elab.async false
set_option linter.all false
set_option maxRecDepth 100000
set_option maxHeartbeats 1000000
/-! PMD: loops that go while; the first places, pieces, texts of ranges. -/
namespace PL
open PySem
section
variable {G : Tab} {call : Calls}
/-- a while, its store and env from one thing -/
theorem x_whlS {α : Type} {P : RS → Prop} {c : E} {b k : T} (st : α → Env) (ss : α → Store) (I : α → Prop) (m : α → Nat) (go : α → Bool) {a0 : α} (hI : I a0)
    (hc : ∀ a, I a → mapT (ev G call c (st a) (ss a)) = .ok (go a) (ss a)) (hb : ∀ a, I a → go a = true → ∃ a', exT G call b (st a) (ss a) = .nx (st a') (ss a') ∧ I a' ∧ m a' < m a)
    (hm : m a0 < 1000000000) (hk : ∀ a, I a → go a = false → P (exT G call k (st a) (ss a))) : P (exT G call (.whl c b k) (st a0) (ss a0)) := by
  have key : ∀ (n : Nat) (a : α), I a → m a < n → ∃ a', I a' ∧ go a' = false ∧ goWhl (fun env S => mapT (ev G call c env S)) (fun env S => exT G call b env S) n (st a) (ss a) = .nx (st a') (ss a') := by
    intro n
    induction n with
    | zero => intro a _ h; omega
    | succ n ih =>
      intro a w h
      simp only [goWhl, hc a w, R.stm_ok]
      cases g : go a with
      | false => exact ⟨a, w, g, by simp⟩
      | true =>
        obtain ⟨a1, e, w1, l⟩ := hb a w g
        obtain ⟨a2, w2, g2, e2⟩ := ih a1 w1 (by omega)
        exact ⟨a2, w2, g2, by simp only [if_true, e, RS.andThen_nx, e2]⟩
  obtain ⟨a', w, g, e⟩ := key LOOP a0 hI (by rw [LOOP_eq]; exact hm)
  unfold exT
  rw [e]
  exact hk a' w g
theorem pickL4 {a b c d i : Int} {S : Store} (h0 : 0 ≤ i) (h1 : i < 4) : ∃ v, getD_ (.lst [.int a, .int b, .int c, .int d]) (.int i) S = some (.int v) ∧ (v = a ∨ v = b ∨ v = c ∨ v = d) := by
  obtain ⟨j, rfl⟩ := Int.eq_ofNat_of_zero_le h0
  have hj : j < 4 := by omega
  match j, hj with
  | 0, _ => exact ⟨a, rfl, .inl rfl⟩
  | 1, _ => exact ⟨b, rfl, .inr (.inl rfl)⟩
  | 2, _ => exact ⟨c, rfl, .inr (.inr (.inl rfl))⟩
  | 3, _ => exact ⟨d, rfl, .inr (.inr (.inr rfl))⟩
end
abbrev i_first_places : Nat := 35
/-- first_places: ranges 0 many 1 found 2 left 3 begin 4 end 5 -/
def b_first_places : T := (.asg 2 (.new (.lst .nil))
  (.asg 3 (.var 1)
  (.for_ .plain (.var 0) (.many [4, 5])
  (.ifs (.cmp .gt (.var 3) (.con (.int 0)))
  (.exp (.bm .append (.var 2) (.cons (.tup (.cons (.var 4) (.cons (.bf .min (.cons (.var 5) (.cons (.bin .add (.var 4) (.var 3)) .nil))) .nil))) .nil))
  (.asg 3 (.bin .sub (.var 3) (.bin .sub (.var 5) (.var 4)))
  .nil))
  .nil
  .nil)
  (.ret (.call i_tidied (.cons (.var 2) .nil))))))
def f_first_places : Fn := ⟨true, 2, 6, b_first_places⟩
abbrev i_cut_up : Nat := 36
/-- cut_up: ranges 0 most 1 found 2 begin 3 end 4 at 5 -/
def b_cut_up : T := (.asg 2 (.new (.lst .nil))
  (.for_ .plain (.var 0) (.many [3, 4])
  (.asg 5 (.var 3)
  (.whl (.cmp .lt (.var 5) (.var 4))
  (.exp (.bm .append (.var 2) (.cons (.tup (.cons (.var 5) (.cons (.bf .min (.cons (.var 4) (.cons (.bin .add (.var 5) (.var 1)) .nil))) .nil))) .nil))
  (.asg 5 (.bin .add (.var 5) (.var 1))
  .nil))
  .nil))
  (.ret (.bf .tuple (.cons (.var 2) .nil)))))
def f_cut_up : Fn := ⟨true, 2, 6, b_cut_up⟩
abbrev i_range_text : Nat := 37
/-- range_text: ranges 0 begin 1 end 2 -/
def b_range_text : T := (.ret (.bm .join (.con (.str ",")) (.cons (.comp .plain (.var 0) (.many [1, 2]) .emp (.fstr (.cons (.fmt (.var 1)) (.cons (.con (.str "-")) (.cons (.fmt (.bin .sub (.var 2) (.con (.int 1)))) .nil))))) .nil)))
def f_range_text : Fn := ⟨true, 1, 3, b_range_text⟩
/-! ### mathematics -/
theorem inR_flat {ps : List PI} {x : Int} : x ∈ ps.flatMap upL ↔ inR ps x := by
  simp only [List.mem_flatMap, run_mem, inR]
theorem upL_len (p : PI) : (upL p).length = (p.2 - p.1).toNat := by simp [upL]
theorem upL_pw (p : PI) : (upL p).Pairwise (· < ·) := by
  unfold upL
  rw [List.pairwise_map]
  exact List.pairwise_lt_range.imp fun {a b} h => by omega
theorem flat_pw : ∀ {ps : List PI}, Can ps → (ps.flatMap upL).Pairwise (· < ·)
  | [], _ => .nil
  | p :: ps, h => by
    obtain ⟨h1, h2, h3⟩ := can_cons.mp h
    rw [List.flatMap_cons, List.pairwise_append]
    refine ⟨upL_pw p, flat_pw h3, fun a ha b hb => ?_⟩
    have := run_mem.mp ha
    have := inR_ge h2 (inR_flat.mp hb)
    omega
/-- the places of ranges, in order -/
theorem flat_sort {ps : List PI} {xs : List Int} (hc : Can ps) (hn : xs.Nodup) (h : ∀ x, inR ps x ↔ x ∈ xs) : ps.flatMap upL = sortBy leI xs := by
  have pw := flat_pw hc
  have nd : (ps.flatMap upL).Nodup := pw.imp fun {a b} h => by omega
  exact sortI_uniq ((List.perm_ext_iff_of_nodup nd hn).mpr fun x => inR_flat.trans (h x)) (pw.imp fun {a b} h => by omega)
def firstS (st : List PI × Int) (p : PI) : List PI × Int := if 0 < st.2 then (st.1 ++ [(p.1, if p.1 + st.2 < p.2 then p.1 + st.2 else p.2)], st.2 - (p.2 - p.1)) else st
theorem first_fold : ∀ (A f : List PI) (m : Int), Can A → ∀ x, inR (A.foldl firstS (f, m)).1 x ↔ inR f x ∨ x ∈ (A.flatMap upL).take m.toNat
  | [], f, m, _, x => by simp
  | p :: A, f, m, hc, x => by
    obtain ⟨h1, h2, h3⟩ := can_cons.mp hc
    rw [List.foldl_cons]
    by_cases z : 0 < m
    · have e : firstS (f, m) p = (f ++ [(p.1, if p.1 + m < p.2 then p.1 + m else p.2)], m - (p.2 - p.1)) := by
        unfold firstS
        rw [if_pos z]
      rw [e, first_fold A _ _ h3 x, inR_append, List.flatMap_cons, List.take_append, List.mem_append, upL_len, or_assoc, show m.toNat - (p.2 - p.1).toNat = (m - (p.2 - p.1)).toNat by omega]
      refine or_congr_right (or_congr_left ?_)
      rw [inR_cons]
      simp only [inR_nil, or_false, upL, ← List.map_take, List.take_range, List.mem_map, List.mem_range]
      constructor
      · rintro ⟨a, b⟩
        refine ⟨(x - p.1).toNat, ?_, by omega⟩
        split at b <;> omega
      · rintro ⟨k, a, rfl⟩
        refine ⟨by omega, ?_⟩
        split <;> omega
    · have e : firstS (f, m) p = (f, m) := by
        unfold firstS
        rw [if_neg z]
      rw [e, first_fold A f m h3 x, show m.toNat = 0 by omega]
      simp
theorem first_len : ∀ (A : List PI) (st : List PI × Int), (A.foldl firstS st).1.length ≤ st.1.length + A.length
  | [], st => by simp
  | p :: A, st => by
    have := first_len A (firstS st p)
    have h : (firstS st p).1.length ≤ st.1.length + 1 := by unfold firstS; split <;> simp
    simp only [List.foldl_cons, List.length_cons]
    omega
/-- a range in pieces of at most m -/
def cutN (m : Int) : Nat → Int → Int → List PI
  | 0, _, _ => []
  | n + 1, b, e => if b < e then (b, if b + m < e then b + m else e) :: cutN m n (b + m) e else []
theorem cutN_end {m : Int} {n : Nat} {b e : Int} (h : ¬ b < e) : cutN m n b e = [] := by
  cases n with
  | zero => rfl
  | succ n => simp [cutN, h]
theorem cutN_fuel {m : Int} (hm : 1 ≤ m) : ∀ (n k : Nat) (b e : Int), (e - b).toNat ≤ n → (e - b).toNat ≤ k → cutN m n b e = cutN m k b e
  | 0, k, b, e, h, _ => by rw [cutN_end (by omega), cutN_end (by omega)]
  | n + 1, 0, b, e, _, h => by rw [cutN_end (by omega), cutN_end (by omega)]
  | n + 1, k + 1, b, e, h, h' => by
    simp only [cutN]
    split
    · rw [cutN_fuel hm n k (b + m) e (by omega) (by omega)]
    · rfl
def cutP (m : Int) (p : PI) : List PI := cutN m (p.2 - p.1).toNat p.1 p.2
theorem cutP_step {m b e : Int} (hm : 1 ≤ m) (h : b < e) : cutP m (b, e) = (b, if b + m < e then b + m else e) :: cutP m (b + m, e) := by
  unfold cutP
  simp only
  obtain ⟨n, hn⟩ : ∃ n, (e - b).toNat = n + 1 := ⟨(e - b).toNat - 1, by omega⟩
  rw [hn]
  simp only [cutN, h, if_true]
  rw [cutN_fuel hm n (e - (b + m)).toNat (b + m) e (by omega) (Nat.le_refl _)]
theorem cutP_end {m b e : Int} (h : ¬ b < e) : cutP m (b, e) = [] := cutN_end h
theorem cutN_len (m : Int) : ∀ (n : Nat) (b e : Int), (cutN m n b e).length ≤ n
  | 0, _, _ => Nat.le_refl _
  | n + 1, b, e => by
    simp only [cutN]
    split
    · have := cutN_len m n (b + m) e
      simp only [List.length_cons]
      omega
    · simp
theorem cutP_len (m : Int) (p : PI) : (cutP m p).length ≤ (p.2 - p.1).toNat := cutN_len _ _ _ _
/-! ### texts -/
def txtI (i : Int) : Str := (toString i : String)
def rtxt (p : PI) : Str := txtI p.1 ++ "-" ++ txtI (p.2 - 1)
section
variable {S : Store} {i : Int}
theorem txtI_tl (h0 : 0 ≤ i) : TL.tl (txtI i) = TL.numL i.toNat := by
  obtain ⟨n, rfl⟩ := Int.eq_ofNat_of_zero_le h0
  exact TL.tl_num n
theorem txtI_len (h0 : 0 ≤ i) (h : i < 1000000000) : (txtI i).length ≤ 9 := by
  rw [TL.len_tl, txtI_tl h0]
  exact TL.numL_len (by decide) (by omega)
theorem fmt_int (h0 : 0 ≤ i) (h : i < 1000000000) : fmtD (.int i) = some (txtI i) := by
  show (if tst (0 ≤ i ∧ i < 10 ^ 100) then some (txtI i) else none) = _
  rw [if_pos (tst_iff.mpr ⟨h0, Int.lt_trans h (by decide)⟩)]
theorem str_int (h0 : 0 ≤ i) (h : i < 1000000000) : bfD .str [.int i] S = some (.str (txtI i)) := by
  show (if i.natAbs.log2 < 1920 then some (txtI i) else none).map D.str = _
  rw [if_pos (log2_small h0 (Int.lt_trans h (by decide)))]
  rfl
theorem add_str {a b : Str} (h : a.length + b.length ≤ 1000000) : bop .add (.str a) (.str b) S = some (.str (a ++ b)) := by
  show (if a.length + b.length ≤ SZ then some (D.str (a ++ b)) else none) = _
  rw [if_pos (by unfold SZ; omega)]
theorem strsD_map : ∀ ys : List Str, strsD (ys.map D.str) = some ys
  | [] => rfl
  | y :: ys => by simp [strsD, strsD_map ys]
theorem str_sum {n : Nat} : ∀ {ys : List Str}, (∀ y ∈ ys, y.length ≤ n) → (ys.map (·.length)).sum ≤ ys.length * n
  | [], _ => by simp
  | y :: ys, h => by
    have := str_sum (ys := ys) fun z hz => h z (by simp [hz])
    have := h y (by simp)
    simp only [List.map_cons, List.sum_cons, List.length_cons, Nat.succ_mul]
    omega
theorem join_lst {a : Str} {ys : List Str} (ha : a.length ≤ 10) (hn : ys.length ≤ 9000) (h : ∀ y ∈ ys, y.length ≤ 100) : bmD .join (.str a) [.lst (ys.map D.str)] S = .ok (.str (Txt.join a ys)) S := by
  have := str_sum h
  have m : ys.length * a.length ≤ 9000 * 10 := Nat.mul_le_mul hn ha
  show R.of (match strsD (ys.map D.str) with
    | some ys => if (ys.map (·.length)).sum + ys.length * a.length ≤ SZ then some (D.str (Txt.join a ys)) else none
    | none => none) S = _
  rw [strsD_map]
  simp only
  rw [if_pos (by unfold SZ; omega)]
  rfl
theorem join_ref {a : Str} {ys : List Str} (ha : a.length ≤ 10) (hn : ys.length ≤ 9000) (h : ∀ y ∈ ys, y.length ≤ 100) : bmD .join (.str a) [.ref 0] [.lst (ys.map D.str)] = .ok (.str (Txt.join a ys)) [.lst (ys.map D.str)] := by
  have := str_sum h
  have m : ys.length * a.length ≤ 9000 * 10 := Nat.mul_le_mul hn ha
  show R.of (match strsD (ys.map D.str) with
    | some ys => if (ys.map (·.length)).sum + ys.length * a.length ≤ SZ then some (D.str (Txt.join a ys)) else none
    | none => none) [.lst (ys.map D.str)] = _
  rw [strsD_map]
  simp only
  rw [if_pos (by unfold SZ; omega)]
  rfl
@[simp] theorem ok_join {a : Str} : bmOk .join (.str a) S = true := rfl
theorem rtxt_len {p : PI} (h : 0 ≤ p.1 ∧ p.1 < p.2 ∧ p.2 < 1000000000) : (rtxt p).length ≤ 100 := by
  have a := txtI_len (i := p.1) (by omega) (by omega)
  have b := txtI_len (i := p.2 - 1) (by omega) (by omega)
  have c : ("-" : Str).length = 1 := by decide +kernel
  unfold rtxt
  rw [str_len_append, str_len_append]
  omega
theorem rtxt_cat {p : PI} : catD [.str (txtI p.1), .str "-", .str (txtI (p.2 - 1))] = some (rtxt p) := by
  show some (txtI p.1 ++ (("-" : Str) ++ (txtI (p.2 - 1) ++ Str.empty))) = _
  congr 1
  refine TL.ext_tl ?_
  simp only [rtxt, TL.tl_append]
  simp [TL.tl, Str.empty]
end
/-- ranges within decent numbers -/
def Okr (A : List PI) : Prop := ∀ p ∈ A, 0 ≤ p.1 ∧ p.1 < p.2 ∧ p.2 < 1000000000 ∧ p.2 - p.1 ≤ 1000
section
variable {G : Tab} {k : Nat} {S : Store}
theorem r_range_text [h : Has G i_range_text f_range_text] {a : List PI} (ho : Okr a) (hz : a.length ≤ 9000) : run G (k + 1) i_range_text [tl pairD a] S = .ok (.str (Txt.join "," (a.map rtxt))) S := by
  refine pure_rt (h := h) (S' := []) rfl rfl (by simp [frzAs]) ?_ (frzR_scl rfl)
  have c := ev_compM (G := G) (call := run G k) (env := [some (tl pairD a), none, none]) (S := []) (ik := .plain) (src := .var 0) (c := .emp) (e := .fstr (.cons (.fmt (.var 1)) (.cons (.con (.str "-")) (.cons (.fmt (.bin .sub (.var 2) (.con (.int 1)))) .nil)))) (tg := .many [1, 2]) (enc := pairD) (xs := a) (d := tl pairD a) (fun p => .str (rtxt p)) (by simp) (by simp) (by unfold SZ; omega) (fun p hp => by
    obtain ⟨h0, h1, h2, _⟩ := ho p hp
    have f1 := fmt_int (i := p.1) h0 (by omega)
    have f2 := fmt_int (i := p.2 - 1) (by omega) (by omega)
    simp [compB, f1, f2, rtxt_cat])
  have j := join_lst (S := []) (a := ",") (ys := a.map rtxt) (by decide +kernel) (by simpa using hz) (fun y hy => by
    obtain ⟨p, hp, rfl⟩ := List.mem_map.mp hy
    obtain ⟨h0, h1, h2, _⟩ := ho p hp
    exact rtxt_len ⟨h0, h1, h2⟩)
  rw [List.map_map] at j
  simp [b_range_text, startE, c]
  show (bmD _ _ [.lst (a.map (D.str ∘ rtxt))] _).stm _ _ = _
  rw [j]
  rfl
theorem first_turn {call : Calls} {f : List PI} {m : Int} {p : PI} {d1 d2 : D} {t : Option D × Option D} (hz : f.length < 10000) :
    ∃ t' : Option D × Option D, turnB G call (forB b_first_places) (.many [4, 5]) (pairD p) [some d1, some d2, some (.ref 0), some (.int m), t.1, t.2] [.lst (f.map pairD)] = .nx [some d1, some d2, some (.ref 0), some (.int (firstS (f, m) p).2), t'.1, t'.2] [.lst ((firstS (f, m) p).1.map pairD)] := by
  refine ⟨(some (.int p.1), some (.int p.2)), ?_⟩
  have ap := fun y => ap0 (f := pairD) (xs := f) (y := y) (by omega)
  by_cases h1 : 0 < m
  · simp [turnB, b_first_places, forB, ap, firstS, h1]
    rfl
  · simp [turnB, b_first_places, forB, ap, firstS, h1]
theorem r_first_places [h : Has G i_first_places f_first_places] [ht : Has G i_tidied f_tidied] {a : List PI} {m : Int} (hz : a.length ≤ 9000) : run G (k + 2) i_first_places [tl pairD a, .int m] S = .ok (tl pairD (tidyF (a.foldl firstS ([], m)).1)) S := by
  refine pure_rt (h := h) (S' := [.lst ((a.foldl firstS ([], m)).1.map pairD)]) rfl rfl (by simp [frzAs]) ?_ (frzR_scl scl_tl)
  simp [b_first_places, startE]
  refine x_forF (P := fun r => r = _) (ik := .plain) (xs := a) (enc := pairD) (a0 := (([], m) : List PI × Int)) (t0 := ((none, none) : Option D × Option D)) (d := tl pairD a)
    (fun st t => [some (tl pairD a), some (.int m), some (.ref 0), some (.int st.2), t.1, t.2]) (fun st => [.lst (st.1.map pairD)]) firstS (fun i st => st.1.length ≤ i) ?_ (by simp) (by simp) (fun j p st t hj hi => ?_) (fun t' hi => ?_)
  · simp
  · have hj' : j < a.length := (List.getElem?_eq_some_iff.mp hj).1
    obtain ⟨t', e⟩ := first_turn (G := G) (call := run G (k + 1)) (f := st.1) (m := st.2) (p := p) (d1 := tl pairD a) (d2 := .int m) (t := t) (by omega)
    refine ⟨t', e, ?_⟩
    have : (firstS st p).1.length ≤ st.1.length + 1 := by unfold firstS; split <;> simp
    omega
  · have t : run G (k + 1) i_tidied [.ref 0] [.lst ((a.foldl firstS ([], m)).1.map pairD)] = .ok (tl pairD (tidyF (a.foldl firstS ([], m)).1)) [.lst ((a.foldl firstS ([], m)).1.map pairD)] := r_tidied (.inr frzA_r0) (by omega)
    simp [t]
theorem tuple_r0 {α : Type} {f : α → D} {xs : List α} : bfD .tuple [.ref 0] [.lst (xs.map f)] = some (tl f xs) := rfl
theorem r_cut_up [h : Has G i_cut_up f_cut_up] {a : List PI} {m : Int} (hm : 1 ≤ m) (ho : ∀ p ∈ a, p.2 - p.1 ≤ 1000) (hz : a.length ≤ 9000) : run G (k + 1) i_cut_up [tl pairD a, .int m] S = .ok (tl pairD (a.flatMap (cutP m))) S := by
  refine pure_rt (h := h) (S' := [.lst ((a.flatMap (cutP m)).map pairD)]) rfl rfl (by simp [frzAs]) ?_ (frzR_scl scl_tl)
  have ef : ∀ (a f : List PI), a.foldl (fun f p => f ++ cutP m p) f = f ++ a.flatMap (cutP m) := by
    intro a
    induction a with
    | nil => intro f; simp
    | cons p a ih => intro f; rw [List.foldl_cons, ih]; simp
  simp [b_cut_up, startE]
  refine x_forF (P := fun r => r = _) (ik := .plain) (xs := a) (enc := pairD) (a0 := ([] : List PI)) (t0 := ((none, none, none) : Option D × Option D × Option D)) (d := tl pairD a)
    (fun _ t => [some (tl pairD a), some (.int m), some (.ref 0), t.1, t.2.1, t.2.2]) (fun f => [.lst (f.map pairD)]) (fun f p => f ++ cutP m p) (fun i f => f.length ≤ i * 1000) ?_ (by simp) (by simp) (fun j p f t hj hi => ?_) (fun t' hi => ?_)
  · simp
  · have hj' : j < a.length := (List.getElem?_eq_some_iff.mp hj).1
    have w := ho p (List.mem_of_getElem? hj)
    have cl := cutP_len m p
    suffices hh : ∃ s : Int, turnB G (run G k) (.asg 5 (.var 3) (.whl (.cmp .lt (.var 5) (.var 4)) (.exp (.bm .append (.var 2) (.cons (.tup (.cons (.var 5) (.cons (.bf .min (.cons (.var 4) (.cons (.bin .add (.var 5) (.var 1)) .nil))) .nil))) .nil)) (.asg 5 (.bin .add (.var 5) (.var 1)) .nil)) .nil)) (.many [3, 4]) (pairD p) [some (tl pairD a), some (.int m), some (.ref 0), t.1, t.2.1, t.2.2] [.lst (f.map pairD)] = .nx [some (tl pairD a), some (.int m), some (.ref 0), some (.int p.1), some (.int p.2), some (.int s)] [.lst ((f ++ cutP m p).map pairD)] by
      obtain ⟨s, e⟩ := hh
      exact ⟨(some (.int p.1), some (.int p.2), some (.int s)), e, by rw [List.length_append]; omega⟩
    simp only [turnB, bindT_pair]
    simp only [x_asg]
    show ∃ s, exT G _ (.whl _ _ _) [some (tl pairD a), some (.int m), some (.ref 0), some (.int p.1), some (.int p.2), some (.int p.1)] _ = _
    refine x_whlS (P := fun r => ∃ s : Int, r = .nx [some (tl pairD a), some (.int m), some (.ref 0), some (.int p.1), some (.int p.2), some (.int s)] [.lst ((f ++ cutP m p).map pairD)]) (a0 := ((f, p.1) : List PI × Int))
      (fun st => [some (tl pairD a), some (.int m), some (.ref 0), some (.int p.1), some (.int p.2), some (.int st.2)]) (fun st => [.lst (st.1.map pairD)])
      (fun st => st.1 ++ cutP m (st.2, p.2) = f ++ cutP m p) (fun st => (p.2 - st.2).toNat) (fun st => decide (st.2 < p.2)) rfl ?_ ?_ ?_ ?_
    · intro st _
      simp
    · intro st hi' hg
      have hg : st.2 < p.2 := of_decide_eq_true hg
      rw [cutP_step hm hg] at hi'
      have hl : st.1.length ≤ 10000000 := by
        have := congrArg List.length hi'
        rw [List.length_append, List.length_append] at this
        omega
      have ap := fun y => ap0 (f := pairD) (xs := st.1) (y := y) (by omega)
      refine ⟨(st.1 ++ [(st.2, if st.2 + m < p.2 then st.2 + m else p.2)], st.2 + m), ?_, by simpa using hi', by simp only; omega⟩
      simp [ap]
      rfl
    · show (p.2 - p.1).toNat < _
      omega
    · intro st hi' hg
      have hg : ¬ st.2 < p.2 := of_decide_eq_false hg
      rw [cutP_end hg, List.append_nil] at hi'
      refine ⟨st.2, ?_⟩
      simp only [x_nil]
      rw [hi']
  · rw [ef, List.nil_append]
    simp [tuple_r0]
end
end PL

set_option Elab.async false
set_option linter.all false
set_option maxRecDepth 100000
set_option maxHeartbeats 1000000
/-! PME: marks as texts. -/
namespace PL
open PySem
abbrev i_mark_text : Nat := 14
/-- mark_text: mark 0 text 1 left 2 k 3 -/
def b_mark_text : T := (.asg 1 (.con (.str ""))
  (.asg 2 (.var 0)
  (.for_ .rng1 (.cons (.glb 3) .nil) (.one 3)
  (.asg 1 (.bin .add (.ix (.glb 2) (.bin .mod (.var 2) (.con (.int 16)))) (.var 1))
  (.asg 2 (.bin .fdiv (.var 2) (.con (.int 16)))
  .nil))
  (.ret (.var 1)))))
def f_mark_text : Fn := ⟨true, 1, 4, b_mark_text⟩
abbrev i_read_mark : Nat := 15
/-- read_mark: text 0 mark 1 sign 2 -/
def b_read_mark : T := (.ifs (.or (.cmp .ne (.bf .len (.cons (.var 0) .nil)) (.glb 3)) (.one (.nt (.val (.bf .all (.cons (.comp .plain (.var 0) (.one 2) .emp (.cmp .inn (.var 2) (.glb 2))) .nil))))))
  (.rais 0)
  .nil
  (.asg 1 (.con (.int 0))
  (.for_ .plain (.var 0) (.one 2)
  (.asg 1 (.bin .add (.bin .mul (.var 1) (.con (.int 16))) (.bm .find (.glb 2) (.cons (.var 2) .nil)))
  .nil)
  (.ifs (.cmp .ge (.var 1) (.glb 0))
  (.rais 0)
  .nil
  (.ret (.var 1))))))
def f_read_mark : Fn := ⟨true, 1, 3, b_read_mark⟩
/-! ### signs -/
/-- one sign -/
def sg (c : Nat) : Str := ⟨#[c]⟩
def sgD (c : Nat) : D := .str (sg c)
theorem tl_sg (c : Nat) : TL.tl (sg c) = [c] := rfl
theorem len_sg (c : Nat) : (sg c).length = 1 := rfl
def hexd : List Nat := [48, 49, 50, 51, 52, 53, 54, 55, 56, 57, 97, 98, 99, 100, 101, 102]
def hv (c : Nat) : Int := if c < 58 then (c : Int) - 48 else (c : Int) - 87
def dg (i : Nat) : Nat := if i < 10 then 48 + i else 87 + i
theorem fig_tl : (("0123456789abcdef" : Str)).cps.toList = hexd := by decide +kernel
theorem find_hex : ∀ c ∈ hexd, Txt.find "0123456789abcdef" (sg c) = hv c := by decide +kernel
theorem index_hex : ∀ c ∈ hexd, Txt.index0 "0123456789abcdef" (sg c) = some (hv c).toNat := by decide +kernel
theorem hv_nn : ∀ c ∈ hexd, 0 ≤ hv c ∧ hv c < 16 := by decide +kernel
theorem hv_dg : ∀ i < 16, hv (dg i) = i ∧ dg i ∈ hexd := by decide +kernel
section
variable {S : Store} {x : Str}
theorem len_str (h : x.length ≤ 1000000) : bfD .len [.str x] S = some (.int x.length) := by
  show (if x.length ≤ SZ then some x.length else none).map (fun (n : Nat) => D.int n) = _
  rw [if_pos (by unfold SZ; omega)]
  rfl
@[simp] theorem mkIt_str : mkIt .plain [.str x] S = some (.items (x.cps.toList.map sgD)) := rfl
theorem in_hex {c : Nat} : cop .inn (.str (sg c)) (.str "0123456789abcdef") S = some (decide (c ∈ hexd)) := by
  show some (!(Builtin.Str.occurrences ("0123456789abcdef" : Str) ⟨#[c]⟩ 0 ("0123456789abcdef" : Str).length 1).isEmpty) = _
  rw [PySem.StrLaws.found_one, fig_tl]
theorem nin_hex {c : Nat} : cop .nin (.str (sg c)) (.str "0123456789abcdef") S = some (!decide (c ∈ hexd)) := by
  show (some (!(Builtin.Str.occurrences ("0123456789abcdef" : Str) ⟨#[c]⟩ 0 ("0123456789abcdef" : Str).length 1).isEmpty)).map not = _
  rw [PySem.StrLaws.found_one, fig_tl]
  rfl
@[simp] theorem ok_find {a : Str} : bmOk .find (.str a) S = true := rfl
@[simp] theorem ok_index {a : Str} : bmOk .index (.str a) S = true := rfl
theorem find_str {a b : Str} : bmD .find (.str a) [.str b] S = .ok (.int (Txt.find a b)) S := rfl
theorem index_str {a b : Str} {k : Nat} (h : Txt.index0 a b = some k) : bmD .index (.str a) [.str b] S = .ok (.int k) S := by
  show R.of ((Txt.index0 a b).map fun (k : Nat) => D.int k) S = _
  rw [h]; rfl
@[simp] theorem small_16 : small 16 = true := small_of (by decide) (by decide)
theorem ix_str {z : Str} {i : Int} (h : z.length ≤ 1000) (h0 : 0 ≤ i) (h1 : i.toNat < z.length) : getD_ (.str z) (.int i) S = some (.str (sg (z.cps.toList.getD i.toNat 0))) := by
  show (if z.length ≤ SZ then (L2.atI z.cps.toList i).map fun c => D.str ⟨#[c]⟩ else none) = _
  rw [if_pos (by unfold SZ; omega), atI_nn h0, List.getElem?_eq_getElem (by rw [TL.len_tl] at h1; exact h1)]
  rw [List.getD_eq_getElem?_getD, List.getElem?_eq_getElem (by rw [TL.len_tl] at h1; exact h1)]
  rfl
theorem ix_fig {i : Int} (h0 : 0 ≤ i) (h1 : i < 16) : getD_ (.str "0123456789abcdef") (.int i) S = some (.str (sg (dg i.toNat))) := by
  have l : ("0123456789abcdef" : Str).length = 16 := by decide +kernel
  rw [ix_str (by rw [l]; decide) h0 (by rw [l]; omega), fig_tl]
  have : ∀ i < 16, hexd.getD i 0 = dg i := by decide +kernel
  rw [this i.toNat (by omega)]
end
/-! ### marks -/
/-- the signs of a mark -/
def mkT (m : Int) : List Nat := [dg (m / 268435456 % 16).toNat, dg (m / 16777216 % 16).toNat, dg (m / 1048576 % 16).toNat, dg (m / 65536 % 16).toNat, dg (m / 4096 % 16).toNat, dg (m / 256 % 16).toNat, dg (m / 16 % 16).toNat, dg (m % 16).toNat]
def mkS (m : Int) : Str := ⟨(mkT m).toArray⟩
theorem mkS_tl (m : Int) : TL.tl (mkS m) = mkT m := rfl
theorem mkS_len (m : Int) : (mkS m).length = 8 := rfl
def hexV (l : List Nat) : Int := l.foldl (fun a c => a * 16 + hv c) 0
def readF (x : Str) : Option Int := if x.length = 8 ∧ (x.cps.toList.all fun c => decide (c ∈ hexd)) = true then (if hexV x.cps.toList ≥ 2147483647 then none else some (hexV x.cps.toList)) else none
theorem dgs {m : Int} (h : 0 ≤ m) : ∀ k : Int, 0 < k → hv (dg (m / k % 16).toNat) = m / k % 16 ∧ dg (m / k % 16).toNat ∈ hexd := fun k hk => by
  have a : 0 ≤ m / k % 16 := Int.emod_nonneg _ (by decide)
  have b : m / k % 16 < 16 := Int.emod_lt_of_pos _ (by decide)
  obtain ⟨e, i⟩ := hv_dg (m / k % 16).toNat (by omega)
  exact ⟨by rw [e]; omega, i⟩
theorem read_mk {m : Int} (h0 : 0 ≤ m) (h1 : m < 2147483647) : readF (mkS m) = some m := by
  have d := dgs h0
  have d0 := d 1 (by decide)
  rw [Int.ediv_one] at d0
  have e : hexV (mkT m) = m := by
    simp only [hexV, mkT, List.foldl_cons, List.foldl_nil, (d 268435456 (by decide)).1, (d 16777216 (by decide)).1, (d 1048576 (by decide)).1, (d 65536 (by decide)).1, (d 4096 (by decide)).1, (d 256 (by decide)).1, (d 16 (by decide)).1, d0.1]
    omega
  have a : ((mkT m).all fun c => decide (c ∈ hexd)) = true := by
    simp only [mkT, List.all_cons, List.all_nil, (d 268435456 (by decide)).2, (d 16777216 (by decide)).2, (d 1048576 (by decide)).2, (d 65536 (by decide)).2, (d 4096 (by decide)).2, (d 256 (by decide)).2, (d 16 (by decide)).2, d0.2, decide_true, Bool.and_true, Bool.and_self]
  unfold readF
  rw [if_pos ⟨mkS_len m, a⟩]
  show (if hexV (mkT m) ≥ 2147483647 then none else some (hexV (mkT m))) = _
  rw [e, if_neg (by omega)]
section
variable {G : Tab} {k : Nat} {S : Store}
/-- a pure def that raises -/
theorem pure_ex {i k np nl : Nat} {b : T} {as : List D} {S' : Store} {env' : Env} {c : Nat} {F : Fn} [h : Has G i F] (hF : F = ⟨true, np, nl, b⟩) (hl : as.length = np) (hf : frzAs S as = some as) (he : exT G (run G k) b (startE nl as) [] = .ex c env' S') :
    run G (k + 1) i as S = .ex c S := by
  rw [run_pure (hF ▸ h.h) hl hf, he]
  rfl
theorem r_mark_text [h : Has G i_mark_text f_mark_text] [h2 : HasC G 2 (.str "0123456789abcdef")] [h3 : HasC G 3 (.int 8)] {m : Int} (h0 : 0 ≤ m) : run G (k + 1) i_mark_text [.int m] S = .ok (.str (mkS m)) S := by
  refine pure_rt (h := h) (S' := []) rfl rfl (by simp [frzAs]) ?_ (frzR_scl rfl)
  simp [b_mark_text, startE]
  refine x_forF (P := fun r => r = _) (ik := .rng1) (xs := List.range 8) (enc := fun (k : Nat) => D.int k) (a0 := (("", m) : Str × Int)) (t0 := (none : Option D)) (d := .tup [.int 8])
    (fun a t => [some (.int m), some (.str a.1), some (.int a.2), t]) (fun _ => []) (fun a _ => (sg (dg (a.2 % 16).toNat) ++ a.1, a.2 / 16)) (fun i a => a.1.length = i) ?_ ?_ (show ("" : Str).length = 0 by decide +kernel) (fun j i a t hj hi => ?_) (fun t' hi => ?_)
  · simp
  · rw [srcL_rng1, toTup_tup, mkIt_rng1 (b62_of (by omega) (by omega)), rngD_map]; rfl
  · have hj' : j < 8 := by have := (List.getElem?_eq_some_iff.mp hj).1; simpa using this
    have a0 : 0 ≤ a.2 % 16 := Int.emod_nonneg _ (by decide)
    have a1 : a.2 % 16 < 16 := Int.emod_lt_of_pos _ (by decide)
    have ad := fun S => add_str (S := S) (a := sg (dg (a.2 % 16).toNat)) (b := a.1) (by rw [len_sg]; omega)
    have ix := fun S => ix_fig (S := S) a0 a1
    refine ⟨some (.int i), ?_, by rw [str_len_append, len_sg]; omega⟩
    simp [turnB, ix, ad]
  · have e : ((List.range 8).foldl (fun (a : Str × Int) (_ : Nat) => (sg (dg (a.2 % 16).toNat) ++ a.1, a.2 / 16)) (("", m) : Str × Int)).1 = mkS m := by
      refine TL.ext_tl ?_
      rw [mkS_tl]
      simp only [show List.range 8 = [0, 1, 2, 3, 4, 5, 6, 7] from rfl, List.foldl_cons, List.foldl_nil, TL.tl_append, tl_sg, mkT]
      rw [show TL.tl ("" : Str) = [] by decide +kernel]
      simp only [List.cons_append, List.nil_append]
      rw [show m / 16 / 16 = m / 256 by omega, show m / 256 / 16 = m / 4096 by omega, show m / 4096 / 16 = m / 65536 by omega, show m / 65536 / 16 = m / 1048576 by omega, show m / 1048576 / 16 = m / 16777216 by omega, show m / 16777216 / 16 = m / 268435456 by omega]
    simp only [x_ret]
    rw [e_var]
    simp [e]
theorem hex_fold_bound : ∀ (l : List Nat) (a : Int), True := fun _ _ => trivial
/-- read_mark's answer -/
theorem r_read_mark [h : Has G i_read_mark f_read_mark] [h0 : HasC G 0 (.int 2147483647)] [h2 : HasC G 2 (.str "0123456789abcdef")] [h3 : HasC G 3 (.int 8)] {x : Str} (hx : x.length ≤ 1000000) :
    run G (k + 1) i_read_mark [.str x] S = (match readF x with | some m => .ok (.int m) S | none => .ex 0 S) := by
  have cm : ∀ t1 t2, ev G (run G k) (.comp .plain (.var 0) (.one 2) .emp (.cmp .inn (.var 2) (.glb 2))) [some (.str x), t1, t2] [] = .ok (.lst (x.cps.toList.map fun c => .bl (decide (c ∈ hexd)))) [] := fun t1 t2 =>
    ev_compM (enc := sgD) (xs := x.cps.toList) (d := .str x) (fun c => .bl (decide (c ∈ hexd))) (by simp) (by simp) (by rw [← TL.len_tl]; unfold SZ; omega) (fun c hc => by simp [compB, sgD, in_hex])
  have al : bfD .all [.lst (x.cps.toList.map fun c => .bl (decide (c ∈ hexd)))] [] = some (.bl (x.cps.toList.all fun c => decide (c ∈ hexd))) := bf_all_map
  have ls := fun S => len_str (S := S) hx
  have start : ∀ r, exT G (run G k) b_read_mark [some (.str x), none, none] [] = r → run G (k + 1) i_read_mark [.str x] S = fin S r := fun r e => by
    rw [run_pure h.h rfl (as' := [.str x]) (by simp [frzAs]), ← e]
    rfl
  by_cases hl : x.length = 8
  · by_cases ha : (x.cps.toList.all fun c => decide (c ∈ hexd)) = true
    · have hin : ∀ c ∈ x.cps.toList, c ∈ hexd := fun c hc => of_decide_eq_true (List.all_eq_true.mp ha c hc)
      have e : readF x = if hexV x.cps.toList ≥ 2147483647 then none else some (hexV x.cps.toList) := by unfold readF; rw [if_pos ⟨hl, ha⟩]
      have main : exT G (run G k) b_read_mark [some (.str x), none, none] [] = (if hexV x.cps.toList ≥ 2147483647 then .ex 0 [some (.str x), some (.int (hexV x.cps.toList)), (x.cps.toList.getLast?.map sgD)] [] else .rt (.int (hexV x.cps.toList)) []) ∨ True := .inr trivial
      by_cases hg : hexV x.cps.toList ≥ 2147483647
      · rw [e, if_pos hg]
        suffices ∃ env', exT G (run G k) b_read_mark [some (.str x), none, none] [] = .ex 0 env' [] by
          obtain ⟨env', e'⟩ := this
          exact (start _ e').trans rfl
        simp [b_read_mark, ls, hl, cm, al, ha]
        refine x_forF (P := fun r => ∃ env', r = RS.ex 0 env' []) (ik := .plain) (xs := x.cps.toList) (enc := sgD) (a0 := (0 : Int)) (t0 := (none : Option D)) (d := .str x)
          (fun a t => [some (.str x), some (.int a), t]) (fun _ => []) (fun a c => a * 16 + hv c) (fun _ _ => True) (by simp) (by simp) trivial (fun j c a t hj _ => ?_) (fun t' _ => ?_)
        · have := find_hex c (hin c (List.mem_of_getElem? hj))
          exact ⟨some (sgD c), by simp [turnB, sgD, find_str, this], trivial⟩
        · show ∃ env', exT G _ _ [some (.str x), some (.int (hexV x.cps.toList)), t'] [] = _
          simp [hg]
      · rw [e, if_neg hg]
        refine (start (.rt (.int (hexV x.cps.toList)) []) ?_).trans rfl
        simp [b_read_mark, ls, hl, cm, al, ha]
        refine x_forF (P := fun r => r = _) (ik := .plain) (xs := x.cps.toList) (enc := sgD) (a0 := (0 : Int)) (t0 := (none : Option D)) (d := .str x)
          (fun a t => [some (.str x), some (.int a), t]) (fun _ => []) (fun a c => a * 16 + hv c) (fun _ _ => True) (by simp) (by simp) trivial (fun j c a t hj _ => ?_) (fun t' _ => ?_)
        · have := find_hex c (hin c (List.mem_of_getElem? hj))
          exact ⟨some (sgD c), by simp [turnB, sgD, find_str, this], trivial⟩
        · show exT G _ _ [some (.str x), some (.int (hexV x.cps.toList)), t'] [] = _
          have hg' : ¬ 2147483647 ≤ hexV x.cps.toList := hg
          simp [hg']
    · have e : readF x = none := by unfold readF; rw [if_neg fun h => ha h.2]
      rw [e]
      have ha' : (x.cps.toList.all fun c => decide (c ∈ hexd)) = false := by simpa using ha
      refine (start (.ex 0 [some (.str x), none, none] []) ?_).trans rfl
      simp [b_read_mark, ls, hl, cm, al, ha']
  · have e : readF x = none := by unfold readF; rw [if_neg fun h => hl h.1]
    rw [e]
    refine (start (.ex 0 [some (.str x), none, none] []) ?_).trans rfl
    have hl' : ¬ (x.length : Int) = 8 := by omega
    simp [b_read_mark, ls, hl']
end
end PL

set_option Elab.async false
set_option linter.all false
set_option maxRecDepth 100000
set_option maxHeartbeats 1000000
/-! PMF: a for over a list in the store; slices with a step. -/
namespace PL
open PySem
section
variable {G : Tab} {call : Calls} {env : Env} {S : Store}
@[simp] theorem e_sl3 {a b c : E} {st : Int} : ev G call (.sl3 a b c st) env S = (ev G call a env S).bind fun x S => (if isEmp b then .ok none S else (ev G call b env S).bind fun d S => R.of (part d) S).bind fun l S => (if isEmp c then .ok none S else (ev G call c env S).bind fun d S => R.of (part d) S).bind fun h S => R.of (sl3D x l h st S) S := rfl
theorem stepD_map {α β : Type} {f : α → β} {xs : List α} {lo hi : Option Int} {st : Int} : stepD (xs.map f) lo hi st = (stepD xs lo hi st).map f := by
  unfold stepD
  rw [List.length_map, List.map_filterMap]
  simp only [List.getElem?_map]
theorem sl3_tl {α : Type} {f : α → D} {xs : List α} {lo hi : Option Int} {st : Int} (h : st ≠ 0 ∧ st ≠ 1) : sl3D (tl f xs) lo hi st S = some (tl f (stepD xs lo hi st)) := by
  unfold sl3D
  rw [if_pos h]
  show some (D.tup (stepD (xs.map f) lo hi st)) = _
  rw [stepD_map]; rfl
theorem sl3_scr {ns : List Int} {lo hi : Option Int} {st : Int} (h : st ≠ 0 ∧ st ≠ 1) : sl3D (.scr ns) lo hi st S = some (ll .int (stepD ns lo hi st)) := by
  unfold sl3D
  rw [if_pos h]
  show some (D.lst (stepD (ns.map D.int) lo hi st)) = _
  rw [stepD_map]; rfl
theorem filterMap_on {α β : Type} {f g : α → Option β} : ∀ {l : List α}, (∀ x ∈ l, f x = g x) → l.filterMap f = l.filterMap g
  | [], _ => rfl
  | x :: l, h => by
    rw [List.filterMap_cons, List.filterMap_cons, h x (by simp), filterMap_on fun y hy => h y (by simp [hy])]
theorem stepD_rev {α : Type} (xs : List α) : stepD xs none none (-1) = xs.reverse := by
  have e : stepIx xs.length none none (-1) = (List.range xs.length).map fun k => xs.length - 1 - k := by
    unfold stepIx
    have a : Builtin.Slice.sliceAdjust none none (-1) (xs.length : Int) = ((xs.length : Int) - 1, -1) := rfl
    rw [a]
    have p : Builtin.Slice.slicePlaces ((xs.length : Int) - 1) (-1) (-1) = xs.length := by
      unfold Builtin.Slice.slicePlaces
      rw [if_neg (by decide)]
      split
      · rw [show (-(-1 : Int)) = 1 by decide, Int.ediv_one]; omega
      · omega
    simp only [p]
    refine List.map_congr_left fun k hk => ?_
    have := List.mem_range.mp hk
    omega
  unfold stepD
  rw [e, List.filterMap_map]
  have : ∀ k ∈ List.range xs.length, ((xs[·]?) ∘ fun k => xs.length - 1 - k) k = xs.reverse[k]? := fun k hk => by
    have hk := List.mem_range.mp hk
    rw [List.getElem?_reverse hk]; rfl
  have h2 : (List.range xs.length).filterMap ((xs[·]?) ∘ fun k => xs.length - 1 - k) = (List.range xs.length).filterMap fun k => xs.reverse[k]? := filterMap_on this
  refine h2.trans ?_
  have g : ∀ ys : List α, (List.range ys.length).filterMap (ys[·]?) = ys := by
    intro ys
    induction ys with
    | nil => rfl
    | cons y ys ih =>
      rw [List.length_cons, List.range_succ_eq_map, List.filterMap_cons]
      simp only [List.getElem?_cons_zero, List.filterMap_map]
      congr 1
  have := g xs.reverse
  rwa [List.length_reverse] at this
/-- a for over a list that stands in the store and stays as it is -/
theorem x_forV {α β τ : Type} {P : RS → Prop} {src : E} {b k : T} {tg : Tg} {enc : β → D} (st : α → τ → Env) (ss : α → Store) (step : α → β → α) (I : Nat → α → Prop) {xs : List β} {a0 : α} {t0 : τ} {n : Nat}
    (hs : ev G call src (st a0 t0) (ss a0) = .ok (.ref n) (ss a0)) (hi : ∀ j a, I j a → (ss a)[n]? = some (.lst (xs.map enc))) (h0 : I 0 a0) (hn : xs.length ≤ 1000000)
    (h : ∀ j x a t, xs[j]? = some x → I j a → ∃ t', turnB G call b tg (enc x) (st a t) (ss a) = .nx (st (step a x) t') (ss (step a x)) ∧ I (j + 1) (step a x))
    (hk : ∀ t', I xs.length (xs.foldl step a0) → P (exT G call k (st (xs.foldl step a0) t') (ss (xs.foldl step a0)))) : P (exT G call (.for_ .plain src tg b k) (st a0 t0) (ss a0)) := by
  have key : ∀ (m i : Nat) (a : α) (t : τ) (f : Nat), xs.length = i + m → m < f → I i a →
      ∃ t', goForL n false (turnB G call b tg) f i (st a t) (ss a) = .nx (st ((xs.drop i).foldl step a) t') (ss ((xs.drop i).foldl step a)) ∧ I xs.length ((xs.drop i).foldl step a) := by
    intro m
    induction m with
    | zero =>
      intro i a t f hl hf hI
      obtain ⟨f, rfl⟩ : ∃ g, f = g + 1 := ⟨f - 1, by omega⟩
      have e : itemAt (ss a) n false i = some none := by
        unfold itemAt
        rw [hi i a hI]
        simp only [List.getElem?_map]
        rw [List.getElem?_eq_none (by omega)]
        rfl
      rw [List.drop_eq_nil_of_le (by omega)]
      refine ⟨t, by simp only [goForL, e, List.foldl_nil], ?_⟩
      rw [show xs.length = i by omega]
      exact hI
    | succ m ih =>
      intro i a t f hl hf hI
      obtain ⟨f, rfl⟩ : ∃ g, f = g + 1 := ⟨f - 1, by omega⟩
      have hlt : i < xs.length := by omega
      have hx : xs[i]? = some xs[i] := List.getElem?_eq_getElem hlt
      have e : itemAt (ss a) n false i = some (some (enc xs[i])) := by
        unfold itemAt
        rw [hi i a hI]
        simp only [List.getElem?_map, hx]
        rfl
      obtain ⟨t1, e1, i1⟩ := h i xs[i] a t hx hI
      obtain ⟨t2, e2, i2⟩ := ih (i + 1) (step a xs[i]) t1 f (by omega) (by omega) i1
      rw [List.drop_eq_getElem_cons hlt, List.foldl_cons]
      refine ⟨t2, ?_, i2⟩
      simp only [goForL, e, e1, RS.andThen_nx]
      exact e2
  obtain ⟨t', e, i'⟩ := key xs.length 0 a0 t0 LOOP (by omega) (by rw [LOOP_eq]; omega) h0
  rw [List.drop_zero] at e i'
  have em : mkIt .plain [.ref n] (ss a0) = some (.live n false) := by
    show (match (ss a0)[n]? with
      | some (.lst _) => some (PL.Itr.live n false)
      | _ => none) = _
    rw [hi 0 a0 h0]
  rw [x_for_eq, hs]
  simp only [R.stm_ok, srcL_plain, em, goForI, Bool.false_eq_true, if_false]
  show P ((goForL n false (turnB G call b tg) LOOP 0 (st a0 t0) (ss a0)).andThen fun env S => exT G call k env S)
  rw [e]
  exact hk t' i'
end
end PL

set_option Elab.async false
set_option linter.all false
set_option maxRecDepth 100000
set_option maxHeartbeats 1000000
/-! PMG: the tree of marks: rows, the top, papers. -/
namespace PL
open PySem
abbrev i_joint : Nat := 84
/-- joint: one 0 other 1 -/
def b_joint : T := (.ret (.bin .mod (.bin .add (.bin .add (.bin .mul (.var 0) (.glb 1)) (.var 1)) (.con (.int 1))) (.glb 0)))
def f_joint : Fn := ⟨true, 2, 2, b_joint⟩
abbrev i_row_above : Nat := 85
/-- row_above: marks 0 found 1 one 2 other 3 -/
def b_row_above : T := (.asg 1 (.new (.comp .zip (.cons (.sl3 (.var 0) (.con (.int 0)) .emp (2)) (.cons (.sl3 (.var 0) (.con (.int 1)) .emp (2)) .nil)) (.many [2, 3]) .emp (.call i_joint (.cons (.var 2) (.cons (.var 3) .nil)))))
  (.ifs (.cmp .eq (.bin .mod (.bf .len (.cons (.var 0) .nil)) (.con (.int 2))) (.con (.int 1)))
  (.exp (.bm .append (.var 1) (.cons (.ix (.var 0) (.neg (.con (.int 1)))) .nil))
  .nil)
  .nil
  (.ret (.bf .tuple (.cons (.var 1) .nil)))))
def f_row_above : Fn := ⟨true, 1, 4, b_row_above⟩
abbrev i_root_of : Nat := 86
/-- root_of: table 0 row 1 -/
def b_root_of : T := (.asg 1 (.var 0)
  (.whl (.cmp .gt (.bf .len (.cons (.var 1) .nil)) (.con (.int 1)))
  (.asg 1 (.call i_row_above (.cons (.var 1) .nil))
  .nil)
  (.ifs (.nt (.val (.var 1)))
  (.ret (.con (.int 0)))
  .nil
  (.ret (.ix (.var 1) (.con (.int 0)))))))
def f_root_of : Fn := ⟨true, 1, 2, b_root_of⟩
abbrev i_paper_of : Nat := 87
/-- paper_of: table 0 k 1 found 2 row 3 at 4 beside 5 -/
def b_paper_of : T := (.asg 2 (.tup .nil)
  (.asg 3 (.var 0)
  (.asg 4 (.var 1)
  (.whl (.cmp .gt (.bf .len (.cons (.var 3) .nil)) (.con (.int 1)))
  (.asg 5 (.bin .sub (.bin .add (.var 4) (.con (.int 1))) (.bin .mul (.bin .mod (.var 4) (.con (.int 2))) (.con (.int 2))))
  (.ifs (.cmp .lt (.var 5) (.bf .len (.cons (.var 3) .nil)))
  (.asg 2 (.bin .add (.var 2) (.tup (.cons (.ix (.var 3) (.var 5)) .nil)))
  .nil)
  (.asg 2 (.bin .add (.var 2) (.tup (.cons (.con .non) .nil)))
  .nil)
  (.asg 3 (.call i_row_above (.cons (.var 3) .nil))
  (.asg 4 (.bin .fdiv (.var 4) (.con (.int 2)))
  .nil))))
  (.ret (.var 2))))))
def f_paper_of : Fn := ⟨true, 2, 6, b_paper_of⟩
/-! ### mathematics -/
def jF (a b : Int) : Int := (a * 257 + b + 1) % 2147483647
def rowI (xs : List Int) : List Int := (List.range ((xs.length + 1) / 2)).map fun k => if 2 * k + 1 < xs.length then jF (xs.getD (2 * k) 0) (xs.getD (2 * k + 1) 0) else xs.getD (2 * k) 0
theorem rowI_len (xs : List Int) : (rowI xs).length = (xs.length + 1) / 2 := by simp [rowI]
theorem pick_map {α : Type} {xs : List α} {d : α} : ∀ {l : List Nat}, (∀ k ∈ l, k < xs.length) → l.filterMap (xs[·]?) = l.map fun k => xs.getD k d
  | [], _ => rfl
  | k :: l, h => by
    have hk := h k (by simp)
    rw [List.filterMap_cons, List.map_cons, List.getElem?_eq_getElem hk]
    simp only
    rw [pick_map fun j hj => h j (by simp [hj]), List.getD_eq_getElem?_getD, List.getElem?_eq_getElem hk]
    rfl
theorem step_even (xs : List Int) : stepD xs (some 0) none 2 = (List.range ((xs.length + 1) / 2)).map fun k => xs.getD (2 * k) 0 := by
  have e : stepIx xs.length (some 0) none 2 = (List.range ((xs.length + 1) / 2)).map fun k => 2 * k := by
    unfold stepIx
    have a : Builtin.Slice.sliceAdjust (some 0) none 2 (xs.length : Int) = (0, (xs.length : Int)) := by
      unfold Builtin.Slice.sliceAdjust
      simp
      omega
    rw [a]
    have p : Builtin.Slice.slicePlaces 0 (xs.length : Int) 2 = (xs.length + 1) / 2 := by
      unfold Builtin.Slice.slicePlaces
      rw [if_pos (by decide)]
      split <;> omega
    simp only [p]
    refine List.map_congr_left fun k _ => ?_
    omega
  unfold stepD
  rw [e, pick_map (d := 0), List.map_map]
  · rfl
  · intro k hk
    obtain ⟨j, hj, rfl⟩ := List.mem_map.mp hk
    have := List.mem_range.mp hj
    omega
theorem step_odd (xs : List Int) : stepD xs (some 1) none 2 = (List.range (xs.length / 2)).map fun k => xs.getD (2 * k + 1) 0 := by
  have e : stepIx xs.length (some 1) none 2 = (List.range (xs.length / 2)).map fun k => 2 * k + 1 := by
    unfold stepIx
    have a : Builtin.Slice.sliceAdjust (some 1) none 2 (xs.length : Int) = (min 1 (xs.length : Int), (xs.length : Int)) := by
      unfold Builtin.Slice.sliceAdjust
      simp
    rw [a]
    have p : Builtin.Slice.slicePlaces (min 1 (xs.length : Int)) (xs.length : Int) 2 = xs.length / 2 := by
      unfold Builtin.Slice.slicePlaces
      rw [if_pos (by decide)]
      split <;> omega
    simp only [p]
    refine List.map_congr_left fun k hk => ?_
    have := List.mem_range.mp hk
    omega
  unfold stepD
  rw [e, pick_map (d := 0), List.map_map]
  · rfl
  · intro k hk
    obtain ⟨j, hj, rfl⟩ := List.mem_map.mp hk
    have := List.mem_range.mp hj
    omega
theorem zip_range {α β : Type} (f : Nat → α) (g : Nat → β) {m : Nat} : ∀ n, m ≤ n → ((List.range n).map f).zip ((List.range m).map g) = (List.range m).map fun k => (f k, g k) := by
  intro n h
  obtain ⟨d, rfl⟩ : ∃ d, n = m + d := ⟨n - m, by omega⟩
  rw [List.range_add, List.map_append, show (List.range m).map g = (List.range m).map g ++ [] by simp, List.zip_append (by simp)]
  simp [List.zip_map']
/-- the row above by pairs, an odd last one as it is -/
theorem rowI_pairs (xs : List Int) : rowI xs = (((stepD xs (some 0) none 2).zip (stepD xs (some 1) none 2)).map fun p => jF p.1 p.2) ++ (if xs.length % 2 = 1 then [xs.getD (xs.length - 1) 0] else []) := by
  rw [step_even, step_odd, zip_range _ _ _ (by omega), List.map_map]
  unfold rowI
  by_cases h : xs.length % 2 = 1
  · rw [if_pos h, show (xs.length + 1) / 2 = xs.length / 2 + 1 by omega, List.range_succ, List.map_append]
    refine congr (congrArg _ (List.map_congr_left fun k hk => ?_)) ?_
    · have := List.mem_range.mp hk
      rw [if_pos (by omega)]
      rfl
    · simp only [List.map_cons, List.map_nil]
      rw [if_neg (by omega), show 2 * (xs.length / 2) = xs.length - 1 by omega]
  · rw [if_neg h, List.append_nil, show (xs.length + 1) / 2 = xs.length / 2 by omega]
    refine List.map_congr_left fun k hk => ?_
    have := List.mem_range.mp hk
    rw [if_pos (by omega)]
    rfl
/-- all rows, from the table to the top -/
def rowsF : Nat → List Int → List (List Int)
  | 0, xs => [xs]
  | n + 1, xs => if 1 < xs.length then xs :: rowsF n (rowI xs) else [xs]
theorem rowsF_fuel : ∀ (n m : Nat) (xs : List Int), xs.length ≤ n + 1 → xs.length ≤ m + 1 → rowsF n xs = rowsF m xs
  | 0, 0, _, _, _ => rfl
  | 0, m + 1, xs, h, _ => by simp only [rowsF]; rw [if_neg (by omega)]
  | n + 1, 0, xs, _, h => by simp only [rowsF]; rw [if_neg (by omega)]
  | n + 1, m + 1, xs, h, h' => by
    simp only [rowsF]
    by_cases z : 1 < xs.length
    · have := rowI_len xs
      rw [if_pos z, if_pos z, rowsF_fuel n m (rowI xs) (by omega) (by omega)]
    · rw [if_neg z, if_neg z]
def rows (xs : List Int) : List (List Int) := rowsF xs.length xs
theorem rows_step {xs : List Int} (h : 1 < xs.length) : rows xs = xs :: rows (rowI xs) := by
  unfold rows
  have := rowI_len xs
  obtain ⟨n, hn⟩ : ∃ n, xs.length = n + 1 := ⟨xs.length - 1, by omega⟩
  rw [hn]
  simp only [rowsF]
  rw [if_pos h, rowsF_fuel n (rowI xs).length (rowI xs) (by omega) (by omega)]
theorem rows_end {xs : List Int} (h : ¬ 1 < xs.length) : rows xs = [xs] := by
  unfold rows
  cases hn : xs.length with
  | zero => rfl
  | succ n =>
    simp only [rowsF]
    rw [if_neg h]
theorem rows_ne (xs : List Int) : rows xs ≠ [] := by
  by_cases h : 1 < xs.length
  · rw [rows_step h]; simp
  · rw [rows_end h]; simp
/-- the mark on top -/
def topF (xs : List Int) : Int := ((rows xs).getLast (rows_ne xs)).getD 0 0
theorem topF_step {xs : List Int} (h : 1 < xs.length) : topF xs = topF (rowI xs) := by
  unfold topF
  have e := rows_step h
  congr 1
  simp only [e]
  exact List.getLast_cons (rows_ne _)
theorem topF_end {xs : List Int} (h : ¬ 1 < xs.length) : topF xs = xs.getD 0 0 := by
  unfold topF
  congr 1
  simp only [rows_end h, List.getLast_singleton]
/-- the marks beside a way -/
def papF : Nat → List Int → Nat → List (Option Int)
  | 0, _, _ => []
  | n + 1, xs, k => if 1 < xs.length then (if k % 2 = 1 then xs[k - 1]? else xs[k + 1]?) :: papF n (rowI xs) (k / 2) else []
theorem papF_fuel : ∀ (n m : Nat) (xs : List Int) (k : Nat), xs.length ≤ n + 1 → xs.length ≤ m + 1 → papF n xs k = papF m xs k
  | 0, 0, _, _, _, _ => rfl
  | 0, m + 1, xs, k, h, _ => by simp only [papF]; rw [if_neg (by omega)]
  | n + 1, 0, xs, k, _, h => by simp only [papF]; rw [if_neg (by omega)]
  | n + 1, m + 1, xs, k, h, h' => by
    simp only [papF]
    by_cases z : 1 < xs.length
    · have := rowI_len xs
      rw [if_pos z, if_pos z, papF_fuel n m (rowI xs) (k / 2) (by omega) (by omega)]
    · rw [if_neg z, if_neg z]
def paper (xs : List Int) (k : Nat) : List (Option Int) := papF xs.length xs k
theorem paper_step {xs : List Int} {k : Nat} (h : 1 < xs.length) : paper xs k = (if k % 2 = 1 then xs[k - 1]? else xs[k + 1]?) :: paper (rowI xs) (k / 2) := by
  unfold paper
  have := rowI_len xs
  obtain ⟨n, hn⟩ : ∃ n, xs.length = n + 1 := ⟨xs.length - 1, by omega⟩
  rw [hn]
  simp only [papF]
  rw [if_pos h, papF_fuel n (rowI xs).length (rowI xs) (k / 2) (by omega) (by omega)]
theorem paper_end {xs : List Int} {k : Nat} (h : ¬ 1 < xs.length) : paper xs k = [] := by
  unfold paper
  cases hn : xs.length with
  | zero => rfl
  | succ n =>
    simp only [papF]
    rw [if_neg h]
theorem paper_len : ∀ (n : Nat) (xs : List Int) (k : Nat), xs.length ≤ n → (paper xs k).length ≤ n
  | 0, xs, k, h => by rw [paper_end (by omega)]; simp
  | n + 1, xs, k, h => by
    by_cases z : 1 < xs.length
    · have := rowI_len xs
      have := paper_len n (rowI xs) (k / 2) (by omega)
      rw [paper_step z, List.length_cons]
      omega
    · rw [paper_end z]; simp
section
variable {G : Tab} {k : Nat} {S : Store}
theorem r_joint [h : Has G i_joint f_joint] [h0 : HasC G 0 (.int 2147483647)] [h1 : HasC G 1 (.int 257)] {a b : Int} : run G (k + 1) i_joint [.int a, .int b] S = .ok (.int (jF a b)) S := by
  refine pure_rt (h := h) (S' := []) rfl rfl (by simp [frzAs]) ?_ (frzR_scl rfl)
  simp [b_joint, startE, jF]
theorem r_row_above [h : Has G i_row_above f_row_above] [hj : Has G i_joint f_joint] [h0 : HasC G 0 (.int 2147483647)] [h1 : HasC G 1 (.int 257)] {xs : List Int} (hz : xs.length ≤ 100000) : run G (k + 2) i_row_above [tl .int xs] S = .ok (tl .int (rowI xs)) S := by
  refine pure_rt (h := h) (S' := [.lst ((rowI xs).map D.int)]) rfl rfl (by simp [frzAs]) ?_ (frzR_scl scl_tl)
  have rj : ∀ a b S, run G (k + 1) i_joint [.int a, .int b] S = .ok (.int (jF a b)) S := fun a b S => r_joint
  have le : (stepD xs (some 0) none 2).length = (xs.length + 1) / 2 := by rw [step_even]; simp
  have lo : (stepD xs (some 1) none 2).length = xs.length / 2 := by rw [step_odd]; simp
  have e := rowI_pairs xs
  generalize hA : stepD xs (some 0) none 2 = A at *
  generalize hB : stepD xs (some 1) none 2 = B at *
  have s1 : ∀ S, sl3D (tl .int xs) (some 0) none 2 S = some (tl .int A) := fun S => by rw [sl3_tl (by decide), hA]
  have s2 : ∀ S, sl3D (tl .int xs) (some 1) none 2 S = some (tl .int B) := fun S => by rw [sl3_tl (by decide), hB]
  have c : ev G (run G (k + 1)) (.comp .zip (.cons (.sl3 (.var 0) (.con (.int 0)) .emp (2)) (.cons (.sl3 (.var 0) (.con (.int 1)) .emp (2)) .nil)) (.many [2, 3]) .emp (.call i_joint (.cons (.var 2) (.cons (.var 3) .nil)))) [some (tl .int xs), none, none, none] [] = .ok (.lst ((A.zip B).map fun p => .int (jF p.1 p.2))) [] :=
    ev_compM (enc := fun p : Int × Int => D.tup [.int p.1, .int p.2]) (xs := A.zip B) (d := .tup [tl .int A, tl .int B]) (fun p => .int (jF p.1 p.2)) (by simp [isEmp, part, s1, s2]) (by rw [srcL_zip, toTup_tup, mkIt_ziptl]) (by rw [List.length_zip]; unfold SZ; omega) (fun p hp => by
      have b2 : ∀ env, bindT (.many [2, 3]) (.tup [.int p.1, .int p.2]) env = some ((env.set 2 (some (.int p.1))).set 3 (some (.int p.2))) := fun env => rfl
      simp [compB, b2, rj])
  have el : ((A.zip B).map fun p => D.int (jF p.1 p.2)) = ((A.zip B).map fun p => jF p.1 p.2).map D.int := by rw [List.map_map]; rfl
  rw [el] at c
  have lz : ((A.zip B).map fun p => jF p.1 p.2).length ≤ 100000 := by rw [List.length_map, List.length_zip]; omega
  generalize ((A.zip B).map fun p => jF p.1 p.2) = Z at *
  by_cases ho : xs.length % 2 = 1
  · rw [if_pos ho] at e
    have ne : xs ≠ [] := by intro z; subst z; simp at ho
    have la : L2.atI xs (-1) = some (xs.getD (xs.length - 1) 0) := by
      rw [atI_last, List.getLast?_eq_getElem?, List.getD_eq_getElem?_getD]
      cases hq : xs[xs.length - 1]? with
      | none => rw [List.getElem?_eq_none_iff] at hq; omega
      | some v => rfl
    have ap := fun y => ap0 (f := D.int) (xs := Z) (y := y) (by omega)
    have ho' : (xs.length : Int) % 2 = 1 := by omega
    rw [e]
    generalize xs.getD (xs.length - 1) 0 = v at *
    have tr : bfD .tuple [.ref 0] [.lst (Z.map D.int ++ [.int v])] = some (tl .int (Z ++ [v])) := by
      have := tuple_r0 (f := D.int) (xs := Z ++ [v])
      rwa [List.map_append] at this
    simp [b_row_above, startE, c, ho', negD, la, ap, tr]
  · rw [if_neg ho, List.append_nil] at e
    have ho' : ¬ (xs.length : Int) % 2 = 1 := by omega
    rw [e]
    simp [b_row_above, startE, c, ho', tuple_r0]
theorem r_root_of [h : Has G i_root_of f_root_of] [hr : Has G i_row_above f_row_above] [hj : Has G i_joint f_joint] [h0 : HasC G 0 (.int 2147483647)] [h1 : HasC G 1 (.int 257)] {xs : List Int} (hz : xs.length ≤ 100000) : run G (k + 3) i_root_of [tl .int xs] S = .ok (.int (topF xs)) S := by
  refine pure_rt (h := h) (S' := []) rfl rfl (by simp [frzAs]) ?_ (frzR_scl rfl)
  have ra : ∀ (r : List Int) S, r.length ≤ 100000 → run G (k + 2) i_row_above [tl .int r] S = .ok (tl .int (rowI r)) S := fun r S h => r_row_above h
  simp [b_root_of, startE]
  refine x_whlS (P := fun r => r = _) (a0 := xs) (fun r => [some (tl .int xs), some (tl .int r)]) (fun _ => []) (fun r => topF r = topF xs ∧ r.length ≤ xs.length) (fun r => r.length) (fun r => decide (1 < r.length)) ⟨rfl, Nat.le_refl _⟩ ?_ ?_ (by omega) ?_
  · intro r _
    simp
    omega
  · intro r ⟨ht, hl⟩ hg
    have hg : 1 < r.length := of_decide_eq_true hg
    have := rowI_len r
    have e := fun S => ra r S (by omega)
    exact ⟨rowI r, by simp [e], ⟨by rw [← topF_step hg, ht], by omega⟩, by omega⟩
  · intro r ⟨ht, hl⟩ hg
    have hg : ¬ 1 < r.length := of_decide_eq_false hg
    rw [← ht, topF_end hg]
    cases r with
    | nil => simp
    | cons v r =>
      have i0 : L2.atI (v :: r) (0 : Int) = some v := atI_nat (n := 0)
      simp [i0]
end
end PL

set_option Elab.async false
set_option linter.all false
set_option maxRecDepth 100000
set_option maxHeartbeats 1000000
/-! PMH: papers, what they show. -/
namespace PL
open PySem
abbrev i_is_mark : Nat := 88
/-- is_mark: thing 0 -/
def b_is_mark : T := (.ret (.and (.isa (.var 0) 0) (.and (.nt (.isa (.var 0) 1)) (.one (.chain .le .lt (.con (.int 0)) (.var 0) (.glb 0))))))
def f_is_mark : Fn := ⟨true, 1, 1, b_is_mark⟩
abbrev i_shows : Nat := 89
/-- shows: root 0 many 1 k 2 mark 3 paper 4 left 5 at 6 now 7 beside 8 alone 9 -/
def b_shows : T := (.ifs (.or (.nt (.val (.isa (.var 4) 3))) (.or (.nt (.chain .le .lt (.con (.int 0)) (.var 2) (.var 1))) (.one (.nt (.val (.call i_is_mark (.cons (.var 3) .nil)))))))
  (.ret (.con (.bl false)))
  .nil
  (.asg 5 (.var 1)
  (.asg 6 (.var 2)
  (.asg 7 (.var 3)
  (.for_ .plain (.var 4) (.one 8)
  (.asg 9 (.and (.cmp .eq (.bin .add (.var 6) (.con (.int 1))) (.var 5)) (.one (.cmp .eq (.bin .mod (.var 6) (.con (.int 2))) (.con (.int 0)))))
  (.ifs (.or (.cmp .lt (.var 5) (.con (.int 2))) (.one (.cmp .ne (.isn (.var 8)) (.var 9))))
  (.ret (.con (.bl false)))
  .nil
  (.ifs (.ntn (.var 8))
  (.ifs (.nt (.val (.call i_is_mark (.cons (.var 8) .nil))))
  (.ret (.con (.bl false)))
  .nil
  (.ifs (.cmp .eq (.bin .mod (.var 6) (.con (.int 2))) (.con (.int 0)))
  (.asg 7 (.call i_joint (.cons (.var 7) (.cons (.var 8) .nil)))
  .nil)
  (.asg 7 (.call i_joint (.cons (.var 8) (.cons (.var 7) .nil)))
  .nil)
  .nil))
  .nil
  (.asg 5 (.bin .fdiv (.bin .add (.var 5) (.con (.int 1))) (.con (.int 2)))
  (.asg 6 (.bin .fdiv (.var 6) (.con (.int 2)))
  .nil)))))
  (.ret (.and (.cmp .eq (.var 5) (.con (.int 1))) (.one (.cmp .eq (.var 7) (.var 0))))))))))
def f_shows : Fn := ⟨true, 5, 10, b_shows⟩
section
variable {G : Tab} {k : Nat} {S : Store}
@[simp] theorem small_2 : small 2 = true := small_of (by decide) (by decide)
theorem r_paper_of [h : Has G i_paper_of f_paper_of] [hr : Has G i_row_above f_row_above] [hj : Has G i_joint f_joint] [h0 : HasC G 0 (.int 2147483647)] [h1 : HasC G 1 (.int 257)] {xs : List Int} {n : Nat} (hz : xs.length ≤ 100000) (hn : n < xs.length) :
    run G (k + 3) i_paper_of [tl .int xs, .int n] S = .ok (tl (opD .int) (paper xs n)) S := by
  refine pure_rt (h := h) (S' := []) rfl rfl (by simp [frzAs]) ?_ (frzR_scl scl_tl)
  have ra : ∀ (r : List Int) S, r.length ≤ 100000 → run G (k + 2) i_row_above [tl .int r] S = .ok (tl .int (rowI r)) S := fun r S h => r_row_above h
  have pl := paper_len xs.length xs n (Nat.le_refl _)
  simp [b_paper_of, startE]
  refine x_whlS (P := fun r => r = _) (a0 := (([], xs, n, none) : List (Option Int) × List Int × Nat × Option D)) (fun a => [some (tl .int xs), some (.int n), some (tl (opD .int) a.1), some (tl .int a.2.1), some (.int (a.2.2.1 : Nat)), a.2.2.2]) (fun _ => [])
    (fun a => a.1 ++ paper a.2.1 a.2.2.1 = paper xs n ∧ a.2.1.length ≤ xs.length ∧ (a.2.2.1 < a.2.1.length)) (fun a => a.2.1.length) (fun a => decide (1 < a.2.1.length)) ⟨rfl, Nat.le_refl _, hn⟩ ?_ ?_ (by simp; omega) ?_
  · intro a _
    simp
    omega
  · rintro ⟨f, r, t, b⟩ ⟨hp, hl, ht⟩ hg
    simp only at hp hl ht hg ⊢
    have hg : 1 < r.length := of_decide_eq_true hg
    have rl := rowI_len r
    have e := fun S => ra r S (by omega)
    rw [paper_step hg] at hp
    have fl : f.length ≤ xs.length := by
      have := congrArg List.length hp
      rw [List.length_append] at this
      omega
    have ad : ∀ (o : Option Int) (d : D) S, opD .int o = d → bop .add (tl (opD .int) f) (.tup [d]) S = some (tl (opD .int) (f ++ [o])) := fun o d S h => add_tl1 h (by unfold SZ; omega)
    by_cases o : t % 2 = 1
    · rw [if_pos o] at hp
      have hv : r[t - 1]? = some (r.getD (t - 1) 0) := by
        rw [List.getD_eq_getElem?_getD, List.getElem?_eq_getElem (by omega)]; rfl
      rw [hv] at hp
      have m1 : (t : Int) % 2 = 1 := by omega
      have ix : L2.atI r ((t : Int) + 1 - 2) = some (r.getD (t - 1) 0) := by
        rw [show ((t : Int) + 1 - 2) = ((t - 1 : Nat) : Int) by omega, atI_nat, hv]
      generalize r.getD (t - 1) 0 = v at *
      have a1 := fun S => ad (some v) (.int v) S rfl
      refine ⟨(f ++ [some v], rowI r, t / 2, some (.int ((t : Int) + 1 - 2))), ?_, ⟨by simpa using hp, by simp only; omega, by simp only; omega⟩, by simp only; omega⟩
      have lt : (t : Int) + 1 - 2 < r.length := by omega
      have dv : (t : Int) / 2 = ((t / 2 : Nat) : Int) := by omega
      simp [m1, lt, ix, a1, e]
    · rw [if_neg o] at hp
      have m0 : (t : Int) % 2 = 0 := by omega
      by_cases lt : t + 1 < r.length
      · have hv : r[t + 1]? = some (r.getD (t + 1) 0) := by
          rw [List.getD_eq_getElem?_getD, List.getElem?_eq_getElem (by omega)]; rfl
        rw [hv] at hp
        have ix : L2.atI r ((t : Int) + 1) = some (r.getD (t + 1) 0) := by
          rw [show ((t : Int) + 1) = ((t + 1 : Nat) : Int) by omega, atI_nat, hv]
        generalize r.getD (t + 1) 0 = v at *
        have a1 := fun S => ad (some v) (.int v) S rfl
        refine ⟨(f ++ [some v], rowI r, t / 2, some (.int ((t : Int) + 1))), ?_, ⟨by simpa using hp, by simp only; omega, by simp only; omega⟩, by simp only; omega⟩
        have lt' : (t : Int) + 1 < r.length := by omega
        simp [m0, lt', ix, a1, e]
      · have hv : r[t + 1]? = none := List.getElem?_eq_none (by omega)
        rw [hv] at hp
        have a1 := fun S => ad none .non S rfl
        refine ⟨(f ++ [none], rowI r, t / 2, some (.int ((t : Int) + 1))), ?_, ⟨by simpa using hp, by simp only; omega, by simp only; omega⟩, by simp only; omega⟩
        have lt' : ¬ (t : Int) + 1 < r.length := by omega
        simp [m0, lt', a1, e]
  · rintro ⟨f, r, t, b⟩ ⟨hp, hl, ht⟩ hg
    simp only at hp hl ht hg ⊢
    have hg : ¬ 1 < r.length := of_decide_eq_false hg
    rw [paper_end hg, List.append_nil] at hp
    simp [hp]
@[simp] theorem cop_ne_bl {a b : Bool} : cop .ne (.bl a) (.bl b) S = some (!decide (a = b)) := rfl
@[simp] theorem cop_iss {a b : Bool} : cop .iss (.bl a) (.bl b) S = some (decide (a = b)) := rfl
@[simp] theorem cop_nis {a b : Bool} : cop .nis (.bl a) (.bl b) S = some (!decide (a = b)) := rfl
theorem isaD_oth {t : Nat} {d : D} (h : ∀ i, d ≠ .int i) (h1 : ∀ b, d ≠ .bl b) (h2 : ∀ x, d ≠ .str x) (h3 : ∀ xs, d ≠ .tup xs) : isaD t d = false := by
  unfold isaD
  split <;> first | rfl | (exfalso; first | exact h _ rfl | exact h1 _ rfl | exact h2 _ rfl | exact h3 _ rfl)
@[simp] theorem isaD_lst {t : Nat} {xs : List D} : isaD t (.lst xs) = false := isaD_oth (by simp) (by simp) (by simp) (by simp)
@[simp] theorem isaD_dct {t : Nat} {xs : List (Ky × D)} : isaD t (.dct xs) = false := isaD_oth (by simp) (by simp) (by simp) (by simp)
@[simp] theorem isaD_scr {t : Nat} {xs : List Int} : isaD t (.scr xs) = false := isaD_oth (by simp) (by simp) (by simp) (by simp)
@[simp] theorem notIns_lst {xs : List D} : notIns (.lst xs) S = true := rfl
@[simp] theorem notIns_dct {xs : List (Ky × D)} : notIns (.dct xs) S = true := rfl
@[simp] theorem notIns_scr {xs : List Int} : notIns (.scr xs) S = true := rfl
theorem noRefs_el : ∀ {xs : List D}, noRefs xs = true → ∀ x ∈ xs, noRef x = true
  | [], _, _, h => by cases h
  | y :: ys, h, x, hx => by
    simp only [noRefs, Bool.and_eq_true] at h
    rcases List.mem_cons.mp hx with rfl | hx
    · exact h.1
    · exact noRefs_el h.2 x hx
/-- a mark -/
def markD : D → Option Int
  | .int i => if 0 ≤ i ∧ i < 2147483647 then some i else none
  | _ => none
theorem r_is_mark [h : Has G i_is_mark f_is_mark] [h0 : HasC G 0 (.int 2147483647)] {d : D} (hd : noRef d = true) : run G (k + 1) i_is_mark [d] S = .ok (.bl (markD d).isSome) S := by
  refine pure_rt (h := h) (S' := []) rfl rfl (by simp only [frzAs, frzA_noRef hd]) ?_ (frzR_scl rfl)
  cases d with
  | int i =>
    by_cases z : 0 ≤ i
    · by_cases y : i < 2147483647
      · simp [b_is_mark, startE, markD, z, y]
      · simp [b_is_mark, startE, markD, z, y]
    · simp [b_is_mark, startE, markD, z]
  | bl b => simp [b_is_mark, startE, markD]
  | non => simp [b_is_mark, startE, markD]
  | str x => simp [b_is_mark, startE, markD]
  | tup xs => simp [b_is_mark, startE, markD]
  | lst xs => simp [b_is_mark, startE, markD]
  | dct xs => simp [b_is_mark, startE, markD]
  | scr xs => simp [b_is_mark, startE, markD]
  | ref n => cases hd
abbrev LAN : Type := Int × Int × Int
def alone (a : LAN) : Bool := decide (a.2.1 + 1 = a.1) && decide (a.2.1 % 2 = 0)
def shS (a : LAN) (b : D) : LAN ⊕ Unit := if a.1 < 2 ∨ isNonD b ≠ alone a then .inr () else if isNonD b = true then .inl ((a.1 + 1) / 2, a.2.1 / 2, a.2.2) else match markD b with
  | some v => .inl ((a.1 + 1) / 2, a.2.1 / 2, if a.2.1 % 2 = 0 then jF a.2.2 v else jF v a.2.2)
  | none => .inr ()
def showsB (root many n : Int) (mark paper : D) : Bool := match paper with
  | .tup ps => if 0 ≤ n ∧ n < many then match markD mark with
    | some m => match foldR shS ps (many, n, m) with
      | .inl a => decide (a.1 = 1) && decide (a.2.2 = root)
      | .inr _ => false
    | none => false else false
  | _ => false
theorem mark_int {d : D} {m : Int} (h : markD d = some m) : d = .int m := by
  cases d with
  | int i =>
    simp only [markD] at h
    split at h
    · cases h; rfl
    · cases h
  | _ => cases h
theorem shows_turn [hm : Has G i_is_mark f_is_mark] [hj : Has G i_joint f_joint] [h0 : HasC G 0 (.int 2147483647)] [h1 : HasC G 1 (.int 257)] {d0 d1 d2 d3 d4 t8 t9 : Option D} {a : LAN} {b : D} (hb : noRef b = true) : match shS a b with
    | .inl a' => ∃ t' : Option D × Option D, turnB G (run G (k + 1)) (forB (match b_shows with | .ifs _ _ _ k => k | _ => .nil)) (.one 8) b [d0, d1, d2, d3, d4, some (.int a.1), some (.int a.2.1), some (.int a.2.2), t8, t9] [] = .nx [d0, d1, d2, d3, d4, some (.int a'.1), some (.int a'.2.1), some (.int a'.2.2), t'.1, t'.2] []
    | .inr _ => turnB G (run G (k + 1)) (forB (match b_shows with | .ifs _ _ _ k => k | _ => .nil)) (.one 8) b [d0, d1, d2, d3, d4, some (.int a.1), some (.int a.2.1), some (.int a.2.2), t8, t9] [] = .rt (.bl false) [] := by
  have rm := fun S => r_is_mark (G := G) (k := k) (S := S) hb
  have rj : ∀ a b S, run G (k + 1) i_joint [.int a, .int b] S = .ok (.int (jF a b)) S := fun a b S => r_joint
  obtain ⟨l, n, w⟩ := a
  have al : ∀ t8, ev G (run G (k + 1)) (.and (.cmp .eq (.bin .add (.var 6) (.con (.int 1))) (.var 5)) (.one (.cmp .eq (.bin .mod (.var 6) (.con (.int 2))) (.con (.int 0))))) [d0, d1, d2, d3, d4, some (.int l), some (.int n), some (.int w), t8, t9] [] = .ok (.bl (alone (l, n, w))) [] := fun t8 => by
    unfold alone
    by_cases z : n + 1 = l
    · simp [z]
    · simp [z]
  have E : turnB G (run G (k + 1)) (forB (match b_shows with | .ifs _ _ _ k => k | _ => .nil)) (.one 8) b [d0, d1, d2, d3, d4, some (.int l), some (.int n), some (.int w), t8, t9] [] = exT G (run G (k + 1)) (match forB (match b_shows with | .ifs _ _ _ k => k | _ => .nil) with | .asg _ _ k => k | _ => .nil) [d0, d1, d2, d3, d4, some (.int l), some (.int n), some (.int w), some b, some (.bl (alone (l, n, w)))] [] := by
    show (ev G (run G (k + 1)) _ [d0, d1, d2, d3, d4, some (.int l), some (.int n), some (.int w), some b, t9] []).stm _ _ = _
    rw [al]
    rfl
  simp only [E]
  unfold shS
  generalize hal : alone (l, n, w) = q
  simp only
  by_cases z : l < 2
  · rw [if_pos (.inl z)]
    simp [b_shows, forB, z]
  · by_cases y : isNonD b = q
    · rw [if_neg (by rintro (h | h); exact z h; exact h y)]
      by_cases x : isNonD b = true
      · rw [if_pos x]
        rw [x] at y
        exact ⟨(_, _), by simp [b_shows, forB, z, x, ← y]; exact ⟨rfl, rfl⟩⟩
      · rw [if_neg x]
        have x : isNonD b = false := by simpa using x
        rw [x] at y
        cases hv : markD b with
        | none =>
          rw [hv] at rm
          simp [b_shows, forB, z, x, ← y, rm]
        | some v =>
          rw [hv] at rm
          have := mark_int hv
          subst this
          by_cases e : n % 2 = 0
          · exact ⟨(_, _), by simp [b_shows, forB, z, ← y, rm, e, rj]; exact ⟨rfl, rfl⟩⟩
          · exact ⟨(_, _), by simp [b_shows, forB, z, ← y, rm, e, rj]; exact ⟨rfl, rfl⟩⟩
    · rw [if_pos (.inr y)]
      simp [b_shows, forB, z, y]
end
end PL

set_option Elab.async false
set_option linter.all false
set_option maxRecDepth 100000
set_option maxHeartbeats 1000000
/-! PMI: shows; the laws' own rows and checker. -/
namespace PL
open PySem
abbrev i_l_above : Nat := 90
/-- l_above: _row 0 _found 1 _k 2 -/
def b_l_above : T := (.asg 1 (.tup .nil)
  (.for_ .rng3 (.cons (.con (.int 0)) (.cons (.bf .len (.cons (.var 0) .nil)) (.cons (.con (.int 2)) .nil))) (.one 2)
  (.ifs (.cmp .lt (.bin .add (.var 2) (.con (.int 1))) (.bf .len (.cons (.var 0) .nil)))
  (.asg 1 (.bin .add (.var 1) (.tup (.cons (.bin .mod (.bin .add (.bin .add (.bin .mul (.ix (.var 0) (.var 2)) (.con (.int 257))) (.ix (.var 0) (.bin .add (.var 2) (.con (.int 1))))) (.con (.int 1))) (.con (.int 2147483647))) .nil)))
  .nil)
  (.asg 1 (.bin .add (.var 1) (.tup (.cons (.ix (.var 0) (.var 2)) .nil)))
  .nil)
  .nil)
  (.ret (.var 1))))
def f_l_above : Fn := ⟨true, 1, 3, b_l_above⟩
abbrev i_l_rows : Nat := 91
/-- l_rows: _table 0 _rows_here 1 -/
def b_l_rows : T := (.asg 1 (.new (.lst (.cons (.var 0) .nil)))
  (.whl (.cmp .gt (.bf .len (.cons (.ix (.var 1) (.neg (.con (.int 1)))) .nil)) (.con (.int 1)))
  (.exp (.bm .append (.var 1) (.cons (.call i_l_above (.cons (.ix (.var 1) (.neg (.con (.int 1)))) .nil)) .nil))
  .nil)
  (.ret (.var 1))))
def f_l_rows : Fn := ⟨true, 1, 2, b_l_rows⟩
section
variable {G : Tab} {k : Nat} {S : Store}
theorem r_shows [h : Has G i_shows f_shows] [hm : Has G i_is_mark f_is_mark] [hj : Has G i_joint f_joint] [h0 : HasC G 0 (.int 2147483647)] [h1 : HasC G 1 (.int 257)] {root many n : Int} {mark paper : D} (hk : noRef mark = true) (hp : noRef paper = true) :
    run G (k + 2) i_shows [.int root, .int many, .int n, mark, paper] S = .ok (.bl (showsB root many n mark paper)) S := by
  refine pure_rt (h := h) (S' := []) rfl rfl (by simp only [frzAs, frzA_noRef hk, frzA_noRef hp, frzA_int']) ?_ (frzR_scl rfl)
  have rm := fun S => r_is_mark (G := G) (k := k) (S := S) hk
  have oth : isaD 3 paper = false → notIns paper [] = true → showsB root many n mark paper = false → exT G (run G (k + 1)) b_shows (startE 10 [.int root, .int many, .int n, mark, paper]) [] = .rt (.bl (showsB root many n mark paper)) [] := fun h1 h2 h3 => by
    simp [b_shows, startE, h1, h2, h3]
  cases paper with
  | int i => exact oth (by simp) rfl rfl
  | bl b => exact oth (by simp) rfl rfl
  | non => exact oth (by simp) rfl rfl
  | str x => exact oth (by simp) rfl rfl
  | lst xs => exact oth (by simp) rfl rfl
  | dct xs => exact oth (by simp) rfl rfl
  | scr xs => exact oth (by simp) rfl rfl
  | ref n => cases hp
  | tup ps =>
    by_cases z : 0 ≤ n
    · by_cases y : n < many
      · cases hv : markD mark with
        | none =>
          rw [hv] at rm
          have e : showsB root many n mark (.tup ps) = false := by simp [showsB, z, y, hv]
          simp [b_shows, startE, z, y, rm, e]
        | some m =>
          rw [hv] at rm
          have := mark_int hv
          subst this
          have e : showsB root many n (.int m) (.tup ps) = match foldR shS ps (many, n, m) with
            | .inl a => decide (a.1 = 1) && decide (a.2.2 = root)
            | .inr _ => false := by
            simp [showsB, z, y, hv]
            all_goals (cases foldR shS ps (many, n, m) <;> rfl)
          rw [e]
          simp [b_shows, startE, z, y, rm]
          refine x_forR (P := fun r => r = _) (ik := .plain) (xs := ps) (enc := fun d => d) (a0 := ((many, n, m) : LAN)) (t0 := ((none, none) : Option D × Option D)) (d := .tup ps)
            (fun a t => [some (.int root), some (.int many), some (.int n), some (.int m), some (.tup ps), some (.int a.1), some (.int a.2.1), some (.int a.2.2), t.1, t.2]) (fun _ => []) shS (fun _ => .rt (.bl false) []) (fun _ _ => rfl) (fun _ _ => True) ?_ (by simp) trivial (fun j b a t hb _ => ?_) ?_
          · simp
          · have := shows_turn (G := G) (k := k) (d0 := some (.int root)) (d1 := some (.int many)) (d2 := some (.int n)) (d3 := some (.int m)) (d4 := some (.tup ps)) (t8 := t.1) (t9 := t.2) (a := a) (noRefs_el hp b (List.mem_of_getElem? hb))
            revert this
            cases shS a b with
            | inl l => exact fun ⟨t', e⟩ => ⟨t', e, trivial⟩
            | inr _ => exact fun e => e
          · cases foldR shS ps (many, n, m) with
            | inr _ => rfl
            | inl a =>
              simp only
              intro t' _
              by_cases q : a.1 = 1
              · simp [q]
              · simp [q]
      · have e : showsB root many n mark (.tup ps) = false := by simp [showsB, y]
        simp [b_shows, startE, z, y, e]
    · have e : showsB root many n mark (.tup ps) = false := by simp [showsB, z]
      simp [b_shows, startE, z, e]
theorem mkIt_rng3 {n : Nat} (h : n ≤ 1000000) : mkIt .rng3 [.int 0, .int n, .int 2] S = some (.items ((List.range ((n + 1) / 2)).map fun (k : Nat) => D.int ((2 * k : Nat) : Int))) := by
  show (if b62 0 && b62 (n : Int) && tst ((0 : Int) < 2 ∧ (2 : Int) < 1000000) then some (PL.Itr.items (rngD 0 2 (((n : Int) - 0 + 2 - 1) / 2).toNat)) else none) = _
  have hn : ∃ i : Int, i = (n : Int) ∧ 0 ≤ i ∧ i ≤ 1000000 := ⟨n, rfl, by omega, by omega⟩
  obtain ⟨i, hi, i0, i1⟩ := hn
  rw [← hi, b62_of (by omega) (by omega), b62_of (by omega) (by omega), tst_iff.mpr ⟨by decide, by decide⟩]
  simp only [Bool.and_self, if_true]
  rw [show ((i - 0 + 2 - 1) / 2).toNat = (n + 1) / 2 by omega]
  unfold rngD
  congr 2
  refine List.map_congr_left fun k _ => ?_
  congr 1
  omega
theorem r_above [h : Has G i_l_above f_l_above] {xs : List Int} (hz : xs.length ≤ 100000) : run G (k + 1) i_l_above [tl .int xs] S = .ok (tl .int (rowI xs)) S := by
  refine pure_rt (h := h) (S' := []) rfl rfl (by simp [frzAs]) ?_ (frzR_scl scl_tl)
  simp [b_l_above, startE]
  refine x_forF (P := fun r => r = _) (ik := .rng3) (xs := List.range ((xs.length + 1) / 2)) (enc := fun (k : Nat) => D.int ((2 * k : Nat) : Int)) (a0 := ([] : List Int)) (t0 := (none : Option D)) (d := .tup [.int 0, .int xs.length, .int 2])
    (fun a t => [some (tl .int xs), some (tl .int a), t]) (fun _ => []) (fun a j => a ++ [if 2 * j + 1 < xs.length then jF (xs.getD (2 * j) 0) (xs.getD (2 * j + 1) 0) else xs.getD (2 * j) 0]) (fun i a => a.length ≤ i) ?_ ?_ (Nat.zero_le _) (fun i j a t hj hi => ?_) (fun t' hi => ?_)
  · simp
  · rw [srcL_rng3, toTup_tup, mkIt_rng3 (by omega)]
  · have hj' : i < (xs.length + 1) / 2 := by have := (List.getElem?_eq_some_iff.mp hj).1; simpa using this
    have ej : i = j := by
      have := hj
      rw [List.getElem?_range hj'] at this
      injection this
    subst ej
    have ad : ∀ v S, bop .add (tl .int a) (.tup [.int v]) S = some (tl .int (a ++ [v])) := fun v S => add_tl1 rfl (by unfold SZ; omega)
    have g0 : L2.atI xs ((2 * i : Nat) : Int) = some (xs.getD (2 * i) 0) := by
      rw [atI_nat, List.getD_eq_getElem?_getD, List.getElem?_eq_getElem (by omega)]; rfl
    refine ⟨some (.int ((2 * i : Nat) : Int)), ?_, by simp; omega⟩
    by_cases z : 2 * i + 1 < xs.length
    · have g1 : L2.atI xs (((2 * i : Nat) : Int) + 1) = some (xs.getD (2 * i + 1) 0) := by
        rw [show (((2 * i : Nat) : Int) + 1) = ((2 * i + 1 : Nat) : Int) by omega, atI_nat, List.getD_eq_getElem?_getD, List.getElem?_eq_getElem (by omega)]; rfl
      have z' : ((2 * i : Nat) : Int) + 1 < xs.length := by omega
      rw [if_pos z]
      generalize xs.getD (2 * i) 0 = u at *
      generalize xs.getD (2 * i + 1) 0 = v at *
      generalize ((2 * i : Nat) : Int) = q at *
      simp [turnB, z', g0, g1, ad, jF]
    · have z' : ¬ ((2 * i : Nat) : Int) + 1 < xs.length := by omega
      rw [if_neg z]
      generalize xs.getD (2 * i) 0 = u at *
      generalize ((2 * i : Nat) : Int) = q at *
      simp [turnB, z', g0, ad]
  · rw [foldP_snoc, List.nil_append]
    show exT G _ _ [some (tl .int xs), some (tl .int (rowI xs)), t'] [] = _
    simp
theorem rows_len : ∀ (n : Nat) (xs : List Int), xs.length ≤ n → (rows xs).length ≤ n + 1
  | 0, xs, h => by rw [rows_end (by omega)]; simp
  | n + 1, xs, h => by
    by_cases z : 1 < xs.length
    · have := rowI_len xs
      have := rows_len n (rowI xs) (by omega)
      rw [rows_step z, List.length_cons]
      omega
    · rw [rows_end z]; simp
theorem r_rows [h : Has G i_l_rows f_l_rows] [ha : Has G i_l_above f_l_above] {xs : List Int} (hz : xs.length ≤ 1000) : run G (k + 2) i_l_rows [tl .int xs] S = .ok (ll (tl .int) (rows xs)) S := by
  refine pure_rt (h := h) (S' := [.lst ((rows xs).map (tl .int))]) (d := .ref 0) rfl rfl (by simp [frzAs]) ?_ (by
    show (if scls ((rows xs).map (tl .int)) then some (D.lst ((rows xs).map (tl .int))) else none) = _
    rw [if_pos (scls_map (fun _ => scl_tl) _)]
    rfl)
  have ra : ∀ (r : List Int) S, r.length ≤ 100000 → run G (k + 1) i_l_above [tl .int r] S = .ok (tl .int (rowI r)) S := fun r S h => r_above h
  have rl := rows_len xs.length xs (Nat.le_refl _)
  have la : ∀ (pre : List (List Int)) (cur : List Int), getD_ (.ref 0) (.int (-1)) [.lst ((pre ++ [cur]).map (tl .int))] = some (tl .int cur) := fun pre cur => by
    show L2.atI ((pre ++ [cur]).map (tl D.int)) (-1) = _
    rw [atI_map, atI_last, List.getLast?_concat]
    rfl
  simp [b_l_rows, startE]
  refine x_whlS (P := fun r => r = _) (a0 := (([], xs) : List (List Int) × List Int)) (fun _ => [some (tl .int xs), some (.ref 0)]) (fun a => [.lst ((a.1 ++ [a.2]).map (tl .int))]) (fun a => a.1 ++ rows a.2 = rows xs ∧ a.2.length ≤ xs.length) (fun a => a.2.length) (fun a => decide (1 < a.2.length)) ⟨rfl, Nat.le_refl _⟩ ?_ ?_ (by simp only; omega) ?_
  · intro a _
    have l0 := la a.1 a.2
    generalize (a.1 ++ [a.2]).map (tl .int) = Z at *
    simp [negD, l0]
    omega
  · rintro ⟨pre, cur⟩ ⟨hr, hl⟩ hg
    simp only at hr hl hg ⊢
    have hg : 1 < cur.length := of_decide_eq_true hg
    have rl' := rowI_len cur
    have e := fun S => ra cur S (by omega)
    have l0 := la pre cur
    rw [rows_step hg] at hr
    have pl : pre.length ≤ 1001 := by
      have := congrArg List.length hr
      rw [List.length_append] at this
      omega
    have ap := fun y => ap0 (f := tl D.int) (xs := pre ++ [cur]) (y := y) (by rw [List.length_append]; simp; omega)
    refine ⟨(pre ++ [cur], rowI cur), ?_, ⟨by simpa using hr, by simp only; omega⟩, by simp only; omega⟩
    have em : (pre ++ [cur] ++ [rowI cur]).map (tl D.int) = (pre ++ [cur]).map (tl D.int) ++ [tl D.int (rowI cur)] := by rw [List.map_append]; rfl
    simp only
    rw [em]
    generalize (pre ++ [cur]).map (tl D.int) = Z at *
    simp [negD, l0, e, ap]
  · rintro ⟨pre, cur⟩ ⟨hr, hl⟩ hg
    simp only at hr hl hg ⊢
    have hg : ¬ 1 < cur.length := of_decide_eq_false hg
    rw [rows_end hg] at hr
    rw [hr]
    simp
end
end PL

set_option Elab.async false
set_option linter.all false
set_option maxRecDepth 100000
set_option maxHeartbeats 1000000
/-! PMJ: no other mark leads to the top. -/
namespace PL
open PySem
/-- 257's inverse -/
theorem inv_257 : ∃ i : Int, 257 * i % 2147483647 = 1 := ⟨16711935, by decide⟩
theorem mul_inj {a b : Int} (ha : 0 ≤ a ∧ a < 2147483647) (hb : 0 ≤ b ∧ b < 2147483647) (h : (257 * (a - b)) % 2147483647 = 0) : a = b := by
  obtain ⟨q, hq⟩ := Int.dvd_of_emod_eq_zero h
  have e : a - b = 2147483647 * (16711935 * q - 2 * (a - b)) := by
    have : 257 * 16711935 = 2147483647 * 2 + 1 := by decide
    have z : 16711935 * (257 * (a - b)) = 16711935 * (2147483647 * q) := by rw [hq]
    omega
  have : ∃ t : Int, a - b = 2147483647 * t := ⟨_, e⟩
  obtain ⟨t, ht⟩ := this
  omega
theorem j_left {a a' b : Int} (ha : 0 ≤ a ∧ a < 2147483647) (ha' : 0 ≤ a' ∧ a' < 2147483647) (h : jF a b = jF a' b) : a = a' := by
  refine mul_inj ha ha' ?_
  unfold jF at h
  omega
theorem j_right {a b b' : Int} (hb : 0 ≤ b ∧ b < 2147483647) (hb' : 0 ≤ b' ∧ b' < 2147483647) (h : jF a b = jF a b') : b = b' := by
  unfold jF at h
  omega
theorem j_range (a b : Int) : 0 ≤ jF a b ∧ jF a b < 2147483647 := ⟨Int.emod_nonneg _ (by decide), Int.emod_lt_of_pos _ (by decide)⟩
theorem rowI_get {xs : List Int} {k : Nat} (h : k < xs.length) : (rowI xs).getD (k / 2) 0 = if 2 * (k / 2) + 1 < xs.length then jF (xs.getD (2 * (k / 2)) 0) (xs.getD (2 * (k / 2) + 1) 0) else xs.getD (2 * (k / 2)) 0 := by
  rw [List.getD_eq_getElem?_getD]
  unfold rowI
  rw [List.getElem?_map, List.getElem?_range (by omega)]
  rfl
def Mk (xs : List Int) : Prop := ∀ x ∈ xs, 0 ≤ x ∧ x < 2147483647
theorem mk_get {xs : List Int} (h : Mk xs) {k : Nat} (hk : k < xs.length) : xs[k]? = some (xs.getD k 0) ∧ markD (.int (xs.getD k 0)) = some (xs.getD k 0) := by
  have e : xs[k]? = some (xs.getD k 0) := by rw [List.getD_eq_getElem?_getD, List.getElem?_eq_getElem hk]; rfl
  refine ⟨e, ?_⟩
  have := h _ (List.mem_of_getElem? e)
  show (if 0 ≤ xs.getD k 0 ∧ xs.getD k 0 < 2147483647 then some (xs.getD k 0) else none) = _
  rw [if_pos this]
theorem mk_row {xs : List Int} (h : Mk xs) : Mk (rowI xs) := by
  intro x hx
  obtain ⟨k, hk, rfl⟩ := List.mem_map.mp hx
  have := List.mem_range.mp hk
  split
  · exact ⟨Int.emod_nonneg _ (by decide), Int.emod_lt_of_pos _ (by decide)⟩
  · exact h _ (List.mem_of_getElem? (mk_get h (by omega)).1)
/-- the right paper leads to the top -/
theorem right_paper : ∀ (n : Nat) (xs : List Int), xs.length ≤ n → Mk xs → ∀ k, k < xs.length → ∃ t : Int, foldR shS ((paper xs k).map (opD .int)) ((xs.length : Int), (k : Int), xs.getD k 0) = .inl (1, t, topF xs)
  | 0, xs, h, _, k, hk => by omega
  | n + 1, xs, h, hm, k, hk => by
    by_cases z : 1 < xs.length
    · have rl := rowI_len xs
      obtain ⟨t, ht⟩ := right_paper n (rowI xs) (by omega) (mk_row hm) (k / 2) (by omega)
      rw [paper_step z, List.map_cons, foldR, topF_step z]
      refine ⟨t, ?_⟩
      rw [← ht]
      have e1 : ((xs.length : Int) + 1) / 2 = ((rowI xs).length : Int) := by omega
      have e2 : (k : Int) / 2 = ((k / 2 : Nat) : Int) := by omega
      have g := rowI_get hk
      have z0 : ¬ (xs.length : Int) < 2 := by omega
      by_cases o : k % 2 = 1
      · obtain ⟨a, b⟩ := mk_get hm (k := k - 1) (by omega)
        have m1 : ¬ (k : Int) % 2 = 0 := by omega
        rw [if_pos o, a]
        rw [if_pos (by omega), show 2 * (k / 2) = k - 1 by omega, show k - 1 + 1 = k by omega] at g
        have s : shS ((xs.length : Int), (k : Int), xs.getD k 0) (opD .int (some (xs.getD (k - 1) 0))) = .inl (((rowI xs).length : Int), ((k / 2 : Nat) : Int), (rowI xs).getD (k / 2) 0) := by
          show shS _ (.int (xs.getD (k - 1) 0)) = _
          simp only [shS, alone, b, isNonD_int, z0, m1, g, e1, e2, decide_false, Bool.and_false, ne_eq, not_true, or_false, if_false, false_or, Bool.false_eq_true]
        rw [s]
      · have m0 : (k : Int) % 2 = 0 := by omega
        rw [if_neg o]
        by_cases l : k + 1 < xs.length
        · obtain ⟨a, b⟩ := mk_get hm (k := k + 1) l
          rw [a]
          rw [if_pos (by omega), show 2 * (k / 2) = k by omega] at g
          have q : ¬ (k : Int) + 1 = xs.length := by omega
          have s : shS ((xs.length : Int), (k : Int), xs.getD k 0) (opD .int (some (xs.getD (k + 1) 0))) = .inl (((rowI xs).length : Int), ((k / 2 : Nat) : Int), (rowI xs).getD (k / 2) 0) := by
            show shS _ (.int (xs.getD (k + 1) 0)) = _
            simp only [shS, alone, b, isNonD_int, z0, m0, q, g, e1, e2, decide_false, decide_true, Bool.false_and, Bool.and_true, ne_eq, not_true, or_false, if_false, if_true, false_or, Bool.false_eq_true]
          rw [s]
        · rw [List.getElem?_eq_none (by omega)]
          rw [if_neg (by omega), show 2 * (k / 2) = k by omega] at g
          have q : (k : Int) + 1 = xs.length := by omega
          have s : shS ((xs.length : Int), (k : Int), xs.getD k 0) (opD .int none) = .inl (((rowI xs).length : Int), ((k / 2 : Nat) : Int), (rowI xs).getD (k / 2) 0) := by
            show shS _ .non = _
            simp only [shS, alone, isNonD_non, z0, m0, q, g, e1, e2, decide_true, Bool.and_self, ne_eq, not_true, or_false, if_false, if_true, false_or]
          rw [s]
    · have : k = 0 := by omega
      subst this
      have l1 : xs.length = 1 := by omega
      rw [paper_end z, topF_end z, l1]
      exact ⟨0, rfl⟩
theorem shows_right {xs : List Int} {k : Nat} (h : Mk xs) (hk : k < xs.length) : showsB (topF xs) xs.length k (.int (xs.getD k 0)) (tl (opD .int) (paper xs k)) = true := by
  obtain ⟨t, ht⟩ := right_paper xs.length xs (Nat.le_refl _) h k hk
  have m := (mk_get h hk).2
  have z : (0 : Int) ≤ k ∧ (k : Int) < xs.length := by omega
  unfold tl showsB
  simp only [z, and_self, if_true, m, ht, decide_true, Bool.and_self]
/-- unlike marks lead to unlike tops -/
theorem path_inj : ∀ (n : Nat) (xs : List Int), xs.length ≤ n → Mk xs → ∀ k, k < xs.length → ∃ F : Int → Int, (∀ w, 0 ≤ w ∧ w < 2147483647 → ∃ t : Int, foldR shS ((paper xs k).map (opD .int)) ((xs.length : Int), (k : Int), w) = .inl (1, t, F w)) ∧ ∀ w w', 0 ≤ w ∧ w < 2147483647 → 0 ≤ w' ∧ w' < 2147483647 → F w = F w' → w = w'
  | 0, xs, h, _, k, hk => by omega
  | n + 1, xs, h, hm, k, hk => by
    by_cases z : 1 < xs.length
    · have rl := rowI_len xs
      obtain ⟨F, hF, hI⟩ := path_inj n (rowI xs) (by omega) (mk_row hm) (k / 2) (by omega)
      have e1 : ((xs.length : Int) + 1) / 2 = ((rowI xs).length : Int) := by omega
      have e2 : (k : Int) / 2 = ((k / 2 : Nat) : Int) := by omega
      have z0 : ¬ (xs.length : Int) < 2 := by omega
      rw [paper_step z, List.map_cons]
      by_cases o : k % 2 = 1
      · obtain ⟨a, b⟩ := mk_get hm (k := k - 1) (by omega)
        have m1 : ¬ (k : Int) % 2 = 0 := by omega
        rw [if_pos o, a]
        refine ⟨fun w => F (jF (xs.getD (k - 1) 0) w), fun w hw => ?_, fun w w' hw hw' e => j_right hw hw' (hI _ _ (j_range _ _) (j_range _ _) e)⟩
        obtain ⟨t, ht⟩ := hF (jF (xs.getD (k - 1) 0) w) (j_range _ _)
        refine ⟨t, ?_⟩
        have s : shS ((xs.length : Int), (k : Int), w) (opD .int (some (xs.getD (k - 1) 0))) = .inl (((rowI xs).length : Int), ((k / 2 : Nat) : Int), jF (xs.getD (k - 1) 0) w) := by
          show shS _ (.int (xs.getD (k - 1) 0)) = _
          simp only [shS, alone, b, isNonD_int, z0, m1, e1, e2, decide_false, Bool.and_false, ne_eq, not_true, or_false, if_false, false_or, Bool.false_eq_true]
        rw [foldR, s]
        exact ht
      · have m0 : (k : Int) % 2 = 0 := by omega
        rw [if_neg o]
        by_cases l : k + 1 < xs.length
        · obtain ⟨a, b⟩ := mk_get hm (k := k + 1) l
          rw [a]
          have q : ¬ (k : Int) + 1 = xs.length := by omega
          refine ⟨fun w => F (jF w (xs.getD (k + 1) 0)), fun w hw => ?_, fun w w' hw hw' e => j_left hw hw' (hI _ _ (j_range _ _) (j_range _ _) e)⟩
          obtain ⟨t, ht⟩ := hF (jF w (xs.getD (k + 1) 0)) (j_range _ _)
          refine ⟨t, ?_⟩
          have s : shS ((xs.length : Int), (k : Int), w) (opD .int (some (xs.getD (k + 1) 0))) = .inl (((rowI xs).length : Int), ((k / 2 : Nat) : Int), jF w (xs.getD (k + 1) 0)) := by
            show shS _ (.int (xs.getD (k + 1) 0)) = _
            simp only [shS, alone, b, isNonD_int, z0, m0, q, e1, e2, decide_false, decide_true, Bool.false_and, Bool.and_true, ne_eq, not_true, or_false, if_false, if_true, false_or, Bool.false_eq_true]
          rw [foldR, s]
          exact ht
        · rw [List.getElem?_eq_none (by omega)]
          have q : (k : Int) + 1 = xs.length := by omega
          refine ⟨F, fun w hw => ?_, hI⟩
          obtain ⟨t, ht⟩ := hF w hw
          refine ⟨t, ?_⟩
          have s : shS ((xs.length : Int), (k : Int), w) (opD .int none) = .inl (((rowI xs).length : Int), ((k / 2 : Nat) : Int), w) := by
            show shS _ .non = _
            simp only [shS, alone, isNonD_non, z0, m0, q, e1, e2, decide_true, Bool.and_self, ne_eq, not_true, or_false, if_false, if_true, false_or]
          rw [foldR, s]
          exact ht
    · have : k = 0 := by omega
      subst this
      have l1 : xs.length = 1 := by omega
      rw [paper_end z, l1]
      exact ⟨fun w => w, fun w _ => ⟨0, rfl⟩, fun _ _ _ _ e => e⟩
/-- no other mark is shown by the right paper -/
theorem shows_only {xs : List Int} {k : Nat} (h : Mk xs) (hk : k < xs.length) {w : Int} (hw : 0 ≤ w ∧ w < 2147483647) : showsB (topF xs) xs.length k (.int w) (tl (opD .int) (paper xs k)) = decide (w = xs.getD k 0) := by
  obtain ⟨t, ht⟩ := right_paper xs.length xs (Nat.le_refl _) h k hk
  obtain ⟨F, hF, hI⟩ := path_inj xs.length xs (Nat.le_refl _) h k hk
  have hv : 0 ≤ xs.getD k 0 ∧ xs.getD k 0 < 2147483647 := h _ (List.mem_of_getElem? (mk_get h hk).1)
  obtain ⟨t1, h1⟩ := hF w hw
  obtain ⟨t2, h2⟩ := hF _ hv
  rw [ht] at h2
  have e : topF xs = F (xs.getD k 0) := by
    injection h2 with h2
    injection h2 with _ h2
    injection h2
  have m : markD (.int w) = some w := by
    show (if 0 ≤ w ∧ w < 2147483647 then some w else none) = _
    rw [if_pos hw]
  have z : (0 : Int) ≤ k ∧ (k : Int) < xs.length := by omega
  unfold tl showsB
  simp only [z, and_self, if_true, m, h1, decide_true, Bool.true_and, e]
  by_cases q : w = xs.getD k 0
  · rw [q]; simp
  · have : ¬ F w = F (xs.getD k 0) := fun e => q (hI _ _ hw hv e)
    rw [decide_eq_false this, decide_eq_false q]
end PL

set_option Elab.async false
set_option linter.all false
set_option maxRecDepth 100000
set_option maxHeartbeats 1000000
/-! PMK: the laws' own checker of papers. -/
namespace PL
open PySem
abbrev i_l_shows : Nat := 92
/-- l_shows: _root 0 _many 1 _k 2 _mark 3 _paper 4 _left 5 _beside 6 -/
def b_l_shows : T := (.ifs (.or (.nt (.val (.isa (.var 4) 3))) (.or (.nt (.val (.isa (.var 3) 0))) (.one (.val (.isa (.var 3) 1)))))
  (.ret (.con (.bl false)))
  .nil
  (.ifs (.or (.nt (.chain .le .lt (.con (.int 0)) (.var 3) (.con (.int 2147483647)))) (.or (.cmp .lt (.var 2) (.con (.int 0))) (.one (.cmp .ge (.var 2) (.var 1)))))
  (.ret (.con (.bl false)))
  .nil
  (.asg 5 (.var 1)
  (.for_ .plain (.var 4) (.one 6)
  (.ifs (.cmp .eq (.var 5) (.con (.int 1)))
  (.ret (.con (.bl false)))
  .nil
  (.ifs (.and (.cmp .eq (.var 2) (.bin .sub (.var 5) (.con (.int 1)))) (.one (.cmp .ne (.bin .mul (.bin .fdiv (.var 5) (.con (.int 2))) (.con (.int 2))) (.var 5))))
  (.ifs (.ntn (.var 6))
  (.ret (.con (.bl false)))
  .nil
  .nil)
  (.ifs (.or (.nt (.val (.isa (.var 6) 0))) (.or (.val (.isa (.var 6) 1)) (.one (.nt (.chain .le .lt (.con (.int 0)) (.var 6) (.con (.int 2147483647)))))))
  (.ret (.con (.bl false)))
  .nil
  (.ifs (.cmp .eq (.bin .mul (.bin .fdiv (.var 2) (.con (.int 2))) (.con (.int 2))) (.var 2))
  (.asg 3 (.bin .mod (.bin .add (.bin .add (.bin .mul (.var 3) (.con (.int 257))) (.var 6)) (.con (.int 1))) (.con (.int 2147483647)))
  .nil)
  (.asg 3 (.bin .mod (.bin .add (.bin .add (.bin .mul (.var 6) (.con (.int 257))) (.var 3)) (.con (.int 1))) (.con (.int 2147483647)))
  .nil)
  .nil))
  (.asg 5 (.bin .fdiv (.bin .add (.var 5) (.con (.int 1))) (.con (.int 2)))
  (.asg 2 (.bin .fdiv (.var 2) (.con (.int 2)))
  .nil))))
  (.ret (.and (.cmp .eq (.var 5) (.con (.int 1))) (.one (.cmp .eq (.var 3) (.var 0)))))))))
def f_l_shows : Fn := ⟨true, 5, 7, b_l_shows⟩
section
variable {G : Tab} {k : Nat} {S : Store}
/-- its loop's body -/
def lsB : T := match b_l_shows with
  | .ifs _ _ _ (.ifs _ _ _ (.asg _ _ (.for_ _ _ _ b _))) => b
  | _ => .nil
theorem ls_turn {call : Calls} {d0 d1 d4 t6 : Option D} {a : LAN} {b : D} (hb : noRef b = true) (h0 : 0 ≤ a.2.1) (h1 : a.2.1 < a.1) : match shS a b with
    | .inl a' => ∃ t', turnB G call lsB (.one 6) b [d0, d1, some (.int a.2.1), some (.int a.2.2), d4, some (.int a.1), t6] [] = .nx [d0, d1, some (.int a'.2.1), some (.int a'.2.2), d4, some (.int a'.1), t'] [] ∧ 0 ≤ a'.2.1 ∧ a'.2.1 < a'.1
    | .inr _ => turnB G call lsB (.one 6) b [d0, d1, some (.int a.2.1), some (.int a.2.2), d4, some (.int a.1), t6] [] = .rt (.bl false) [] := by
  obtain ⟨l, n, w⟩ := a
  simp only at h0 h1
  unfold shS
  simp only
  by_cases z : l < 2
  · rw [if_pos (.inl z)]
    have : l = 1 := by omega
    subst this
    simp [turnB, lsB, b_l_shows]
  · have z1 : ¬ l = 1 := by omega
    have nx : 0 ≤ n / 2 ∧ n / 2 < (l + 1) / 2 := by omega
    have oth : alone (l, n, w) = false → ∀ d : D, noRef d = true → match (if l < 2 ∨ isNonD d ≠ alone (l, n, w) then (.inr () : LAN ⊕ Unit) else if isNonD d = true then .inl ((l + 1) / 2, n / 2, w) else match markD d with
            | some v => .inl ((l + 1) / 2, n / 2, if n % 2 = 0 then jF w v else jF v w)
            | none => .inr ()) with
          | .inl a' => ∃ t', turnB G call lsB (.one 6) d [d0, d1, some (.int n), some (.int w), d4, some (.int l), t6] [] = .nx [d0, d1, some (.int a'.2.1), some (.int a'.2.2), d4, some (.int a'.1), t'] [] ∧ 0 ≤ a'.2.1 ∧ a'.2.1 < a'.1
          | .inr _ => turnB G call lsB (.one 6) d [d0, d1, some (.int n), some (.int w), d4, some (.int l), t6] [] = .rt (.bl false) [] := by
      intro al d hd
      rw [al]
      have cc : (n = l - 1 ∧ l / 2 * 2 = l) ∨ ¬ n = l - 1 := by
        by_cases c : n = l - 1
        · refine .inl ⟨c, ?_⟩
          have : ¬ (n + 1 = l ∧ n % 2 = 0) := fun h => by
            simp [alone, h.1, h.2] at al
          omega
        · exact .inr c
      have no : isaD 0 d = false ∨ isaD 1 d = true → notIns d [] = true → turnB G call lsB (.one 6) d [d0, d1, some (.int n), some (.int w), d4, some (.int l), t6] [] = .rt (.bl false) [] := by
        intro h1 h2
        rcases cc with ⟨c, c'⟩ | c
        · rcases h1 with h1 | h1
          · simp [turnB, lsB, b_l_shows, z1, ← c, c', h1, h2]
          · cases h0 : isaD 0 d <;> simp [turnB, lsB, b_l_shows, z1, ← c, c', h0, h1, h2]
        · rcases h1 with h1 | h1
          · simp [turnB, lsB, b_l_shows, z1, c, h1, h2]
          · cases h0 : isaD 0 d <;> simp [turnB, lsB, b_l_shows, z1, c, h0, h1, h2]
      cases d with
      | non => rw [if_pos (.inr (by simp))]; exact no (.inl (by simp)) rfl
      | bl b => rw [if_neg (by simp [z]), if_neg (by simp)]; exact no (.inr (by simp)) rfl
      | str x => rw [if_neg (by simp [z]), if_neg (by simp)]; exact no (.inl (by simp)) rfl
      | tup xs => rw [if_neg (by simp [z]), if_neg (by simp)]; exact no (.inl (by simp)) rfl
      | lst xs => rw [if_neg (by simp [z, isNonD]), if_neg (by simp [isNonD])]; exact no (.inl (by simp)) rfl
      | dct xs => rw [if_neg (by simp [z, isNonD]), if_neg (by simp [isNonD])]; exact no (.inl (by simp)) rfl
      | scr xs => rw [if_neg (by simp [z, isNonD]), if_neg (by simp [isNonD])]; exact no (.inl (by simp)) rfl
      | ref m => cases hd
      | int i =>
        rw [if_neg (by simp [z]), if_neg (by simp)]
        by_cases y0 : 0 ≤ i
        · by_cases y1 : i < 2147483647
          · have m : markD (.int i) = some i := by
              show (if 0 ≤ i ∧ i < 2147483647 then some i else none) = _
              rw [if_pos ⟨y0, y1⟩]
            rw [m]
            simp only
            by_cases e : n % 2 = 0
            · have e' : n / 2 * 2 = n := by omega
              rw [if_pos e]
              refine ⟨some (.int i), ?_, nx⟩
              rcases cc with ⟨c, c'⟩ | c
              · simp [turnB, lsB, b_l_shows, z1, ← c, c', y0, y1, e', jF]
              · simp [turnB, lsB, b_l_shows, z1, c, y0, y1, e', jF]
            · have e' : ¬ n / 2 * 2 = n := by omega
              rw [if_neg e]
              refine ⟨some (.int i), ?_, nx⟩
              rcases cc with ⟨c, c'⟩ | c
              · simp [turnB, lsB, b_l_shows, z1, ← c, c', y0, y1, e', jF]
              · simp [turnB, lsB, b_l_shows, z1, c, y0, y1, e', jF]
          · have m : markD (.int i) = none := by
              show (if 0 ≤ i ∧ i < 2147483647 then some i else none) = _
              rw [if_neg (by omega)]
            rw [m]
            simp only
            rcases cc with ⟨c, c'⟩ | c
            · simp [turnB, lsB, b_l_shows, z1, ← c, c', y0, y1]
            · simp [turnB, lsB, b_l_shows, z1, c, y0, y1]
        · have m : markD (.int i) = none := by
            show (if 0 ≤ i ∧ i < 2147483647 then some i else none) = _
            rw [if_neg (by omega)]
          rw [m]
          simp only
          rcases cc with ⟨c, c'⟩ | c
          · simp [turnB, lsB, b_l_shows, z1, ← c, c', y0]
          · simp [turnB, lsB, b_l_shows, z1, c, y0]
    cases al : alone (l, n, w) with
    | false =>
      have := oth al b hb
      rwa [al] at this
    | true =>
      have c1 : n = l - 1 := by simp [alone] at al; omega
      have c3 : ¬ l / 2 * 2 = l := by simp [alone] at al; omega
      cases hq : isNonD b with
      | true =>
        rw [if_neg (by simp [z]), if_pos rfl]
        refine ⟨some b, ?_, nx⟩
        simp [turnB, lsB, b_l_shows, z1, ← c1, c3, hq]
      | false =>
        rw [if_pos (.inr (by simp))]
        simp [turnB, lsB, b_l_shows, z1, ← c1, c3, hq]
theorem r_l_shows [h : Has G i_l_shows f_l_shows] {root many n : Int} {mark paper : D} (hk : noRef mark = true) (hp : noRef paper = true) :
    run G (k + 1) i_l_shows [.int root, .int many, .int n, mark, paper] S = .ok (.bl (showsB root many n mark paper)) S := by
  refine pure_rt (h := h) (S' := []) rfl rfl (by simp only [frzAs, frzA_noRef hk, frzA_noRef hp, frzA_int']) ?_ (frzR_scl rfl)
  have oth : isaD 3 paper = false → notIns paper [] = true → showsB root many n mark paper = false → exT G (run G k) b_l_shows (startE 7 [.int root, .int many, .int n, mark, paper]) [] = .rt (.bl (showsB root many n mark paper)) [] := fun h1 h2 h3 => by
    simp [b_l_shows, startE, h1, h2, h3]
  cases paper with
  | int i => exact oth (by simp) rfl rfl
  | bl b => exact oth (by simp) rfl rfl
  | non => exact oth (by simp) rfl rfl
  | str x => exact oth (by simp) rfl rfl
  | lst xs => exact oth (by simp) rfl rfl
  | dct xs => exact oth (by simp) rfl rfl
  | scr xs => exact oth (by simp) rfl rfl
  | ref n => cases hp
  | tup ps =>
    have no : markD mark = none → showsB root many n mark (.tup ps) = false := fun h => by
      unfold showsB
      simp only [h]
      split <;> rfl
    have nom : (isaD 0 mark = false ∨ isaD 1 mark = true) → notIns mark [] = true → markD mark = none → exT G (run G k) b_l_shows (startE 7 [.int root, .int many, .int n, mark, .tup ps]) [] = .rt (.bl (showsB root many n mark (.tup ps))) [] := fun h1 h2 h3 => by
      rw [no h3]
      rcases h1 with h1 | h1
      · simp [b_l_shows, startE, h1, h2]
      · cases h0 : isaD 0 mark <;> simp [b_l_shows, startE, h0, h1, h2]
    cases mark with
    | bl b => exact nom (.inr (by simp)) rfl rfl
    | non => exact nom (.inl (by simp)) rfl rfl
    | str x => exact nom (.inl (by simp)) rfl rfl
    | tup xs => exact nom (.inl (by simp)) rfl rfl
    | lst xs => exact nom (.inl (by simp)) rfl rfl
    | dct xs => exact nom (.inl (by simp)) rfl rfl
    | scr xs => exact nom (.inl (by simp)) rfl rfl
    | ref n => cases hk
    | int i =>
      by_cases y0 : 0 ≤ i
      · by_cases y1 : i < 2147483647
        · have m : markD (.int i) = some i := by
            show (if 0 ≤ i ∧ i < 2147483647 then some i else none) = _
            rw [if_pos ⟨y0, y1⟩]
          by_cases z : 0 ≤ n
          · by_cases y : n < many
            · have e : showsB root many n (.int i) (.tup ps) = match foldR shS ps (many, n, i) with
                | .inl a => decide (a.1 = 1) && decide (a.2.2 = root)
                | .inr _ => false := by
                simp [showsB, z, y, m]
                all_goals (cases foldR shS ps (many, n, i) <;> rfl)
              rw [e]
              have z' : ¬ n < 0 := by omega
              have y' : ¬ many ≤ n := by omega
              simp [b_l_shows, startE, y0, y1, z', y']
              refine x_forR (P := fun r => r = _) (ik := .plain) (xs := ps) (enc := fun d => d) (a0 := ((many, n, i) : LAN)) (t0 := (none : Option D)) (d := .tup ps)
                (fun a t => [some (.int root), some (.int many), some (.int a.2.1), some (.int a.2.2), some (.tup ps), some (.int a.1), t]) (fun _ => []) shS (fun _ => .rt (.bl false) []) (fun _ _ => rfl) (fun _ a => 0 ≤ a.2.1 ∧ a.2.1 < a.1) ?_ (by simp) ⟨z, y⟩ (fun j b a t hb hi => ?_) ?_
              · simp
              · have := ls_turn (G := G) (call := run G k) (d0 := some (.int root)) (d1 := some (.int many)) (d4 := some (.tup ps)) (t6 := t) (a := a) (noRefs_el hp b (List.mem_of_getElem? hb)) hi.1 hi.2
                revert this
                cases shS a b with
                | inl l => exact fun ⟨t', e, q⟩ => ⟨t', e, q⟩
                | inr _ => exact fun e => e
              · cases foldR shS ps (many, n, i) with
                | inr _ => rfl
                | inl a =>
                  simp only
                  intro t' _
                  by_cases q : a.1 = 1
                  · simp [q]
                  · simp [q]
            · have e : showsB root many n (.int i) (.tup ps) = false := by simp [showsB, y]
              have z' : ¬ n < 0 := by omega
              have y' : many ≤ n := by omega
              simp [b_l_shows, startE, y0, y1, z', y', e]
          · have e : showsB root many n (.int i) (.tup ps) = false := by simp [showsB, z]
            have z' : n < 0 := by omega
            simp [b_l_shows, startE, y0, y1, z', e]
        · have e := no (show (if 0 ≤ i ∧ i < 2147483647 then some i else none) = none by rw [if_neg (by omega)])
          simp [b_l_shows, startE, y0, y1, e]
      · have e := no (show (if 0 ≤ i ∧ i < 2147483647 then some i else none) = none by rw [if_neg (by omega)])
        simp [b_l_shows, startE, y0, e]
end
end PL

set_option Elab.async false
set_option linter.all false
set_option maxRecDepth 100000
set_option maxHeartbeats 1000000
/-! PML: sayings of runs: loops by an invariant of env and store. -/
namespace PL
open PySem
def Sat (P : RS → Prop) (r : RS) : Prop := P r
/-- goes on with Q, or else P -/
def NX (P : RS → Prop) (Q : Env → Store → Prop) : RS → Prop
  | .nx e S => Q e S
  | r => P r
/-- a pure def's end -/
def FinP (S : Store) (o : R D) : RS → Prop := fun r => fin S r = o
def finI : RS → R D
  | .nx _ S => .ok .non S
  | .rt d S => .ok d S
  | .ex c _ S => .ex c S
  | .bad => .bad
def FinI (o : R D) : RS → Prop := fun r => finI r = o
section
variable {P : RS → Prop} {Q : Env → Store → Prop} {S S' : Store} {e : Env} {d : D} {c : Nat} {o : R D}
@[simp] theorem sat_nx : Sat (NX P Q) (.nx e S) ↔ Q e S := Iff.rfl
@[simp] theorem sat_rt : Sat (NX P Q) (.rt d S) ↔ Sat P (.rt d S) := Iff.rfl
@[simp] theorem sat_ex : Sat (NX P Q) (.ex c e S) ↔ Sat P (.ex c e S) := Iff.rfl
@[simp] theorem sat_finP_rt : Sat (FinP S o) (.rt d S') ↔ R.of (frzR S' d) S = o := Iff.rfl
@[simp] theorem sat_finP_nx : Sat (FinP S o) (.nx e S') ↔ R.ok .non S = o := Iff.rfl
@[simp] theorem sat_finP_ex : Sat (FinP S o) (.ex c e S') ↔ R.ex c S = o := Iff.rfl
@[simp] theorem sat_finI_rt : Sat (FinI o) (.rt d S') ↔ R.ok d S' = o := Iff.rfl
@[simp] theorem sat_finI_nx : Sat (FinI o) (.nx e S') ↔ R.ok .non S' = o := Iff.rfl
@[simp] theorem sat_finI_ex : Sat (FinI o) (.ex c e S') ↔ R.ex c S' = o := Iff.rfl
end
@[simp] theorem frzR_scl' {S : Store} {d : D} (h : scl d = true) : frzR S d = some d := frzR_scl h
@[simp] theorem frzR_tl {α : Type} {f : α → D} {xs : List α} {S : Store} [o : Okf f] : frzR S (tl f xs) = some (tl f xs) := frzR_scl scl_tl
@[simp] theorem frzR_int {S : Store} {i : Int} : frzR S (.int i) = some (.int i) := rfl
@[simp] theorem frzR_bl {S : Store} {i : Bool} : frzR S (.bl i) = some (.bl i) := rfl
@[simp] theorem frzR_str {S : Store} {i : Str} : frzR S (.str i) = some (.str i) := rfl
@[simp] theorem frzR_non {S : Store} : frzR S .non = some .non := rfl
@[simp] theorem frzR_ref {S : Store} {α : Type} {f : α → D} {xs : List α} [o : Okf f] : frzR (.lst (xs.map f) :: S) (.ref 0) = some (ll f xs) := by
  show (if scls (xs.map f) then some (D.lst (xs.map f)) else none) = _
  rw [if_pos (scls_map o.sc xs)]
  rfl
@[simp] theorem bindT2 {a b : Nat} {x y : D} {env : Env} : bindT (.many [a, b]) (.tup [x, y]) env = some ((env.set a (some x)).set b (some y)) := rfl
@[simp] theorem bindT3 {a b c : Nat} {x y z : D} {env : Env} : bindT (.many [a, b, c]) (.tup [x, y, z]) env = some (((env.set a (some x)).set b (some y)).set c (some z)) := rfl
@[simp] theorem bindT4 {a b c d : Nat} {x y z w : D} {env : Env} : bindT (.many [a, b, c, d]) (.tup [x, y, z, w]) env = some ((((env.set a (some x)).set b (some y)).set c (some z)).set d (some w)) := rfl
section
variable {G : Tab} {call : Calls} {env : Env} {S : Store}
theorem pure_W {i k np nl : Nat} {b : T} {as as' : List D} {o : R D} {F : Fn} [h : Has G i F] (hF : F = ⟨true, np, nl, b⟩) (hl : as.length = np) (hf : frzAs S as = some as') (he : Sat (FinP S o) (exT G (run G k) b (startE nl as') [])) :
    run G (k + 1) i as S = o := by
  rw [run_pure (hF ▸ h.h) hl hf]
  exact he
theorem imp_W {i k np nl : Nat} {b : T} {as : List D} {o : R D} {F : Fn} [h : Has G i F] (hF : F = ⟨false, np, nl, b⟩) (hl : as.length = np) (he : Sat (FinI o) (exT G (run G k) b (startE nl as) S)) :
    run G (k + 1) i as S = o := by
  have hg : G.fns i = some ⟨false, np, nl, b⟩ := hF ▸ h.h
  have : run G (k + 1) i as S = finI (exT G (run G k) b (startE nl as) S) := by
    simp only [run, hg]
    rw [if_neg (by simpa using hl)]
    simp only [Bool.false_eq_true, if_false]
    cases exT G (run G k) b (startE nl as) S <;> rfl
  rw [this]
  exact he
theorem goFor_W {β : Type} {P : RS → Prop} {body : D → Env → Store → RS} {enc : β → D} {f : Env → Store → RS} {I : Nat → Env → Store → Prop} {n : Nat} :
    ∀ (xs : List β) (i : Nat) (env : Env) (S : Store), I i env S → (∀ j x env S, xs[j]? = some x → I (i + j) env S → Sat (NX P (I (i + j + 1))) (body (enc x) env S)) →
    i + xs.length = n → (∀ env S, I n env S → Sat P (f env S)) → Sat P ((goFor body (xs.map enc) env S).andThen f)
  | [], i, env, S, h0, _, hn, hk => by
    subst hn
    exact hk env S h0
  | x :: xs, i, env, S, h0, h, hn, hk => by
    have h1 := h 0 x env S rfl h0
    simp only [List.map_cons, goFor]
    cases e : body (enc x) env S with
    | nx env' S' =>
      rw [e] at h1
      simp only [RS.andThen_nx]
      refine goFor_W xs (i + 1) env' S' h1 (fun j y b u hj hi => ?_) (by rw [← hn, List.length_cons]; omega) hk
      have q := h (j + 1) y b u (by simpa using hj) (by rw [show i + (j + 1) = i + 1 + j by omega]; exact hi)
      rw [show i + (j + 1) + 1 = i + 1 + j + 1 by omega] at q
      exact q
    | rt d S' => rw [e] at h1; exact h1
    | ex c e' S' => rw [e] at h1; exact h1
    | bad => rw [e] at h1; exact h1
/-- a for, by an invariant of env and store -/
theorem x_forWS {β : Type} {P : RS → Prop} {ik : IK} {src : E} {b k : T} {tg : Tg} (I : Nat → Env → Store → Prop) {enc : β → D} {xs : List β} {d : D} {S' : Store}
    (hs : ev G call src env S = .ok d S') (hi : mkIt ik (srcL ik d) S' = some (.items (xs.map enc))) (h0 : I 0 env S')
    (h : ∀ j x env S, xs[j]? = some x → I j env S → Sat (NX P (I (j + 1))) (turnB G call b tg (enc x) env S))
    (hk : ∀ env S, I xs.length env S → Sat P (exT G call k env S)) : Sat P (exT G call (.for_ ik src tg b k) env S) := by
  rw [x_for_eq, hs]
  simp only [R.stm_ok, hi, goForI]
  refine goFor_W xs 0 env S' h0 (fun j x env S hj hI => ?_) (Nat.zero_add _) hk
  rw [Nat.zero_add] at hI ⊢
  exact h j x env S hj hI
/-- a for over a list in the store that stays as it is -/
theorem x_forWVS {β : Type} {P : RS → Prop} {src : E} {b k : T} {tg : Tg} (I : Nat → Env → Store → Prop) {enc : β → D} {xs : List β} {n : Nat} {S' : Store}
    (hs : ev G call src env S = .ok (.ref n) S') (hi : ∀ j env S, I j env S → S[n]? = some (.lst (xs.map enc))) (h0 : I 0 env S') (hn : xs.length ≤ 1000000)
    (h : ∀ j x env S, xs[j]? = some x → I j env S → Sat (NX P (I (j + 1))) (turnB G call b tg (enc x) env S))
    (hk : ∀ env S, I xs.length env S → Sat P (exT G call k env S)) : Sat P (exT G call (.for_ .plain src tg b k) env S) := by
  have key : ∀ (m i : Nat) (env : Env) (S : Store) (f : Nat), xs.length = i + m → m < f → I i env S →
      Sat P ((goForL n false (turnB G call b tg) f i env S).andThen fun env S => exT G call k env S) := by
    intro m
    induction m with
    | zero =>
      intro i env S f hl hf hI
      obtain ⟨f, rfl⟩ : ∃ g, f = g + 1 := ⟨f - 1, by omega⟩
      have e : itemAt S n false i = some none := by
        unfold itemAt
        rw [hi i env S hI]
        simp only [List.getElem?_map]
        rw [List.getElem?_eq_none (by omega)]
        rfl
      simp only [goForL, e, RS.andThen_nx]
      refine hk env S ?_
      rw [show xs.length = i by omega]
      exact hI
    | succ m ih =>
      intro i env S f hl hf hI
      obtain ⟨f, rfl⟩ : ∃ g, f = g + 1 := ⟨f - 1, by omega⟩
      have hlt : i < xs.length := by omega
      have hx : xs[i]? = some xs[i] := List.getElem?_eq_getElem hlt
      have e : itemAt S n false i = some (some (enc xs[i])) := by
        unfold itemAt
        rw [hi i env S hI]
        simp only [List.getElem?_map, hx]
        rfl
      have h1 := h i xs[i] env S hx hI
      simp only [goForL, e]
      cases eb : turnB G call b tg (enc xs[i]) env S with
      | nx env' S' =>
        rw [eb] at h1
        simp only [RS.andThen_nx]
        exact ih (i + 1) env' S' f (by omega) (by omega) h1
      | rt d S' => rw [eb] at h1; exact h1
      | ex c e' S' => rw [eb] at h1; exact h1
      | bad => rw [eb] at h1; exact h1
  have em : mkIt .plain [.ref n] S' = some (.live n false) := by
    show (match S'[n]? with
      | some (.lst _) => some (PL.Itr.live n false)
      | _ => none) = _
    rw [hi 0 env S' h0]
  rw [x_for_eq, hs]
  simp only [R.stm_ok, srcL_plain, em, goForI, Bool.false_eq_true, if_false]
  exact key xs.length 0 env S' LOOP (by omega) (by rw [LOOP_eq]; omega) h0
theorem x_forW {β : Type} {P : RS → Prop} {ik : IK} {src : E} {b k : T} {tg : Tg} (I : Nat → Env → Store → Prop) {enc : β → D} {xs : List β} {d : D}
    (hs : ev G call src env S = .ok d S) (hi : mkIt ik (srcL ik d) S = some (.items (xs.map enc))) (h0 : I 0 env S)
    (h : ∀ j x env S, xs[j]? = some x → I j env S → Sat (NX P (I (j + 1))) (turnB G call b tg (enc x) env S))
    (hk : ∀ env S, I xs.length env S → Sat P (exT G call k env S)) : Sat P (exT G call (.for_ ik src tg b k) env S) := x_forWS I hs hi h0 h hk
theorem x_forWV {β : Type} {P : RS → Prop} {src : E} {b k : T} {tg : Tg} (I : Nat → Env → Store → Prop) {enc : β → D} {xs : List β} {n : Nat}
    (hs : ev G call src env S = .ok (.ref n) S) (hi : ∀ j env S, I j env S → S[n]? = some (.lst (xs.map enc))) (h0 : I 0 env S) (hn : xs.length ≤ 1000000)
    (h : ∀ j x env S, xs[j]? = some x → I j env S → Sat (NX P (I (j + 1))) (turnB G call b tg (enc x) env S))
    (hk : ∀ env S, I xs.length env S → Sat P (exT G call k env S)) : Sat P (exT G call (.for_ .plain src tg b k) env S) := x_forWVS I hs hi h0 hn h hk
/-- a while: the measure falls -/
theorem x_whlW {P : RS → Prop} {c : E} {b k : T} (I : Nat → Env → Store → Prop) {m0 : Nat} (h0 : I m0 env S) (hm : m0 < 1000000000)
    (h : ∀ m env S, I m env S → ∃ t S', mapT (ev G call c env S) = .ok t S' ∧ (if t then Sat (NX P (fun e s => ∃ m', m' < m ∧ I m' e s)) (exT G call b env S') else Sat P (exT G call k env S'))) :
    Sat P (exT G call (.whl c b k) env S) := by
  have key : ∀ (n m : Nat) (env : Env) (S : Store), I m env S → m < n → Sat P ((goWhl (fun env S => mapT (ev G call c env S)) (fun env S => exT G call b env S) n env S).andThen fun env S => exT G call k env S) := by
    intro n
    induction n with
    | zero => intro m env S _ h; omega
    | succ n ih =>
      intro m env S hI hl
      obtain ⟨t, S', e, q⟩ := h m env S hI
      simp only [goWhl, e, R.stm_ok]
      cases t with
      | false => simpa using q
      | true =>
        simp only [if_true] at q ⊢
        cases eb : exT G call b env S' with
        | nx env' S'' =>
          rw [eb] at q
          obtain ⟨m', hm', hI'⟩ := q
          simp only [RS.andThen_nx]
          exact ih m' env' S'' hI' (by omega)
        | rt d S' => rw [eb] at q; exact q
        | ex c e' S' => rw [eb] at q; exact q
        | bad => rw [eb] at q; exact q
  show Sat P ((goWhl _ _ LOOP env S).andThen _)
  exact key LOOP m0 env S h0 (by rw [LOOP_eq]; exact hm)
/-- as a turn of a loop within a loop -/
theorem sat_mono {P : RS → Prop} {Q Q' : Env → Store → Prop} {r : RS} (h : Sat (NX P Q) r) (hq : ∀ e S, Q e S → Q' e S) : Sat (NX P Q') r := by
  cases r with
  | nx e S => exact hq e S h
  | _ => exact h
end
/-- a list, as its items -/
theorem enum_of {α : Type} {xs : List α} {j : Nat} {p : Nat × α} (h : ((List.range xs.length).zip xs)[j]? = some p) : p.1 = j ∧ xs[j]? = some p.2 := by
  obtain ⟨n, v⟩ := p
  rw [List.getElem?_zip_eq_some] at h
  obtain ⟨h1, h2⟩ := h
  have := (List.getElem?_eq_some_iff.mp h1).1
  rw [List.length_range] at this
  rw [List.getElem?_range this] at h1
  cases h1
  exact ⟨rfl, h2⟩
end PL
namespace PL
open PySem
section
variable {G : Tab} {call : Calls} {env : Env} {S : Store}
/-- both ways of an if lead to one saying -/
theorem x_ifsW {P : RS → Prop} {c : E} {a b k : T} {t : Bool} {S' : Store} (Q : Env → Store → Prop) (hc : mapT (ev G call c env S) = .ok t S') (ha : t = true → Sat (NX P Q) (exT G call a env S')) (hb : t = false → Sat (NX P Q) (exT G call b env S')) (hk : ∀ e s, Q e s → Sat P (exT G call k e s)) :
    Sat P (exT G call (.ifs c a b k) env S) := by
  rw [x_ifs, hc]
  simp only [R.stm_ok]
  have key : ∀ r, Sat (NX P Q) r → Sat P (r.andThen fun env S => exT G call k env S) := fun r h => by
    cases r with
    | nx e s => exact hk e s h
    | _ => exact h
  cases t with
  | true => exact key _ (ha rfl)
  | false => exact key _ (hb rfl)
theorem noRefs_iff : ∀ {xs : List D}, noRefs xs = true ↔ ∀ x ∈ xs, noRef x = true
  | [] => by simp [noRefs]
  | x :: xs => by simp [noRefs, noRefs_iff (xs := xs)]
@[simp] theorem sl_tup {xs : List D} {lo hi : Option Int} : slD (.tup xs) lo hi S = some (.tup (cutD xs lo hi)) := rfl
theorem sl3_tup {xs : List D} {lo hi : Option Int} {st : Int} (h : st ≠ 0 ∧ st ≠ 1) : sl3D (.tup xs) lo hi st S = some (.tup (stepD xs lo hi st)) := by
  unfold sl3D
  rw [if_pos h]
@[simp] theorem list_tup {xs : List D} : bfD .list [.tup xs] S = some (.lst xs) := rfl
end
theorem cutD_mem {α : Type} {xs : List α} {lo hi : Option Int} {x : α} (h : x ∈ cutD xs lo hi) : x ∈ xs := List.mem_of_mem_drop (List.mem_of_mem_take h)
theorem cutD_len {α : Type} {xs : List α} {lo hi : Option Int} : (cutD xs lo hi).length ≤ xs.length := by
  simp only [cutD, List.length_take, List.length_drop]; omega
end PL

set_option Elab.async false
set_option linter.all false
set_option maxRecDepth 100000
set_option maxHeartbeats 1000000
/-! PMN: blocks: many_blocks, block_range, table_of, right_ranges. -/
namespace PL
open PySem
abbrev i_many_blocks : Nat := 177
/-- many_blocks: total 0 size 1 -/
def b_many_blocks : T := (.ret (.bin .fdiv (.bin .sub (.bin .add (.var 0) (.var 1)) (.con (.int 1))) (.var 1)))
def f_many_blocks : Fn := ⟨true, 2, 2, b_many_blocks⟩
abbrev i_block_range : Nat := 95
/-- block_range: total 0 size 1 k 2 -/
def b_block_range : T := (.ret (.tup (.cons (.bin .mul (.var 2) (.var 1)) (.cons (.bf .min (.cons (.var 0) (.cons (.bin .mul (.bin .add (.var 2) (.con (.int 1))) (.var 1)) .nil))) .nil))))
def f_block_range : Fn := ⟨true, 3, 3, b_block_range⟩
abbrev i_table_of : Nat := 96
/-- table_of: body 0 size 1 at 2 -/
def b_table_of : T := (.ret (.bf .tuple (.cons (.comp .rng3 (.cons (.con (.int 0)) (.cons (.bf .len (.cons (.var 0) .nil)) (.cons (.var 1) .nil))) (.one 2) .emp (.call i_mark_of (.cons (.sl (.var 0) (.var 2) (.bin .add (.var 2) (.var 1))) .nil))) .nil)))
def f_table_of : Fn := ⟨true, 2, 3, b_table_of⟩
abbrev i_right_ranges : Nat := 178
/-- right_ranges: body 0 table 1 size 2 pairs 3 k 4 mark 5 begin 6 end 7 -/
def b_right_ranges : T := (.asg 3 (.new (.lst .nil))
  (.for_ .enum (.cons (.var 1) .nil) (.many [4, 5])
  (.asgT [6, 7] (.call i_block_range (.cons (.bf .len (.cons (.var 0) .nil)) (.cons (.var 2) (.cons (.var 4) .nil))))
  (.ifs (.and (.cmp .lt (.var 6) (.var 7)) (.one (.cmp .eq (.call i_mark_of (.cons (.sl (.var 0) (.var 6) (.var 7)) .nil)) (.var 5))))
  (.exp (.bm .append (.var 3) (.cons (.tup (.cons (.var 6) (.cons (.var 7) .nil))) .nil))
  .nil)
  .nil
  .nil))
  (.ret (.call i_tidied (.cons (.var 3) .nil)))))
def f_right_ranges : Fn := ⟨true, 3, 8, b_right_ranges⟩

section
variable {G : Tab} {call : Calls} {env : Env} {S : Store} {k : Nat}
/-! store reads, unfolded -/
@[simp] theorem lst_ref {n : Nat} : lstOf (.ref n) S = (match S[n]? with | some (.lst xs) => some xs | _ => none) := rfl
@[simp] theorem seq_ref {n : Nat} : seqOf (.ref n) S = lstOf (.ref n) S := rfl
@[simp] theorem truthy_ref {n : Nat} : truthy (.ref n) S = (match S[n]? with | some (.lst xs) => some (!xs.isEmpty) | some (.dct xs) => some (!xs.isEmpty) | _ => none) := rfl
@[simp] theorem sl_ref {n : Nat} {lo hi : Option Int} : slD (.ref n) lo hi S = (match lstOf (.ref n) S with | some xs => some (.lst (cutD xs lo hi)) | none => none) := rfl
@[simp] theorem ix_refI {n : Nat} {i : Int} : getD_ (.ref n) (.int i) S = (match lstOf (.ref n) S with | some xs => L2.atI xs i | none => none) := rfl
@[simp] theorem tuple_ref {n : Nat} : bfD .tuple [.ref n] S = (lstOf (.ref n) S).map .tup := rfl
theorem len_ref {n : Nat} : bfD .len [.ref n] S = (lenD (.ref n) S).map fun (n : Nat) => .int n := rfl
theorem len_refL {n : Nat} {xs : List D} (h : S[n]? = some (.lst xs)) : bfD .len [.ref n] S = some (.int xs.length) := by
  simp only [bfD, lenF, lenD, seqOf, lstOf, h, Option.map_some]
theorem len_refD {n : Nat} {xs : List (Ky × D)} (h : S[n]? = some (.dct xs)) : bfD .len [.ref n] S = some (.int xs.length) := by
  simp only [bfD, lenF, lenD, seqOf, lstOf, dctOf, h, Option.map_some]
@[simp] theorem truthy_lst {xs : List D} : truthy (.lst xs) S = some (!xs.isEmpty) := rfl
@[simp] theorem len_lst {xs : List D} : bfD .len [.lst xs] S = some (.int xs.length) := rfl
theorem ix_lst {xs : List D} {i : Int} : getD_ (.lst xs) (.int i) S = L2.atI xs i := rfl
theorem ix_tup {xs : List D} {i : Int} : getD_ (.tup xs) (.int i) S = L2.atI xs i := rfl
theorem ix0_lst {x : D} {xs : List D} : getD_ (.lst (x :: xs)) (.int 0) S = some x := by rw [ix_lst, atI_nn (by decide)]; rfl
theorem ix0_tup {x : D} {xs : List D} : getD_ (.tup (x :: xs)) (.int 0) S = some x := by rw [ix_tup, atI_nn (by decide)]; rfl
@[simp] theorem len_ref0 {xs : List D} {S : Store} : bfD .len [.ref 0] (.lst xs :: S) = some (.int xs.length) := len_refL rfl
@[simp] theorem len_ref1 {xs : List D} {a : Ob} {S : Store} : bfD .len [.ref 1] (a :: .lst xs :: S) = some (.int xs.length) := len_refL rfl
@[simp] theorem list_refL {n : Nat} {xs : List D} (h : S[n]? = some (.lst xs)) : bfD .list [.ref n] S = some (.lst xs) := by
  simp only [bfD, listF, itemsOf, seqOf, lstOf, h, Option.map_some]
theorem setI_refL {n : Nat} {xs : List D} {i : Int} {v : D} (h : S[n]? = some (.lst xs)) (h0 : 0 ≤ i) (h1 : i < xs.length) : setIx (.ref n) (.int i) v S = some (S.set n (.lst (xs.set i.toNat v))) := by
  show (match S[n]?, D.int i with
    | some (.lst xs), .int k => (L2.ixN xs.length k).map fun j => S.set n (.lst (xs.set j v))
    | some (.dct kvs), i => if kvs.length < SZ then (keyOf i).map fun k => S.set n (.dct (setK kvs k v)) else none
    | _, _ => none) = _
  rw [h]
  have : L2.ixN xs.length i = some i.toNat := by
    unfold L2.ixN
    rw [if_pos h0, if_pos h1]
  simp only [this, Option.map_some]
theorem frzA_refL {n : Nat} {α : Type} {f : α → D} [o : Okf f] {xs : List α} (h : S[n]? = some (.lst (xs.map f))) : frzA S (.ref n) = some (ll f xs) := by
  simp only [frzA, h]
  rw [if_pos (noRefs_map o.nr xs)]; rfl
theorem lrng_ok {k : IK} {as : E} {d : D} {ys : List D} {S' : Store} (hs : ev G call as env S = .ok d S') (hi : mkIt k (toTup d) S' = some (.items ys)) (hl : ys.length ≤ SZ) : ev G call (.lrng k as) env S = .ok (.lst ys) S' := by
  simp only [ev, hs, R.bind_ok, hi]
  rw [if_pos hl]
theorem range_get {m j x : Nat} (h : (List.range m)[j]? = some x) : x = j ∧ j < m := by
  have lt := (List.getElem?_eq_some_iff.mp h).1
  rw [List.length_range] at lt
  rw [List.getElem?_range lt] at h
  cases h
  exact ⟨rfl, lt⟩
theorem mkIt_enumR {f : Nat → D} {m : Nat} : mkIt .enum [ll f (List.range m)] S = some (.items ((List.range m).map fun k => D.tup [.int (k : Nat), f k])) := by
  rw [mkIt_enumll]
  congr 2
  rw [List.length_range]
  refine List.ext_getElem (by simp) fun i h1 h2 => ?_
  simp
/-- a for with an accumulator -/
theorem x_forA {α β : Type} {P : RS → Prop} {ik : IK} {src : E} {b k : T} {tg : Tg} (step : α → β → α) (a0 : α) (I : Nat → α → Env → Store → Prop) {enc : β → D} {xs : List β} {d : D}
    (hs : ev G call src env S = .ok d S) (hi : mkIt ik (srcL ik d) S = some (.items (xs.map enc))) (h0 : I 0 a0 env S)
    (h : ∀ j x a env S, xs[j]? = some x → I j a env S → Sat (NX P (I (j + 1) (step a x))) (turnB G call b tg (enc x) env S))
    (hk : ∀ env S, I xs.length (xs.foldl step a0) env S → Sat P (exT G call k env S)) : Sat P (exT G call (.for_ ik src tg b k) env S) := by
  refine x_forW (fun j e s => I j ((xs.take j).foldl step a0) e s) hs hi (by simpa using h0) (fun j x e s hj hI => ?_) (fun e s hI => hk e s (by rw [List.take_length] at hI; exact hI))
  have lt := (List.getElem?_eq_some_iff.mp hj).1
  have e1 : xs.take (j + 1) = xs.take j ++ [x] := by
    rw [List.take_succ, hj]; rfl
  rw [e1, List.foldl_append]
  exact h j x _ e s hj hI
theorem bf_min2 {i j : Int} : bfD .min [.int i, .int j] S = some (.int (min i j)) := by
  rw [bf_min]; congr 2; omega
theorem bf_max2 {i j : Int} : bfD .max [.int i, .int j] S = some (.int (max i j)) := by
  rw [bf_max]; congr 2; omega
def nB (n z : Nat) : Nat := (n + z - 1) / z
def bg (z k : Nat) : Int := ((k * z : Nat) : Int)
def en (n z k : Nat) : Int := ((min n ((k + 1) * z) : Nat) : Int)
/-- range(0, n, z) -/
theorem mkIt_rngZ {n z : Nat} (h : n ≤ 1000000) (hz : 0 < z) (hz' : z < 1000000) : mkIt .rng3 [.int 0, .int n, .int z] S = some (.items ((List.range (nB n z)).map fun (k : Nat) => D.int (bg z k))) := by
  show (if b62 0 && b62 (n : Int) && tst ((0 : Int) < z ∧ (z : Int) < 1000000) then some (PL.Itr.items (rngD 0 z (((n : Int) - 0 + z - 1) / z).toNat)) else none) = _
  rw [b62_of (by omega) (by omega), b62_of (by omega) (by omega), tst_iff.mpr ⟨by omega, by omega⟩]
  simp only [Bool.and_self, if_true]
  have e : ((n : Int) - 0 + z - 1) / z = ((n + z - 1) / z : Nat) := by
    rw [Int.natCast_ediv]; congr 1; omega
  rw [e, Int.toNat_natCast]
  unfold rngD
  congr 2
  refine List.map_congr_left fun k _ => ?_
  unfold bg
  congr 1
  simp
def blk (xs : List Int) (z k : Nat) : List Int := (xs.drop (k * z)).take z
def tabF (xs : List Int) (z : Nat) : List Int := (List.range (nB xs.length z)).map fun k => markF (blk xs z k)
def brF (n z k : Nat) : PI := (bg z k, en n z k)
theorem bg_nn {z k : Nat} : 0 ≤ bg z k := by unfold bg; omega
theorem en_nn {n z k : Nat} : 0 ≤ en n z k := by unfold en; omega
theorem cut_blk {xs : List Int} {z k : Nat} : cutD xs (some (bg z k)) (some (bg z k + (z : Int))) = blk xs z k := by
  unfold bg
  rw [cut_both (by omega) (by omega)]; unfold blk; congr 1; omega
theorem nB_lt {n z k : Nat} (hz : 0 < z) : k < nB n z ↔ k * z < n := by
  unfold nB
  rw [Nat.lt_div_iff_mul_lt hz]
  omega
theorem nB_le {n z : Nat} (hz : 0 < z) : nB n z ≤ n := by
  unfold nB
  rcases Nat.eq_zero_or_pos n with rfl | h
  · rw [Nat.div_eq_of_lt (by omega)]; exact Nat.le_refl _
  · refine Nat.div_le_of_le_mul ?_
    have : n + z ≤ z * n + 1 := by
      have := Nat.mul_le_mul (Nat.sub_le_sub_right (show 1 ≤ z from hz) 0) h
      obtain ⟨a, rfl⟩ : ∃ a, z = a + 1 := ⟨z - 1, by omega⟩
      obtain ⟨b, rfl⟩ : ∃ b, n = b + 1 := ⟨n - 1, by omega⟩
      have : (a + 1) * (b + 1) = a * b + a + b + 1 := by rw [Nat.add_mul, Nat.mul_add]; omega
      omega
    omega
theorem r_many_blocks [h : Has G i_many_blocks f_many_blocks] {n z : Nat} (hz : 0 < z) (hz' : z < 1000000) : run G (k + 1) i_many_blocks [.int n, .int z] S = .ok (.int (nB n z : Nat)) S := by
  refine pure_W (h := h) rfl rfl (by simp [frzAs]; rfl) ?_
  have e : ((n : Int) + z - 1) / z = (nB n z : Nat) := by
    unfold nB; rw [Int.natCast_ediv]; congr 1; omega
  have e2 : ∀ a S, bop .fdiv (.int a) (.int (z : Int)) S = some (.int (a / z)) := fun a S => bop_fdiv_int (by omega) (by omega)
  simp [b_many_blocks, startE, e2, e]
theorem r_block_range [h : Has G i_block_range f_block_range] {n z j : Nat} (hz : z < 1000000) : run G (k + 1) i_block_range [.int n, .int z, .int j] S = .ok (pairD (brF n z j)) S := by
  refine pure_W (h := h) rfl rfl (by simp [frzAs]; rfl) ?_
  have e2 : ∀ a S, bop .mul (.int a) (.int (z : Int)) S = some (.int (a * z)) := fun a S => bop_mul_r (small_of (by omega) (by omega))
  have e : min (n : Int) (((j : Int) + 1) * z) = ((min n ((j + 1) * z) : Nat) : Int) := by
    have : ((j : Int) + 1) * z = (((j + 1) * z : Nat) : Int) := by simp
    rw [this]; omega
  simp [b_block_range, startE, e2, bf_min2, e, -bf_min, scl, scls]
  simp [pairD, brF, bg, en]
theorem ev_compG {α β : Type} {ik : IK} {src c e : E} {tg : Tg} {d : D} {enc : β → D} (fo : α → D) (g : β → α) {xs : List β} (hs : ev G call src env S = .ok d S) (hi : mkIt ik (srcL ik d) S = some (.items (xs.map enc))) (hl : xs.length ≤ SZ) (h : ∀ x ∈ xs, compB G call tg c e env (enc x) S = .ok (some (fo (g x))) S) :
    ev G call (.comp ik src tg c e) env S = .ok (ll fo (xs.map g)) S := by
  rw [ll, List.map_map]
  exact ev_compM (fun x => fo (g x)) hs hi hl h
theorem enumG {α : Type} {f : α → D} (d : α) (xs : List α) : (((List.range xs.length).zip xs).map fun p => D.tup [.int (p.1 : Nat), f p.2]) = (List.range xs.length).map fun k => D.tup [.int (k : Nat), f (xs.getD k d)] := by
  refine List.ext_getElem (by simp) fun i h1 h2 => ?_
  simp at h1
  simp [h1]
theorem mkIt_enumG {α : Type} {f : α → D} {xs : List α} (d : α) : mkIt .enum [tl f xs] S = some (.items ((List.range xs.length).map fun k => D.tup [.int (k : Nat), f (xs.getD k d)])) := by
  rw [mkIt_enumtl, enumG d]
theorem mkIt_enumGl {α : Type} {f : α → D} {xs : List α} (d : α) : mkIt .enum [ll f xs] S = some (.items ((List.range xs.length).map fun k => D.tup [.int (k : Nat), f (xs.getD k d)])) := by
  rw [mkIt_enumll, enumG d]
theorem foldl_sel {α β : Type} (p : β → Bool) (g : β → α) : ∀ (xs : List β) (a : List α), xs.foldl (fun a x => if p x then a ++ [g x] else a) a = a ++ (xs.filter p).map g
  | [], a => by simp
  | x :: xs, a => by
    rw [List.foldl_cons, foldl_sel p g xs]
    cases h : p x <;> simp [h]
theorem foldl_selF {α β : Type} (p : β → Bool) (g : β → List α) : ∀ (xs : List β) (a : List α), xs.foldl (fun a x => if p x then a ++ g x else a) a = a ++ (xs.filter p).flatMap g
  | [], a => by simp
  | x :: xs, a => by
    rw [List.foldl_cons, foldl_selF p g xs]
    cases h : p x <;> simp [h]
theorem r_table_of [h : Has G i_table_of f_table_of] [hm : Has G i_mark_of f_mark_of] [h0 : HasC G 0 (.int 2147483647)] [h1 : HasC G 1 (.int 257)] {xs : List Int} {z : Nat} (hl : xs.length ≤ 100000) (hz : 0 < z) (hz' : z < 1000000) :
    run G (k + 2) i_table_of [tl .int xs, .int z] S = .ok (tl .int (tabF xs z)) S := by
  refine pure_W (h := h) rfl rfl (by simp [frzAs]; rfl) ?_
  simp only [b_table_of, startE, x_ret, e_bf, e_cons, e_nil]
  rw [ev_compG (enc := fun (k : Nat) => D.int (bg z k)) (xs := List.range (nB xs.length z)) (d := .tup [.int 0, .int xs.length, .int z]) .int (fun k => markF (blk xs z k))]
  rotate_left
  · simp
  · exact mkIt_rngZ (by omega) hz hz'
  · have := nB_le (n := xs.length) hz
    simp [SZ]; omega
  · intro v _
    have := cut_blk (xs := xs) (z := z) (k := v)
    simp [compB, isEmp, part] at this ⊢
    simp [this, r_mark_of (h0 := h0) (h1 := h1)]
  simp [tabF]
theorem cut_blk2 {xs : List Int} {z k : Nat} : cutD xs (some (bg z k)) (some (en xs.length z k)) = blk xs z k := by
  unfold bg en
  rw [cut_both (by omega) (by omega)]
  unfold blk
  simp only [Int.toNat_natCast]
  have e : (k + 1) * z = k * z + z := by rw [Nat.add_mul]; omega
  rw [e, ← List.take_length (l := (xs.drop (k * z)).take z), List.take_take, List.length_take, List.length_drop]
  congr 1
  omega
def selB (xs ts : List Int) (z k : Nat) : Bool := decide (k * z < xs.length) && decide (markF (blk xs z k) = ts.getD k 0)
def rightF (xs ts : List Int) (z : Nat) : List PI := tidyF (((List.range ts.length).filter (selB xs ts z)).map (brF xs.length z))
theorem r_right_ranges [h : Has G i_right_ranges f_right_ranges] [hb : Has G i_block_range f_block_range] [ht : Has G i_tidied f_tidied] [hm : Has G i_mark_of f_mark_of] [h0 : HasC G 0 (.int 2147483647)] [h1 : HasC G 1 (.int 257)] {xs ts : List Int} {z : Nat} (hl : ts.length ≤ 9000) (hz : 0 < z) (hz' : z < 1000000) :
    run G (k + 2) i_right_ranges [tl .int xs, tl .int ts, .int z] S = .ok (tl pairD (rightF xs ts z)) S := by
  refine pure_W (h := h) rfl rfl (by simp [frzAs]; rfl) ?_
  simp only [b_right_ranges, startE]
  simp
  refine x_forA (fun (f : List PI) k => if selB xs ts z k then f ++ [brF xs.length z k] else f) [] (fun j f e s => f.length ≤ j ∧ s = [.lst (f.map pairD)] ∧ ∃ t4 t5 t6 t7, e = [some (tl .int xs), some (tl .int ts), some (.int z), some (.ref 0), t4, t5, t6, t7])
    (enc := fun k => D.tup [.int (k : Nat), .int (ts.getD k 0)]) (xs := List.range ts.length) (d := .tup [tl .int ts]) ?_ ?_ ?_ ?_ ?_
  · simp
  · exact mkIt_enumG (f := D.int) 0
  · exact ⟨Nat.le_refl _, rfl, _, _, _, _, rfl⟩
  · rintro j x f _ _ hj ⟨hf, rfl, t4, t5, t6, t7, rfl⟩
    have lt := (List.getElem?_eq_some_iff.mp hj).1
    rw [List.getElem?_range (by simpa using lt)] at hj
    cases hj
    have lt : j < ts.length := by simpa using lt
    have ap := fun y => ap0 (f := pairD) (xs := f) (y := y) (by omega)
    have rb := fun S => r_block_range (G := G) (k := k) (S := S) (n := xs.length) (z := z) (j := j) hz'
    have cb := cut_blk2 (xs := xs) (z := z) (k := j)
    have c1 : ((brF xs.length z j).1 < (brF xs.length z j).2) = (j * z < xs.length) := propext (by
      have e : (j + 1) * z = j * z + z := by rw [Nat.add_mul]; omega
      simp only [brF, bg, en, e]; omega)
    have cb : cutD xs (some (brF xs.length z j).1) (some (brF xs.length z j).2) = blk xs z j := cb
    have rm := fun S => r_mark_of (G := G) (k := k) (S := S) (xs := blk xs z j)
    by_cases q1 : j * z < xs.length
    · by_cases q2 : markF (blk xs z j) = ts.getD j 0
      · have qs : selB xs ts z j = true := by simp [selB, q1, q2, -List.getD_eq_getElem?_getD]
        simp [turnB, rb, c1, q1, qs, isEmp, part, cb, rm, q2, ap, -List.getD_eq_getElem?_getD]
        exact ⟨hf, rfl⟩
      · have qs : selB xs ts z j = false := by simp [selB, q1, q2, -List.getD_eq_getElem?_getD]
        simp [turnB, rb, c1, q1, qs, isEmp, part, cb, rm, q2, ap, -List.getD_eq_getElem?_getD]
        omega
    · have qs : selB xs ts z j = false := by simp [selB, q1, -List.getD_eq_getElem?_getD]
      simp [turnB, rb, c1, q1, qs, -List.getD_eq_getElem?_getD]
      omega
  · rintro _ _ ⟨hf, rfl, t4, t5, t6, t7, rfl⟩
    rw [foldl_sel] at hf ⊢
    rw [List.nil_append] at hf ⊢
    rw [List.length_range] at hf
    have rt := r_tidied (G := G) (k := k) (S := [.lst ((((List.range ts.length).filter (selB xs ts z)).map (brF xs.length z)).map pairD)]) (.inr frzA_r0) (by omega)
    simp [-List.map_map, rt]
    simp [rightF]
theorem r_l_markL [h : Has G i_l_mark f_l_mark] {xs : List Int} : run G (k + 1) i_l_mark [ll .int xs] S = .ok (.int (markF xs)) S := by
  refine pure_W (h := h) rfl rfl (by simp [frzAs]; rfl) ?_
  simp [b_l_mark, startE]
  refine x_forA (fun m x => m * 257 + x + 1) 0 (fun _ a e s => s = [] ∧ ∃ t, e = [some (ll .int xs), some (.int a), t]) (enc := D.int) (xs := xs) (d := ll .int xs) ?_ ?_ ?_ ?_ ?_
  · simp
  · simp
  · exact ⟨rfl, _, rfl⟩
  · rintro j x a _ _ _ ⟨rfl, t, rfl⟩
    simp [turnB]
  · rintro _ _ ⟨rfl, t, rfl⟩
    have h2 : small 2147483647 = true := small_of (by decide) (by decide)
    have h3 : markT xs - markT xs / 2147483647 * 2147483647 = markF xs := by rw [← markT_F]; omega
    have h4 : xs.foldl (fun m x => m * 257 + x + 1) 0 = markT xs := rfl
    rw [h4]
    simp [h2, h3]
/-- the places of the blocks told -/
def blPl (n z : Nat) (p : Nat → Bool) : List Int := ((List.range (nB n z)).filter p).flatMap fun k => upL (brF n z k)
theorem upL_lt {p : PI} : (upL p).Pairwise (· < ·) := by
  unfold upL
  rw [List.pairwise_map]
  exact List.pairwise_lt_range.imp fun h => by omega
theorem blPl_lt {n z : Nat} {p : Nat → Bool} : (blPl n z p).Pairwise (· < ·) := by
  unfold blPl
  rw [List.pairwise_flatMap]
  refine ⟨fun k _ => upL_lt, (List.pairwise_lt_range.filter p).imp fun {a b} h x hx y hy => ?_⟩
  rw [run_mem] at hx hy
  have : (a + 1) * z ≤ b * z := Nat.mul_le_mul_right _ h
  simp only [brF, bg, en] at hx hy
  omega
theorem blPl_nodup {n z : Nat} {p : Nat → Bool} : (blPl n z p).Nodup := blPl_lt.imp fun h => by omega
theorem blPl_mem {n z : Nat} {p : Nat → Bool} {x : Int} : x ∈ blPl n z p ↔ inR (((List.range (nB n z)).filter p).map (brF n z)) x := by
  unfold blPl inR
  simp only [List.mem_flatMap, List.mem_map, run_mem]
  constructor
  · rintro ⟨k, hk, h⟩
    exact ⟨_, ⟨k, hk, rfl⟩, h⟩
  · rintro ⟨_, ⟨k, hk, rfl⟩, h⟩
    exact ⟨k, hk, h⟩
theorem right_places {os ts : List Int} {z : Nat} (hz : 0 < z) (ht : ts.length = nB os.length z) : rightF os ts z = rangesF (blPl os.length z fun k => decide (markF (blk os z k) = ts.getD k 0)) := by
  refine can_uniq (tidy_can _) (ran_can blPl_nodup) fun x => ?_
  unfold rightF
  rw [tidy_in, ran_in blPl_nodup, blPl_mem, ht]
  have e : (List.range (nB os.length z)).filter (selB os ts z) = (List.range (nB os.length z)).filter fun k => decide (markF (blk os z k) = ts.getD k 0) := by
    refine List.filter_congr fun k hk => ?_
    have := (nB_lt (n := os.length) (k := k) hz).mp (List.mem_range.mp hk)
    simp only [selB, this, decide_true, Bool.true_and]
  rw [e]
theorem brF_len {n z j : Nat} : (upL (brF n z j)).length ≤ z := by
  rw [upL_len]
  have e : (j + 1) * z = j * z + z := by rw [Nat.add_mul]; omega
  simp only [brF, bg, en, e]
  omega
end
end PL

set_option Elab.async false
set_option linter.all false
set_option maxRecDepth 100000
set_option maxHeartbeats 1000000
/-! PMO: found_blocks, found by hand, files of pieces. -/
namespace PL
open PySem
abbrev i_found_blocks : Nat := 97
/-- found_blocks: old 0 table 1 size 2 total 3 places 4 place 5 mark 6 found 7 k 8 begin 9 end 10 short 11 one 12 -/
def b_found_blocks : T := (.asg 4 .dict0
  (.for_ .enum (.cons (.call i_windows (.cons (.var 0) (.cons (.var 2) .nil))) .nil) (.many [5, 6])
  (.exp (.bm .setdefault (.var 4) (.cons (.var 6) (.cons (.var 5) .nil)))
  .nil)
  (.asg 7 (.new (.lst .nil))
  (.for_ .enum (.cons (.var 1) .nil) (.many [8, 6])
  (.asgT [9, 10] (.call i_block_range (.cons (.var 3) (.cons (.var 2) (.cons (.var 8) .nil))))
  (.ifs (.cmp .eq (.bin .sub (.var 10) (.var 9)) (.var 2))
  (.exp (.bm .append (.var 7) (.cons (.bm .get (.var 4) (.cons (.var 6) .nil)) .nil))
  .nil)
  (.asg 11 (.comp .enum (.cons (.call i_windows (.cons (.var 0) (.cons (.bin .sub (.var 10) (.var 9)) .nil))) .nil) (.many [5, 12]) (.cmp .eq (.var 12) (.var 6)) (.var 5))
  (.exp (.bm .append (.var 7) (.cons (.ix (.bin .add (.var 11) (.lst (.cons (.con .non) .nil))) (.con (.int 0))) .nil))
  .nil))
  .nil))
  (.ret (.bf .tuple (.cons (.var 7) .nil)))))))
def f_found_blocks : Fn := ⟨true, 4, 13, b_found_blocks⟩
abbrev i_l_found : Nat := 98
/-- l_found: _old 0 _table 1 _size 2 _total 3 _found_here 4 _k 5 _mark_here 6 _many 7 _fit 8 _at 9 -/
def b_l_found : T := (.asg 4 (.tup .nil)
  (.for_ .enum (.cons (.var 1) .nil) (.many [5, 6])
  (.asg 7 (.bin .sub (.bf .min (.cons (.var 3) (.cons (.bin .mul (.bin .add (.var 5) (.con (.int 1))) (.var 2)) .nil))) (.bin .mul (.var 5) (.var 2)))
  (.asg 8 (.comp .rng1 (.cons (.bin .add (.bin .sub (.bf .len (.cons (.var 0) .nil)) (.var 7)) (.con (.int 1))) .nil) (.one 9) (.cmp .eq (.call i_l_mark (.cons (.sl (.var 0) (.var 9) (.bin .add (.var 9) (.var 7))) .nil)) (.var 6)) (.var 9))
  (.ifs (.val (.var 8))
  (.asg 4 (.bin .add (.var 4) (.tup (.cons (.ix (.var 8) (.con (.int 0))) .nil)))
  .nil)
  (.asg 4 (.bin .add (.var 4) (.tup (.cons (.con .non) .nil)))
  .nil)
  .nil)))
  (.ret (.var 4))))
def f_l_found : Fn := ⟨true, 4, 10, b_l_found⟩
abbrev i_l_files : Nat := 99
/-- l_files: _script 0 _longest 1 _cell_here 2 _old 3 _new 4 _more 5 _at 6 -/
def b_l_files : T := (.asg 2 (.call i_l_cell (.cons (.var 0) (.cons (.con (.int 0)) .nil)))
  (.asg 3 (.call i_l_bytes (.cons (.call i_l_cell (.cons (.var 0) (.cons (.con (.int 1)) .nil))) (.cons (.call i_l_d (.cons (.var 2) (.cons (.con (.int 1)) (.cons (.var 1) .nil)))) .nil)))
  (.asg 4 (.tup .nil)
  (.for_ .plain (.sl (.var 0) (.con (.int 2)) (.bin .add (.con (.int 2)) (.bin .mod (.bin .fdiv (.var 2) (.var 1)) (.con (.int 6))))) (.one 5)
  (.asg 6 (.bin .mod (.var 5) (.bin .add (.bf .len (.cons (.var 3) .nil)) (.con (.int 1))))
  (.ifs (.cmp .eq (.bin .mod (.var 5) (.con (.int 3))) (.con (.int 0)))
  (.asg 4 (.bin .add (.var 4) (.call i_l_bytes (.cons (.var 5) (.cons (.bin .mod (.bin .fdiv (.var 5) (.con (.int 9))) (.con (.int 7))) .nil))))
  .nil)
  (.asg 4 (.bin .add (.var 4) (.sl (.var 3) (.var 6) (.bin .add (.var 6) (.bin .mod (.bin .fdiv (.var 5) (.con (.int 9))) (.con (.int 30))))))
  .nil)
  .nil))
  (.ret (.tup (.cons (.var 3) (.cons (.sl (.var 4) .emp (.var 1)) .nil))))))))
def f_l_files : Fn := ⟨true, 2, 7, b_l_files⟩

section
variable {G : Tab} {call : Calls} {env : Env} {S : Store} {k : Nat}
theorem app_ref {n : Nat} {xs : List D} {y : D} (h : S[n]? = some (.lst xs)) (hl : xs.length < 16777216) : bmD .append (.ref n) [y] S = .ok .non (S.set n (.lst (xs ++ [y]))) := by
  simp only [bmD, h]
  rw [if_pos (by unfold SZ; omega)]
theorem app_ok {n : Nat} {xs : List D} (h : S[n]? = some (.lst xs)) : bmOk .append (.ref n) S = true := by
  simp only [bmOk, isLstR, isDctR, h]
theorem getK_map (kvs : List (Ky × D)) (a b : Ky) (v : D) (h : (kvs.any fun e => decide (e.1 = a)) = true) : getK (kvs.map fun e => if e.1 = a then (e.1, v) else e) b = if a = b then some v else getK kvs b := by
  induction kvs with
  | nil => cases h
  | cons e r ih =>
    obtain ⟨x, d⟩ := e
    simp only [List.map_cons]
    by_cases hx : x = a
    · subst hx
      rw [if_pos rfl]
      simp only [getK]
      by_cases hb : x = b
      · rw [if_pos hb, if_pos hb]
      · rw [if_neg hb, if_neg hb]
        by_cases hr : (r.any fun e => decide (e.1 = x)) = true
        · rw [ih hr, if_neg hb, if_neg hb]
        · rw [if_neg hb]
          congr 1
          refine (List.map_congr_left fun e he => ?_).trans (List.map_id r)
          rw [if_neg]; rfl
          intro hh
          exact hr (List.any_eq_true.mpr ⟨e, he, by simpa using hh⟩)
    · rw [if_neg hx]
      have hr : (r.any fun e => decide (e.1 = a)) = true := by simpa [hx] using h
      simp only [getK]
      rw [ih hr]
      by_cases hb : x = b
      · subst hb
        rw [if_pos rfl, if_pos rfl, if_neg (fun h => hx h.symm)]
      · rw [if_neg hb, if_neg hb]
theorem getK_app (kvs : List (Ky × D)) (a b : Ky) (v : D) : getK (kvs ++ [(a, v)]) b = match getK kvs b with | some d => some d | none => if a = b then some v else none := by
  induction kvs with
  | nil => rfl
  | cons e r ih =>
    obtain ⟨x, d⟩ := e
    simp only [List.cons_append, getK]
    by_cases hb : x = b
    · rw [if_pos hb, if_pos hb]
    · rw [if_neg hb, if_neg hb]; exact ih
theorem getK_none {kvs : List (Ky × D)} {a : Ky} (h : ¬ (kvs.any fun e => decide (e.1 = a)) = true) : getK kvs a = none := by
  induction kvs with
  | nil => rfl
  | cons e r ih =>
    obtain ⟨x, d⟩ := e
    have h1 : x ≠ a := fun e => h (by simp [e])
    simp only [getK]
    rw [if_neg h1]
    exact ih fun hh => h (by simp at hh ⊢; right; exact hh)
theorem getK_setK (kvs : List (Ky × D)) (a b : Ky) (v : D) : getK (setK kvs a v) b = if a = b then some v else getK kvs b := by
  unfold setK
  split
  · rename_i h; exact getK_map kvs a b v h
  · rename_i h
    rw [getK_app]
    by_cases hb : a = b
    · subst hb
      rw [getK_none h]
      try simp
    · simp only [if_neg hb]
      try (cases getK kvs b <;> rfl)
theorem setK_len (kvs : List (Ky × D)) (a : Ky) (v : D) : (setK kvs a v).length ≤ kvs.length + 1 := by
  unfold setK
  split <;> simp
theorem setdef_ref {n : Nat} {kvs : List (Ky × D)} {i : Int} {v : D} (h : S[n]? = some (.dct kvs)) (hl : kvs.length < 16777216) : bmD .setdefault (.ref n) [.int i, v] S = match getK kvs (.inl i) with
    | some d => .ok d S
    | none => .ok v (S.set n (.dct (setK kvs (.inl i) v))) := by
  simp only [bmD, h, keyOf]
  rw [if_pos (by unfold SZ; omega)]
  try (cases getK kvs (.inl i) <;> rfl)
theorem setdef_ok {n : Nat} {kvs : List (Ky × D)} (h : S[n]? = some (.dct kvs)) : bmOk .setdefault (.ref n) S = true := by
  simp only [bmOk, isLstR, isDctR, h]
theorem get_ok {n : Nat} {kvs : List (Ky × D)} (h : S[n]? = some (.dct kvs)) : bmOk .get (.ref n) S = true := by
  simp only [bmOk, isDctR, h]
theorem get_ref {n : Nat} {kvs : List (Ky × D)} {i : Int} (h : S[n]? = some (.dct kvs)) : bmD .get (.ref n) [.int i] S = .ok ((getK kvs (.inl i)).getD .non) S := by
  simp only [bmD, dctOf, h, keyOf]
/-- the first place with a mark -/
def firstF (ws : List Int) (n : Nat) (m : Int) : Option Int := ((List.range n).find? fun i => decide (ws.getD i 0 = m)).map fun (i : Nat) => (i : Int)
theorem firstF_succ (ws : List Int) (n : Nat) (m : Int) : firstF ws (n + 1) m = match firstF ws n m with | some i => some i | none => if ws.getD n 0 = m then some (n : Int) else none := by
  unfold firstF
  rw [List.range_succ, List.find?_append]
  cases h : (List.range n).find? fun i => decide (ws.getD i 0 = m) with
  | some i => simp
  | none =>
    by_cases e : ws.getD n 0 = m
    · simp [e, -List.getD_eq_getElem?_getD]
    · simp [e, -List.getD_eq_getElem?_getD]
/-- how long a block is -/
def widF (n z k : Nat) : Nat := min n ((k + 1) * z) - k * z
def foundF (old ts : List Int) (z n : Nat) : List (Option Int) := (List.range ts.length).map fun k => firstF (winF old (widF n z k)) (winF old (widF n z k)).length (ts.getD k 0)

theorem add_lst {a b : List D} (h : a.length + b.length ≤ SZ) : bop .add (.lst a) (.lst b) S = some (.lst (a ++ b)) := by
  simp only [bop, addD, lstOf]
  rw [if_pos h]
theorem head_find (ws : List Int) (m : Int) : getD_ (.lst (((List.range ws.length).filter fun k => decide (ws.getD k 0 = m)).map (fun (k : Nat) => D.int k) ++ [.non])) (.int 0) S = some (opD .int (firstF ws ws.length m)) := by
  have : ∀ (xs : List Nat) (o : Option Nat), xs.head? = o → getD_ (.lst (xs.map (fun (k : Nat) => D.int k) ++ [.non])) (.int 0) S = some (opD .int (o.map fun (i : Nat) => (i : Int))) := by
    rintro xs _ rfl
    show L2.atI (xs.map (fun (k : Nat) => D.int k) ++ [.non]) 0 = _
    rw [atI_nn (by decide)]
    cases xs <;> rfl
  exact this _ _ List.head?_filter
theorem r_found_blocks [h : Has G i_found_blocks f_found_blocks] [hb : Has G i_block_range f_block_range] [hw : Has G i_windows f_windows] [hp : Has G i_power f_power] [hm : Has G i_mark_of f_mark_of] [h0 : HasC G 0 (.int 2147483647)] [h1 : HasC G 1 (.int 257)] {old ts : List Int} {z n : Nat} (hl : ts.length ≤ 9000) (ho : old.length ≤ 1000) (hz : 0 < z) (hz' : z < 1000000) (ht : ts.length ≤ nB n z) :
    run G (k + 3) i_found_blocks [tl .int old, tl .int ts, .int z, .int n] S = .ok (tl (opD .int) (foundF old ts z n)) S := by
  have rw1 : ∀ (w : Nat) S, 1 ≤ w → w ≤ z → run G (k + 2) i_windows [tl .int old, .int w] S = .ok (tl .int (winF old w)) S := fun w S h1 h2 => by
    have := r_windows (G := G) (k := k) (S := S) (xs := old) (z := w) (by omega) (by omega) ho
    rw [Int.toNat_natCast] at this
    exact this
  have rz := fun S => rw1 z S hz (Nat.le_refl _)
  have wl : ∀ w, (winF old w).length ≤ 1001 := fun w => by simp [winF]; omega
  refine pure_W (h := h) rfl rfl (by simp [frzAs]; rfl) ?_
  simp only [b_found_blocks, startE]
  simp
  refine x_forW (fun j e s => ∃ kvs : List (Ky × D), s = [.dct kvs] ∧ kvs.length ≤ j ∧ (∀ m : Int, getK kvs (.inl m) = (firstF (winF old z) j m).map .int) ∧ ∃ t5 t6, e = [some (tl .int old), some (tl .int ts), some (.int z), some (.int n), some (.ref 0), t5, t6, none, none, none, none, none, none]) (enc := fun k => D.tup [.int (k : Nat), .int ((winF old z).getD k 0)]) (xs := List.range (winF old z).length) (d := .tup [tl .int (winF old z)]) ?_ ?_ ?_ ?_ ?_
  · simp [rz]
  · exact mkIt_enumG (f := D.int) 0
  · exact ⟨[], rfl, Nat.le_refl _, fun m => rfl, _, _, rfl⟩
  · rintro j x _ _ hj ⟨kvs, rfl, kl, hk, t5, t6, rfl⟩
    obtain ⟨rfl, lt⟩ := range_get hj
    have wz := wl z
    have sd := setdef_ref (S := [.dct kvs]) (n := 0) (kvs := kvs) (i := (winF old z).getD x 0) (v := .int x) rfl (by omega)
    have so := setdef_ok (S := [.dct kvs]) (n := 0) (kvs := kvs) rfl
    rw [hk] at sd
    cases hf : firstF (winF old z) x ((winF old z).getD x 0) with
    | some i =>
      rw [hf] at sd
      simp [turnB, so, sd, -List.getD_eq_getElem?_getD]
      refine ⟨by omega, fun m => ?_⟩
      rw [hk, firstF_succ]
      by_cases e : (winF old z).getD x 0 = m
      · rw [← e, hf]
      · cases firstF (winF old z) x m with
        | some i => rfl
        | none => rw [if_neg e]
    | none =>
      rw [hf] at sd
      simp [turnB, so, sd, -List.getD_eq_getElem?_getD]
      refine ⟨by have := setK_len kvs (.inl ((winF old z).getD x 0)) (.int x); omega, fun m => ?_⟩
      rw [getK_setK, hk, firstF_succ]
      by_cases e : (winF old z).getD x 0 = m
      · subst e
        rw [hf]; simp
      · rw [if_neg (by simpa using e)]
        cases firstF (winF old z) x m with
        | some i => rfl
        | none => simp only [if_neg e]
  rintro _ _ ⟨kvs, rfl, kl, hk, t5, t6, rfl⟩
  rw [List.length_range] at hk kl
  simp
  have hF : ∀ x, firstF (winF old (widF n z x)) (winF old (widF n z x)).length (ts.getD x 0) = (foundF old ts z n).getD x none ∨ ts.length ≤ x := fun x => by
    by_cases hx : x < ts.length
    · left; simp [foundF, hx]
    · right; omega
  refine x_forW (fun j e s => s = [.dct kvs, .lst (((List.range j).map fun k => firstF (winF old (widF n z k)) (winF old (widF n z k)).length (ts.getD k 0)).map (opD .int))] ∧ ∃ t5 t6 t8 t9 t10 t11 t12, e = [some (tl .int old), some (tl .int ts), some (.int z), some (.int n), some (.ref 0), t5, t6, some (.ref 1), t8, t9, t10, t11, t12]) (enc := fun k => D.tup [.int (k : Nat), .int (ts.getD k 0)]) (xs := List.range ts.length) (d := .tup [tl .int ts]) ?_ ?_ ?_ ?_ ?_
  · simp
  · exact mkIt_enumG (f := D.int) 0
  · exact ⟨rfl, _, _, _, _, _, _, _, rfl⟩
  · rintro j x _ _ hj ⟨rfl, t5, t6, t8, t9, t10, t11, t12, rfl⟩
    obtain ⟨rfl, lt⟩ := range_get hj
    have rb := fun S => r_block_range (G := G) (k := k + 1) (S := S) (n := n) (z := z) (j := x) hz'
    have kz := (nB_lt (n := n) (k := x) hz).mp (by omega)
    have e1 : (x + 1) * z = x * z + z := by rw [Nat.add_mul]; omega
    have hd : (brF n z x).2 - (brF n z x).1 = (widF n z x : Int) := by simp only [brF, bg, en, widF]; omega
    have w1 : 1 ≤ widF n z x := by simp only [widF]; omega
    have w2 : widF n z x ≤ z := by simp only [widF]; omega
    have gk := fun (S : Store) (h : S[0]? = some (.dct kvs)) => get_ref (S := S) (n := 0) (kvs := kvs) (i := ts.getD x 0) h
    have go := fun (S : Store) (h : S[0]? = some (.dct kvs)) => get_ok (S := S) (n := 0) (kvs := kvs) h
    generalize hL : (List.range x).map (fun k => firstF (winF old (widF n z k)) (winF old (widF n z k)).length (ts.getD k 0)) = L
    have Ll : L.length = x := by rw [← hL]; simp
    have ap := fun y => app_ref (S := [.dct kvs, .lst (L.map (opD .int))]) (n := 1) (y := y) rfl (by simp; omega)
    have ao := app_ok (S := [.dct kvs, .lst (L.map (opD .int))]) (n := 1) rfl
    have hs : (List.range (x + 1)).map (fun k => firstF (winF old (widF n z k)) (winF old (widF n z k)).length (ts.getD k 0)) = L ++ [firstF (winF old (widF n z x)) (winF old (widF n z x)).length (ts.getD x 0)] := by
      rw [List.range_succ, List.map_append, hL]; rfl
    rw [hs]
    by_cases hw : widF n z x = z
    · rw [hw] at hd ⊢
      have hv : ((firstF (winF old z) (winF old z).length (ts.getD x 0)).map D.int).getD .non = opD .int (firstF (winF old z) (winF old z).length (ts.getD x 0)) := by
        cases firstF (winF old z) (winF old z).length (ts.getD x 0) <;> rfl
      simp [turnB, rb, hd, gk, go, ao, ap, hk, hv, -List.getD_eq_getElem?_getD]
    · have hd' : ¬ ((widF n z x : Nat) : Int) = (z : Int) := by omega
      simp [turnB, rb, hd, hd', -List.getD_eq_getElem?_getD]
      rw [ev_comp (enc := fun k : Nat => D.tup [.int k, .int ((winF old (widF n z x)).getD k 0)]) (xs := List.range (winF old (widF n z x)).length) (d := .tup [tl .int (winF old (widF n z x))]) (p := fun k => decide ((winF old (widF n z x)).getD k 0 = ts.getD x 0)) (fun k => .int (k : Nat))]
      rotate_left
      · have rw2 := fun S => rw1 (widF n z x) S w1 w2
        simp [hd, rw2]
      · exact mkIt_enumG 0
      · have := wl (widF n z x)
        simp [SZ]; omega
      · intro v _
        by_cases e : (winF old (widF n z x)).getD v 0 = ts.getD x 0 <;> simp [compB, e, -List.getD_eq_getElem?_getD]
      generalize hfl : (List.range (winF old (widF n z x)).length).filter (fun k => decide ((winF old (widF n z x)).getD k 0 = ts.getD x 0)) = fl
      have fll : fl.length ≤ 1001 := by
        have := List.length_filter_le (fun k => decide ((winF old (widF n z x)).getD k 0 = ts.getD x 0)) (List.range (winF old (widF n z x)).length)
        have := wl (widF n z x)
        rw [hfl] at *
        simp at *; omega
      have ha : ∀ S, bop .add (.lst (fl.map fun (k : Nat) => .int k)) (.lst [.non]) S = some (.lst (fl.map (fun (k : Nat) => .int k) ++ [.non])) := fun S => add_lst (by simp [SZ]; omega)
      have hv : ∀ S, getD_ (.lst (fl.map (fun (k : Nat) => .int k) ++ [.non])) (.int 0) S = some (opD .int (firstF (winF old (widF n z x)) (winF old (widF n z x)).length (ts.getD x 0))) := fun S => by
        rw [← hfl]; exact head_find _ _
      simp [ha, hv, ao, ap, -List.getD_eq_getElem?_getD]
  rintro _ _ ⟨rfl, t5, t6, t8, t9, t10, t11, t12, rfl⟩
  rw [List.length_range]
  have tr : ∀ (xs : List (Option Int)), bfD .tuple [.ref 1] [.dct kvs, .lst (xs.map (opD .int))] = some (tl (opD .int) xs) := fun xs => rfl
  simp [-List.map_map, -tuple_ref, tr]
  rfl
theorem win_len' (old : List Int) (w : Nat) : (winF old w).length = old.length + 1 - w := by simp [winF]
theorem win_get {old : List Int} {w v : Nat} (h : v < old.length + 1 - w) : (winF old w).getD v 0 = markF ((old.drop v).take w) := by
  have : v < (winF old w).length := by rw [win_len']; exact h
  rw [List.getD_eq_getElem?_getD, List.getElem?_eq_getElem this]
  simp [winF]
theorem r_l_found [h : Has G i_l_found f_l_found] [hm : Has G i_l_mark f_l_mark] {old ts : List Int} {z n : Nat} (hl : ts.length ≤ 9000) (ho : old.length ≤ 1000) (hz : 0 < z) (hz' : z < 1000000) (ht : ts.length ≤ nB n z) :
    run G (k + 2) i_l_found [tl .int old, tl .int ts, .int z, .int n] S = .ok (tl (opD .int) (foundF old ts z n)) S := by
  have rm : ∀ ys S, run G (k + 1) i_l_mark [tl .int ys] S = .ok (.int (markF ys)) S := fun ys S => r_l_mark
  refine pure_W (h := h) rfl rfl (by simp [frzAs]; rfl) ?_
  simp only [b_l_found, startE]
  simp
  refine x_forW (fun j e s => s = [] ∧ ∃ t5 t6 t7 t8 t9, e = [some (tl .int old), some (tl .int ts), some (.int z), some (.int n), some (tl (opD .int) ((List.range j).map fun k => firstF (winF old (widF n z k)) (winF old (widF n z k)).length (ts.getD k 0))), t5, t6, t7, t8, t9]) (enc := fun k => D.tup [.int (k : Nat), .int (ts.getD k 0)]) (xs := List.range ts.length) (d := .tup [tl .int ts]) ?_ ?_ ?_ ?_ ?_
  · simp
  · exact mkIt_enumG (f := D.int) 0
  · exact ⟨rfl, _, _, _, _, _, rfl⟩
  · rintro j x _ _ hj ⟨rfl, t5, t6, t7, t8, t9, rfl⟩
    obtain ⟨rfl, lt⟩ := range_get hj
    have kz := (nB_lt (n := n) (k := x) hz).mp (by omega)
    have e1 : (x + 1) * z = x * z + z := by rw [Nat.add_mul]; omega
    have w1 : 1 ≤ widF n z x := by simp only [widF]; omega
    have w2 : widF n z x ≤ z := by simp only [widF]; omega
    have ml : ∀ a S, bop .mul (.int a) (.int z) S = some (.int (a * z)) := fun a S => bop_mul_r (small_of (by omega) (by omega))
    have hw : ∀ S, bfD .min [.int n, .int (((x : Int) + 1) * z)] S = some (.int ((widF n z x : Nat) + (x : Int) * z)) := fun S => by
      have e2 : ((x : Int) + 1) * z = (((x + 1) * z : Nat) : Int) := by simp
      have e3 : (x : Int) * z = ((x * z : Nat) : Int) := by simp
      rw [bf_min2, e2, e3]; congr 2
      simp only [widF]; omega
    have sb : ∀ a b : Int, a + b - b = a := fun a b => by omega
    simp only [turnB]
    simp [ml, hw, sb, -bf_min, -List.getD_eq_getElem?_getD]
    generalize hW : widF n z x = w at *
    rw [ev_comp (enc := fun k : Nat => D.int k) (xs := List.range (winF old w).length) (d := .tup [.int ((old.length : Int) - w + 1)]) (p := fun k => decide ((winF old w).getD k 0 = ts.getD x 0)) (fun k => .int (k : Nat))]
    rotate_left
    · simp
    · show mkIt .rng1 [.int ((old.length : Int) - w + 1)] [] = _
      rw [mkIt_rng1 (b62_of (by omega) (by omega)), rngD_map, win_len']
      congr 4
      omega
    · rw [List.length_range, win_len']; simp [SZ]; omega
    · intro v hv
      rw [List.mem_range, win_len'] at hv
      have cb : cutD old (some (v : Int)) (some ((v : Int) + w)) = (old.drop v).take w := by
        rw [cut_both (by omega) (by omega)]; congr 1; omega
      have wg := win_get hv
      by_cases e : (winF old w).getD v 0 = ts.getD x 0
      · rw [wg] at e
        simp [compB, isEmp, part, cb, rm, wg, e, -List.getD_eq_getElem?_getD]
      · rw [wg] at e
        simp [compB, isEmp, part, cb, rm, wg, e, -List.getD_eq_getElem?_getD]
    generalize hfl : (List.range (winF old w).length).filter (fun k => decide ((winF old w).getD k 0 = ts.getD x 0)) = fl
    have hh : firstF (winF old w) (winF old w).length (ts.getD x 0) = fl.head?.map fun (i : Nat) => (i : Int) := by
      rw [← hfl, List.head?_filter]; rfl
    have ad : ∀ (f : List (Option Int)) (y : Option Int) S, f.length ≤ 10000 → bop .add (tl (opD .int) f) (.tup [opD .int y]) S = some (tl (opD .int) (f ++ [y])) := fun f y S h => add_tl1 rfl (by unfold SZ; omega)
    have hs : (List.range (x + 1)).map (fun k => firstF (winF old (widF n z k)) (winF old (widF n z k)).length (ts.getD k 0)) = (List.range x).map (fun k => firstF (winF old (widF n z k)) (winF old (widF n z k)).length (ts.getD k 0)) ++ [firstF (winF old w) (winF old w).length (ts.getD x 0)] := by
      rw [List.range_succ, List.map_append, ← hW]; rfl
    rw [hs, hh]
    generalize hL : (List.range x).map (fun k => firstF (winF old (widF n z k)) (winF old (widF n z k)).length (ts.getD k 0)) = L
    have Ll : L.length = x := by rw [← hL]; simp
    cases fl with
    | nil =>
      have a1 := fun S => ad L none S (by omega)
      have a1 : ∀ S, bop .add (tl (opD .int) L) (.tup [.non]) S = some (tl (opD .int) (L ++ [none])) := a1
      simp [a1]
    | cons i fl =>
      have a1 := fun S => ad L (some (i : Int)) S (by omega)
      have a1 : ∀ S, bop .add (tl (opD .int) L) (.tup [.int i]) S = some (tl (opD .int) (L ++ [some (i : Int)])) := a1
      have g0 : ∀ S, getD_ (.lst (.int i :: fl.map fun (k : Nat) => D.int k)) (.int 0) S = some (.int i) := fun S => ix0_lst
      simp [a1, g0]
  rintro _ _ ⟨rfl, t5, t6, t7, t8, t9, rfl⟩
  rw [List.length_range]
  simp
  rfl
/-! files of pieces -/
def Byt (xs : List Int) : Prop := ∀ x ∈ xs, 0 ≤ x ∧ x < 256
theorem byt_bytes (c : Int) (n : Nat) : Byt (bytesF c n) := by
  intro x h
  simp only [bytesF, List.mem_map] at h
  obtain ⟨k, _, rfl⟩ := h
  unfold byteF
  exact ⟨Int.emod_nonneg _ (by decide), Int.emod_lt_of_pos _ (by decide)⟩
theorem byt_take {xs : List Int} {n : Nat} (h : Byt xs) : Byt (xs.take n) := fun x m => h x (List.mem_of_mem_take m)
theorem byt_drop {xs : List Int} {n : Nat} (h : Byt xs) : Byt (xs.drop n) := fun x m => h x (List.mem_of_mem_drop m)
theorem byt_app {xs ys : List Int} (h : Byt xs) (h' : Byt ys) : Byt (xs ++ ys) := fun x m => (List.mem_append.mp m).elim (h x) (h' x)
def pieceF (old : List Int) (x : Int) : List Int := if x % 3 = 0 then bytesF x (x / 9 % 7).toNat else (old.drop (x % (old.length + 1)).toNat).take (x / 9 % 30).toNat
def newF (old ps : List Int) : List Int := ps.foldl (fun a x => a ++ pieceF old x) []
def oldC (ns : List Int) (L : Int) : List Int := bytesF (ns.getD 1 0) (dF (ns.getD 0 0) 1 L).toNat
def newC (ns : List Int) (L : Int) : List Int := (newF (oldC ns L) (cutD ns (some 2) (some (2 + ns.getD 0 0 / L % 6)))).take L.toNat
theorem byt_piece {old : List Int} {x : Int} (h : Byt old) : Byt (pieceF old x) := by
  unfold pieceF
  split
  · exact byt_bytes _ _
  · exact byt_take (byt_drop h)
theorem byt_newF {old : List Int} (h : Byt old) (ps : List Int) : Byt (newF old ps) := by
  have : ∀ (ps a : List Int), Byt a → Byt (ps.foldl (fun a x => a ++ pieceF old x) a) := by
    intro ps
    induction ps with
    | nil => intro a h; exact h
    | cons x ps ih => intro a ha; exact ih _ (byt_app ha (byt_piece h))
  exact this ps [] (by intro x h; cases h)
theorem byt_oldC (ns : List Int) (L : Int) : Byt (oldC ns L) := byt_bytes _ _
theorem byt_newC (ns : List Int) (L : Int) : Byt (newC ns L) := byt_take (byt_newF (byt_oldC ns L) _)
theorem len_bytes (c : Int) (n : Nat) : (bytesF c n).length = n := by simp [bytesF]
theorem len_oldC {ns : List Int} {L : Int} (h : 0 < L) : (oldC ns L).length < L.toNat := by
  have := dF_hi (c := ns.getD 0 0) (p := 1) h
  have := dF_lo (c := ns.getD 0 0) (p := 1) h
  simp only [oldC, len_bytes]; omega
theorem len_newC (ns : List Int) (L : Int) : (newC ns L).length ≤ L.toNat := by
  simp only [newC, List.length_take]; omega
theorem r_l_files [h : Has G i_l_files f_l_files] [hc : Has G i_l_cell f_l_cell] [hb : Has G i_l_bytes f_l_bytes] [hd : Has G i_l_d f_l_d] {ns : List Int} {L : Int} (hn : ns.length ≤ 63) (h0 : 0 < L) (h1 : L ≤ 1000) :
    run G (k + 3) i_l_files [.scr ns, .int L] S = .ok (.tup [tl .int (oldC ns L), tl .int (newC ns L)]) S := by
  generalize hcc : ns.getD 0 0 = c
  have rc : ∀ S, run G (k + 2) i_l_cell [.scr ns, .int 0] S = .ok (.int c) S := fun S => hcc ▸ r_cell (k := k + 1) (by decide)
  have rc1 : ∀ S, run G (k + 2) i_l_cell [.scr ns, .int 1] S = .ok (.int (ns.getD 1 0)) S := fun S => r_cell (k := k + 1) (by decide)
  have rd : ∀ S, run G (k + 2) i_l_d [.int c, .int 1, .int L] S = .ok (.int (dF c 1 L)) S := fun S => r_d (k := k + 1) h0
  have ob : ∀ S, run G (k + 2) i_l_bytes [.int (ns.getD 1 0), .int (dF c 1 L)] S = .ok (tl .int (oldC ns L)) S := fun S => by
    have := r_bytes (G := G) (k := k) (S := S) (c := ns.getD 1 0) (n := dF c 1 L) (dF_lo h0) (by have := dF_hi (c := c) (p := 1) h0; omega)
    rw [this]; unfold oldC; rw [hcc]
  have rb : ∀ (x : Int) S, run G (k + 2) i_l_bytes [.int x, .int (x / 9 % 7)] S = .ok (tl .int (bytesF x (x / 9 % 7).toNat)) S := fun x S => r_bytes (by omega) (by omega)
  have ol := len_oldC (ns := ns) h0
  generalize hO : oldC ns L = old at *
  have bo : (newC ns L) = (newF old (cutD ns (some 2) (some (2 + c / L % 6)))).take L.toNat := by unfold newC; rw [hO, hcc]
  rw [bo]
  refine pure_W (h := h) rfl rfl (by simp [frzAs]; rfl) ?_
  simp only [b_l_files, startE]
  have fd : ∀ S, bop .fdiv (.int c) (.int L) S = some (.int (c / L)) := fun S => bop_fdiv_int h0 (by omega)
  simp [rc, rc1, rd, ob, fd, -List.getD_eq_getElem?_getD]
  generalize hps : cutD ns (some 2) (some (2 + c / L % 6)) = ps
  have pl : ps.length ≤ 63 := by rw [← hps]; exact Nat.le_trans cutD_len hn
  refine x_forA (fun a x => a ++ pieceF old x) [] (fun j a e s => a.length ≤ 30 * j ∧ s = [] ∧ ∃ t5 t6, e = [some (.scr ns), some (.int L), some (.int c), some (tl .int old), some (tl .int a), t5, t6]) (enc := D.int) (xs := ps) (d := ll .int ps) ?_ ?_ ?_ ?_ ?_
  · simp [fd, isEmp, part, hps]
  · simp
  · exact ⟨Nat.le_refl _, rfl, _, _, rfl⟩
  · rintro j x a _ _ hj ⟨al, rfl, t5, t6, rfl⟩
    have jl := (List.getElem?_eq_some_iff.mp hj).1
    have ml : ∀ S, bop .mod (.int x) (.int ((old.length : Int) + 1)) S = some (.int (x % ((old.length : Int) + 1))) := fun S => bop_mod_int (by omega)
    have pz : (pieceF old x).length ≤ 30 := by
      unfold pieceF
      split
      · rw [len_bytes]; omega
      · rw [List.length_take]; omega
    have ad : ∀ S, bop .add (tl .int a) (tl .int (pieceF old x)) S = some (tl .int (a ++ pieceF old x)) := fun S => add_tl (by unfold SZ; omega)
    by_cases h3 : x % 3 = 0
    · have e : pieceF old x = bytesF x (x / 9 % 7).toNat := by unfold pieceF; rw [if_pos h3]
      rw [e] at ad pz ⊢
      simp [turnB, ml, h3, rb, ad]
      omega
    · have e : pieceF old x = cutD old (some (x % ((old.length : Int) + 1))) (some (x % ((old.length : Int) + 1) + x / 9 % 30)) := by
        have := Int.emod_nonneg x (show ((old.length : Int) + 1) ≠ 0 by omega)
        rw [cut_both this (by omega)]
        unfold pieceF
        rw [if_neg h3]
        congr 1
        omega
      rw [e] at ad pz ⊢
      simp [turnB, ml, h3, isEmp, part, ad]
      omega
  rintro _ _ ⟨al, rfl, t5, t6, rfl⟩
  have e : ∀ xs : List Int, cutD xs none (some L) = xs.take L.toNat := fun xs => cut_to (by omega)
  rw [show ps.foldl (fun a x => a ++ pieceF old x) [] = newF old ps from rfl]
  simp [isEmp, part, e, scl, scls]
end
end PL

set_option Elab.async false
set_option linter.all false
set_option maxRecDepth 100000
set_option maxHeartbeats 1000000
/-! PMP: plan, to_fetch, built, mended. -/
namespace PL
open PySem
abbrev i_plan : Nat := 101
/-- plan: old 0 table 1 size 2 total 3 steps 4 k 5 place 6 begin 7 end 8 last 9 -/
def b_plan : T := (.asg 4 (.new (.lst .nil))
  (.for_ .enum (.cons (.call i_found_blocks (.cons (.var 0) (.cons (.var 1) (.cons (.var 2) (.cons (.var 3) .nil))))) .nil) (.many [5, 6])
  (.asgT [7, 8] (.call i_block_range (.cons (.var 3) (.cons (.var 2) (.cons (.var 5) .nil))))
  (.asg 9 (.tup (.cons (.con (.str "none")) (.cons (.con (.int 0)) (.cons (.con (.int 0)) .nil))))
  (.ifs (.val (.var 4))
  (.asg 9 (.ix (.var 4) (.neg (.con (.int 1))))
  .nil)
  .nil
  (.ifs (.isn (.var 6))
  (.ifs (.cmp .eq (.ix (.var 9) (.con (.int 0))) (.con (.str "fetch")))
  (.setI (.var 4) (.neg (.con (.int 1))) (.tup (.cons (.con (.str "fetch")) (.cons (.ix (.var 9) (.con (.int 1))) (.cons (.var 8) .nil))))
  .nil)
  (.exp (.bm .append (.var 4) (.cons (.tup (.cons (.con (.str "fetch")) (.cons (.var 7) (.cons (.var 8) .nil)))) .nil))
  .nil)
  .nil)
  (.ifs (.and (.cmp .eq (.ix (.var 9) (.con (.int 0))) (.con (.str "copy"))) (.one (.cmp .eq (.bin .add (.ix (.var 9) (.con (.int 1))) (.ix (.var 9) (.con (.int 2)))) (.var 6))))
  (.setI (.var 4) (.neg (.con (.int 1))) (.tup (.cons (.con (.str "copy")) (.cons (.ix (.var 9) (.con (.int 1))) (.cons (.bin .sub (.bin .add (.ix (.var 9) (.con (.int 2))) (.var 8)) (.var 7)) .nil))))
  .nil)
  (.exp (.bm .append (.var 4) (.cons (.tup (.cons (.con (.str "copy")) (.cons (.var 6) (.cons (.bin .sub (.var 8) (.var 7)) .nil)))) .nil))
  .nil)
  .nil)
  .nil))))
  (.ret (.bf .tuple (.cons (.var 4) .nil)))))
def f_plan : Fn := ⟨true, 4, 10, b_plan⟩
abbrev i_to_fetch : Nat := 102
/-- to_fetch: steps 0 step 1 -/
def b_to_fetch : T := (.ret (.bf .tuple (.cons (.comp .plain (.var 0) (.one 1) (.cmp .eq (.ix (.var 1) (.con (.int 0))) (.con (.str "fetch"))) (.tup (.cons (.ix (.var 1) (.con (.int 1))) (.cons (.ix (.var 1) (.con (.int 2))) .nil)))) .nil)))
def f_to_fetch : Fn := ⟨true, 1, 2, b_to_fetch⟩
abbrev i_built : Nat := 103
/-- built: old 0 steps 1 pieces 2 found 3 at 4 step 5 -/
def b_built : T := (.asg 3 (.tup .nil)
  (.asg 4 (.con (.int 0))
  (.for_ .plain (.var 1) (.one 5)
  (.ifs (.cmp .eq (.ix (.var 5) (.con (.int 0))) (.con (.str "copy")))
  (.asg 3 (.bin .add (.var 3) (.sl (.var 0) (.ix (.var 5) (.con (.int 1))) (.bin .add (.ix (.var 5) (.con (.int 1))) (.ix (.var 5) (.con (.int 2))))))
  .nil)
  (.asg 3 (.bin .add (.var 3) (.ix (.var 2) (.var 4)))
  (.asg 4 (.bin .add (.var 4) (.con (.int 1)))
  .nil))
  .nil)
  (.ret (.var 3)))))
def f_built : Fn := ⟨true, 3, 6, b_built⟩
abbrev i_l_plan : Nat := 180
/-- l_plan: _found_here 0 _size 1 _total 2 _steps 3 _k 4 _place 5 _begin 6 _end 7 -/
def b_l_plan : T := (.asg 3 (.new (.lst .nil))
  (.for_ .enum (.cons (.var 0) .nil) (.many [4, 5])
  (.asg 6 (.bin .mul (.var 4) (.var 1))
  (.asg 7 (.bf .min (.cons (.var 2) (.cons (.bin .add (.var 6) (.var 1)) .nil)))
  (.ifs (.and (.isn (.var 5)) (.and (.val (.var 3)) (.one (.cmp .eq (.ix (.ix (.var 3) (.neg (.con (.int 1)))) (.con (.int 0))) (.con (.str "fetch"))))))
  (.setI (.var 3) (.neg (.con (.int 1))) (.tup (.cons (.con (.str "fetch")) (.cons (.ix (.ix (.var 3) (.neg (.con (.int 1)))) (.con (.int 1))) (.cons (.var 7) .nil))))
  .nil)
  (.ifs (.isn (.var 5))
  (.exp (.bm .append (.var 3) (.cons (.tup (.cons (.con (.str "fetch")) (.cons (.var 6) (.cons (.var 7) .nil)))) .nil))
  .nil)
  (.ifs (.and (.val (.var 3)) (.and (.cmp .eq (.ix (.ix (.var 3) (.neg (.con (.int 1)))) (.con (.int 0))) (.con (.str "copy"))) (.one (.cmp .eq (.bf .sum (.cons (.sl (.ix (.var 3) (.neg (.con (.int 1)))) (.con (.int 1)) .emp) .nil)) (.var 5)))))
  (.setI (.var 3) (.neg (.con (.int 1))) (.tup (.cons (.con (.str "copy")) (.cons (.ix (.ix (.var 3) (.neg (.con (.int 1)))) (.con (.int 1))) (.cons (.bin .sub (.bin .add (.ix (.ix (.var 3) (.neg (.con (.int 1)))) (.con (.int 2))) (.var 7)) (.var 6)) .nil))))
  .nil)
  (.exp (.bm .append (.var 3) (.cons (.tup (.cons (.con (.str "copy")) (.cons (.var 5) (.cons (.bin .sub (.var 7) (.var 6)) .nil)))) .nil))
  .nil)
  .nil)
  .nil)
  .nil)))
  (.ret (.bf .tuple (.cons (.var 3) .nil)))))
def f_l_plan : Fn := ⟨true, 3, 8, b_l_plan⟩
abbrev i_mended : Nat := 104
/-- mended: old 0 table 1 size 2 total 3 source_bytes 4 steps 5 pieces 6 made 7 many 8 k 9 mark 10 begin 11 end 12 piece 13 -/
def b_mended : T := (.asg 5 (.call i_plan (.cons (.var 0) (.cons (.var 1) (.cons (.var 2) (.cons (.var 3) .nil)))))
  (.asg 6 (.comp .plain (.call i_to_fetch (.cons (.var 5) .nil)) (.many [11, 12]) .emp (.sl (.var 4) (.var 11) (.var 12)))
  (.asg 7 (.call i_built (.cons (.var 0) (.cons (.var 5) (.cons (.var 6) .nil))))
  (.asg 8 (.bf .sum (.cons (.comp .plain (.var 6) (.one 13) .emp (.bf .len (.cons (.var 13) .nil))) .nil))
  (.for_ .enum (.cons (.var 1) .nil) (.many [9, 10])
  (.asgT [11, 12] (.call i_block_range (.cons (.var 3) (.cons (.var 2) (.cons (.var 9) .nil))))
  (.ifs (.cmp .ne (.call i_mark_of (.cons (.sl (.var 7) (.var 11) (.var 12)) .nil)) (.var 10))
  (.asg 7 (.bin .add (.bin .add (.sl (.var 7) .emp (.var 11)) (.sl (.var 4) (.var 11) (.var 12))) (.sl (.var 7) (.var 12) .emp))
  (.asg 8 (.bin .sub (.bin .add (.var 8) (.var 12)) (.var 11))
  .nil))
  .nil
  .nil))
  (.ret (.tup (.cons (.var 7) (.cons (.var 8) .nil)))))))))
def f_mended : Fn := ⟨true, 5, 14, b_mended⟩

abbrev ST : Type := Bool × Int × Int
def stD (s : ST) : D := .tup [.str (if s.1 then "fetch" else "copy"), .int s.2.1, .int s.2.2]
instance : Okf stD := ⟨fun _ => rfl, fun _ => rfl⟩
def planS (b e : Int) (acc : List ST) (place : Option Int) : List ST := match place, acc.getLast? with
  | none, some (true, a, _) => acc.dropLast ++ [(true, a, e)]
  | none, _ => acc ++ [(true, b, e)]
  | some p, some (false, a, w) => if a + w = p then acc.dropLast ++ [(false, a, w + e - b)] else acc ++ [(false, p, e - b)]
  | some p, _ => acc ++ [(false, p, e - b)]
def planF (fo : List (Option Int)) (z n : Nat) : List ST := (List.range fo.length).foldl (fun acc k => planS (bg z k) (en n z k) acc (fo.getD k none)) []
section
variable {G : Tab} {call : Calls} {env : Env} {S : Store} {k : Nat}
theorem setI_last {n : Nat} {xs : List D} {v : D} (h : S[n]? = some (.lst xs)) (hne : xs ≠ []) : setIx (.ref n) (.int (-1)) v S = some (S.set n (.lst (xs.dropLast ++ [v]))) := by
  simp only [setIx, h, ixN_last (List.length_pos_iff.mpr hne), Option.map_some, set_last hne]
theorem planS_len (b e : Int) (acc : List ST) (p : Option Int) : (planS b e acc p).length ≤ acc.length + 1 := by
  unfold planS
  split <;> try split
  all_goals simp
  all_goals omega
theorem r_plan [h : Has G i_plan f_plan] [hfb : Has G i_found_blocks f_found_blocks] [hb : Has G i_block_range f_block_range] [hw : Has G i_windows f_windows] [hp : Has G i_power f_power] [hm : Has G i_mark_of f_mark_of] [h0 : HasC G 0 (.int 2147483647)] [h1 : HasC G 1 (.int 257)] {old ts : List Int} {z n : Nat} (hl : ts.length ≤ 9000) (ho : old.length ≤ 1000) (hz : 0 < z) (hz' : z < 1000000) (ht : ts.length ≤ nB n z) :
    run G (k + 4) i_plan [tl .int old, tl .int ts, .int z, .int n] S = .ok (tl stD (planF (foundF old ts z n) z n)) S := by
  have rf : ∀ S, run G (k + 3) i_found_blocks [tl .int old, tl .int ts, .int z, .int n] S = .ok (tl (opD .int) (foundF old ts z n)) S := fun S => r_found_blocks hl ho hz hz' ht
  have fl : (foundF old ts z n).length = ts.length := by simp [foundF]
  generalize foundF old ts z n = fo at *
  refine pure_W (h := h) rfl rfl (by simp [frzAs]; rfl) ?_
  simp only [b_plan, startE]
  simp
  refine x_forA (fun acc k => planS (bg z k) (en n z k) acc (fo.getD k none)) [] (fun j acc e s => acc.length ≤ j ∧ s = [.lst (acc.map stD)] ∧ ∃ t5 t6 t7 t8 t9, e = [some (tl .int old), some (tl .int ts), some (.int z), some (.int n), some (.ref 0), t5, t6, t7, t8, t9]) (enc := fun k => D.tup [.int (k : Nat), opD .int (fo.getD k none)]) (xs := List.range fo.length) (d := .tup [tl (opD .int) fo]) ?_ ?_ ?_ ?_ ?_
  · simp [rf]
  · exact mkIt_enumG (f := opD .int) none
  · exact ⟨Nat.le_refl _, rfl, _, _, _, _, _, rfl⟩
  · rintro j x acc _ _ hj ⟨al, rfl, t5, t6, t7, t8, t9, rfl⟩
    obtain ⟨rfl, lt⟩ := range_get hj
    have rb : ∀ S, run G (k + 3) i_block_range [.int n, .int z, .int x] S = .ok (.tup [.int (bg z x), .int (en n z x)]) S := fun S => r_block_range (G := G) (k := k + 2) (S := S) (n := n) (z := z) (j := x) hz'
    have pl := planS_len (bg z x) (en n z x) acc (fo.getD x none)
    generalize fo.getD x none = place at *
    have ap := fun (ys : List D) (y : D) (h : ys.length < 16777216) => app_ref (S := [.lst ys]) (n := 0) (y := y) rfl h
    have ao := fun (ys : List D) => PL.app_ok (S := [.lst ys]) (n := 0) rfl
    have sl := fun (ys : List D) (v : D) (h : ys ≠ []) => setI_last (S := [.lst ys]) (n := 0) (v := v) rfl h
    have i0 : ∀ (a : D) xs S, getD_ (.tup (a :: xs)) (.int 0) S = some a := fun a xs S => ix0_tup
    have i1 : ∀ (a b : D) xs S, getD_ (.tup (a :: b :: xs)) (.int 1) S = some b := fun a b xs S => by rw [ix_tup, atI_nn (by decide)]; rfl
    have i2 : ∀ (a b c : D) xs S, getD_ (.tup (a :: b :: c :: xs)) (.int 2) S = some c := fun a b c xs S => by rw [ix_tup, atI_nn (by decide)]; rfl
    have e1 : (("none" : Str) = "fetch") = False := by simp; decide
    have e2 : (("none" : Str) = "copy") = False := by simp; decide
    have e3 : (("copy" : Str) = "fetch") = False := by simp; decide
    have e4 : (("fetch" : Str) = "copy") = False := by simp; decide
    have cn : ∀ (a b : Str) S, cop .eq (.str a) (.str b) S = some (decide (a = b)) := fun a b S => rfl
    rcases acc.eq_nil_or_concat with rfl | ⟨g, ⟨b, q, w⟩, rfl⟩
    · cases place with
      | none =>
        simp [turnB, rb, opD, i0, e1, e2, ao, ap, planS]
        rfl
      | some p =>
        simp [turnB, rb, opD, i0, e1, e2, ao, ap, planS]
        rfl
    · have gl : g.length + 1 ≤ 9000 := by simp at al; omega
      have la : ∀ (d : D), L2.atI (g.map stD ++ [d]) (-1) = some d := fun d => by rw [atI_last]; simp
      have sl1 : ∀ (d v : D), setIx (.ref 0) (.int (-1)) v [.lst (g.map stD ++ [d])] = some [.lst (g.map stD ++ [v])] := fun d v => by rw [sl _ v (by simp)]; simp
      have ap1 : ∀ (d v : D), bmD .append (.ref 0) [v] [.lst (g.map stD ++ [d])] = .ok .non [.lst (g.map stD ++ [d, v])] := fun d v => by rw [ap _ v (by simp; omega)]; simp
      cases b with
      | true =>
        cases place with
        | none =>
          simp [turnB, rb, opD, negD, la, i0, i1, i2, e3, e4, ao, sl1, planS, stD]
          simp at al; omega
        | some p =>
          simp [turnB, rb, opD, negD, la, i0, i1, i2, e3, e4, ao, ap1, planS, stD]
          simp at al; omega
      | false =>
        cases place with
        | none =>
          simp [turnB, rb, opD, negD, la, i0, i1, i2, e3, e4, ao, ap1, planS, stD]
          simp at al; omega
        | some p =>
          by_cases hp : q + w = p
          · simp [turnB, rb, opD, negD, la, i0, i1, i2, e3, e4, ao, sl1, planS, stD, hp]
            simp at al; omega
          · simp [turnB, rb, opD, negD, la, i0, i1, i2, e3, e4, ao, ap1, planS, stD, hp]
            simp at al; omega
  rintro _ _ ⟨al, rfl, t5, t6, t7, t8, t9, rfl⟩
  have tr : ∀ (xs : List ST), bfD .tuple [.ref 0] [.lst (xs.map stD)] = some (tl stD xs) := fun xs => rfl
  rw [show (List.range fo.length).foldl (fun acc k => planS (bg z k) (en n z k) acc (fo.getD k none)) [] = planF fo z n from rfl]
  simp [-tuple_ref, tr]
end
end PL

set_option Elab.async false
set_option linter.all false
set_option maxRecDepth 100000
set_option maxHeartbeats 1000000
/-! PMQ: what steps make: plain laws of plan. -/
namespace PL
open PySem
def isF (s : ST) : Bool := s.1
def prF (s : ST) : PI := (s.2.1, s.2.2)
def fetF (ss : List ST) : List PI := (ss.filter isF).map prF
def outS (old new : List Int) (s : ST) : List Int := if s.1 then cutD new (some s.2.1) (some s.2.2) else cutD old (some s.2.1) (some (s.2.1 + s.2.2))
def contF (old new : List Int) (fo : List (Option Int)) (z n k : Nat) : List Int := match fo.getD k none with
  | none => blk new z k
  | some p => cutD old (some p) (some (p + (widF n z k : Nat)))
def planJ (fo : List (Option Int)) (z n j : Nat) : List ST := (List.range j).foldl (fun acc k => planS (bg z k) (en n z k) acc (fo.getD k none)) []
theorem planJ_succ {fo : List (Option Int)} {z n j : Nat} : planJ fo z n (j + 1) = planS (bg z j) (en n z j) (planJ fo z n j) (fo.getD j none) := by
  unfold planJ
  rw [List.range_succ, List.foldl_append]; rfl
theorem planF_J {fo : List (Option Int)} {z n : Nat} : planF fo z n = planJ fo z n fo.length := rfl
theorem fet_app (a b : List ST) : fetF (a ++ b) = fetF a ++ fetF b := by simp [fetF]
@[simp] theorem fet_t (a e : Int) : fetF [(true, a, e)] = [(a, e)] := rfl
@[simp] theorem fet_f (a e : Int) : fetF [(false, a, e)] = [] := rfl
theorem cut_join {xs : List Int} {a b c : Int} (h0 : 0 ≤ a) (h1 : a ≤ b) (h2 : b ≤ c) : cutD xs (some a) (some b) ++ cutD xs (some b) (some c) = cutD xs (some a) (some c) := by
  rw [cut_both h0 (by omega), cut_both (by omega) (by omega), cut_both h0 (by omega)]
  have e : xs.drop b.toNat = (xs.drop a.toNat).drop (b.toNat - a.toNat) := by
    rw [List.drop_drop]; congr 1; omega
  rw [e, show c.toNat - a.toNat = (b.toNat - a.toNat) + (c.toNat - b.toNat) by omega, List.take_add]
theorem en_eq {n z k : Nat} (h : k * z < n) : en n z k = bg z k + (widF n z k : Nat) := by
  have e1 : (k + 1) * z = k * z + z := by rw [Nat.add_mul]; omega
  simp only [en, bg, widF]; omega
theorem wid_pos {n z k : Nat} (hz : 0 < z) (h : k * z < n) : 1 ≤ widF n z k := by
  have e1 : (k + 1) * z = k * z + z := by rw [Nat.add_mul]; omega
  simp only [widF]; omega
theorem wid_le {n z k : Nat} : widF n z k ≤ z := by
  have e1 : (k + 1) * z = k * z + z := by rw [Nat.add_mul]; omega
  simp only [widF]; omega
theorem blk_len {xs : List Int} {z k : Nat} (h : k * z < xs.length) : (blk xs z k).length = widF xs.length z k := by
  have e1 : (k + 1) * z = k * z + z := by rw [Nat.add_mul]; omega
  simp only [blk, widF, List.length_take, List.length_drop]; omega
/-- what the steps ahead of j make, and their last one -/
structure PlanI (old new : List Int) (fo : List (Option Int)) (z n j : Nat) (acc : List ST) : Prop where
  out : acc.flatMap (outS old new) = (List.range j).flatMap (contF old new fo z n)
  lastT : ∀ a e, acc.getLast? = some (true, a, e) → 0 ≤ a ∧ a < e ∧ e = min (n : Int) ((j * z : Nat) : Int)
  lastC : ∀ a w, acc.getLast? = some (false, a, w) → 0 ≤ a ∧ 0 ≤ w
  can : Can (fetF acc)
  mem : ∀ x, inR (fetF acc) x ↔ ∃ k, k < j ∧ fo.getD k none = none ∧ bg z k ≤ x ∧ x < en n z k
  lt : ∀ p ∈ fetF acc, p.2 ≤ ((j * z : Nat) : Int)
  lt' : (∀ a e, acc.getLast? ≠ some (true, a, e)) → ∀ p ∈ fetF acc, p.2 < ((j * z : Nat) : Int) ∨ j = 0
  wd : width (fetF acc) = ((List.range j).filter fun k => (fo.getD k none).isNone).foldr (fun k a => ((widF n z k : Nat) : Int) + a) 0
theorem foldr_snoc (f : Nat → Int) (xs : List Nat) (y : Nat) : (xs ++ [y]).foldr (fun k a => f k + a) 0 = xs.foldr (fun k a => f k + a) 0 + f y := by
  induction xs with
  | nil => simp
  | cons x xs ih => simp only [List.cons_append, List.foldr_cons, ih]; omega
theorem planI {old new : List Int} {fo : List (Option Int)} {z n : Nat} (hz : 0 < z) (hn : new.length = n) (hf : ∀ k p, fo.getD k none = some p → 0 ≤ p) : ∀ j, j ≤ nB n z → PlanI old new fo z n j (planJ fo z n j)
  | 0, _ => by
    refine ⟨rfl, ?_, ?_, can_nil, ?_, ?_, ?_, rfl⟩ <;> simp [planJ, fetF]
  | j + 1, hj => by
    have ih := planI (old := old) (new := new) (fo := fo) hz hn hf j (by omega)
    have kz : j * z < n := (nB_lt hz).mp (by omega)
    have e1 : (j + 1) * z = j * z + z := by rw [Nat.add_mul]; omega
    have ee := en_eq kz
    have wp := wid_pos hz kz
    have emin : en n z j = min (n : Int) (((j + 1) * z : Nat) : Int) := by simp only [en]; omega
    have bge : bg z j = ((j * z : Nat) : Int) := rfl
    have cb : cutD new (some (bg z j)) (some (en n z j)) = blk new z j := by rw [← hn]; exact cut_blk2
    rw [planJ_succ]
    generalize planJ fo z n j = acc at ih
    have outE : (List.range (j + 1)).flatMap (contF old new fo z n) = acc.flatMap (outS old new) ++ contF old new fo z n j := by
      rw [List.range_succ, List.flatMap_append, ih.out]; simp
    have memE : ∀ x, (∃ k, k < j + 1 ∧ fo.getD k none = none ∧ bg z k ≤ x ∧ x < en n z k) ↔ (∃ k, k < j ∧ fo.getD k none = none ∧ bg z k ≤ x ∧ x < en n z k) ∨ (fo.getD j none = none ∧ bg z j ≤ x ∧ x < en n z j) := by
      intro x
      constructor
      · rintro ⟨k, hk, q⟩
        rcases Nat.lt_or_eq_of_le (Nat.lt_succ_iff.mp hk) with h | rfl
        · exact .inl ⟨k, h, q⟩
        · exact .inr q
      · rintro (⟨k, hk, q⟩ | q)
        · exact ⟨k, by omega, q⟩
        · exact ⟨j, by omega, q⟩
    have wdE : ((List.range (j + 1)).filter fun k => (fo.getD k none).isNone).foldr (fun k a => ((widF n z k : Nat) : Int) + a) 0 = width (fetF acc) + (if (fo.getD j none).isNone then ((widF n z j : Nat) : Int) else 0) := by
      rw [ih.wd, List.range_succ, List.filter_append]
      cases h : (fo.getD j none).isNone
      · simp [h, -List.getD_eq_getElem?_getD]
      · simp only [List.filter_cons, h, List.filter_nil, if_true]
        exact foldr_snoc (fun k => ((widF n z k : Nat) : Int)) _ _
    cases hp : fo.getD j none with
    | none =>
      have hc : contF old new fo z n j = blk new z j := by simp only [contF, hp]
      rw [hp] at wdE memE
      simp only [Option.isNone_none, if_true] at wdE
      rcases acc.eq_nil_or_concat with rfl | ⟨g, ⟨b, a, e⟩, rfl⟩
      · have hps : planS (bg z j) (en n z j) [] none = [(true, bg z j, en n z j)] := rfl
        have f0 : fetF [] = [] := rfl
        have hmem := ih.mem
        rw [hps]
        rw [f0] at hmem wdE
        refine ⟨?_, ?_, ?_, ?_, ?_, ?_, ?_, ?_⟩
        · rw [outE, hc, ← cb]; simp [outS]
        · intro a e h; simp at h; obtain ⟨rfl, rfl⟩ := h; exact ⟨bg_nn, by omega, emin⟩
        · intro a w h; simp at h
        · rw [fet_t, can_cons]; exact ⟨by simp only; omega, by simp, can_nil⟩
        · intro x; rw [memE, ← hmem, fet_t]; simp
        · intro p; rw [fet_t]; intro hp'; rw [List.mem_singleton.mp hp']; simp only [emin]; omega
        · intro h; exact absurd rfl (h _ _)
        · rw [wdE, fet_t]; simp only [width, List.map_nil, List.sum_nil, List.map_cons, List.sum_cons]; omega
      · cases b with
        | true =>
          obtain ⟨a0, ae, e0⟩ := ih.lastT a e (by simp)
          have e0 : e = bg z j := by rw [e0, bge]; omega
          subst e0
          have hps : planS (bg z j) (en n z j) (g.concat (true, a, bg z j)) none = g ++ [(true, a, en n z j)] := by simp [planS]
          have hcan := ih.can
          have hmem := ih.mem
          have hw : width (fetF (g.concat (true, a, bg z j))) = width (fetF g) + (bg z j - a) := by
            rw [List.concat_eq_append, fet_app, fet_t, width_snoc]
          have hle := ih.lt
          rw [List.concat_eq_append] at hcan hmem hle
          simp only [fet_app, fet_t] at hcan hmem hle
          rw [can_snoc] at hcan
          rw [hps]
          refine ⟨?_, ?_, ?_, ?_, ?_, ?_, ?_, ?_⟩
          · rw [outE, hc, ← cb]
            simp only [List.concat_eq_append, List.flatMap_append, List.append_assoc]
            congr 1
            simp only [List.flatMap_cons, List.flatMap_nil, List.append_nil, outS, if_true]
            exact (cut_join a0 (by omega) (by omega)).symm
          · intro a' e' h; simp at h; obtain ⟨rfl, rfl⟩ := h; exact ⟨a0, by omega, emin⟩
          · intro a w h; simp at h
          · rw [fet_app, fet_t, can_snoc]; exact ⟨hcan.1, hcan.2.1, by omega⟩
          · intro x
            rw [memE, ← hmem, fet_app, fet_t]
            simp only [inR_append, inR_cons, inR_nil, or_false, true_and]
            constructor
            · rintro (h | h)
              · exact .inl (.inl h)
              · by_cases q : x < bg z j
                · exact .inl (.inr ⟨h.1, q⟩)
                · exact .inr ⟨by omega, h.2⟩
            · rintro ((h | h) | h)
              · exact .inl h
              · exact .inr ⟨h.1, by omega⟩
              · exact .inr ⟨by omega, h.2⟩
          · intro p hp'
            rw [fet_app, fet_t] at hp'
            rcases List.mem_append.mp hp' with h | h
            · have := hle p (List.mem_append.mpr (.inl h)); omega
            · simp at h; subst h; simp only [emin]; omega
          · intro h; exact absurd (by simp) (h a (en n z j))
          · rw [wdE, hw, fet_app, fet_t, width_snoc]; simp only; omega
        | false =>
          have hps : planS (bg z j) (en n z j) (g.concat (false, a, e)) none = g ++ [(false, a, e)] ++ [(true, bg z j, en n z j)] := by simp [planS]
          have hl := ih.lt' (by simp)
          rw [List.concat_eq_append] at ih hl wdE outE
          rw [hps]
          have hl2 : ∀ p ∈ fetF (g ++ [(false, a, e)]), p.2 < bg z j := by
            intro p hp'
            rcases hl p hp' with h | h
            · exact h
            · subst h
              have := ih.mem p.1
              have q := (ih.can.2 p hp')
              exact absurd (this.mp ⟨p, hp', Int.le_refl _, q⟩) (by rintro ⟨k, hk, _⟩; omega)
          generalize hacc : g ++ [(false, a, e)] = acc at *
          refine ⟨?_, ?_, ?_, ?_, ?_, ?_, ?_, ?_⟩
          · rw [outE, hc, ← cb]; simp [outS]
          · intro a' e' h; simp at h; obtain ⟨rfl, rfl⟩ := h; exact ⟨bg_nn, by omega, emin⟩
          · intro a w h; simp at h
          · rw [fet_app, fet_t, can_snoc]; exact ⟨ih.can, hl2, by simp only; omega⟩
          · intro x; rw [memE, ← ih.mem, fet_app, fet_t]; simp
          · intro p hp'
            rw [fet_app, fet_t] at hp'
            rcases List.mem_append.mp hp' with h | h
            · have := ih.lt p h; omega
            · simp at h; subst h; simp only [emin]; omega
          · intro h; exact absurd (by simp) (h (bg z j) (en n z j))
          · rw [wdE, fet_app, fet_t, width_snoc]; simp only; omega
    | some p =>
      have p0 := hf j p hp
      have hc : contF old new fo z n j = cutD old (some p) (some (p + (widF n z j : Nat))) := by simp only [contF, hp]
      rw [hp] at wdE memE
      simp only [Option.isNone_some, if_false, Bool.false_eq_true] at wdE
      have hd : en n z j - bg z j = (widF n z j : Nat) := by omega
      have key : ∀ acc', fetF acc' = fetF acc → (∃ a w, acc'.getLast? = some (false, a, w) ∧ 0 ≤ a ∧ 0 ≤ w) → acc'.flatMap (outS old new) = acc.flatMap (outS old new) ++ cutD old (some p) (some (p + (widF n z j : Nat))) → PlanI old new fo z n (j + 1) acc' := by
        rintro acc' h1 ⟨a, w, h2, h3⟩ h4
        refine ⟨by rw [h4, outE, hc], ?_, ?_, by rw [h1]; exact ih.can, ?_, ?_, ?_, ?_⟩
        · intro a' e' h; rw [h2] at h; cases h
        · intro a' e' h; rw [h2] at h; cases h; exact h3
        · intro x; rw [memE, h1, ih.mem]; simp
        · intro q hq; rw [h1] at hq; have := ih.lt q hq; omega
        · intro _ q hq; rw [h1] at hq; have := ih.lt q hq; omega
        · rw [wdE, h1]; omega
      rcases acc.eq_nil_or_concat with rfl | ⟨g, ⟨b, a, e⟩, rfl⟩
      · refine key _ (by simp [planS, fetF, isF]) ⟨p, _, by simp [planS]; rfl, p0, by omega⟩ ?_
        simp [planS, outS, hd]
      · have app : ∀ acc : List ST, PlanI old new fo z n j acc → planS (bg z j) (en n z j) acc (some p) = acc ++ [(false, p, en n z j - bg z j)] → (fetF (planS (bg z j) (en n z j) acc (some p)) = fetF acc ∧ (∃ a w, (planS (bg z j) (en n z j) acc (some p)).getLast? = some (false, a, w) ∧ 0 ≤ a ∧ 0 ≤ w) ∧ (planS (bg z j) (en n z j) acc (some p)).flatMap (outS old new) = acc.flatMap (outS old new) ++ cutD old (some p) (some (p + (widF n z j : Nat)))) := by
          intro acc _ h
          rw [h]
          refine ⟨by simp [fet_app], ⟨p, _, by simp; rfl, p0, by omega⟩, by simp [outS, hd]⟩
        cases b with
        | true =>
          obtain ⟨h1, h2, h3⟩ := app _ ih (by simp [planS])
          exact key _ h1 h2 h3
        | false =>
          obtain ⟨a0, w0⟩ := ih.lastC a e (by simp)
          by_cases q : a + e = p
          · have hps : planS (bg z j) (en n z j) (g.concat (false, a, e)) (some p) = g ++ [(false, a, e + en n z j - bg z j)] := by simp [planS, q]
            rw [hps]
            refine key _ (by simp [fet_app]) ⟨a, _, by simp; rfl, a0, by omega⟩ ?_
            simp only [List.concat_eq_append, List.flatMap_append, List.append_assoc]
            congr 1
            simp only [List.flatMap_cons, List.flatMap_nil, List.append_nil, outS, Bool.false_eq_true, if_false]
            rw [q, show a + (e + en n z j - bg z j) = p + (widF n z j : Nat) by omega]
            exact (cut_join a0 (by omega) (by omega)).symm
          · obtain ⟨h1, h2, h3⟩ := app _ ih (by simp [planS, q])
            exact key _ h1 h2 h3
/-! blocks of what is made -/
section
variable {old new : List Int} {fo : List (Option Int)} {z n : Nat}
theorem flat_take (c : Nat → List Int) (hc : ∀ k, k * z < n → (c k).length = widF n z k) : ∀ j, (j = 0 ∨ (j - 1) * z < n) → ((List.range j).flatMap c).length = min n (j * z)
  | 0, _ => by simp
  | j + 1, h => by
    have h : j * z < n := by simpa using h
    have e1 : (j + 1) * z = j * z + z := by rw [Nat.add_mul]; omega
    have ih := flat_take c hc j (by
      rcases j with _ | j
      · exact .inl rfl
      · refine .inr ?_
        have : (j + 1) * z = j * z + z := by rw [Nat.add_mul]; omega
        simp; omega)
    rw [List.range_succ, List.flatMap_append, List.length_append, ih]
    simp only [List.flatMap_cons, List.flatMap_nil, List.append_nil, hc j h, widF]
    omega
theorem nB_len (hz : 0 < z) : nB n z = 0 ∨ (nB n z - 1) * z < n := by
  rcases Nat.eq_zero_or_pos (nB n z) with h | h
  · exact .inl h
  · exact .inr ((nB_lt hz).mp (by omega))
theorem nB_top (hz : 0 < z) : n ≤ nB n z * z := by
  have := (not_congr (nB_lt (n := n) (z := z) (k := nB n z) hz)).mp (Nat.lt_irrefl _)
  omega
theorem flat_len (c : Nat → List Int) (hz : 0 < z) (hc : ∀ k, k * z < n → (c k).length = widF n z k) : ((List.range (nB n z)).flatMap c).length = n := by
  rw [flat_take c hc _ (nB_len hz)]
  have := nB_top (n := n) hz
  omega
theorem range_split {m k : Nat} (h : k < m) : List.range m = List.range k ++ k :: (List.range (m - (k + 1))).map fun i => k + 1 + i := by
  have := List.range_add (n := k + 1) (m := m - (k + 1))
  rw [show k + 1 + (m - (k + 1)) = m by omega] at this
  rw [this, List.range_succ]
  simp
theorem flat_blk (c : Nat → List Int) (hz : 0 < z) (hc : ∀ k, k * z < n → (c k).length = widF n z k) {k : Nat} (hk : k < nB n z) : blk ((List.range (nB n z)).flatMap c) z k = c k := by
  have kz := (nB_lt hz).mp hk
  have e1 : (k + 1) * z = k * z + z := by rw [Nat.add_mul]; omega
  have l1 : ((List.range k).flatMap c).length = k * z := by
    rw [flat_take c hc k (by
      rcases k with _ | k
      · exact .inl rfl
      · refine .inr ?_
        have : (k + 1) * z = k * z + z := by rw [Nat.add_mul]; omega
        simp; omega)]
    omega
  rw [range_split hk, List.flatMap_append, List.flatMap_cons]
  unfold blk
  rw [List.drop_append_of_le_length (by omega), List.drop_of_length_le (by omega), List.nil_append]
  have hl := hc k kz
  by_cases q : (k + 1) * z ≤ n
  · have : (c k).length = z := by rw [hl]; simp only [widF]; omega
    rw [List.take_append_of_le_length (by omega), List.take_of_length_le (by omega)]
  · have : nB n z = k + 1 := by
      have := (not_congr (nB_lt (n := n) (z := z) (k := k + 1) hz)).mpr (by omega)
      omega
    rw [this]
    simp only [Nat.sub_self, List.range_zero, List.map_nil, List.flatMap_nil, List.append_nil]
    exact List.take_of_length_le (by rw [hl]; exact wid_le)
theorem flat_blks (hz : 0 < z) (hn : new.length = n) : (List.range (nB n z)).flatMap (blk new z) = new := by
  have key : ∀ j, (List.range j).flatMap (blk new z) = new.take (j * z) := by
    intro j
    induction j with
    | zero => simp
    | succ j ih =>
      rw [List.range_succ, List.flatMap_append, ih, Nat.add_mul, Nat.one_mul, List.take_add]
      simp [blk]
  rw [key, List.take_of_length_le]
  have := nB_top (n := n) hz
  omega
theorem firstF_some {ws : List Int} {n : Nat} {m i : Int} (h : firstF ws n m = some i) : ∃ t : Nat, i = t ∧ t < n ∧ ws.getD t 0 = m := by
  unfold firstF at h
  rw [Option.map_eq_some_iff] at h
  obtain ⟨t, ht, rfl⟩ := h
  have h1 := List.mem_of_find?_eq_some ht
  have h2 := List.find?_some ht
  exact ⟨t, rfl, List.mem_range.mp h1, by simpa using h2⟩
theorem firstF_none {ws : List Int} {n : Nat} {m : Int} (h : firstF ws n m = none) : ∀ t < n, ws.getD t 0 ≠ m := by
  unfold firstF at h
  rw [Option.map_eq_none_iff, List.find?_eq_none] at h
  intro t ht e
  exact h t (List.mem_range.mpr ht) (by simpa using e)
theorem found_get {ts : List Int} {k : Nat} (h : k < ts.length) : (foundF old ts z n).getD k none = firstF (winF old (widF n z k)) (winF old (widF n z k)).length (ts.getD k 0) := by
  unfold foundF
  rw [List.getD_eq_getElem?_getD, List.getElem?_map, List.getElem?_range h]; rfl
theorem found_len {ts : List Int} : (foundF old ts z n).length = ts.length := by simp [foundF]
theorem found_some {ts : List Int} {k : Nat} {p : Int} (h : (foundF old ts z n).getD k none = some p) : ∃ t : Nat, p = t ∧ t + widF n z k ≤ old.length ∧ markF ((old.drop t).take (widF n z k)) = ts.getD k 0 ∨ widF n z k = 0 ∧ p = t := by
  have hk : k < ts.length := by
    by_cases q : k < ts.length
    · exact q
    · rw [List.getD_eq_getElem?_getD, List.getElem?_eq_none (by rw [found_len]; omega)] at h; cases h
  rw [found_get hk] at h
  obtain ⟨t, rfl, h1, h2⟩ := firstF_some h
  refine ⟨t, ?_⟩
  rw [win_len'] at h1
  rw [win_get h1] at h2
  by_cases q : widF n z k = 0
  · exact .inr ⟨q, rfl⟩
  · exact .inl ⟨rfl, by omega, h2⟩
theorem found_nn {ts : List Int} {k : Nat} {p : Int} (h : (foundF old ts z n).getD k none = some p) : 0 ≤ p := by
  obtain ⟨t, ⟨rfl, _⟩ | ⟨_, rfl⟩⟩ := found_some h <;> omega
theorem tab_len {xs : List Int} : (tabF xs z).length = nB xs.length z := by simp [tabF]
theorem tab_get {xs : List Int} {k : Nat} (h : k < nB xs.length z) : (tabF xs z).getD k 0 = markF (blk xs z k) := by
  unfold tabF
  rw [List.getD_eq_getElem?_getD, List.getElem?_map, List.getElem?_range h]; rfl
/-- blocks that steps make have the told length and mark -/
theorem cont_ok (hz : 0 < z) {k : Nat} (h : k < nB new.length z) : (contF old new (foundF old (tabF new z) z new.length) z new.length k).length = widF new.length z k ∧ markF (contF old new (foundF old (tabF new z) z new.length) z new.length k) = (tabF new z).getD k 0 := by
  have kz := (nB_lt hz).mp h
  unfold contF
  cases hp : (foundF old (tabF new z) z new.length).getD k none with
  | none => exact ⟨blk_len kz, (tab_get h).symm⟩
  | some p =>
    have wp := wid_pos hz kz
    obtain ⟨t, ⟨rfl, h1, h2⟩ | ⟨h1, _⟩⟩ := found_some hp
    · have e : cutD old (some (t : Int)) (some ((t : Int) + (widF new.length z k : Nat))) = (old.drop t).take (widF new.length z k) := by
        rw [cut_both (by omega) (by omega)]; congr 1; omega
      simp only [e]
      refine ⟨?_, h2⟩
      rw [List.length_take, List.length_drop]; omega
    · omega
theorem mark_inj {xs ys : List Int} (hx : Byt xs) (hy : Byt ys) (hl : xs.length = ys.length) (h3 : xs.length ≤ 3) (hm : markF xs = markF ys) : xs = ys := by
  rw [← markT_F, ← markT_F] at hm
  unfold markT at hm
  match xs, ys, hl, h3 with
  | [], [], _, _ => rfl
  | [a], [b], _, _ =>
    have ha := hx a (by simp)
    have hb := hy b (by simp)
    simp at hm
    congr 1; omega
  | [a, a'], [b, b'], _, _ =>
    have ha := hx a (by simp)
    have hb := hy b (by simp)
    have ha' := hx a' (by simp)
    have hb' := hy b' (by simp)
    simp at hm
    rw [Int.emod_eq_of_lt (by omega) (by omega), Int.emod_eq_of_lt (by omega) (by omega)] at hm
    have : a = b ∧ a' = b' := by omega
    rw [this.1, this.2]
  | [a, a', a''], [b, b', b''], _, _ =>
    have ha := hx a (by simp)
    have hb := hy b (by simp)
    have ha' := hx a' (by simp)
    have hb' := hy b' (by simp)
    have ha'' := hx a'' (by simp)
    have hb'' := hy b'' (by simp)
    simp at hm
    rw [Int.emod_eq_of_lt (by omega) (by omega), Int.emod_eq_of_lt (by omega) (by omega)] at hm
    have : a = b ∧ a' = b' ∧ a'' = b'' := by omega
    rw [this.1, this.2.1, this.2.2]
  | [], _ :: _, h, _ => simp at h
  | _ :: _, [], h, _ => simp at h
  | [_], _ :: _ :: _, h, _ => simp at h
  | _ :: _ :: _, [_], h, _ => simp at h
  | [_, _], _ :: _ :: _ :: _, h, _ => simp at h
  | _ :: _ :: _ :: _, [_, _], h, _ => simp at h
  | _ :: _ :: _ :: _ :: _, _, _, h => simp at h
  | [_, _, _], _ :: _ :: _ :: _ :: _, h, _ => simp at h
theorem byt_cut {xs : List Int} {lo hi : Option Int} (h : Byt xs) : Byt (cutD xs lo hi) := fun x m => h x (cutD_mem m)
theorem byt_blk {xs : List Int} {k : Nat} (h : Byt xs) : Byt (blk xs z k) := byt_take (byt_drop h)
theorem cont_new (ho : Byt old) (hn : Byt new) (hz : 0 < z) (h3 : z ≤ 3) {k : Nat} (h : k < nB new.length z) : contF old new (foundF old (tabF new z) z new.length) z new.length k = blk new z k := by
  have kz := (nB_lt hz).mp h
  obtain ⟨h1, h2⟩ := cont_ok (old := old) hz h
  refine mark_inj ?_ (byt_blk hn) (by rw [h1, blk_len kz]) (by rw [h1]; exact Nat.le_trans wid_le h3) (by rw [h2, tab_get h])
  unfold contF
  split
  · exact byt_blk hn
  · exact byt_cut ho
theorem made_eq (hz : 0 < z) : (planF (foundF old (tabF new z) z new.length) z new.length).flatMap (outS old new) = (List.range (nB new.length z)).flatMap (contF old new (foundF old (tabF new z) z new.length) z new.length) := by
  rw [planF_J, found_len, tab_len]
  exact (planI hz rfl (fun k p h => found_nn h) _ (Nat.le_refl _)).out
theorem made_new (ho : Byt old) (hn : Byt new) (hz : 0 < z) (h3 : z ≤ 3) : (planF (foundF old (tabF new z) z new.length) z new.length).flatMap (outS old new) = new := by
  rw [made_eq hz, ← flat_blks (new := new) hz rfl]
  rw [flat_blks (new := new) hz rfl]
  conv => rhs; rw [← flat_blks (new := new) hz rfl]
  simp only [List.flatMap_def]
  congr 1
  exact List.map_congr_left fun k hk => cont_new ho hn hz h3 (List.mem_range.mp hk)
/-- the block stands somewhere in the old file -/
def standsF (old new : List Int) (z k : Nat) : Bool := (List.range old.length).any fun at_ => decide (cutD old (some (at_ : Int)) (some ((at_ : Int) + (blk new z k).length)) = blk new z k)
theorem stands_iff (ho : Byt old) (hn : Byt new) (hz : 0 < z) (h3 : z ≤ 3) {k : Nat} (h : k < nB new.length z) : standsF old new z k = ((foundF old (tabF new z) z new.length).getD k none).isSome := by
  have kz := (nB_lt hz).mp h
  have wp := wid_pos hz kz
  have bl := blk_len kz
  have cn := cont_new (old := old) ho hn hz h3 h
  unfold contF at cn
  unfold standsF
  rw [bl]
  cases hp : (foundF old (tabF new z) z new.length).getD k none with
  | some p =>
    rw [hp] at cn
    obtain ⟨t, ⟨rfl, h1, h2⟩ | ⟨h1, _⟩⟩ := found_some hp
    · simp only [Option.isSome_some, List.any_eq_true, List.mem_range, decide_eq_true_eq]
      exact ⟨t, by omega, cn⟩
    · omega
  | none =>
    simp only [Option.isSome_none]
    rw [Bool.eq_false_iff]
    intro hh
    simp only [List.any_eq_true, List.mem_range, decide_eq_true_eq, ne_eq] at hh
    obtain ⟨t, ht, e⟩ := hh
    have ce : cutD old (some (t : Int)) (some ((t : Int) + (widF new.length z k : Nat))) = (old.drop t).take (widF new.length z k) := by
      rw [cut_both (by omega) (by omega)]; congr 1; omega
    rw [ce] at e
    have le := congrArg List.length e
    rw [bl, List.length_take, List.length_drop] at le
    have hk : k < (tabF new z).length := by rw [tab_len]; exact h
    rw [found_get hk] at hp
    have := firstF_none hp t (by rw [win_len']; omega)
    rw [win_get (by omega), e, tab_get h] at this
    exact this rfl
theorem fetch_eq (ho : Byt old) (hn : Byt new) (hz : 0 < z) (h3 : z ≤ 3) : fetF (planF (foundF old (tabF new z) z new.length) z new.length) = rangesF (blPl new.length z fun k => !standsF old new z k) := by
  have pi := planI (old := old) (new := new) (fo := foundF old (tabF new z) z new.length) hz rfl (fun k p h => found_nn h) _ (Nat.le_refl _)
  rw [planF_J, found_len, tab_len]
  refine can_uniq pi.can (ran_can blPl_nodup) fun x => ?_
  rw [ran_in blPl_nodup, blPl_mem, pi.mem]
  unfold inR
  simp only [List.mem_map, List.mem_filter, List.mem_range]
  constructor
  · rintro ⟨k, hk, h1, h2⟩
    refine ⟨_, ⟨k, ⟨hk, ?_⟩, rfl⟩, h2⟩
    rw [stands_iff ho hn hz h3 hk, h1]; rfl
  · rintro ⟨_, ⟨k, ⟨hk, h1⟩, rfl⟩, h2⟩
    rw [stands_iff ho hn hz h3 hk] at h1
    exact ⟨k, hk, by simpa using h1, h2⟩
end
end PL

set_option Elab.async false
set_option linter.all false
set_option maxRecDepth 100000
set_option maxHeartbeats 1000000
/-! PMR: runs of to_fetch, built, the law's own plan, mended. -/
namespace PL
open PySem
section
variable {G : Tab} {call : Calls} {env : Env} {S : Store} {k : Nat}
theorem ix1_tup {a b : D} {xs : List D} : getD_ (.tup (a :: b :: xs)) (.int 1) S = some b := by rw [ix_tup, atI_nn (by decide)]; rfl
theorem ix2_tup {a b c : D} {xs : List D} : getD_ (.tup (a :: b :: c :: xs)) (.int 2) S = some c := by rw [ix_tup, atI_nn (by decide)]; rfl
theorem ix3_tup {a b c d : D} {xs : List D} : getD_ (.tup (a :: b :: c :: d :: xs)) (.int 3) S = some d := by rw [ix_tup, atI_nn (by decide)]; rfl
theorem eqvAll_int : ∀ xs ys : List Int, PyData.eqvAll (pyTs (xs.map D.int)) (pyTs (ys.map D.int)) = decide (xs = ys)
  | [], [] => rfl
  | [], _ :: _ => by simp [pyTs, PyData.eqvAll]
  | _ :: _, [] => by simp [pyTs, PyData.eqvAll]
  | x :: xs, y :: ys => by
    simp only [List.map_cons, pyTs, PyData.eqvAll, pyT, PyData.eqv, eqvAll_int xs ys]
    by_cases h : x = y <;> by_cases h' : xs = ys <;> simp [h, h']
theorem shs_int (n : Nat) : ∀ xs : List Int, shs n (xs.map D.int) = true
  | [] => by simp [shs]
  | x :: xs => by simp [shs, sh, shs_int n xs]
theorem eqD_tlI {xs ys : List Int} : eqD (tl .int xs) (tl .int ys) = some (decide (xs = ys)) := by
  have hx : ∀ xs : List Int, sh 8 (tl .int xs) = true := fun xs => by simp [tl, sh, shs_int]
  show (if sh 8 (tl .int xs) && sh 8 (tl .int ys) then some (eqv2 (tl .int xs) (tl .int ys)) else none) = _
  rw [hx, hx]
  simp only [Bool.and_self, if_true]
  congr 1
  exact eqvAll_int xs ys
@[simp] theorem eq_tlI {xs ys : List Int} : cop .eq (tl .int xs) (tl .int ys) S = some (decide (xs = ys)) := eqD_tlI
@[simp] theorem ne_tlI {xs ys : List Int} : cop .ne (tl .int xs) (tl .int ys) S = some (!decide (xs = ys)) := by
  show (eqD (tl .int xs) (tl .int ys)).map not = _
  rw [eqD_tlI]; rfl
@[simp] theorem ne_str {a b : Str} : cop .ne (.str a) (.str b) S = some (!decide (a = b)) := rfl
theorem s_cf : (("copy" : Str) = "fetch") = False := by simp; decide +kernel
theorem s_fc : (("fetch" : Str) = "copy") = False := by simp; decide +kernel
theorem st_eqF {s : ST} : cop .eq (.str (if s.1 then "fetch" else "copy")) (.str "fetch") S = some s.1 := by
  cases h : s.1
  · show some (decide (("copy" : Str) = "fetch")) = _; decide
  · show some (decide (("fetch" : Str) = "fetch")) = _; decide
theorem st_eqC {s : ST} : cop .eq (.str (if s.1 then "fetch" else "copy")) (.str "copy") S = some (!s.1) := by
  cases h : s.1
  · show some (decide (("copy" : Str) = "copy")) = _; decide
  · show some (decide (("fetch" : Str) = "copy")) = _; decide
theorem r_to_fetch [h : Has G i_to_fetch f_to_fetch] {ss : List ST} (hl : ss.length ≤ 9000) : run G (k + 1) i_to_fetch [tl stD ss] S = .ok (tl pairD (fetF ss)) S := by
  refine pure_W (h := h) rfl rfl (by simp [frzAs]; rfl) ?_
  simp only [b_to_fetch, startE, x_ret, e_bf, e_cons, e_nil]
  rw [ev_comp (enc := stD) (xs := ss) (d := tl stD ss) (p := isF) (fun s => .tup [.int s.2.1, .int s.2.2])]
  rotate_left
  · simp
  · simp
  · simp [SZ]; omega
  · intro s _
    have e : cop .eq (.str (if s.1 then "fetch" else "copy")) (.str "fetch") [] = some s.1 := st_eqF
    cases hs : s.1 with
    | true => rw [hs] at e; simp [compB, stD, ix0_tup, ix1_tup, ix2_tup, hs, isF]
    | false => rw [hs] at e; simp [compB, stD, ix0_tup, ix1_tup, ix2_tup, hs, s_cf, isF]
  have : ∀ xs : List D, bfD .tuple [.lst xs] [] = some (.tup xs) := fun _ => rfl
  have e2 : D.tup ((ss.filter isF).map fun s => .tup [.int s.2.1, .int s.2.2]) = tl pairD (fetF ss) := by
    simp [tl, fetF, pairD, prF]
  simp only [R.bind_ok, toTup_tup, this, R.of_some, R.stm_ok, sat_finP_rt, e2, frzR_tl]
theorem fet_get {ss : List ST} {j : Nat} {s : ST} (hj : ss[j]? = some s) (hs : s.1 = true) : (fetF ss)[(fetF (ss.take j)).length]? = some (prF s) := by
  have h := (List.getElem?_eq_some_iff.mp hj)
  obtain ⟨lt, e⟩ := h
  have e0 : fetF ss = fetF (ss.take j) ++ prF s :: fetF (ss.drop (j + 1)) := by
    conv => lhs; rw [← List.take_append_drop j ss, fet_app, List.drop_eq_getElem_cons lt, e]
    simp [fetF, isF, hs]
  rw [e0, List.getElem?_append_right (Nat.le_refl _), Nat.sub_self]
  rfl
theorem r_built [h : Has G i_built f_built] {old new : List Int} {ss : List ST} {pd : D} (hl : ss.length ≤ 9000) (ht : (ss.flatMap (outS old new)).length ≤ 100000)
    (hf : ∀ S, frzA S pd = some pd) (hg : ∀ (i : Nat) S, getD_ pd (.int i) S = ((fetF ss)[i]?).map fun p => tl .int (cutD new (some p.1) (some p.2))) :
    run G (k + 1) i_built [tl .int old, tl stD ss, pd] S = .ok (tl .int (ss.flatMap (outS old new))) S := by
  refine pure_W (h := h) rfl rfl (by simp [frzAs, hf]; rfl) ?_
  simp only [b_built, startE]
  simp
  refine x_forW (fun j e s => s = [] ∧ ∃ t5, e = [some (tl .int old), some (tl stD ss), some pd, some (tl .int ((ss.take j).flatMap (outS old new))), some (.int ((fetF (ss.take j)).length : Nat)), t5]) (enc := stD) (xs := ss) (d := tl stD ss) ?_ ?_ ?_ ?_ ?_
  · simp
  · simp
  · exact ⟨rfl, _, rfl⟩
  · rintro j s _ _ hj ⟨rfl, t5, rfl⟩
    have lt := (List.getElem?_eq_some_iff.mp hj).1
    have e1 : ss.take (j + 1) = ss.take j ++ [s] := by rw [List.take_succ, hj]; rfl
    have tot : ((ss.take j).flatMap (outS old new)).length + (outS old new s).length ≤ 100000 := by
      have e : ss = ss.take (j + 1) ++ ss.drop (j + 1) := (List.take_append_drop _ _).symm
      rw [e, List.flatMap_append, e1, List.flatMap_append] at ht
      simp only [List.length_append, List.flatMap_cons, List.flatMap_nil, List.append_nil] at ht
      omega
    have ad : bop .add (tl .int ((ss.take j).flatMap (outS old new))) (tl .int (outS old new s)) [] = some (tl .int ((ss.take j).flatMap (outS old new) ++ outS old new s)) := add_tl (by unfold SZ; omega)
    have ec : ∀ S, cop .eq (.str (if s.1 then "fetch" else "copy")) (.str "copy") S = some (!s.1) := fun S => st_eqC
    have fg := fet_get hj
    have e2 : (((fetF (ss.take (j + 1))).length : Nat) : Int) = ((fetF (ss.take j)).length : Nat) + ((fetF [s]).length : Nat) := by rw [e1, fet_app, List.length_append]; omega
    rw [e2, e1, List.flatMap_append]
    clear e1 e2
    generalize (ss.take j).flatMap (outS old new) = fnd at *
    generalize (fetF (ss.take j)).length = at_ at *
    generalize fetF ss = ps at *
    cases hs : s.1 with
    | true =>
      rw [hs] at ec
      have fg := fg hs
      have ot : outS old new s = cutD new (some s.2.1) (some s.2.2) := by simp [outS, hs]
      have fs : fetF [s] = [prF s] := by simp [fetF, isF, hs]
      rw [ot] at ad
      simp [turnB, stD, ix0_tup, ix1_tup, ix2_tup, hs, s_fc, hg, fg, prF, ad, ot, fs]
    | false =>
      rw [hs] at ec
      have ot : outS old new s = cutD old (some s.2.1) (some (s.2.1 + s.2.2)) := by simp [outS, hs]
      have fs : fetF [s] = [] := by simp [fetF, isF, hs]
      rw [ot] at ad
      simp [turnB, stD, ix0_tup, ix1_tup, ix2_tup, hs, isEmp, part, ad, ot, fs]
  rintro _ _ ⟨rfl, t5, rfl⟩
  simp
theorem sum2 {a b : Int} : bfD .sum [.tup [.int a, .int b]] S = some (.int (a + b)) := by
  show (intsD [D.int a, D.int b]).map (fun is => D.int is.sum) = _
  simp [intsD]
theorem cut3 {a b c : D} : cutD [a, b, c] (some 1) none = [b, c] := by rw [cut_from (by decide)]; rfl
theorem r_l_plan [h : Has G i_l_plan f_l_plan] {fo : List (Option Int)} {z n : Nat} (hl : fo.length ≤ 9000) (hz' : z < 1000000) :
    run G (k + 1) i_l_plan [tl (opD .int) fo, .int z, .int n] S = .ok (tl stD (planF fo z n)) S := by
  refine pure_W (h := h) rfl rfl (by simp [frzAs]; rfl) ?_
  simp only [b_l_plan, startE]
  simp
  refine x_forA (fun acc k => planS (bg z k) (en n z k) acc (fo.getD k none)) [] (fun j acc e s => acc.length ≤ j ∧ s = [.lst (acc.map stD)] ∧ ∃ t5 t6 t7 t8, e = [some (tl (opD .int) fo), some (.int z), some (.int n), some (.ref 0), t5, t6, t7, t8]) (enc := fun k => D.tup [.int (k : Nat), opD .int (fo.getD k none)]) (xs := List.range fo.length) (d := .tup [tl (opD .int) fo]) ?_ ?_ ?_ ?_ ?_
  · simp
  · exact mkIt_enumG (f := opD .int) none
  · exact ⟨Nat.le_refl _, rfl, _, _, _, _, rfl⟩
  · rintro j x acc _ _ hj ⟨al, rfl, t5, t6, t7, t8, rfl⟩
    obtain ⟨rfl, lt⟩ := range_get hj
    have pl := planS_len (bg z x) (en n z x) acc (fo.getD x none)
    generalize fo.getD x none = place at *
    have ml : ∀ S, bop .mul (.int x) (.int z) S = some (.int (bg z x)) := fun S => by rw [bop_mul_r (small_of (by omega) (by omega))]; simp [bg]
    have mn : ∀ S, bfD .min [.int n, .int (bg z x + (z : Int))] S = some (.int (en n z x)) := fun S => by
      have e : (x + 1) * z = x * z + z := by rw [Nat.add_mul]; omega
      rw [bf_min2]; congr 2
      simp only [bg, en, e]; omega
    have ap := fun (ys : List D) (y : D) (h : ys.length < 16777216) => app_ref (S := [.lst ys]) (n := 0) (y := y) rfl h
    have ao := fun (ys : List D) => PL.app_ok (S := [.lst ys]) (n := 0) rfl
    have sl := fun (ys : List D) (v : D) (h : ys ≠ []) => setI_last (S := [.lst ys]) (n := 0) (v := v) rfl h
    have i0 : ∀ (a : D) xs S, getD_ (.tup (a :: xs)) (.int 0) S = some a := fun a xs S => ix0_tup
    have i1 : ∀ (a b : D) xs S, getD_ (.tup (a :: b :: xs)) (.int 1) S = some b := fun a b xs S => ix1_tup
    have i2 : ∀ (a b c : D) xs S, getD_ (.tup (a :: b :: c :: xs)) (.int 2) S = some c := fun a b c xs S => ix2_tup
    have e3 : (("copy" : Str) = "fetch") = False := by simp; decide
    have e4 : (("fetch" : Str) = "copy") = False := by simp; decide
    have c3 : ∀ (a b c : D), cutD [a, b, c] (some 1) none = [b, c] := fun a b c => cut3
    have s2 : ∀ (a b : Int) S, bfD .sum [.tup [.int a, .int b]] S = some (.int (a + b)) := fun a b S => sum2
    rcases acc.eq_nil_or_concat with rfl | ⟨g, ⟨b, q, w⟩, rfl⟩
    · cases place with
      | none =>
        simp [turnB, ml, mn, -bf_min, opD, ao, ap, planS]
        rfl
      | some p =>
        simp [turnB, ml, mn, -bf_min, opD, ao, ap, planS]
        rfl
    · have gl : g.length + 1 ≤ 9000 := by simp at al; omega
      have la : ∀ (d : D), L2.atI (g.map stD ++ [d]) (-1) = some d := fun d => by rw [atI_last]; simp
      have sl1 : ∀ (d v : D), setIx (.ref 0) (.int (-1)) v [.lst (g.map stD ++ [d])] = some [.lst (g.map stD ++ [v])] := fun d v => by rw [sl _ v (by simp)]; simp
      have ap1 : ∀ (d v : D), bmD .append (.ref 0) [v] [.lst (g.map stD ++ [d])] = .ok .non [.lst (g.map stD ++ [d, v])] := fun d v => by rw [ap _ v (by simp; omega)]; simp
      cases b with
      | true =>
        cases place with
        | none =>
          simp [turnB, ml, mn, -bf_min, opD, negD, la, i0, i1, i2, e3, e4, ao, sl1, planS, stD]
          simp at al; omega
        | some p =>
          simp [turnB, ml, mn, -bf_min, opD, negD, la, i0, i1, i2, e3, e4, ao, ap1, planS, stD]
          simp at al; omega
      | false =>
        cases place with
        | none =>
          simp [turnB, ml, mn, -bf_min, opD, negD, la, i0, i1, i2, e3, e4, ao, ap1, planS, stD]
          simp at al; omega
        | some p =>
          by_cases hp : q + w = p
          · simp [turnB, ml, mn, -bf_min, opD, negD, la, i0, i1, i2, e3, e4, ao, sl1, planS, stD, isEmp, part, c3, s2, hp]
            simp at al; omega
          · simp [turnB, ml, mn, -bf_min, opD, negD, la, i0, i1, i2, e3, e4, ao, ap1, planS, stD, isEmp, part, c3, s2, hp]
            simp at al; omega
  rintro _ _ ⟨al, rfl, t5, t6, t7, t8, rfl⟩
  have tr : ∀ (xs : List ST), bfD .tuple [.ref 0] [.lst (xs.map stD)] = some (tl stD xs) := fun xs => rfl
  rw [show (List.range fo.length).foldl (fun acc k => planS (bg z k) (en n z k) acc (fo.getD k none)) [] = planF fo z n from rfl]
  simp [-tuple_ref, tr]
/-! mended -/
abbrev plnF (old new : List Int) (z : Nat) : List ST := planF (foundF old (tabF new z) z new.length) z new.length
def madeF (old new : List Int) (z : Nat) : List Int := (plnF old new z).flatMap (outS old new)
theorem made_len {old new : List Int} {z : Nat} (hz : 0 < z) : (madeF old new z).length = new.length := by
  unfold madeF
  rw [made_eq hz]
  exact flat_len _ hz fun k hk => (cont_ok hz ((nB_lt hz).mpr hk)).1
theorem made_mark {old new : List Int} {z k : Nat} (hz : 0 < z) (hk : k < nB new.length z) : markF (blk (madeF old new z) z k) = (tabF new z).getD k 0 := by
  unfold madeF
  rw [made_eq hz, flat_blk _ hz (fun k hk => (cont_ok hz ((nB_lt hz).mpr hk)).1) hk]
  exact (cont_ok hz hk).2
theorem made_tab {old new : List Int} {z : Nat} (hz : 0 < z) : tabF (madeF old new z) z = tabF new z := by
  refine List.ext_getElem (by rw [tab_len, tab_len, made_len hz]) fun i h1 h2 => ?_
  have hi : i < nB new.length z := by rwa [tab_len] at h2
  have := made_mark (old := old) hz hi
  rw [List.getD_eq_getElem?_getD, List.getElem?_eq_getElem h2] at this
  rw [show (tabF (madeF old new z) z)[i] = markF (blk (madeF old new z) z i) by simp [tabF]]
  exact this
theorem pln_len {old new : List Int} {z : Nat} (hz : 0 < z) : (plnF old new z).length ≤ nB new.length z := by
  have key : ∀ (fo : List (Option Int)) (n : Nat) (xs : List Nat) (a : List ST), (xs.foldl (fun acc k => planS (bg z k) (en n z k) acc (fo.getD k none)) a).length ≤ a.length + xs.length := by
    intro fo n xs
    induction xs with
    | nil => intro a; simp
    | cons x xs ih =>
      intro a
      rw [List.foldl_cons]
      have := ih (planS (bg z x) (en n z x) a (fo.getD x none))
      have := planS_len (bg z x) (en n z x) a (fo.getD x none)
      simp only [List.length_cons]
      omega
  have := key (foundF old (tabF new z) z new.length) new.length (List.range (foundF old (tabF new z) z new.length).length) []
  simp only [List.length_range, found_len, tab_len, List.length_nil, Nat.zero_add] at this
  unfold plnF planF
  rw [found_len, tab_len]
  exact this
theorem pln_I {old new : List Int} {z : Nat} (hz : 0 < z) : PlanI old new (foundF old (tabF new z) z new.length) z new.length (nB new.length z) (plnF old new z) := by
  have := planI (old := old) (new := new) (fo := foundF old (tabF new z) z new.length) hz rfl (fun k p h => found_nn h) _ (Nat.le_refl _)
  unfold plnF
  rw [planF_J, found_len, tab_len]
  exact this
theorem fet_in {old new : List Int} {z : Nat} (hz : 0 < z) {p : PI} (hp : p ∈ fetF (plnF old new z)) : 0 ≤ p.1 ∧ p.1 < p.2 ∧ p.2 ≤ new.length := by
  have I := pln_I (old := old) (new := new) hz
  have h1 := I.can.2 p hp
  have a := (I.mem p.1).mp ⟨p, hp, Int.le_refl _, h1⟩
  have b := (I.mem (p.2 - 1)).mp ⟨p, hp, by omega, by omega⟩
  obtain ⟨k, _, _, k1, _⟩ := a
  obtain ⟨k', _, _, _, k2⟩ := b
  have : 0 ≤ bg z k := bg_nn
  have : en new.length z k' ≤ new.length := by simp only [en]; omega
  omega
theorem fet_sum {new : List Int} {ps : List PI} (h : ∀ p ∈ ps, 0 ≤ p.1 ∧ p.1 < p.2 ∧ p.2 ≤ new.length) : (ps.map fun p => ((cutD new (some p.1) (some p.2)).length : Int)).sum = width ps := by
  unfold width
  congr 1
  refine List.map_congr_left fun p hp => ?_
  have := h p hp
  rw [cut_both (by omega) (by omega), List.length_take, List.length_drop]
  omega
theorem not_isEmpty_filter {α : Type} (p : α → Bool) : ∀ xs : List α, (!(xs.filter p).isEmpty) = xs.any p
  | [] => rfl
  | x :: xs => by
    rw [List.filter_cons, List.any_cons]
    cases h : p x
    · simpa using not_isEmpty_filter p xs
    · simp
theorem self_found {new : List Int} {z k : Nat} (hz : 0 < z) (hk : k < nB new.length z) : (foundF new (tabF new z) z new.length).getD k none ≠ none := by
  intro hp
  have kz := (nB_lt hz).mp hk
  have wp := wid_pos hz kz
  have wl : k * z + widF new.length z k ≤ new.length := by
    have e1 : (k + 1) * z = k * z + z := by rw [Nat.add_mul]; omega
    simp only [widF]; omega
  rw [found_get (by rw [tab_len]; exact hk)] at hp
  have := firstF_none hp (k * z) (by rw [win_len']; omega)
  rw [win_get (by omega), tab_get hk] at this
  refine this ?_
  congr 1
  unfold blk
  have e1 : (k + 1) * z = k * z + z := by rw [Nat.add_mul]; omega
  by_cases q : widF new.length z k = z
  · rw [q]
  · rw [List.take_of_length_le (by rw [List.length_drop]; simp only [widF] at *; omega), List.take_of_length_le (by rw [List.length_drop]; simp only [widF] at *; omega)]
theorem self_wd {new : List Int} {z : Nat} (hz : 0 < z) : width (fetF (plnF new new z)) = 0 := by
  rw [(pln_I (old := new) (new := new) hz).wd]
  have : ((List.range (nB new.length z)).filter fun k => ((foundF new (tabF new z) z new.length).getD k none).isNone) = [] := by
    rw [List.filter_eq_nil_iff]
    intro k hk
    have := self_found (new := new) hz (List.mem_range.mp hk)
    cases h : (foundF new (tabF new z) z new.length).getD k none with
    | none => exact absurd h this
    | some p => simp
  rw [this]; rfl
theorem r_mended [h : Has G i_mended f_mended] [hpl : Has G i_plan f_plan] [htf : Has G i_to_fetch f_to_fetch] [hbu : Has G i_built f_built] [hfb : Has G i_found_blocks f_found_blocks] [hb : Has G i_block_range f_block_range] [hw : Has G i_windows f_windows] [hp : Has G i_power f_power] [hm : Has G i_mark_of f_mark_of] [h0 : HasC G 0 (.int 2147483647)] [h1 : HasC G 1 (.int 257)] {old new : List Int} {z : Nat} (ho : old.length ≤ 1000) (hn : new.length ≤ 1000) (hz : 0 < z) (hz' : z < 1000000) :
    run G (k + 5) i_mended [tl .int old, tl .int (tabF new z), .int z, .int new.length, tl .int new] S = .ok (.tup [tl .int (madeF old new z), .int (width (fetF (plnF old new z)))]) S := by
  have nb : nB new.length z ≤ 1000 := Nat.le_trans (nB_le hz) hn
  have pl := pln_len (old := old) (new := new) hz
  have rp : ∀ S, run G (k + 4) i_plan [tl .int old, tl .int (tabF new z), .int z, .int new.length] S = .ok (tl stD (plnF old new z)) S := fun S => r_plan (by rw [tab_len]; omega) ho hz hz' (by rw [tab_len]; exact Nat.le_refl _)
  have fl : (fetF (plnF old new z)).length ≤ 1000 := by
    have := List.length_filter_le isF (plnF old new z)
    simp only [fetF, List.length_map]; omega
  have rt : ∀ S, run G (k + 4) i_to_fetch [tl stD (plnF old new z)] S = .ok (tl pairD (fetF (plnF old new z))) S := fun S => r_to_fetch (by omega)
  have ml := made_len (old := old) (new := new) hz
  have rb : ∀ S, run G (k + 4) i_built [tl .int old, tl stD (plnF old new z), ll (tl .int) ((fetF (plnF old new z)).map fun p => cutD new (some p.1) (some p.2))] S = .ok (tl .int (madeF old new z)) S := fun S =>
    r_built (new := new) (by omega) (by have := ml; unfold madeF at this; omega) (fun S => frzA_ll) (fun i S => by rw [ix_ll, atI_nat, List.getElem?_map, Option.map_map]; rfl)
  have fs := fet_sum (new := new) (ps := fetF (plnF old new z)) fun p hp => fet_in hz hp
  have mm := fun k => made_mark (old := old) (new := new) (z := z) (k := k) hz
  generalize madeF old new z = made at *
  generalize plnF old new z = ss at *
  generalize fetF ss = ps at *
  refine pure_W (h := h) rfl rfl (by simp [frzAs]; rfl) ?_
  simp only [b_mended, startE]
  simp [rp]
  rw [ev_compG (enc := pairD) (xs := ps) (d := tl pairD ps) (tl .int) (fun p => cutD new (some p.1) (some p.2))]
  rotate_left
  · simp [rt]
  · simp
  · unfold SZ; omega
  · intro p _
    simp [compB, isEmp, part]
  simp [rb]
  rw [ev_compG (enc := tl .int) (xs := ps.map fun p => cutD new (some p.1) (some p.2)) (d := ll (tl .int) (ps.map fun p => cutD new (some p.1) (some p.2))) .int (fun xs : List Int => (xs.length : Int))]
  rotate_left
  · simp
  · simp
  · simp [SZ]; omega
  · intro p _
    simp [compB]
  have sm : ∀ S, bfD .sum [ll D.int ((ps.map fun p => cutD new (some p.1) (some p.2)).map fun xs : List Int => (xs.length : Int))] S = some (.int (width ps)) := fun S => by
    rw [sum_ll, List.map_map, ← fs]; rfl
  simp only [R.bind_ok, toTup_tup, sm, R.of_some, R.stm_ok]
  refine x_forW (fun j e s => s = [] ∧ ∃ t9 t10 t11 t12, e = [some (tl .int old), some (tl .int (tabF new z)), some (.int z), some (.int new.length), some (tl .int new), some (tl stD ss), some (ll (tl .int) (ps.map fun p => cutD new (some p.1) (some p.2))), some (tl .int made), some (.int (width ps)), t9, t10, t11, t12, none]) (enc := fun k => D.tup [.int (k : Nat), .int ((tabF new z).getD k 0)]) (xs := List.range (tabF new z).length) (d := .tup [tl .int (tabF new z)]) ?_ ?_ ?_ ?_ ?_
  · simp
  · exact mkIt_enumG (f := D.int) 0
  · exact ⟨rfl, _, _, _, _, rfl⟩
  · rintro j x _ _ hj ⟨rfl, t9, t10, t11, t12, rfl⟩
    obtain ⟨rfl, lt⟩ := range_get hj
    rw [tab_len] at lt
    have rbr : ∀ S, run G (k + 4) i_block_range [.int new.length, .int z, .int x] S = .ok (.tup [.int (bg z x), .int (en new.length z x)]) S := fun S => r_block_range (G := G) (k := k + 3) (S := S) (n := new.length) (z := z) (j := x) hz'
    have cb : cutD made (some (bg z x)) (some (en new.length z x)) = blk made z x := by rw [← ml]; exact cut_blk2
    have rm : ∀ S, run G (k + 4) i_mark_of [tl .int (blk made z x)] S = .ok (.int ((tabF new z).getD x 0)) S := fun S => by rw [← mm x lt]; exact r_mark_of
    simp [turnB, rbr, isEmp, part, cb, rm, -List.getD_eq_getElem?_getD]
  rintro _ _ ⟨rfl, t9, t10, t11, t12, rfl⟩
  simp [scl, scls]
end
end PL

set_option Elab.async false
set_option linter.all false
set_option maxRecDepth 100000
set_option maxHeartbeats 1000000
/-! PMS: texts: numbers, items, asks. -/
namespace PL
open PySem
abbrev i_number_of : Nat := 39
/-- number_of: text 0 sign 1 -/
def b_number_of : T := (.ifs (.or (.nt (.chain .le .le (.con (.int 1)) (.bf .len (.cons (.var 0) .nil)) (.glb 5))) (.one (.nt (.val (.bf .all (.cons (.comp .plain (.var 0) (.one 1) .emp (.cmp .inn (.var 1) (.glb 4))) .nil))))))
  (.ret (.con .non))
  .nil
  (.ifs (.and (.cmp .eq (.ix (.var 0) (.con (.int 0))) (.con (.str "0"))) (.one (.cmp .gt (.bf .len (.cons (.var 0) .nil)) (.con (.int 1)))))
  (.ret (.con .non))
  .nil
  (.ret (.bf .int (.cons (.var 0) .nil)))))
def f_number_of : Fn := ⟨true, 1, 2, b_number_of⟩
abbrev i_item_text : Nat := 40
/-- item_text: item 0 -/
def b_item_text : T := (.ifs (.cmp .eq (.ix (.var 0) (.con (.int 0))) (.con (.str "span")))
  (.ret (.fstr (.cons (.fmt (.ix (.var 0) (.con (.int 1)))) (.cons (.con (.str "-")) (.cons (.fmt (.ix (.var 0) (.con (.int 2)))) .nil)))))
  .nil
  (.ifs (.cmp .eq (.ix (.var 0) (.con (.int 0))) (.con (.str "from")))
  (.ret (.fstr (.cons (.fmt (.ix (.var 0) (.con (.int 1)))) (.cons (.con (.str "-")) .nil))))
  .nil
  (.ret (.fstr (.cons (.con (.str "-")) (.cons (.fmt (.ix (.var 0) (.con (.int 1)))) .nil))))))
def f_item_text : Fn := ⟨true, 1, 1, b_item_text⟩
abbrev i_ask_text : Nat := 41
/-- ask_text: ask 0 item 1 -/
def b_ask_text : T := (.ret (.bm .join (.con (.str ",")) (.cons (.comp .plain (.var 0) (.one 1) .emp (.call i_item_text (.cons (.var 1) .nil))) .nil)))
def f_ask_text : Fn := ⟨true, 1, 2, b_ask_text⟩
abbrev i_read_item : Nat := 42
/-- read_item: text 0 front 1 gap 2 behind 3 begin 4 end 5 -/
def b_read_item : T := (.asgT [1, 2, 3] (.bm .partition (.var 0) (.cons (.con (.str "-")) .nil))
  (.asg 4 (.call i_number_of (.cons (.var 1) .nil))
  (.asg 5 (.call i_number_of (.cons (.var 3) .nil))
  (.ifs (.and (.cmp .ne (.var 2) (.con (.str ""))) (.and (.ntn (.var 4)) (.and (.ntn (.var 5)) (.one (.cmp .le (.var 4) (.var 5))))))
  (.ret (.tup (.cons (.con (.str "span")) (.cons (.var 4) (.cons (.var 5) .nil)))))
  .nil
  (.ifs (.and (.cmp .ne (.var 2) (.con (.str ""))) (.and (.ntn (.var 4)) (.one (.cmp .eq (.var 3) (.con (.str ""))))))
  (.ret (.tup (.cons (.con (.str "from")) (.cons (.var 4) .nil))))
  .nil
  (.ifs (.and (.cmp .ne (.var 2) (.con (.str ""))) (.and (.cmp .eq (.var 1) (.con (.str ""))) (.and (.ntn (.var 5)) (.one (.cmp .gt (.var 5) (.con (.int 0)))))))
  (.ret (.tup (.cons (.con (.str "last")) (.cons (.var 5) .nil))))
  .nil
  (.rais 0)))))))
def f_read_item : Fn := ⟨true, 1, 6, b_read_item⟩
abbrev i_read_ask : Nat := 43
/-- read_ask: text 0 parts 1 part 2 -/
def b_read_ask : T := (.asg 1 (.bm .split (.var 0) (.cons (.con (.str ",")) .nil))
  (.ifs (.cmp .gt (.bf .len (.cons (.var 1) .nil)) (.glb 6))
  (.rais 0)
  .nil
  (.ret (.bf .tuple (.cons (.comp .plain (.var 1) (.one 2) .emp (.call i_read_item (.cons (.var 2) .nil))) .nil)))))
def f_read_ask : Fn := ⟨true, 1, 3, b_read_ask⟩
abbrev i_l_or : Nat := 16
/-- l_or: _due 0 -/
def b_l_or : T := (.ifs (.isn (.var 0))
  (.ret (.con (.str "refused")))
  .nil
  (.ret (.var 0)))
def f_l_or : Fn := ⟨true, 1, 1, b_l_or⟩
abbrev i_l_ask : Nat := 44
/-- l_ask: _cells 0 _found 1 _cell_here 2 _a 3 -/
def b_l_ask : T := (.asg 1 (.tup .nil)
  (.for_ .plain (.var 0) (.one 2)
  (.asg 3 (.call i_l_d (.cons (.var 2) (.cons (.con (.int 3)) (.cons (.con (.int 90)) .nil))))
  (.ifs (.cmp .eq (.call i_l_d (.cons (.var 2) (.cons (.con (.int 1)) (.cons (.con (.int 3)) .nil)))) (.con (.int 0)))
  (.asg 1 (.bin .add (.var 1) (.tup (.cons (.tup (.cons (.con (.str "span")) (.cons (.var 3) (.cons (.bin .add (.var 3) (.call i_l_d (.cons (.var 2) (.cons (.con (.int 270)) (.cons (.con (.int 40)) .nil))))) .nil)))) .nil)))
  .nil)
  (.ifs (.cmp .eq (.call i_l_d (.cons (.var 2) (.cons (.con (.int 1)) (.cons (.con (.int 3)) .nil)))) (.con (.int 1)))
  (.asg 1 (.bin .add (.var 1) (.tup (.cons (.tup (.cons (.con (.str "from")) (.cons (.var 3) .nil))) .nil)))
  .nil)
  (.asg 1 (.bin .add (.var 1) (.tup (.cons (.tup (.cons (.con (.str "last")) (.cons (.bin .add (.var 3) (.con (.int 1))) .nil))) .nil)))
  .nil)
  .nil)
  .nil))
  (.ret (.var 1))))
def f_l_ask : Fn := ⟨true, 1, 4, b_l_ask⟩
abbrev i_l_ask_text : Nat := 45
/-- l_ask_text: _ask_here 0 _texts 1 _item 2 -/
def b_l_ask_text : T := (.asg 1 (.new (.lst .nil))
  (.for_ .plain (.var 0) (.one 2)
  (.ifs (.cmp .eq (.ix (.var 2) (.con (.int 0))) (.con (.str "span")))
  (.exp (.bm .append (.var 1) (.cons (.bin .add (.bin .add (.bf .str (.cons (.ix (.var 2) (.con (.int 1))) .nil)) (.con (.str "-"))) (.bf .str (.cons (.ix (.var 2) (.con (.int 2))) .nil))) .nil))
  .nil)
  (.ifs (.cmp .eq (.ix (.var 2) (.con (.int 0))) (.con (.str "from")))
  (.exp (.bm .append (.var 1) (.cons (.bin .add (.bf .str (.cons (.ix (.var 2) (.con (.int 1))) .nil)) (.con (.str "-"))) .nil))
  .nil)
  (.exp (.bm .append (.var 1) (.cons (.bin .add (.con (.str "-")) (.bf .str (.cons (.ix (.var 2) (.con (.int 1))) .nil))) .nil))
  .nil)
  .nil)
  .nil)
  (.ret (.bm .join (.con (.str ",")) (.cons (.var 1) .nil)))))
def f_l_ask_text : Fn := ⟨true, 1, 3, b_l_ask_text⟩
abbrev i_l_number : Nat := 46
/-- l_number: _text 0 _n 1 _sign 2 -/
def b_l_number : T := (.ifs (.or (.cmp .lt (.bf .len (.cons (.var 0) .nil)) (.con (.int 1))) (.one (.cmp .gt (.bf .len (.cons (.var 0) .nil)) (.con (.int 9)))))
  (.ret (.con .non))
  .nil
  (.ifs (.and (.cmp .ne (.var 0) (.con (.str "0"))) (.one (.val (.bm .startswith (.var 0) (.cons (.con (.str "0")) .nil)))))
  (.ret (.con .non))
  .nil
  (.asg 1 (.con (.int 0))
  (.for_ .plain (.var 0) (.one 2)
  (.ifs (.cmp .nin (.var 2) (.con (.str "0123456789")))
  (.ret (.con .non))
  .nil
  (.asg 1 (.bin .add (.bin .mul (.con (.int 10)) (.var 1)) (.bm .index (.con (.str "0123456789")) (.cons (.var 2) .nil)))
  .nil))
  (.ret (.var 1))))))
def f_l_number : Fn := ⟨true, 1, 3, b_l_number⟩
abbrev i_l_read_ask : Nat := 47
/-- l_read_ask: _text 0 _found 1 _parts 2 _part 3 _ends 4 _numbers 5 _one 6 -/
def b_l_read_ask : T := (.asg 1 (.tup .nil)
  (.asg 2 (.bm .split (.var 0) (.cons (.con (.str ",")) .nil))
  (.for_ .plain (.var 2) (.one 3)
  (.asg 4 (.bm .split (.var 3) (.cons (.con (.str "-")) .nil))
  (.asg 5 (.comp .plain (.var 4) (.one 6) .emp (.call i_l_number (.cons (.var 6) .nil)))
  (.ifs (.cmp .ne (.bf .len (.cons (.var 4) .nil)) (.con (.int 2)))
  (.ret (.con .non))
  .nil
  (.ifs (.and (.ntn (.ix (.var 5) (.con (.int 0)))) (.and (.ntn (.ix (.var 5) (.con (.int 1)))) (.one (.cmp .le (.ix (.var 5) (.con (.int 0))) (.ix (.var 5) (.con (.int 1)))))))
  (.asg 1 (.bin .add (.var 1) (.tup (.cons (.tup (.cons (.con (.str "span")) (.cons (.ix (.var 5) (.con (.int 0))) (.cons (.ix (.var 5) (.con (.int 1))) .nil)))) .nil)))
  .nil)
  (.ifs (.and (.ntn (.ix (.var 5) (.con (.int 0)))) (.one (.cmp .eq (.ix (.var 4) (.con (.int 1))) (.con (.str "")))))
  (.asg 1 (.bin .add (.var 1) (.tup (.cons (.tup (.cons (.con (.str "from")) (.cons (.ix (.var 5) (.con (.int 0))) .nil))) .nil)))
  .nil)
  (.ifs (.and (.cmp .eq (.ix (.var 4) (.con (.int 0))) (.con (.str ""))) (.and (.ntn (.ix (.var 5) (.con (.int 1)))) (.one (.cmp .gt (.ix (.var 5) (.con (.int 1))) (.con (.int 0))))))
  (.asg 1 (.bin .add (.var 1) (.tup (.cons (.tup (.cons (.con (.str "last")) (.cons (.ix (.var 5) (.con (.int 1))) .nil))) .nil)))
  .nil)
  (.ret (.con .non))
  .nil)
  .nil)
  .nil))))
  (.ret (.ite (.cmp .le (.bf .len (.cons (.var 2) .nil)) (.con (.int 8))) (.var 1) (.con .non))))))
def f_l_read_ask : Fn := ⟨true, 1, 7, b_l_read_ask⟩
abbrev i_l_told_2 : Nat := 48
/-- l_told_2: _text 0 _found 1 -/
def b_l_told_2 : T := (.asg 1 (.con .non)
  (.tr (.asg 1 (.call i_read_ask (.cons (.var 0) .nil))
  .nil)
  [0]
  (.asg 1 (.con (.str "refused"))
  .nil)
  (.ret (.var 1))))
def f_l_told_2 : Fn := ⟨true, 1, 2, b_l_told_2⟩

/-! ### texts as lists of signs -/
def tx (l : List Nat) : Str := ⟨l.toArray⟩
@[simp] theorem tl_tx (l : List Nat) : TL.tl (tx l) = l := rfl
@[simp] theorem tx_tl (x : Str) : tx (TL.tl x) = x := TL.mk_tl x
theorem tx_inj {a b : List Nat} : tx a = tx b ↔ a = b := ⟨fun h => by have := congrArg TL.tl h; simpa using this, fun h => h ▸ rfl⟩
theorem len_tx (l : List Nat) : (tx l).length = l.length := by rw [TL.len_tl, tl_tx]
theorem tx_app (a b : List Nat) : tx a ++ tx b = tx (a ++ b) := TL.ext_tl (by rw [TL.tl_append, tl_tx, tl_tx, tl_tx])
theorem eq_tx {x : Str} {l : List Nat} (h : TL.tl x = l) : x = tx l := by rw [← h, tx_tl]
theorem tx_0 : ("" : Str) = tx [] := eq_tx (by decide +kernel)
theorem tx_n0 : ("0" : Str) = tx [48] := eq_tx (by decide +kernel)
theorem tx_dash : ("-" : Str) = tx [45] := eq_tx (by decide +kernel)
theorem tx_comma : ("," : Str) = tx [44] := eq_tx (by decide +kernel)
theorem tx_blank : (" " : Str) = tx [32] := eq_tx (by decide +kernel)
theorem sg_tx (c : Nat) : sg c = tx [c] := rfl
def figd : List Nat := [48, 49, 50, 51, 52, 53, 54, 55, 56, 57]
theorem figd_tl : (("0123456789" : Str)).cps.toList = figd := by decide +kernel
theorem mem_fig {c : Nat} : c ∈ figd ↔ 48 ≤ c ∧ c ≤ 57 := by
  simp only [figd, List.mem_cons, List.not_mem_nil, or_false]; omega
theorem index_fig : ∀ c ∈ figd, Txt.index0 "0123456789" (sg c) = some (c - 48) := by decide +kernel
/-- the number that figures tell -/
def numO (l : List Nat) : Option Int := if (1 ≤ l.length ∧ l.length ≤ 9) ∧ (l.all fun c => decide (c ∈ figd)) = true ∧ ¬ (l.head? = some 48 ∧ 1 < l.length) then some ((NumText.digitsVal l : Nat) : Int) else none
theorem numO_nil : numO [] = none := by simp [numO]
theorem numO_dash {l : List Nat} (h : 45 ∈ l) : numO l = none := by
  unfold numO
  rw [if_neg]
  rintro ⟨_, h2, _⟩
  have := List.all_eq_true.mp h2 45 h
  simp [figd] at this
theorem numL_head {n : Nat} : 1 ≤ n → (TL.numL n).head? ≠ some 48 := by
  induction n using Nat.strongRecOn with
  | _ n ih =>
    intro h
    by_cases q : n < 10
    · rw [TL.numL_lt q]; simp; omega
    · rw [TL.numL_step (by omega)]
      have := ih (n / 10) (by omega) (by omega)
      have ne := TL.numL_ne (n / 10)
      cases hl : TL.numL (n / 10) with
      | nil => exact absurd hl ne
      | cons a r => rw [hl] at this; simpa using this
theorem numO_num {n : Nat} (h : n < 1000000000) : numO (TL.numL n) = some (n : Int) := by
  unfold numO
  rw [if_pos, TL.numL_val]
  refine ⟨⟨List.length_pos_iff.mpr (TL.numL_ne n), TL.numL_len (by decide) (by omega)⟩, ?_, ?_⟩
  · rw [List.all_eq_true]
    intro c hc
    have := TL.numL_digits n c hc
    exact decide_eq_true (mem_fig.mpr this)
  · rintro ⟨h1, h2⟩
    rcases Nat.eq_zero_or_pos n with rfl | hn
    · rw [TL.numL_lt (by omega)] at h2; simp at h2
    · exact numL_head hn h1
/-- the signs of a number -/
def nL (i : Int) : List Nat := TL.tl (txtI i)
theorem txtI_nL (i : Int) : txtI i = tx (nL i) := (tx_tl _).symm
theorem nL_eq {i : Int} (h0 : 0 ≤ i) : nL i = TL.numL i.toNat := txtI_tl h0
theorem nL_len {i : Int} (h0 : 0 ≤ i) (h : i < 1000000000) : (nL i).length ≤ 9 := by
  have := txtI_len h0 h
  rwa [TL.len_tl] at this
theorem numO_txt {i : Int} (h0 : 0 ≤ i) (h : i < 1000000000) : numO (nL i) = some i := by
  rw [nL_eq h0, numO_num (by omega)]; congr 1; omega
theorem dv_snoc (l : List Nat) (c : Nat) : NumText.digitsVal (l ++ [c]) = NumText.digitsVal l * 10 + (c - 48) := by
  simp [NumText.digitsVal, List.foldl_append]
theorem dv_pos {a : Nat} {l : List Nat} (h : 48 < a) : 1 ≤ NumText.digitsVal (a :: l) := by
  have : ∀ (l : List Nat) (v : Nat), 1 ≤ v → 1 ≤ l.foldl (fun acc c => acc * 10 + (c - 48)) v := by
    intro l
    induction l with
    | nil => intro v h; exact h
    | cons c l ih => intro v h; exact ih (v * 10 + (c - 48)) (by omega)
  exact this l (0 * 10 + (a - 48)) (by omega)
/-- figures without a 0 ahead are a number's -/
theorem num_back : ∀ (n : Nat) (l : List Nat), l.length = n → l ≠ [] → (∀ c ∈ l, 48 ≤ c ∧ c ≤ 57) → ¬ (l.head? = some 48 ∧ 1 < l.length) → TL.numL (NumText.digitsVal l) = l := by
  intro n
  induction n with
  | zero => intro l h hn; cases l <;> simp_all
  | succ n ih =>
    intro l hl hn hd hz
    rcases l.eq_nil_or_concat with rfl | ⟨r, c, rfl⟩
    · exact absurd rfl hn
    · rw [List.concat_eq_append] at *
      have hc := hd c (by simp)
      rw [dv_snoc]
      rcases r with _ | ⟨a, r⟩
      · have e : NumText.digitsVal [] = 0 := rfl
        rw [e, TL.numL_lt (by omega)]
        simp; omega
      · have ha := hd a (by simp)
        have hz' : a ≠ 48 := by
          rintro rfl
          exact hz ⟨by simp, by simp⟩
        have := dv_pos (a := a) (l := r) (by omega)
        rw [TL.numL_step (by omega)]
        have e1 : (NumText.digitsVal (a :: r) * 10 + (c - 48)) / 10 = NumText.digitsVal (a :: r) := by omega
        have e2 : 48 + (NumText.digitsVal (a :: r) * 10 + (c - 48)) % 10 = c := by omega
        rw [e1, e2, ih (a :: r) (by simpa using hl) (by simp) (fun c h => hd c (by simp at h ⊢; rcases h with h | h <;> simp [h])) (by rintro ⟨h1, _⟩; simp at h1; exact hz' h1)]
theorem numO_back {l : List Nat} {i : Int} (h : numO l = some i) : 0 ≤ i ∧ i < 1000000000 ∧ l = nL i := by
  unfold numO at h
  split at h
  · rename_i q
    obtain ⟨⟨h1, h2⟩, h3, h4⟩ := q
    simp only [Option.some.injEq] at h
    subst h
    have hd : ∀ c ∈ l, 48 ≤ c ∧ c ≤ 57 := fun c hc => mem_fig.mp (of_decide_eq_true (List.all_eq_true.mp h3 c hc))
    have e := num_back _ l rfl (by intro h; subst h; simp at h1) hd h4
    have bd : ∀ (l : List Nat), (∀ c ∈ l, 48 ≤ c ∧ c ≤ 57) → ∀ v, l.foldl (fun acc c => acc * 10 + (c - 48)) v < (v + 1) * 10 ^ l.length := by
      intro l
      induction l with
      | nil => intro _ v; simp
      | cons c l ih =>
        intro hd v
        have hc := hd c (by simp)
        have := ih (fun d h => hd d (by simp [h])) (v * 10 + (c - 48))
        have e : (v * 10 + (c - 48) + 1) * 10 ^ l.length ≤ ((v + 1) * 10) * 10 ^ l.length := Nat.mul_le_mul_right _ (by omega)
        rw [List.foldl_cons, List.length_cons, Nat.pow_succ, Nat.mul_comm (10 ^ l.length) 10, ← Nat.mul_assoc]
        omega
    have b := bd l hd 0
    have p : (10 : Nat) ^ l.length ≤ 10 ^ 9 := Nat.pow_le_pow_right (by decide) h2
    refine ⟨by omega, ?_, ?_⟩
    · have : NumText.digitsVal l < 1000000000 := by
        unfold NumText.digitsVal
        omega
      omega
    · rw [nL_eq (by omega), Int.toNat_natCast, e]
  · cases h
section
variable {G : Tab} {call : Calls} {env : Env} {S : Store} {k : Nat}
theorem in_fig {c : Nat} : cop .inn (.str (sg c)) (.str "0123456789") S = some (decide (c ∈ figd)) := by
  show some (!(Builtin.Str.occurrences ("0123456789" : Str) ⟨#[c]⟩ 0 ("0123456789" : Str).length 1).isEmpty) = _
  rw [PySem.StrLaws.found_one, figd_tl]
theorem nin_fig {c : Nat} : cop .nin (.str (sg c)) (.str "0123456789") S = some (!decide (c ∈ figd)) := by
  show (some (!(Builtin.Str.occurrences ("0123456789" : Str) ⟨#[c]⟩ 0 ("0123456789" : Str).length 1).isEmpty)).map not = _
  rw [PySem.StrLaws.found_one, figd_tl]
  rfl
theorem int_dig {l : List Nat} (h : ∀ c ∈ l, 48 ≤ c ∧ c ≤ 57) (h1 : l ≠ []) (h2 : l.length ≤ 640) : bfD .int [.str (tx l)] S = some (.int (NumText.digitsVal l : Nat)) := by
  show (if (tx l).length ≤ 640 then (PySem.intText? (tx l)).map D.int else none) = _
  rw [if_pos (by rw [len_tx]; exact h2), PySem.intText_digits (x := tx l) h h1 (by rw [len_tx]; omega)]; rfl
theorem len_txt {l : List Nat} (h : l.length ≤ 1000000) : bfD .len [.str (tx l)] S = some (.int l.length) := by
  rw [len_str (by rw [len_tx]; exact h), len_tx]
@[simp] theorem mkIt_tx {l : List Nat} : mkIt .plain [.str (tx l)] S = some (.items (l.map sgD)) := rfl
theorem sg_eq0 {c : Nat} : (sg c = ("0" : Str)) = (c = 48) := by
  rw [tx_n0, sg_tx, tx_inj]; simp
theorem r_number_of [h : Has G i_number_of f_number_of] [h4 : HasC G 4 (.str "0123456789")] [h5 : HasC G 5 (.int 9)] {l : List Nat} (hx : l.length ≤ 1000000) :
    run G (k + 1) i_number_of [.str (tx l)] S = .ok (opD .int (numO l)) S := by
  have ls := fun S => len_txt (S := S) hx
  have cm : ∀ env : Env, env[0]? = some (some (.str (tx l))) → env.length = 2 → ev G (run G k) (.comp .plain (.var 0) (.one 1) .emp (.cmp .inn (.var 1) (.glb 4))) env [] = .ok (.lst (l.map fun c => .bl (decide (c ∈ figd)))) [] := fun env e0 el => by
    obtain ⟨a, b, rfl⟩ : ∃ a b, env = [a, b] := by match env, el with | [a, b], _ => exact ⟨a, b, rfl⟩
    simp at e0; subst e0
    exact ev_compM (enc := sgD) (xs := l) (d := .str (tx l)) (fun c => .bl (decide (c ∈ figd))) (by simp) (by simp) (by unfold SZ; omega) (fun c hc => by simp [compB, sgD, in_fig])
  have al : bfD .all [.lst (l.map fun c => .bl (decide (c ∈ figd)))] [] = some (.bl (l.all fun c => decide (c ∈ figd))) := bf_all_map
  refine pure_W (h := h) rfl rfl (by simp [frzAs]; rfl) ?_
  have cm := cm [some (.str (tx l)), none] rfl rfl
  simp only [b_number_of, startE]
  by_cases q1 : 1 ≤ l.length
  · by_cases q2 : l.length ≤ 9
    · have q1' : (1 : Int) ≤ l.length := by omega
      have q2' : (l.length : Int) ≤ 9 := by omega
      by_cases q3 : (l.all fun c => decide (c ∈ figd)) = true
      · have hd : ∀ c ∈ l, 48 ≤ c ∧ c ≤ 57 := fun c hc => mem_fig.mp (of_decide_eq_true (List.all_eq_true.mp q3 c hc))
        have nn : l ≠ [] := by intro e; rw [e] at q1; simp at q1
        have ix : ∀ S, getD_ (.str (tx l)) (.int 0) S = some (.str (sg (l.getD 0 0))) := fun S => ix_str (by rw [len_tx]; omega) (by decide) (by rw [len_tx]; exact q1)
        have hh : l.head? = some (l.getD 0 0) := by cases e : l with
          | nil => exact absurd e nn
          | cons a r => rfl
        have id : ∀ S, bfD .int [.str (tx l)] S = some (.int (NumText.digitsVal l : Nat)) := fun S => int_dig hd nn (by omega)
        have q4 : (numO l) = if l.getD 0 0 = 48 ∧ 1 < l.length then none else some ((NumText.digitsVal l : Nat) : Int) := by
          unfold numO
          rw [hh]
          by_cases q : l.getD 0 0 = 48 ∧ 1 < l.length
          · rw [if_neg (by simp only [Option.some.injEq]; exact fun h => h.2.2 q), if_pos q]
          · rw [if_pos ⟨⟨q1, q2⟩, q3, by simpa using q⟩, if_neg q]
        rw [q4]
        by_cases q5 : l.getD 0 0 = 48
        · by_cases q6 : 1 < l.length
          · have q6' : (1 : Int) < l.length := by omega
            simp [ls, q1', q2', cm, al, q3, ix, sg_eq0, q5, q6, q6', opD, -List.getD_eq_getElem?_getD]
          · have q6' : ¬ (1 : Int) < l.length := by omega
            simp [ls, q1', q2', cm, al, q3, ix, sg_eq0, q5, q6, q6', id, opD, -List.getD_eq_getElem?_getD]
        · simp [ls, q1', q2', cm, al, q3, ix, sg_eq0, q5, id, opD, -List.getD_eq_getElem?_getD]
      · have e : numO l = none := by unfold numO; rw [if_neg fun h => q3 h.2.1]
        have q3' : (l.all fun c => decide (c ∈ figd)) = false := by simpa using q3
        rw [e]
        simp [ls, q1', q2', cm, al, q3', opD]
    · have q1' : (1 : Int) ≤ l.length := by omega
      have q2' : ¬ (l.length : Int) ≤ 9 := by omega
      have e : numO l = none := by unfold numO; rw [if_neg fun h => q2 h.1.2]
      rw [e]
      simp [ls, q1', q2', opD]
  · have q1' : ¬ (1 : Int) ≤ l.length := by omega
    have e : numO l = none := by unfold numO; rw [if_neg fun h => q1 h.1.1]
    rw [e]
    simp [ls, q1', opD]
theorem starts_0 (l : List Nat) : Txt.startswith (tx l) "0" = decide (l.head? = some 48) := by
  unfold Txt.startswith
  rw [StrLaws.subAt_eq, show (("0" : Str)).cps.toList = [48] by decide +kernel, show (("0" : Str)).length = 1 by decide +kernel, len_tx]
  show (decide (0 + 1 ≤ l.length) && ((l.drop 0).take 1 == [48])) = _
  cases l with
  | nil => rfl
  | cons a r => by_cases h : a = 48 <;> simp [h]
theorem starts_ok {a b : Str} : bmD .startswith (.str a) [.str b] S = .ok (.bl (Txt.startswith a b)) S := rfl
@[simp] theorem ok_starts {a : Str} : bmOk .startswith (.str a) S = true := rfl
@[simp] theorem ok_split {a : Str} : bmOk .split (.str a) S = true := rfl
@[simp] theorem ok_part {a : Str} : bmOk .partition (.str a) S = true := rfl
theorem digV_fold (l : List Nat) (h : ∀ c ∈ l, c ∈ figd) : ∀ v : Nat, l.foldl (fun (n : Int) c => 10 * n + ((c - 48 : Nat) : Int)) (v : Int) = ((l.foldl (fun acc c => acc * 10 + (c - 48)) v : Nat) : Int) := by
  induction l with
  | nil => intro v; rfl
  | cons c l ih =>
    intro v
    rw [List.foldl_cons, List.foldl_cons, ← ih (fun d hd => h d (by simp [hd]))]
    congr 1
    omega
theorem r_l_number [h : Has G i_l_number f_l_number] {l : List Nat} (hx : l.length ≤ 1000000) : run G (k + 1) i_l_number [.str (tx l)] S = .ok (opD .int (numO l)) S := by
  have ls := fun S => len_txt (S := S) hx
  refine pure_W (h := h) rfl rfl (by simp [frzAs]; rfl) ?_
  simp only [b_l_number, startE]
  by_cases q1 : l.length < 1
  · have q1' : (l.length : Int) < 1 := by omega
    have e : numO l = none := by unfold numO; rw [if_neg fun h => by omega]
    rw [e]
    simp [ls, q1', opD]
  · have q1' : ¬ (l.length : Int) < 1 := by omega
    by_cases q2 : 9 < l.length
    · have q2' : (9 : Int) < l.length := by omega
      have e : numO l = none := by unfold numO; rw [if_neg fun h => by omega]
      rw [e]
      simp [ls, q1', q2', opD]
    · have q2' : ¬ (9 : Int) < l.length := by omega
      have x0 : (tx l = ("0" : Str)) = (l = [48]) := by rw [tx_n0, tx_inj]
      by_cases q3 : l.head? = some 48 ∧ 1 < l.length
      · have e : numO l = none := by unfold numO; rw [if_neg fun h => h.2.2 q3]
        have q4 : ¬ l = [48] := fun h => by rw [h] at q3; simp at q3
        rw [e]
        simp [ls, q1', q2', x0, q4, starts_ok, starts_0, q3.1, opD]
      · have q4 : l = [48] ∨ ¬ l.head? = some 48 := by
          cases hl : l with
          | nil => rw [hl] at q1; simp at q1
          | cons a r =>
            rw [hl] at q3
            cases r with
            | nil => by_cases ha : a = 48 <;> simp [ha]
            | cons b r => right; simpa using q3
        have main : Sat (FinP S (.ok (opD .int (numO l)) S)) (exT G (run G k) (.for_ .plain (.var 0) (.one 2)
  (.ifs (.cmp .nin (.var 2) (.con (.str "0123456789")))
  (.ret (.con .non))
  .nil
  (.asg 1 (.bin .add (.bin .mul (.con (.int 10)) (.var 1)) (.bm .index (.con (.str "0123456789")) (.cons (.var 2) .nil)))
  .nil))
  (.ret (.var 1))) [some (.str (tx l)), some (.int 0), none] []) := by
          refine x_forW (fun j e s => s = [] ∧ (∀ c ∈ l.take j, c ∈ figd) ∧ ∃ t2, e = [some (.str (tx l)), some (.int ((l.take j).foldl (fun (n : Int) c => 10 * n + ((c - 48 : Nat) : Int)) 0)), t2]) (enc := sgD) (xs := l) (d := .str (tx l)) ?_ ?_ ?_ ?_ ?_
          · simp
          · rfl
          · exact ⟨rfl, by simp, _, rfl⟩
          · rintro j c _ _ hj ⟨rfl, hd, t2, rfl⟩
            have e1 : l.take (j + 1) = l.take j ++ [c] := by rw [List.take_succ, hj]; rfl
            have ml : ∀ a S, bop .mul (.int 10) (.int a) S = some (.int (10 * a)) := fun a S => bop_mul_l (small_of (by decide) (by decide))
            by_cases hc : c ∈ figd
            · have ic := fun S => index_str (S := S) (index_fig c hc)
              simp [turnB, sgD, nin_fig, hc, ml, ic]
              refine ⟨?_, ?_⟩
              · rw [e1]
                intro d hd'
                rcases List.mem_append.mp hd' with h | h
                · exact hd d h
                · rw [List.mem_singleton.mp h]; exact hc
              · rw [e1, List.foldl_append]; rfl
            · have e : numO l = none := by
                unfold numO
                rw [if_neg]
                rintro ⟨_, h3, _⟩
                exact hc (of_decide_eq_true (List.all_eq_true.mp h3 c (List.mem_of_getElem? hj)))
              rw [e]
              simp [turnB, sgD, nin_fig, hc, opD]
          rintro _ _ ⟨rfl, hd, t2, rfl⟩
          rw [List.take_length] at *
          have e : numO l = some ((NumText.digitsVal l : Nat) : Int) := by
            unfold numO
            rw [if_pos ⟨by omega, List.all_eq_true.mpr fun c hc => decide_eq_true (hd c hc), q3⟩]
          have := digV_fold l hd 0
          rw [e]
          simp [opD]
          rw [show ((0 : Nat) : Int) = 0 from rfl] at this
          rw [this]; rfl
        by_cases q5 : l = [48]
        · have x1 : (tx l = ("0" : Str)) = True := by rw [x0]; exact eq_true q5
          clear q4
          simp [ls, q1', q2', x1]
          exact main
        · have q4 := q4.resolve_left q5
          simp [ls, q1', q2', x0, q4, q5, starts_ok, starts_0]
          exact main
/-! ### splitting at one sign -/
abbrev spC (s : Nat) (l : List Nat) : List (List Nat) := TL.spl [s] 0 [] l
theorem pre1 {s c : Nat} {r : List Nat} : TL.pre [s] (c :: r) = decide (c = s) := by
  show ((c :: r).take 1 == [s]) = _
  by_cases h : c = s <;> simp [h]
theorem spl_cons {s c : Nat} {acc r : List Nat} : TL.spl [s] 0 acc (c :: r) = if c = s then acc :: TL.spl [s] 0 [] r else TL.spl [s] 0 (acc ++ [c]) r := by
  by_cases h : c = s
  · rw [if_pos h, TL.spl_hit (by rw [pre1]; simpa using h)]; rfl
  · rw [if_neg h, TL.spl_miss (by rw [pre1]; simpa using h)]
theorem par_cons {s c : Nat} {acc r : List Nat} : TL.par [s] acc (c :: r) = if c = s then some (acc, r) else TL.par [s] (acc ++ [c]) r := by
  by_cases h : c = s
  · rw [if_pos h, TL.par_hit (by rw [pre1]; simpa using h)]; rfl
  · rw [if_neg h, TL.par_miss (by rw [pre1]; simpa using h)]
theorem spl_par (s : Nat) : ∀ (l acc : List Nat), TL.spl [s] 0 acc l = match TL.par [s] acc l with
    | none => [acc ++ l]
    | some (a, b) => a :: TL.spl [s] 0 [] b
  | [], acc => by simp [TL.spl_nil, TL.par]
  | c :: r, acc => by
    rw [spl_cons, par_cons]
    by_cases h : c = s
    · rw [if_pos h, if_pos h]
    · rw [if_neg h, if_neg h, spl_par s r]
      cases TL.par [s] (acc ++ [c]) r with
      | none => simp
      | some p => rfl
theorem spl_len (s : Nat) : ∀ (l acc : List Nat), (TL.spl [s] 0 acc l).length ≤ l.length + 1 ∧ ∀ p ∈ TL.spl [s] 0 acc l, p.length ≤ acc.length + l.length
  | [], acc => by simp [TL.spl_nil]
  | c :: r, acc => by
    rw [spl_cons]
    by_cases h : c = s
    · rw [if_pos h]
      obtain ⟨h1, h2⟩ := spl_len s r []
      refine ⟨by simp only [List.length_cons]; omega, fun p hp => ?_⟩
      rcases List.mem_cons.mp hp with rfl | hp
      · omega
      · have := h2 p hp; simp only [List.length_cons, List.length_nil] at *; omega
    · rw [if_neg h]
      obtain ⟨h1, h2⟩ := spl_len s r (acc ++ [c])
      refine ⟨by simp only [List.length_cons]; omega, fun p hp => ?_⟩
      have := h2 p hp; simp only [List.length_cons, List.length_append, List.length_nil] at *; omega
theorem spC_len (s : Nat) (l : List Nat) : (spC s l).length ≤ l.length + 1 ∧ ∀ p ∈ spC s l, p.length ≤ l.length := by
  obtain ⟨a, b⟩ := spl_len s l []
  exact ⟨a, fun p hp => by have := b p hp; simpa using this⟩
theorem spl_free (s : Nat) : ∀ (l acc : List Nat), s ∉ acc → ∀ p ∈ TL.spl [s] 0 acc l, s ∉ p
  | [], acc, h => by simpa [TL.spl_nil] using h
  | c :: r, acc, h => by
    rw [spl_cons]
    by_cases e : c = s
    · rw [if_pos e]
      intro p hp
      rcases List.mem_cons.mp hp with rfl | hp
      · exact h
      · exact spl_free s r [] (by simp) p hp
    · rw [if_neg e]
      exact spl_free s r _ (by simp; exact ⟨h, fun h => e h.symm⟩)
theorem spl_sub (s : Nat) : ∀ (l acc : List Nat) (c : Nat), ∀ p ∈ TL.spl [s] 0 acc l, c ∈ p → c ∈ acc ∨ c ∈ l
  | [], acc, c => by simpa [TL.spl_nil] using fun h => h
  | a :: r, acc, c => by
    rw [spl_cons]
    by_cases e : a = s
    · rw [if_pos e]
      intro p hp hc
      rcases List.mem_cons.mp hp with rfl | hp
      · exact .inl hc
      · rcases spl_sub s r [] c p hp hc with h | h
        · cases h
        · exact .inr (by simp [h])
    · rw [if_neg e]
      intro p hp hc
      rcases spl_sub s r _ c p hp hc with h | h
      · rcases List.mem_append.mp h with h | h
        · exact .inl h
        · rw [List.mem_singleton.mp h]; exact .inr (by simp)
      · exact .inr (by simp [h])
theorem par_some (s : Nat) : ∀ (l acc a b : List Nat), TL.par [s] acc l = some (a, b) → acc ++ l = a ++ s :: b
  | [], acc, a, b, h => by simp [TL.par] at h
  | c :: r, acc, a, b, h => by
    rw [par_cons] at h
    by_cases e : c = s
    · rw [if_pos e] at h
      simp only [Option.some.injEq, Prod.mk.injEq] at h
      rw [← h.1, ← h.2, e]
    · rw [if_neg e] at h
      have := par_some s r _ a b h
      simpa using this
theorem spl_two {s : Nat} {b : List Nat} (h : s ∈ b) : 2 ≤ (TL.spl [s] 0 [] b).length := by
  rw [spl_par]
  cases hp : TL.par [s] [] b with
  | none =>
    exfalso
    have : ∀ (l acc : List Nat), s ∈ l → TL.par [s] acc l ≠ none := by
      intro l
      induction l with
      | nil => intro acc h; cases h
      | cons c r ih =>
        intro acc h
        rw [par_cons]
        by_cases e : c = s
        · rw [if_pos e]; simp
        · rw [if_neg e]
          rcases List.mem_cons.mp h with h | h
          · exact absurd h.symm e
          · exact ih _ h
    exact this b [] h hp
  | some p =>
    obtain ⟨x, y⟩ := p
    have : (TL.spl [s] 0 [] y) ≠ [] := by
      rw [spl_par]
      cases TL.par [s] [] y with
      | none => simp
      | some q => simp
    have := List.length_pos_iff.mpr this
    simp only [List.length_cons]; omega
theorem split_tx {l : List Nat} {y : Str} {s : Nat} (ey : TL.tl y = [s]) (hs : s < 256) : Txt.split (tx l) y = (spC s l).map tx := by
  refine TL.map_tl_inj ?_
  rw [TL.split_spl (tx l) y (by rw [ey]; simp) (TL.kind_ok (by
    have : y.cps = #[s] := by apply Array.toList_inj.mp; exact ey
    rw [this]; simp [hs])), ey, List.map_map]
  exact ((List.map_congr_left fun p _ => rfl).trans (List.map_id _)).symm
theorem part_tx {l : List Nat} {y : Str} {s : Nat} (ey : TL.tl y = [s]) : Txt.partition (tx l) y = match TL.par [s] [] l with
    | some (a, b) => (tx a, y, tx b)
    | none => (tx l, Str.empty, Str.empty) := by
  rw [TL.partition_par (tx l) y (by rw [ey]; simp), ey]; rfl
/-- an answer, or a refusal -/
def exO {α : Type} (x : Nat) (f : α → D) (o : Option α) (S : Store) : R D := match o with
  | some a => .ok (f a) S
  | none => .ex x S
@[simp] theorem exO_some {α : Type} {x : Nat} {f : α → D} {a : α} {S : Store} : exO x f (some a) S = .ok (f a) S := rfl
@[simp] theorem exO_none {α : Type} {x : Nat} {f : α → D} {S : Store} : exO x f none S = .ex x S := rfl
/-! ### items, asks -/
inductive It where
  | span (a b : Int) | frm (a : Int) | last (n : Int)
deriving DecidableEq
def itD : It → D
  | .span a b => .tup [.str "span", .int a, .int b]
  | .frm a => .tup [.str "from", .int a]
  | .last n => .tup [.str "last", .int n]
instance : Okf itD := ⟨fun i => by cases i <;> rfl, fun i => by cases i <;> rfl⟩
def itO (a b : List Nat) : Option It := match numO a, numO b with
  | some x, some y => if x ≤ y then some (.span x y) else none
  | some x, none => if b = [] then some (.frm x) else none
  | none, some y => if a = [] ∧ 0 < y then some (.last y) else none
  | none, none => none
def rdItem (l : List Nat) : Option It := match TL.par [45] [] l with
  | some (a, b) => itO a b
  | none => none
theorem itO_dash {a b : List Nat} (h : 45 ∈ b) : itO a b = none := by
  have hb : b ≠ [] := by rintro rfl; cases h
  unfold itO
  rw [numO_dash h]
  cases numO a <;> simp [hb]
theorem rdItem_spl (l : List Nat) : rdItem l = match spC 45 l with
    | [a, b] => itO a b
    | _ => none := by
  unfold rdItem spC
  rw [spl_par]
  cases TL.par [45] [] l with
  | none => rfl
  | some p =>
    obtain ⟨a, b⟩ := p
    simp only
    by_cases h : 45 ∈ b
    · have := spl_two h
      rw [itO_dash h]
      match hh : TL.spl [45] 0 [] b, this with
      | [_], h => simp at h
      | _ :: _ :: _, _ => rfl
    · rw [TL.spl_last1 h]; rfl
def okIt : It → Prop
  | .span a b => 0 ≤ a ∧ a ≤ b ∧ b < 1000000000
  | .frm a => 0 ≤ a ∧ a < 1000000000
  | .last n => 0 < n ∧ n < 1000000000
def itL : It → List Nat
  | .span a b => nL a ++ 45 :: nL b
  | .frm a => nL a ++ [45]
  | .last n => 45 :: nL n
theorem txtI_free {i : Int} {s : Nat} (h0 : 0 ≤ i) (h : s < 48 ∨ 57 < s) : s ∉ nL i := by
  rw [nL_eq h0]; exact TL.numL_free h
theorem txtI_ne {i : Int} (h0 : 0 ≤ i) : nL i ≠ [] := by rw [nL_eq h0]; exact TL.numL_ne _
theorem rd_itL {i : It} (h : okIt i) : rdItem (itL i) = some i := by
  cases i with
  | span a b =>
    obtain ⟨h1, h2, h3⟩ := h
    have e := TL.par_part1 (S := []) (rest := nL b) (acc := []) (txtI_free (s := 45) h1 (by omega))
    simp only [List.nil_append, List.cons_append] at e
    unfold rdItem itL
    rw [e]
    simp only [itO, numO_txt h1 (show a < 1000000000 by omega), numO_txt (show 0 ≤ b by omega) h3, if_pos h2]
  | frm a =>
    obtain ⟨h1, h3⟩ := h
    have e := TL.par_part1 (S := []) (rest := []) (acc := []) (txtI_free (s := 45) h1 (by omega))
    simp only [List.nil_append, List.append_nil] at e
    unfold rdItem itL
    rw [e]
    simp only [itO, numO_txt h1 h3, numO_nil, if_true]
  | last n =>
    obtain ⟨h1, h3⟩ := h
    have e := TL.par_part1 (s := 45) (S := []) (p := []) (rest := nL n) (acc := []) (by simp)
    simp only [List.nil_append, List.cons_append] at e
    unfold rdItem itL
    rw [e]
    simp only [itO, numO_txt (show 0 ≤ n by omega) h3, numO_nil]
    rw [if_pos ⟨trivial, h1⟩]
theorem itL_free {i : It} (h : okIt i) : 44 ∉ itL i := by
  cases i with
  | span a b =>
    have h1 := txtI_free (i := a) (s := 44) h.1 (by omega)
    have h2 := txtI_free (i := b) (s := 44) (by have := h.1; have := h.2.1; omega) (by omega)
    simp [itL, h1, h2]
  | frm a => have h1 := txtI_free (i := a) (s := 44) h.1 (by omega); simp [itL, h1]
  | last n => have h1 := txtI_free (i := n) (s := 44) (by have := h.1; omega) (by omega); simp [itL, h1]
theorem itL_len {i : It} (h : okIt i) : (itL i).length ≤ 19 := by
  have l := fun (i : Int) (h0 : 0 ≤ i) (h : i < 1000000000) => nL_len h0 h
  cases i with
  | span a b =>
    obtain ⟨h1, h2, h3⟩ := h
    have := l a h1 (by omega)
    have := l b (by omega) h3
    simp [itL]; omega
  | frm a => have := l a h.1 h.2; simp [itL]; omega
  | last n => have := l n (by have := h.1; omega) h.2; simp [itL]; omega
def mapO {α β : Type} (g : α → Option β) : List α → Option (List β)
  | [] => some []
  | x :: xs => match g x with
    | none => none
    | some y => match mapO g xs with
      | none => none
      | some ys => some (y :: ys)
theorem mapO_some {α β : Type} {g : α → Option β} {f : β → α} : ∀ {ys : List β}, (∀ y ∈ ys, g (f y) = some y) → mapO g (ys.map f) = some ys
  | [], _ => rfl
  | y :: ys, h => by
    have e := mapO_some (g := g) (f := f) (ys := ys) fun z hz => h z (List.mem_cons_of_mem _ hz)
    simp [mapO, h y (by simp), e]
theorem mapO_len {α β : Type} {g : α → Option β} : ∀ {xs : List α} {ys : List β}, mapO g xs = some ys → ys.length = xs.length
  | [], ys, h => by cases h; rfl
  | x :: xs, ys, h => by
    simp only [mapO] at h
    split at h
    · cases h
    · split at h
      · cases h
      · rename_i e
        cases h
        simp [mapO_len e]
def rdAsk (l : List Nat) : Option (List It) := if 8 < (spC 44 l).length then none else mapO rdItem (spC 44 l)
def askL (is : List It) : List Nat := TL.joinL [44] (is.map itL)
theorem rd_askL {is : List It} (hn : is ≠ []) (hl : is.length ≤ 8) (h : ∀ i ∈ is, okIt i) : rdAsk (askL is) = some is := by
  unfold rdAsk askL spC
  rw [TL.spl_join (by simpa using hn) (by simpa using fun i hi => itL_free (h i hi)), if_neg (by simp; omega)]
  exact mapO_some fun i hi => rd_itL (h i hi)
theorem ev_compX {src c e : E} {tg : Tg} {d : D} {α β : Type} {enc : β → D} {fo : α → D} (g : β → Option α) {x : Nat} {xs : List β} (hs : ev G call src env S = .ok d S) (hi : mkIt .plain [d] S = some (.items (xs.map enc))) (hl : xs.length ≤ SZ)
    (h : ∀ y ∈ xs, compB G call tg c e env (enc y) S = match g y with | some r => .ok (some (fo r)) S | none => .ex x S) :
    ev G call (.comp .plain src tg c e) env S = exO x (ll fo) (mapO g xs) S := by
  have key : ∀ (ys : List β) (acc : List α), (∀ y ∈ ys, y ∈ xs) → acc.length + ys.length ≤ SZ → goComp (compB G call tg c e env) (ys.map enc) (acc.map fo) S = match mapO g ys with | some rs => .ok ((acc ++ rs).map fo) S | none => .ex x S := by
    intro ys
    induction ys with
    | nil => intro acc _ _; simp [goComp, mapO]
    | cons y ys ih =>
      intro acc hm hz
      have hy := h y (hm y (by simp))
      simp only [List.map_cons, goComp, hy, mapO]
      cases hg : g y with
      | none => rfl
      | some r =>
        simp only [R.bind_ok]
        rw [if_pos (by rw [List.length_map]; simp only [List.length_cons] at hz; omega)]
        have := ih (acc ++ [r]) (fun z hz => hm z (by simp [hz])) (by simp only [List.length_append, List.length_cons, List.length_nil] at *; omega)
        rw [List.map_append] at this
        rw [show List.map fo [r] = [fo r] from rfl] at this
        rw [this]
        cases mapO g ys <;> simp
  have := key xs [] (fun _ h => h) (by simpa using hl)
  show (ev G call src env S).bind _ = _
  rw [hs]
  simp only [R.bind_ok, srcL_plain, hi]
  show (goComp (compB G call tg c e env) (xs.map enc) [] S).bind _ = _
  rw [show goComp (compB G call tg c e env) (xs.map enc) [] S = _ from this]
  cases mapO g xs with
  | none => rfl
  | some rs => simp [ll]
theorem part_str {l : List Nat} {b : Str} (h : l.length ≤ 1000000) (hb : b.length = 1) : bmD .partition (.str (tx l)) [.str b] S = .ok (.tup [.str (Txt.partition (tx l) b).1, .str (Txt.partition (tx l) b).2.1, .str (Txt.partition (tx l) b).2.2]) S := by
  show R.of (if b.length ≠ 0 ∧ (tx l).length ≤ SZ then some _ else none) S = _
  rw [if_pos ⟨by omega, by rw [len_tx]; unfold SZ; omega⟩]; rfl
def txD (l : List Nat) : D := .str (tx l)
instance : Okf txD := ⟨fun _ => rfl, fun _ => rfl⟩
theorem split_str {l : List Nat} {b : Str} {s : Nat} (h : l.length ≤ 1000000) (hb : b.length = 1) (ey : TL.tl b = [s]) (hs : s < 256) : bmD .split (.str (tx l)) [.str b] S = .ok (ll txD (spC s l)) S := by
  show R.of (if b.length ≠ 0 ∧ (tx l).length + 2 ≤ SZ then some (D.lst ((Txt.split (tx l) b).map D.str)) else none) S = _
  rw [if_pos ⟨by omega, by rw [len_tx]; unfold SZ; omega⟩, split_tx ey hs, List.map_map]; rfl
theorem l_dash : ("-" : Str).length = 1 := by decide +kernel
theorem l_comma : ("," : Str).length = 1 := by decide +kernel
theorem l_blank : (" " : Str).length = 1 := by decide +kernel
theorem t_dash : TL.tl ("-" : Str) = [45] := by decide +kernel
theorem t_comma : TL.tl ("," : Str) = [44] := by decide +kernel
theorem t_blank : TL.tl (" " : Str) = [32] := by decide +kernel
theorem dash_ne : (("-" : Str) = "") = False := by simp; decide +kernel
theorem emp_ne : (Str.empty = ("" : Str)) = True := by simp; decide +kernel
theorem emp_tx : Str.empty = tx [] := rfl
theorem tx_e0 {l : List Nat} : (tx l = ("" : Str)) = (l = []) := by rw [tx_0, tx_inj]
theorem bindT_3 {a b c : Nat} {x y z : D} {env : Env} : bindT (.many [a, b, c]) (.tup [x, y, z]) env = some (((env.set a (some x)).set b (some y)).set c (some z)) := rfl
theorem r_read_item [h : Has G i_read_item f_read_item] [hn : Has G i_number_of f_number_of] [h4 : HasC G 4 (.str "0123456789")] [h5 : HasC G 5 (.int 9)] {l : List Nat} (hx : l.length ≤ 1000000) :
    run G (k + 2) i_read_item [txD l] S = exO 0 itD (rdItem l) S := by
  have rn : ∀ (y : List Nat) S, y.length ≤ 1000000 → run G (k + 1) i_number_of [.str (tx y)] S = .ok (opD .int (numO y)) S := fun y S h => r_number_of h
  have pt := fun S => part_str (S := S) hx l_dash
  rw [part_tx t_dash] at pt
  unfold txD
  refine pure_W (h := h) rfl rfl (by simp [frzAs]; rfl) ?_
  simp only [b_read_item, startE]
  unfold rdItem
  cases hp : TL.par [45] [] l with
  | none =>
    rw [hp] at pt
    simp only [emp_tx] at pt ⊢
    have r1 := fun S => rn l S hx
    have r2 := fun S => rn [] S (by decide)
    rw [numO_nil] at r2
    have e0 : tx [] = ("" : Str) := tx_0.symm
    simp [pt, r1, r2, tx_e0, opD]
  | some p =>
    obtain ⟨a, b⟩ := p
    have hap := par_some 45 _ [] a b hp
    have ln := congrArg List.length hap
    simp only [List.nil_append, List.length_append, List.length_cons] at ln
    rw [hp] at pt
    simp only at pt ⊢
    have r1 := fun S => rn a S (by omega)
    have r2 := fun S => rn b S (by omega)
    unfold itO
    cases ha : numO a with
    | none =>
      rw [ha] at r1
      cases hb : numO b with
      | none =>
        rw [hb] at r2
        by_cases q : a = []
        · subst q; simp [pt, r1, r2, dash_ne, opD, tx_e0]
        · simp [pt, r1, r2, dash_ne, opD, tx_e0, q]
      | some y =>
        rw [hb] at r2
        have hb0 : ¬ b = [] := by rintro rfl; rw [numO_nil] at hb; cases hb
        by_cases q : a = []
        · subst q
          by_cases q' : 0 < y <;> simp [pt, r1, r2, dash_ne, opD, tx_e0, q', itD, scl, scls]
        · simp [pt, r1, r2, dash_ne, opD, tx_e0, q]
    | some v =>
      rw [ha] at r1
      have ha0 : ¬ a = [] := by rintro rfl; rw [numO_nil] at ha; cases ha
      cases hb : numO b with
      | none =>
        rw [hb] at r2
        by_cases q : b = []
        · subst q; simp [pt, r1, r2, dash_ne, opD, tx_e0, itD, scl, scls]
        · simp [pt, r1, r2, dash_ne, opD, tx_e0, q, ha0]
      | some y =>
        rw [hb] at r2
        have hb0 : ¬ b = [] := by rintro rfl; rw [numO_nil] at hb; cases hb
        by_cases q : v ≤ y <;> simp [pt, r1, r2, dash_ne, opD, tx_e0, q, ha0, hb0, itD, scl, scls]
theorem r_read_ask [h : Has G i_read_ask f_read_ask] [hi : Has G i_read_item f_read_item] [hn : Has G i_number_of f_number_of] [h4 : HasC G 4 (.str "0123456789")] [h5 : HasC G 5 (.int 9)] [h6 : HasC G 6 (.int 8)] {l : List Nat} (hx : l.length ≤ 1000000) :
    run G (k + 3) i_read_ask [.str (tx l)] S = exO 0 (tl itD) (rdAsk l) S := by
  have sp := fun S => split_str (S := S) hx l_comma t_comma (by decide)
  obtain ⟨sl1, sl2⟩ := spC_len 44 l
  refine pure_W (h := h) rfl rfl (by simp [frzAs]; rfl) ?_
  simp only [b_read_ask, startE]
  unfold rdAsk
  generalize spC 44 l = ps at *
  by_cases q : 8 < ps.length
  · have q' : (8 : Int) < ps.length := by omega
    rw [if_pos q]
    simp [sp, q']
  · have q' : ¬ (8 : Int) < ps.length := by omega
    rw [if_neg q]
    have cm : ∀ env : Env, env[1]? = some (some (ll txD ps)) → env.length = 3 → ev G (run G (k + 2)) (.comp .plain (.var 1) (.one 2) .emp (.call i_read_item (.cons (.var 2) .nil))) env [] = exO 0 (ll itD) (mapO rdItem ps) [] := fun env e1 el => by
      obtain ⟨a, b, c, rfl⟩ : ∃ a b c, env = [a, b, c] := by match env, el with | [a, b, c], _ => exact ⟨a, b, c, rfl⟩
      simp at e1; subst e1
      refine ev_compX (fo := itD) (enc := txD) (xs := ps) (d := ll txD ps) rdItem (by simp) mkIt_ll (by unfold SZ; omega) fun y hy => ?_
      have := r_read_item (G := G) (k := k) (S := []) (l := y) (by have hq := sl2 y hy; omega)
      cases hr : rdItem y with
      | none => rw [hr] at this; simp [compB, this]
      | some i => rw [hr] at this; simp [compB, this]
    have cm := cm [some (.str (tx l)), some (ll txD ps), none] rfl rfl
    cases hm : mapO rdItem ps with
    | none => rw [hm] at cm; simp [sp, q', cm]
    | some is => rw [hm] at cm; simp [sp, q', cm]
end
end PL

set_option Elab.async false
set_option linter.all false
set_option maxRecDepth 100000
set_option maxHeartbeats 1000000
/-! PMT: the texts of asks, what asks mean. -/
namespace PL
open PySem
abbrev i_resolved_item : Nat := 50
/-- resolved_item: item 0 size 1 -/
def b_resolved_item : T := (.ifs (.cmp .eq (.ix (.var 0) (.con (.int 0))) (.con (.str "span")))
  (.ret (.tup (.cons (.bf .min (.cons (.ix (.var 0) (.con (.int 1))) (.cons (.var 1) .nil))) (.cons (.bf .min (.cons (.bin .add (.ix (.var 0) (.con (.int 2))) (.con (.int 1))) (.cons (.var 1) .nil))) .nil))))
  .nil
  (.ifs (.cmp .eq (.ix (.var 0) (.con (.int 0))) (.con (.str "from")))
  (.ret (.tup (.cons (.bf .min (.cons (.ix (.var 0) (.con (.int 1))) (.cons (.var 1) .nil))) (.cons (.var 1) .nil))))
  .nil
  (.ret (.tup (.cons (.bf .max (.cons (.bin .sub (.var 1) (.ix (.var 0) (.con (.int 1)))) (.cons (.con (.int 0)) .nil))) (.cons (.var 1) .nil))))))
def f_resolved_item : Fn := ⟨true, 2, 2, b_resolved_item⟩
abbrev i_resolved : Nat := 51
/-- resolved: ask 0 size 1 pairs 2 found 3 item 4 pair 5 -/
def b_resolved : T := (.asg 2 (.comp .plain (.var 0) (.one 4) .emp (.call i_resolved_item (.cons (.var 4) (.cons (.var 1) .nil))))
  (.asg 3 (.bf .tuple (.cons (.comp .plain (.var 2) (.one 5) (.cmp .lt (.ix (.var 5) (.con (.int 0))) (.ix (.var 5) (.con (.int 1)))) (.var 5)) .nil))
  (.ifs (.nt (.val (.var 3)))
  (.rais 1)
  .nil
  (.ret (.var 3)))))
def f_resolved : Fn := ⟨true, 2, 6, b_resolved⟩
abbrev i_asked_ranges : Nat := 52
/-- asked_ranges: ask 0 size 1 -/
def b_asked_ranges : T := (.ret (.call i_tidied (.cons (.call i_resolved (.cons (.var 0) (.cons (.var 1) .nil))) .nil)))
def f_asked_ranges : Fn := ⟨true, 2, 2, b_asked_ranges⟩
abbrev i_ask_for : Nat := 53
/-- ask_for: ranges 0 begin 1 end 2 -/
def b_ask_for : T := (.ret (.bf .tuple (.cons (.comp .plain (.var 0) (.many [1, 2]) .emp (.tup (.cons (.con (.str "span")) (.cons (.var 1) (.cons (.bin .sub (.var 2) (.con (.int 1))) .nil))))) .nil)))
def f_ask_for : Fn := ⟨true, 1, 3, b_ask_for⟩
abbrev i_l_resolved : Nat := 54
/-- l_resolved: _ask_here 0 _size 1 _found 2 _item 3 _begin 4 _end 5 -/
def b_l_resolved : T := (.asg 2 (.tup .nil)
  (.for_ .plain (.var 0) (.one 3)
  (.asg 4 (.ix (.var 3) (.con (.int 1)))
  (.asg 5 (.var 1)
  (.ifs (.cmp .eq (.ix (.var 3) (.con (.int 0))) (.con (.str "span")))
  (.asg 5 (.bf .min (.cons (.var 1) (.cons (.bin .add (.ix (.var 3) (.con (.int 2))) (.con (.int 1))) .nil)))
  .nil)
  .nil
  (.ifs (.cmp .eq (.ix (.var 3) (.con (.int 0))) (.con (.str "last")))
  (.asg 4 (.bf .max (.cons (.con (.int 0)) (.cons (.bin .sub (.var 1) (.ix (.var 3) (.con (.int 1)))) .nil)))
  .nil)
  .nil
  (.ifs (.cmp .lt (.var 4) (.var 5))
  (.asg 2 (.bin .add (.var 2) (.tup (.cons (.tup (.cons (.var 4) (.cons (.var 5) .nil))) .nil)))
  .nil)
  .nil
  .nil)))))
  (.ret (.var 2))))
def f_l_resolved : Fn := ⟨true, 2, 6, b_l_resolved⟩
abbrev i_l_told_3 : Nat := 55
/-- l_told_3: _k 0 _ask_here 1 _size 2 _found 3 -/
def b_l_told_3 : T := (.asg 3 (.con .non)
  (.tr (.ifs (.cmp .eq (.var 0) (.con (.int 0)))
  (.asg 3 (.call i_resolved (.cons (.var 1) (.cons (.var 2) .nil)))
  .nil)
  (.asg 3 (.call i_asked_ranges (.cons (.var 1) (.cons (.var 2) .nil)))
  .nil)
  .nil)
  [1]
  (.asg 3 (.con (.str "refused"))
  .nil)
  (.ret (.var 3))))
def f_l_told_3 : Fn := ⟨true, 3, 4, b_l_told_3⟩

theorem sx_sf : ¬ Str.ofString "span" = Str.ofString "from" := by decide +kernel
theorem sx_sl : ¬ Str.ofString "span" = Str.ofString "last" := by decide +kernel
theorem sx_fs : ¬ Str.ofString "from" = Str.ofString "span" := by decide +kernel
theorem sx_fl : ¬ Str.ofString "from" = Str.ofString "last" := by decide +kernel
theorem sx_ls : ¬ Str.ofString "last" = Str.ofString "span" := by decide +kernel
theorem sx_lf : ¬ Str.ofString "last" = Str.ofString "from" := by decide +kernel
/-- an item as its text -/
def itS (i : It) : D := .str (tx (itL i))
section
variable {G : Tab} {call : Calls} {env : Env} {S : Store} {k : Nat}
theorem fmt_nL {i : Int} (h0 : 0 ≤ i) (h : i < 1000000000) : fmtD (.int i) = some (tx (nL i)) := by rw [fmt_int h0 h, txtI_nL]
theorem str_nL {i : Int} (h0 : 0 ≤ i) (h : i < 1000000000) : bfD .str [.int i] S = some (.str (tx (nL i))) := by rw [str_int h0 h, txtI_nL]
theorem tx_cat (l : List Nat) (r : List D) : catD (.str (tx l) :: r) = (catD r).map fun y => tx l ++ y := rfl
theorem dash_cat (r : List D) : catD (.str "-" :: r) = (catD r).map fun y => tx [45] ++ y := by rw [tx_dash]; rfl
theorem nil_cat : catD [] = some (tx []) := rfl
theorem add_tx {a b : List Nat} (h : a.length + b.length ≤ 1000000) : bop .add (.str (tx a)) (.str (tx b)) S = some (.str (tx (a ++ b))) := by
  rw [add_str (by rw [len_tx, len_tx]; exact h), tx_app]
theorem r_item_text [h : Has G i_item_text f_item_text] {i : It} (hi : okIt i) : run G (k + 1) i_item_text [itD i] S = .ok (.str (tx (itL i))) S := by
  refine pure_W (h := h) (as' := [itD i]) rfl rfl (by cases i <;> rfl) ?_
  simp only [b_item_text, startE]
  cases i with
  | span a b =>
    obtain ⟨h1, h2, h3⟩ := hi
    have f1 := fmt_nL (i := a) h1 (by omega)
    have f2 := fmt_nL (i := b) (by omega) h3
    simp [itD, ix0_tup, ix1_tup, ix2_tup, f1, f2, tx_cat, dash_cat, nil_cat, tx_app, itL]
  | frm a =>
    obtain ⟨h1, h3⟩ := hi
    have f1 := fmt_nL (i := a) h1 (by omega)
    simp [itD, ix0_tup, ix1_tup, ix2_tup, f1, tx_cat, dash_cat, nil_cat, tx_app, itL, sx_fs]
  | last n =>
    obtain ⟨h1, h3⟩ := hi
    have f1 := fmt_nL (i := n) (by omega) (by omega)
    simp [itD, ix0_tup, ix1_tup, ix2_tup, f1, tx_cat, dash_cat, nil_cat, tx_app, itL, sx_ls, sx_lf]
theorem join_tx {y : Str} {ls : List (List Nat)} {s : List Nat} (ey : TL.tl y = s) : Txt.join y (ls.map tx) = tx (TL.joinL s ls) := by
  refine TL.ext_tl ?_
  rw [TL.join_eq, TL.tl_join, ey, List.map_map, tl_tx]
  congr 1
  exact (List.map_congr_left fun p _ => rfl).trans (List.map_id _)
theorem r_ask_text [h : Has G i_ask_text f_ask_text] [hi : Has G i_item_text f_item_text] {is : List It} (ho : ∀ i ∈ is, okIt i) (hl : is.length ≤ 1000) : run G (k + 2) i_ask_text [tl itD is] S = .ok (.str (tx (askL is))) S := by
  refine pure_W (h := h) rfl rfl (by simp [frzAs]; rfl) ?_
  simp only [b_ask_text, startE, x_ret, e_bm, e_con, e_cons, e_nil, R.bind_ok, ok_join, if_true]
  rw [ev_compM (enc := itD) (xs := is) (d := tl itD is) itS]
  rotate_left
  · simp
  · simp
  · unfold SZ; omega
  · intro i hi
    have := r_item_text (G := G) (k := k) (S := []) (ho i hi)
    simp [compB, this, itS]
  have e : is.map itS = ((is.map itL).map tx).map D.str := by rw [List.map_map, List.map_map]; rfl
  rw [e]
  simp only [R.bind_ok, toTup_tup]
  rw [join_lst (by decide) (by simp; omega) (by
    intro y hy
    obtain ⟨l, hl, rfl⟩ := List.mem_map.mp hy
    obtain ⟨i, hi, rfl⟩ := List.mem_map.mp hl
    have := itL_len (ho i hi)
    rw [len_tx]; omega), join_tx t_comma]
  simp only [R.stm_ok, sat_finP_rt, frzR_str, R.of_some]
  rfl
theorem r_l_ask_text [h : Has G i_l_ask_text f_l_ask_text] {is : List It} (ho : ∀ i ∈ is, okIt i) (hl : is.length ≤ 1000) : run G (k + 1) i_l_ask_text [tl itD is] S = .ok (.str (tx (askL is))) S := by
  refine pure_W (h := h) rfl rfl (by simp [frzAs]; rfl) ?_
  simp only [b_l_ask_text, startE]
  simp
  refine x_forW (fun j e s => s = [.lst ((is.take j).map itS)] ∧ ∃ t2, e = [some (tl itD is), some (.ref 0), t2]) (enc := itD) (xs := is) (d := tl itD is) ?_ ?_ ?_ ?_ ?_
  · simp
  · simp
  · exact ⟨rfl, _, rfl⟩
  · rintro j i _ _ hj ⟨rfl, t2, rfl⟩
    have e1 : is.take (j + 1) = is.take j ++ [i] := by rw [List.take_succ, hj]; rfl
    have hi := ho i (List.mem_of_getElem? hj)
    rw [e1, List.map_append]
    have ml : ((is.take j).map itS).length ≤ 1000 := by simp; omega
    generalize (is.take j).map itS = f at *
    have ap := fun (y : D) => app_ref (S := [.lst f]) (n := 0) (y := y) rfl (by omega)
    have ao := PL.app_ok (S := [.lst f]) (n := 0) rfl
    have il := itL_len hi
    cases i with
    | span a b =>
      obtain ⟨h1, h2, h3⟩ := hi
      have f1 := fun S => str_nL (S := S) (i := a) h1 (by omega)
      have f2 := fun S => str_nL (S := S) (i := b) (by omega) h3
      have l1 := nL_len h1 (show a < 1000000000 by omega)
      have l2 := nL_len (show 0 ≤ b by omega) h3
      have a1 := fun S => add_tx (S := S) (a := nL a) (b := [45]) (by simp; omega)
      have a2 := fun S => add_tx (S := S) (a := nL a ++ [45]) (b := nL b) (by simp; omega)
      rw [← tx_dash] at a1
      simp [turnB, itD, ix0_tup, ix1_tup, ix2_tup, f1, f2, a1, a2, ap, ao, itS, itL]
    | frm a =>
      obtain ⟨h1, h3⟩ := hi
      have f1 := fun S => str_nL (S := S) (i := a) h1 (by omega)
      have l1 := nL_len h1 (show a < 1000000000 by omega)
      have a1 := fun S => add_tx (S := S) (a := nL a) (b := [45]) (by simp; omega)
      rw [← tx_dash] at a1
      simp [turnB, itD, ix0_tup, ix1_tup, ix2_tup, f1, a1, ap, ao, itS, itL, sx_fs]
    | last n =>
      obtain ⟨h1, h3⟩ := hi
      have f1 := fun S => str_nL (S := S) (i := n) (by omega) (by omega)
      have l1 := nL_len (show 0 ≤ n by omega) h3
      have a1 := fun S => add_tx (S := S) (a := [45]) (b := nL n) (by simp; omega)
      rw [← tx_dash] at a1
      simp [turnB, itD, ix0_tup, ix1_tup, ix2_tup, f1, a1, ap, ao, itS, itL, sx_ls, sx_lf]
  rintro _ _ ⟨rfl, t2, rfl⟩
  rw [List.take_length]
  have e : is.map itS = ((is.map itL).map tx).map D.str := by rw [List.map_map, List.map_map]; rfl
  rw [e]
  have jr := join_ref (a := ",") (ys := (is.map itL).map tx) (by decide) (by simp; omega) (by
    intro y hy
    obtain ⟨l, hl, rfl⟩ := List.mem_map.mp hy
    obtain ⟨i, hi, rfl⟩ := List.mem_map.mp hl
    have := itL_len (ho i hi)
    rw [len_tx]; omega)
  rw [join_tx t_comma] at jr
  simp only [x_ret, e_bm, e_con, e_cons, e_nil, R.bind_ok, ok_join, if_true, e_var, List.getElem?_cons_succ, List.getElem?_cons_zero, toTup_tup, jr, R.stm_ok, sat_finP_rt, frzR_str, R.of_some]
  rfl
/-! the law's own reader -/
theorem nums_comp {env : Env} {ps : List (List Nat)} {i j : Nat} (hi : env[i]? = some (some (ll txD ps))) (hl : ps.length ≤ 1000000) (hs : j < env.length) (hr : ∀ p ∈ ps, ∀ S, call i_l_number [.str (tx p)] S = .ok (opD .int (numO p)) S) :
    ev G call (.comp .plain (.var i) (.one j) .emp (.call i_l_number (.cons (.var j) .nil))) env S = .ok (ll (opD .int) (ps.map numO)) S := by
  refine ev_compG (enc := txD) (xs := ps) (d := ll txD ps) (opD .int) numO ?_ ?_ ?_ ?_
  · simp [hi]
  · simp
  · unfold SZ; omega
  · intro p hp
    have := hr p hp S
    simp [compB, hs, txD, this]
theorem r_l_read_ask [h : Has G i_l_read_ask f_l_read_ask] [hn : Has G i_l_number f_l_number] {l : List Nat} (hx : l.length ≤ 100000) :
    run G (k + 2) i_l_read_ask [.str (tx l)] S = .ok (opD (tl itD) (rdAsk l)) S := by
  have sp := fun S => split_str (S := S) (l := l) (by omega) l_comma t_comma (by decide)
  obtain ⟨sl1, sl2⟩ := spC_len 44 l
  have rn : ∀ (p : List Nat), p.length ≤ 100000 → ∀ S, run G (k + 1) i_l_number [.str (tx p)] S = .ok (opD .int (numO p)) S := fun p hp S => r_l_number (by omega)
  refine pure_W (h := h) rfl rfl (by simp [frzAs]; rfl) ?_
  simp only [b_l_read_ask, startE]
  unfold rdAsk
  generalize spC 44 l = ps at *
  generalize run G (k + 1) = call at *
  simp [sp]
  refine x_forW (fun j e s => s = [] ∧ ∃ is : List It, mapO rdItem (ps.take j) = some is ∧ ∃ t3 t4 t5 t6, e = [some (.str (tx l)), some (tl itD is), some (ll txD ps), t3, t4, t5, t6]) (enc := txD) (xs := ps) (d := ll txD ps) ?_ ?_ ?_ ?_ ?_
  · simp
  · simp
  · exact ⟨rfl, [], rfl, _, _, _, _, rfl⟩
  · rintro j p _ _ hj ⟨rfl, is, his, t3, t4, t5, t6, rfl⟩
    have hm := List.mem_of_getElem? hj
    have pl := sl2 p hm
    have jl := (List.getElem?_eq_some_iff.mp hj).1
    have il : is.length ≤ 100001 := by
      have := mapO_len his
      rw [List.length_take] at this; omega
    have e1 : ps.take (j + 1) = ps.take j ++ [p] := by rw [List.take_succ, hj]; rfl
    have snoc : ∀ (xs : List (List Nat)) (is : List It), mapO rdItem xs = some is → mapO rdItem (xs ++ [p]) = (rdItem p).map fun i => is ++ [i] := by
      intro xs
      induction xs with
      | nil =>
        intro is h; cases h
        simp only [List.nil_append, mapO]
        cases rdItem p <;> rfl
      | cons x xs ih =>
        intro is h
        simp only [mapO] at h
        simp only [List.cons_append, mapO]
        cases hx : rdItem x with
        | none => rw [hx] at h; cases h
        | some i =>
          rw [hx] at h
          cases hy : mapO rdItem xs with
          | none => rw [hy] at h; cases h
          | some ys =>
            rw [hy] at h; cases h
            simp only [ih ys hy]
            cases rdItem p <;> rfl
    have full : rdItem p = none → (if 8 < ps.length then none else mapO rdItem ps) = none := by
      intro hp
      split
      · rfl
      · have : ∀ (xs : List (List Nat)), p ∈ xs → mapO rdItem xs = none := by
          intro xs
          induction xs with
          | nil => intro h; cases h
          | cons x xs ih =>
            intro h
            simp only [mapO]
            rcases List.mem_cons.mp h with rfl | h
            · rw [hp]
            · rw [ih h]; cases rdItem x <;> rfl
        exact this ps hm
    have sn := snoc _ is his
    rw [← e1] at sn
    rw [sn]
    rw [rdItem_spl] at full sn ⊢
    have sp2 := fun S => split_str (S := S) (l := p) (by omega) l_dash t_dash (by decide)
    obtain ⟨ql1, ql2⟩ := spC_len 45 p
    have ad : ∀ (i : It) S, bop .add (tl itD is) (.tup [itD i]) S = some (tl itD (is ++ [i])) := fun i S => add_tl1 rfl (by unfold SZ; omega)
    have cm : ∀ S, ev G call (.comp .plain (.var 4) (.one 6) .emp (.call i_l_number (.cons (.var 6) .nil))) [some (.str (tx l)), some (tl itD is), some (ll txD ps), some (txD p), some (ll txD (spC 45 p)), t5, t6] S = .ok (ll (opD .int) ((spC 45 p).map numO)) S := fun S => nums_comp (by simp) (by omega) (by simp) fun q hq => rn q (by have := ql2 q hq; omega)
    simp only [turnB, bindT_one]
    simp [sp2, txD] at cm ⊢
    rw [cm]
    generalize hq : spC 45 p = qs at *
    have len2 : ∀ qs : List (List Nat), (∀ a b, qs ≠ [a, b]) → ¬ (qs.length : Int) = 2 ∧ (match qs with | [a, b] => itO a b | _ => none) = none := by
      intro qs h
      match qs, h with
      | [], _ => exact ⟨by simp, rfl⟩
      | [a], _ => exact ⟨by simp, rfl⟩
      | [a, b], h => exact absurd rfl (h a b)
      | a :: b :: c :: r, _ => exact ⟨by simp; omega, rfl⟩
    by_cases q2 : ∃ a b, qs = [a, b]
    · obtain ⟨a, b, rfl⟩ := q2
      have g0 : ∀ (u v : Option Int) S, getD_ (ll (opD .int) [u, v]) (.int 0) S = some (opD .int u) := fun u v S => by rw [ix_ll, atI_nn (by decide)]; rfl
      have g1 : ∀ (u v : Option Int) S, getD_ (ll (opD .int) [u, v]) (.int 1) S = some (opD .int v) := fun u v S => by rw [ix_ll, atI_nn (by decide)]; rfl
      have h0 : ∀ S, getD_ (ll txD [a, b]) (.int 0) S = some (.str (tx a)) := fun S => by rw [ix_ll, atI_nn (by decide)]; rfl
      have h1 : ∀ S, getD_ (ll txD [a, b]) (.int 1) S = some (.str (tx b)) := fun S => by rw [ix_ll, atI_nn (by decide)]; rfl
      have nf : itO a b = none → (if 8 < ps.length then none else mapO rdItem ps) = none := full
      generalize (if 8 < ps.length then none else mapO rdItem ps) = res at *
      unfold itO at nf ⊢
      simp only [List.map_cons, List.map_nil]
      cases ha : numO a with
      | none =>
        cases hb : numO b with
        | none =>
          rw [ha, hb] at nf
          have nf := nf rfl
          by_cases q : a = []
          · subst q; simp [g0, g1, h0, h1, -ix_ll, ha, hb, opD, tx_e0, nf]
          · simp [g0, g1, h0, h1, -ix_ll, ha, hb, opD, tx_e0, q, nf]
        | some y =>
          by_cases q : a = []
          · subst q
            have a3 : ∀ S, bop .add (tl itD is) (.tup [.tup [.str "last", .int y]]) S = some (tl itD (is ++ [.last y])) := fun S => ad (.last y) S
            by_cases q' : 0 < y
            · simp [g0, g1, h0, h1, -ix_ll, ha, hb, opD, tx_e0, q', a3]
            · rw [ha, hb] at nf
              have nf := nf (by simp [q'])
              simp [g0, g1, h0, h1, -ix_ll, ha, hb, opD, tx_e0, q', nf]
          · rw [ha, hb] at nf
            have nf := nf (by simp [q])
            simp [g0, g1, h0, h1, -ix_ll, ha, hb, opD, tx_e0, q, nf]
      | some v =>
        have ha0 : ¬ a = [] := by rintro rfl; rw [numO_nil] at ha; cases ha
        cases hb : numO b with
        | none =>
          by_cases q : b = []
          · have a3 : ∀ S, bop .add (tl itD is) (.tup [.tup [.str "from", .int v]]) S = some (tl itD (is ++ [.frm v])) := fun S => ad (.frm v) S
            subst q
            simp [g0, g1, h0, h1, -ix_ll, ha, hb, opD, tx_e0, a3]
          · rw [ha, hb] at nf
            have nf := nf (by simp [q])
            simp [g0, g1, h0, h1, -ix_ll, ha, hb, opD, tx_e0, ha0, q, nf]
        | some y =>
          have hb0 : ¬ b = [] := by rintro rfl; rw [numO_nil] at hb; cases hb
          by_cases q : v ≤ y
          · have a3 : ∀ S, bop .add (tl itD is) (.tup [.tup [.str "span", .int v, .int y]]) S = some (tl itD (is ++ [.span v y])) := fun S => ad (.span v y) S
            simp [g0, g1, h0, h1, -ix_ll, ha, hb, opD, tx_e0, q, a3]
          · rw [ha, hb] at nf
            have nf := nf (by simp [q])
            simp [g0, g1, h0, h1, -ix_ll, ha, hb, opD, tx_e0, q, ha0, hb0, nf]
    · obtain ⟨l1, l2⟩ := len2 qs fun a b e => q2 ⟨a, b, e⟩
      simp [l1]
      rw [full l2]; rfl
  rintro _ _ ⟨rfl, is, his, t3, t4, t5, t6, rfl⟩
  rw [List.take_length] at his
  by_cases q : 8 < ps.length
  · have q' : ¬ (ps.length : Int) ≤ 8 := by omega
    simp [q, q', opD]
  · have q' : (ps.length : Int) ≤ 8 := by omega
    simp [q, q', his, opD]
end
/-! ### what asks mean -/
def resI (n : Int) : It → PI
  | .span a b => (min a n, min (b + 1) n)
  | .frm a => (min a n, n)
  | .last m => (max (n - m) 0, n)
def resF (is : List It) (n : Int) : List PI := (is.map (resI n)).filter fun p => decide (p.1 < p.2)
def resO (is : List It) (n : Int) : Option (List PI) := if resF is n = [] then none else some (resF is n)
theorem tidy_ran (ps : List PI) : tidyF ps = rangesF (placesF ps) := can_uniq (tidy_can ps) (ran_can (pl_nodup ps)) fun x => by rw [tidy_in, ran_in (pl_nodup ps), pl_mem]
section
variable {G : Tab} {call : Calls} {env : Env} {S : Store} {k : Nat}
theorem r_resolved_item [h : Has G i_resolved_item f_resolved_item] {i : It} {n : Int} : run G (k + 1) i_resolved_item [itD i, .int n] S = .ok (pairD (resI n i)) S := by
  refine pure_W (h := h) (as' := [itD i, .int n]) rfl rfl (by cases i <;> rfl) ?_
  simp only [b_resolved_item, startE]
  cases i with
  | span a b => simp [itD, ix0_tup, ix1_tup, ix2_tup, bf_min2, -bf_min, scl, scls, pairD, resI]
  | frm a => simp [itD, ix0_tup, ix1_tup, ix2_tup, bf_min2, -bf_min, scl, scls, pairD, resI, sx_fs]
  | last m => simp [itD, ix0_tup, ix1_tup, ix2_tup, bf_max2, -bf_max, scl, scls, pairD, resI, sx_ls, sx_lf]
theorem resF_len (is : List It) (n : Int) : (resF is n).length ≤ is.length := by
  have := List.length_filter_le (fun p : PI => decide (p.1 < p.2)) (is.map (resI n))
  rw [List.length_map] at this
  exact this
theorem r_resolved [h : Has G i_resolved f_resolved] [hi : Has G i_resolved_item f_resolved_item] {is : List It} {n : Int} (hl : is.length ≤ 9000) : run G (k + 2) i_resolved [tl itD is, .int n] S = exO 1 (tl pairD) (resO is n) S := by
  refine pure_W (h := h) rfl rfl (by simp [frzAs]; rfl) ?_
  simp only [b_resolved, startE, x_asg]
  rw [ev_compG (enc := itD) (xs := is) (d := tl itD is) pairD (resI n)]
  rotate_left
  · simp
  · simp
  · unfold SZ; omega
  · intro i _
    have := r_resolved_item (G := G) (k := k) (S := []) (i := i) (n := n)
    simp [compB, this]
  simp only [R.stm_ok, e_bf, e_cons, e_nil]
  rw [ev_comp (enc := pairD) (xs := is.map (resI n)) (d := ll pairD (is.map (resI n))) (p := fun p => decide (p.1 < p.2)) pairD]
  rotate_left
  · simp
  · simp
  · simp; unfold SZ; omega
  · intro p _
    by_cases q : p.1 < p.2
    · simp [compB, pairD, ix0_tup, ix1_tup, q]
    · simp [compB, pairD, ix0_tup, ix1_tup, q]
  have e : bfD .tuple [.lst (((is.map (resI n)).filter fun p => decide (p.1 < p.2)).map pairD)] [] = some (tl pairD (resF is n)) := rfl
  simp only [R.bind_ok, toTup_tup, e, R.of_some, R.stm_ok]
  unfold resO
  cases hr : resF is n with
  | nil => simp
  | cons p ps => simp
theorem r_asked_ranges [h : Has G i_asked_ranges f_asked_ranges] [hr : Has G i_resolved f_resolved] [hi : Has G i_resolved_item f_resolved_item] [ht : Has G i_tidied f_tidied] {is : List It} {n : Int} (hl : is.length ≤ 9000) : run G (k + 3) i_asked_ranges [tl itD is, .int n] S = exO 1 (tl pairD) ((resO is n).map tidyF) S := by
  have rr : ∀ S, run G (k + 2) i_resolved [tl itD is, .int n] S = exO 1 (tl pairD) (resO is n) S := fun S => r_resolved hl
  have le := resF_len is n
  refine pure_W (h := h) rfl rfl (by simp [frzAs]; rfl) ?_
  simp only [b_asked_ranges, startE]
  unfold resO at *
  by_cases q : resF is n = []
  · simp [q] at rr ⊢
    simp [rr]
  · simp only [if_neg q, exO_some] at rr
    have rt : ∀ S, run G (k + 2) i_tidied [tl pairD (resF is n)] S = .ok (tl pairD (tidyF (resF is n))) S := fun S => r_tidied (k := k + 1) (.inl (by simp)) (by omega)
    simp [q, rr, rt]
theorem r_ask_for [h : Has G i_ask_for f_ask_for] {ps : List PI} (hl : ps.length ≤ 9000) : run G (k + 1) i_ask_for [tl pairD ps] S = .ok (tl itD (ps.map fun p => .span p.1 (p.2 - 1))) S := by
  refine pure_W (h := h) rfl rfl (by simp [frzAs]; rfl) ?_
  simp only [b_ask_for, startE, x_ret, e_bf, e_cons, e_nil]
  rw [ev_compG (enc := pairD) (xs := ps) (d := tl pairD ps) itD (fun p => .span p.1 (p.2 - 1))]
  rotate_left
  · simp
  · simp
  · unfold SZ; omega
  · intro p _
    simp [compB, itD]
  simp
theorem r_l_resolved [h : Has G i_l_resolved f_l_resolved] {is : List It} {n : Int} (h0 : 0 ≤ n) (ho : ∀ i ∈ is, okIt i) (hl : is.length ≤ 9000) : run G (k + 1) i_l_resolved [tl itD is, .int n] S = .ok (tl pairD (resF is n)) S := by
  refine pure_W (h := h) rfl rfl (by simp [frzAs]; rfl) ?_
  simp only [b_l_resolved, startE]
  simp
  refine x_forW (fun j e s => s = [] ∧ ∃ t3 t4 t5, e = [some (tl itD is), some (.int n), some (tl pairD (resF (is.take j) n)), t3, t4, t5]) (enc := itD) (xs := is) (d := tl itD is) ?_ ?_ ?_ ?_ ?_
  · simp
  · simp
  · exact ⟨rfl, _, _, _, rfl⟩
  · rintro j i _ _ hj ⟨rfl, t3, t4, t5, rfl⟩
    have e1 : is.take (j + 1) = is.take j ++ [i] := by rw [List.take_succ, hj]; rfl
    have e2 : resF (is.take (j + 1)) n = resF (is.take j) n ++ resF [i] n := by rw [e1]; simp [resF]
    have hi := ho i (List.mem_of_getElem? hj)
    have le := resF_len (is.take j) n
    rw [List.length_take] at le
    have ad : ∀ (p : PI) S, bop .add (tl pairD (resF (is.take j) n)) (.tup [.tup [.int p.1, .int p.2]]) S = some (tl pairD (resF (is.take j) n ++ [p])) := fun p S => add_tl1 rfl (by unfold SZ; omega)
    rw [e2]
    generalize resF (is.take j) n = f at *
    cases i with
    | span a b =>
      obtain ⟨h1, h2, h3⟩ := hi
      by_cases q : a < min n (b + 1)
      · have e3 : resF [.span a b] n = [(a, min n (b + 1))] := by
          have c1 : min a n = a := by omega
          have c2 : min (b + 1) n = min n (b + 1) := by omega
          simp [resF, resI, c1, c2]; omega
        have ad := ad (a, min n (b + 1))
        simp only at ad
        rw [e3]
        simp [turnB, itD, ix0_tup, ix1_tup, ix2_tup, bf_min2, -bf_min, sx_sl, q, ad]
      · have e3 : resF [.span a b] n = [] := by
          simp [resF, resI]; omega
        rw [e3]
        simp [turnB, itD, ix0_tup, ix1_tup, ix2_tup, bf_min2, -bf_min, sx_sl, q]
    | frm a =>
      by_cases q : a < n
      · have e3 : resF [.frm a] n = [(a, n)] := by
          have c1 : min a n = a := by omega
          simp [resF, resI, c1]; omega
        have ad := ad (a, n)
        simp only at ad
        rw [e3]
        simp [turnB, itD, ix0_tup, ix1_tup, sx_fs, sx_fl, q, ad]
      · have e3 : resF [.frm a] n = [] := by
          simp [resF, resI]; omega
        rw [e3]
        simp [turnB, itD, ix0_tup, ix1_tup, sx_fs, sx_fl, q]
    | last m =>
      obtain ⟨h1, h3⟩ := hi
      have c1 : max (n - m) 0 = max 0 (n - m) := by omega
      by_cases q : max 0 (n - m) < n
      · have e3 : resF [.last m] n = [(max 0 (n - m), n)] := by
          simp [resF, resI, c1]; omega
        have ad := ad (max 0 (n - m), n)
        simp only at ad
        rw [e3]
        simp [turnB, itD, ix0_tup, ix1_tup, sx_ls, bf_max2, -bf_max, q, ad]
      · have e3 : resF [.last m] n = [] := by
          simp [resF, resI]; omega
        rw [e3]
        simp [turnB, itD, ix0_tup, ix1_tup, sx_ls, bf_max2, -bf_max, q]
  rintro _ _ ⟨rfl, t3, t4, t5, rfl⟩
  rw [List.take_length]
  simp
end
end PL

set_option Elab.async false
set_option linter.all false
set_option maxRecDepth 100000
set_option maxHeartbeats 1000000
/-! PMU: the law's own asks; told or refused. -/
namespace PL
open PySem

/-- None told as refused -/
def orD {α : Type} (f : α → D) : Option α → D
  | none => .str "refused"
  | some a => f a
section
variable {G : Tab} {call : Calls} {env : Env} {S : Store} {k : Nat}
theorem orD_scl {α : Type} {f : α → D} [h : Okf f] {o : Option α} : scl (orD f o) = true := by
  cases o with
  | none => rfl
  | some a => exact h.sc a
theorem r_l_or [h : Has G i_l_or f_l_or] {α : Type} {f : α → D} [hf : Okf f] {o : Option α} (hn : ∀ a, isNonD (f a) = false) : run G (k + 1) i_l_or [opD f o] S = .ok (orD f o) S := by
  refine pure_W (h := h) (as' := [opD f o]) rfl rfl (by simp [frzAs, frzA_noRef (Okf.nr (f := opD f) o)]) ?_
  simp only [b_l_or, startE]
  cases o with
  | none => simp [opD, orD]
  | some a => simp [opD, orD, hn a, hf.sc a]
theorem same_or [h : Has G i_l_same f_l_same] {α : Type} {f : α → D} {o : Option α} (ho : ∀ a, o = some a → okD (k + 1) (f a) = true) : run G (k + 1) i_l_same [orD f o, orD f o] S = .ok (.bl true) S := by
  refine r_same ?_
  cases o with
  | none => rfl
  | some a => exact ho a rfl
def itC (c : Int) : It := if dF c 1 3 = 0 then .span (dF c 3 90) (dF c 3 90 + dF c 270 40) else if dF c 1 3 = 1 then .frm (dF c 3 90) else .last (dF c 3 90 + 1)
theorem okIt_C (c : Int) : okIt (itC c) := by
  have h0 := dF_lo (c := c) (p := 3) (m := 90) (by decide)
  have h1 := dF_hi (c := c) (p := 3) (m := 90) (by decide)
  have h2 := dF_lo (c := c) (p := 270) (m := 40) (by decide)
  have h3 := dF_hi (c := c) (p := 270) (m := 40) (by decide)
  unfold itC
  split
  · exact ⟨h0, by omega, by omega⟩
  · split
    · exact ⟨h0, by omega⟩
    · exact ⟨by omega, by omega⟩
theorem r_l_ask [h : Has G i_l_ask f_l_ask] [hd : Has G i_l_d f_l_d] {xs : List Int} (hl : xs.length ≤ 9000) : run G (k + 2) i_l_ask [ll .int xs] S = .ok (tl itD (xs.map itC)) S := by
  have r3 : ∀ (c : Int) S, run G (k + 1) i_l_d [.int c, .int 3, .int 90] S = .ok (.int (dF c 3 90)) S := fun c S => r_d (by decide)
  have r1 : ∀ (c : Int) S, run G (k + 1) i_l_d [.int c, .int 1, .int 3] S = .ok (.int (dF c 1 3)) S := fun c S => r_d (by decide)
  have r2 : ∀ (c : Int) S, run G (k + 1) i_l_d [.int c, .int 270, .int 40] S = .ok (.int (dF c 270 40)) S := fun c S => r_d (by decide)
  refine pure_W (h := h) rfl rfl (by simp [frzAs]; rfl) ?_
  simp only [b_l_ask, startE]
  generalize run G (k + 1) = call at *
  simp
  refine x_forW (fun j e s => s = [] ∧ ∃ t2 t3, e = [some (ll .int xs), some (tl itD ((xs.take j).map itC)), t2, t3]) (enc := D.int) (xs := xs) (d := ll .int xs) ?_ ?_ ?_ ?_ ?_
  · simp
  · simp
  · exact ⟨rfl, _, _, rfl⟩
  · rintro j c _ _ hj ⟨rfl, t2, t3, rfl⟩
    have e1 : xs.take (j + 1) = xs.take j ++ [c] := by rw [List.take_succ, hj]; rfl
    have ad : ∀ (i : It) S, bop .add (tl itD ((xs.take j).map itC)) (.tup [itD i]) S = some (tl itD ((xs.take j).map itC ++ [i])) := fun i S => add_tl1 rfl (by simp [SZ]; omega)
    rw [e1, List.map_append]
    generalize (xs.take j).map itC = f at *
    simp only [List.map_cons, List.map_nil]
    unfold itC
    by_cases q0 : dF c 1 3 = 0
    · have a3 : ∀ S, bop .add (tl itD f) (.tup [.tup [.str "span", .int (dF c 3 90), .int (dF c 3 90 + dF c 270 40)]]) S = some (tl itD (f ++ [.span (dF c 3 90) (dF c 3 90 + dF c 270 40)])) := fun S => ad (.span (dF c 3 90) (dF c 3 90 + dF c 270 40)) S
      simp [turnB, r1, r2, r3, q0, a3]
    · by_cases q1 : dF c 1 3 = 1
      · have a3 : ∀ S, bop .add (tl itD f) (.tup [.tup [.str "from", .int (dF c 3 90)]]) S = some (tl itD (f ++ [.frm (dF c 3 90)])) := fun S => ad (.frm (dF c 3 90)) S
        simp [turnB, r1, r2, r3, q1, a3]
      · have a3 : ∀ S, bop .add (tl itD f) (.tup [.tup [.str "last", .int (dF c 3 90 + 1)]]) S = some (tl itD (f ++ [.last (dF c 3 90 + 1)])) := fun S => ad (.last (dF c 3 90 + 1)) S
        simp [turnB, r1, r2, r3, q0, q1, a3]
  rintro _ _ ⟨rfl, t2, t3, rfl⟩
  rw [List.take_length]
  simp
theorem r_told_2 [h : Has G i_l_told_2 f_l_told_2] [hr : Has G i_read_ask f_read_ask] [hi : Has G i_read_item f_read_item] [hn : Has G i_number_of f_number_of] [h4 : HasC G 4 (.str "0123456789")] [h5 : HasC G 5 (.int 9)] [h6 : HasC G 6 (.int 8)] {l : List Nat} (hx : l.length ≤ 1000000) (he : 0 ∈ G.exs) :
    run G (k + 4) i_l_told_2 [.str (tx l)] S = .ok (orD (tl itD) (rdAsk l)) S := by
  have rr : ∀ S, run G (k + 3) i_read_ask [.str (tx l)] S = exO 0 (tl itD) (rdAsk l) S := fun S => r_read_ask hx
  refine pure_W (h := h) rfl rfl (by simp [frzAs]; rfl) ?_
  simp only [b_l_told_2, startE]
  cases hr : rdAsk l with
  | none => rw [hr] at rr; simp [rr, he, orD]
  | some is => rw [hr] at rr; simp [rr, orD]
theorem r_told_3 [h : Has G i_l_told_3 f_l_told_3] [ha : Has G i_asked_ranges f_asked_ranges] [hr : Has G i_resolved f_resolved] [hi : Has G i_resolved_item f_resolved_item] [ht : Has G i_tidied f_tidied] {is : List It} {n : Int} (hl : is.length ≤ 9000) (he : 1 ∈ G.exs) :
    run G (k + 4) i_l_told_3 [.int 0, tl itD is, .int n] S = .ok (orD (tl pairD) (resO is n)) S ∧ run G (k + 4) i_l_told_3 [.int 1, tl itD is, .int n] S = .ok (orD (tl pairD) ((resO is n).map tidyF)) S := by
  have rr : ∀ S, run G (k + 3) i_resolved [tl itD is, .int n] S = exO 1 (tl pairD) (resO is n) S := fun S => r_resolved (k := k + 1) hl
  have ra : ∀ S, run G (k + 3) i_asked_ranges [tl itD is, .int n] S = exO 1 (tl pairD) ((resO is n).map tidyF) S := fun S => r_asked_ranges hl
  constructor
  · refine pure_W (h := h) rfl rfl (by simp [frzAs]; rfl) ?_
    simp only [b_l_told_3, startE]
    cases hr : resO is n with
    | none => rw [hr] at rr; simp [rr, he, orD]
    | some ps => rw [hr] at rr; simp [rr, orD]
  · refine pure_W (h := h) rfl rfl (by simp [frzAs]; rfl) ?_
    simp only [b_l_told_3, startE]
    cases hr : resO is n with
    | none => rw [hr] at ra; simp [ra, he, orD]
    | some ps => rw [hr] at ra; simp [ra, orD]
/-- a for over any items -/
theorem x_forWD {P : RS → Prop} {ik : IK} {src : E} {b k : T} {tg : Tg} (I : Nat → Env → Store → Prop) {xs : List D} {d : D}
    (hs : ev G call src env S = .ok d S) (hi : mkIt ik (srcL ik d) S = some (.items xs)) (h0 : I 0 env S)
    (h : ∀ j x env S, xs[j]? = some x → I j env S → Sat (NX P (I (j + 1))) (turnB G call b tg x env S))
    (hk : ∀ env S, I xs.length env S → Sat P (exT G call k env S)) : Sat P (exT G call (.for_ ik src tg b k) env S) :=
  x_forW (enc := id) (xs := xs) I hs (by rw [List.map_id]; exact hi) h0 h hk
theorem sl_strE {z : Str} {lo hi : Option Int} (h : z.length ≤ 10000) : slD (.str z) lo hi S = some (.str (L2.cutS z lo hi)) := by
  show (if z.length ≤ SZ then some (D.str (L2.cutS z lo hi)) else none) = _
  rw [if_pos (by unfold SZ; omega)]
end
theorem can_take : ∀ {ps : List PI} {n : Nat}, Can ps → Can (ps.take n)
  | ps, n, h => ⟨h.1.sublist (List.take_sublist n ps), fun p hp => h.2 p (List.mem_of_mem_take hp)⟩
end PL
namespace PL
open PySem
abbrev i_law_k09 : Nat := 49
/-- law_k09: _script 0 _cell_here 1 _ask_here 2 _text 3 _more 4 _at 5 _sign 6 _things 7 _thing 8 -/
def b_law_k09 : T := (.asg 1 (.call i_l_cell (.cons (.var 0) (.cons (.con (.int 0)) .nil)))
  (.asg 2 (.call i_l_ask (.cons (.sl (.var 0) (.con (.int 2)) (.bin .add (.con (.int 3)) (.call i_l_d (.cons (.var 1) (.cons (.con (.int 1)) (.cons (.con (.int 8)) .nil)))))) .nil))
  (.ifs (.nt (.val (.var 2)))
  (.asg 2 (.tup (.cons (.tup (.cons (.con (.str "from")) (.cons (.con (.int 0)) .nil))) .nil))
  .nil)
  .nil
  (.ifs (.cmp .eq (.call i_l_d (.cons (.var 1) (.cons (.con (.int 1)) (.cons (.con (.int 3)) .nil)))) (.con (.int 0)))
  (.asg 2 (.bin .add (.sl (.var 2) .emp (.con (.int 7))) (.tup (.cons (.tup (.cons (.con (.str "span")) (.cons (.bin .mod (.var 1) (.con (.int 1000000000))) (.cons (.con (.int 999999999)) .nil)))) .nil)))
  .nil)
  .nil
  (.asg 3 (.call i_l_ask_text (.cons (.var 2) .nil))
  (.ifs (.or (.nt (.val (.call i_l_same (.cons (.call i_ask_text (.cons (.var 2) .nil)) (.cons (.var 3) .nil))))) (.one (.nt (.val (.call i_l_same (.cons (.call i_l_told_2 (.cons (.var 3) .nil)) (.cons (.var 2) .nil)))))))
  (.ret (.con (.bl false)))
  .nil
  (.asg 4 (.call i_l_cell (.cons (.var 0) (.cons (.con (.int 1)) .nil)))
  (.asg 5 (.bin .mod (.var 4) (.bin .add (.bf .len (.cons (.var 3) .nil)) (.con (.int 1))))
  (.asg 6 (.ix (.con (.str "0123-, a")) (.bin .mod (.bin .fdiv (.var 4) (.con (.int 200))) (.con (.int 8))))
  (.asg 7 (.lst (.cons (.bin .add (.bin .add (.sl (.var 3) .emp (.var 5)) (.var 6)) (.sl (.var 3) (.var 5) .emp)) (.cons (.bin .add (.bin .add (.sl (.var 3) .emp (.var 5)) (.var 6)) (.sl (.var 3) (.bin .add (.var 5) (.con (.int 1))) .emp)) (.cons (.sl (.var 3) .emp (.var 5)) (.cons (.bin .add (.sl (.var 3) .emp (.var 5)) (.sl (.var 3) (.bin .add (.var 5) (.con (.int 1))) .emp)) .nil)))))
  (.asg 7 (.bin .add (.var 7) (.lst (.cons (.bin .add (.bin .add (.var 3) (.con (.str ","))) (.var 3)) (.cons (.bm .join (.con (.str ",")) (.cons (.bin .mul (.lst (.cons (.con (.str "1-")) .nil)) (.con (.int 9))) .nil)) (.cons (.bm .join (.con (.str ",")) (.cons (.bin .mul (.lst (.cons (.con (.str "-1")) .nil)) (.con (.int 8))) .nil)) (.cons (.con (.str "")) (.cons (.con (.str "-")) (.cons (.con (.str "5")) (.cons (.con (.str "5-4")) (.cons (.con (.str "-0")) .nil))))))))))
  (.asg 7 (.bin .add (.var 7) (.lst (.cons (.con (.str "00-1")) (.cons (.con (.str "1-2-3")) .nil))))
  (.asg 7 (.bin .add (.var 7) (.lst (.cons (.con (.str "1000000000-")) (.cons (.con (.str "999999999-")) (.cons (.con (.str "-1,")) (.cons (.con (.str ",")) (.cons (.con (.str " 1-2")) (.cons (.con (.str "1 -2")) (.cons (.con (.str "0-0")) (.cons (.con (.str "--1")) .nil))))))))))
  (.for_ .plain (.var 7) (.one 8)
  (.ifs (.and (.cmp .le (.bf .len (.cons (.var 8) .nil)) (.con (.int 300))) (.one (.nt (.val (.call i_l_same (.cons (.call i_l_told_2 (.cons (.var 8) .nil)) (.cons (.call i_l_or (.cons (.call i_l_read_ask (.cons (.var 8) .nil)) .nil)) .nil)))))))
  (.ret (.con (.bl false)))
  .nil
  .nil)
  (.ret (.con (.bl true)))))))))))))))))
def f_law_k09 : Fn := ⟨true, 1, 9, b_law_k09⟩
def Gt : Tab := ⟨lookN [(i_number_of, f_number_of), (i_item_text, f_item_text), (i_ask_text, f_ask_text), (i_read_item, f_read_item), (i_read_ask, f_read_ask), (i_l_d, f_l_d), (i_l_cell, f_l_cell), (i_l_same, f_l_same), (i_l_or, f_l_or), (i_l_ask, f_l_ask), (i_l_ask_text, f_l_ask_text), (i_l_number, f_l_number), (i_l_read_ask, f_l_read_ask), (i_l_told_2, f_l_told_2), (i_law_k09, f_law_k09)], lookN [(4, (.str "0123456789")), (5, (.int 9)), (6, (.int 8))], fun _ _ => none, fun _ => none, [0]⟩
instance : Has Gt i_number_of f_number_of := ⟨rfl⟩
instance : Has Gt i_item_text f_item_text := ⟨rfl⟩
instance : Has Gt i_ask_text f_ask_text := ⟨rfl⟩
instance : Has Gt i_read_item f_read_item := ⟨rfl⟩
instance : Has Gt i_read_ask f_read_ask := ⟨rfl⟩
instance : Has Gt i_l_d f_l_d := ⟨rfl⟩
instance : Has Gt i_l_cell f_l_cell := ⟨rfl⟩
instance : Has Gt i_l_same f_l_same := ⟨rfl⟩
instance : Has Gt i_l_or f_l_or := ⟨rfl⟩
instance : Has Gt i_l_ask f_l_ask := ⟨rfl⟩
instance : Has Gt i_l_ask_text f_l_ask_text := ⟨rfl⟩
instance : Has Gt i_l_number f_l_number := ⟨rfl⟩
instance : Has Gt i_l_read_ask f_l_read_ask := ⟨rfl⟩
instance : Has Gt i_l_told_2 f_l_told_2 := ⟨rfl⟩
instance : Has Gt i_law_k09 f_law_k09 := ⟨rfl⟩
instance : HasC Gt 4 (.str "0123456789") := ⟨rfl⟩
instance : HasC Gt 5 (.int 9) := ⟨rfl⟩
instance : HasC Gt 6 (.int 8) := ⟨rfl⟩
abbrev LI : Nat := i_law_k09
abbrev KK : Nat := 12
end PL
namespace PL
open PySem
theorem mul_lst1 {a : D} {n : Nat} {S : Store} (h : n ≤ 1000) : bop .mul (.lst [a]) (.int n) S = some (.lst (List.replicate n a)) := by
  have e : (List.replicate n [a]).flatten = List.replicate n a := by
    induction n with
    | zero => rfl
    | succ n ih => rw [List.replicate_succ, List.flatten_cons, ih (by omega)]; rfl
  show (if (0 : Int) ≤ n ∧ (n : Int) ≤ 1000 ∧ [a].length ≤ 1000 then some (D.lst (List.replicate (n : Int).toNat [a]).flatten) else none) = _
  rw [if_pos ⟨by omega, by omega, by simp⟩, Int.toNat_natCast, e]
theorem askL_len {is : List It} (ho : ∀ i ∈ is, okIt i) (hl : is.length ≤ 8) : (askL is).length ≤ 200 := by
  have key : ∀ is : List It, (∀ i ∈ is, okIt i) → (askL is).length ≤ 20 * is.length := by
    intro is
    induction is with
    | nil => intro _; simp [askL, TL.joinL]
    | cons i is ih =>
      intro ho
      have h1 := itL_len (ho i (by simp))
      have h2 := ih fun j hj => ho j (by simp [hj])
      cases is with
      | nil => simp [askL, TL.joinL]; omega
      | cons j is =>
        have e : askL (i :: j :: is) = itL i ++ ([44] ++ askL (j :: is)) := rfl
        rw [e]
        simp only [List.length_append, List.length_cons, List.length_nil] at *
        omega
  have := key is ho
  omega
theorem law_true : ∀ ns : List Int, ns.length ≤ 63 → run Gt KK LI [.scr ns] [] = .ok (.bl true) [] := by
  intro ns hn
  generalize hc : ns.getD 0 0 = c
  generalize hm : ns.getD 1 0 = mo
  have rc : ∀ S, run Gt 11 i_l_cell [.scr ns, .int 0] S = .ok (.int c) S := fun S => hc ▸ r_cell (by decide)
  have rc1 : ∀ S, run Gt 11 i_l_cell [.scr ns, .int 1] S = .ok (.int mo) S := fun S => hm ▸ r_cell (by decide)
  obtain ⟨y, hy⟩ := Int.eq_ofNat_of_zero_le (dF_lo (c := c) (p := 1) (m := 8) (by omega))
  have y1 := dF_hi (c := c) (p := 1) (m := 8) (by omega)
  have rd : ∀ S, run Gt 11 i_l_d [.int c, .int 1, .int 8] S = .ok (.int y) S := fun S => hy ▸ r_d (by decide)
  have rd3 : ∀ S, run Gt 11 i_l_d [.int c, .int 1, .int 3] S = .ok (.int (dF c 1 3)) S := fun S => r_d (by decide)
  have xl : (cutD ns (some 2) (some (3 + (y : Int)))).length ≤ 8 := by
    rw [cut_both (by decide) (by omega), List.length_take]; omega
  generalize hxs : cutD ns (some 2) (some (3 + (y : Int))) = xs at *
  have ra : ∀ S, run Gt 11 i_l_ask [ll .int xs] S = .ok (tl itD (xs.map itC)) S := fun S => r_l_ask (by omega)
  have okx : ∀ i ∈ xs.map itC, okIt i := fun i hi => by obtain ⟨c, _, rfl⟩ := List.mem_map.mp hi; exact okIt_C c
  have e0 : (0 : Nat) ∈ Gt.exs := by simp [Gt]
  have rlt : ∀ (is : List It), (∀ i ∈ is, okIt i) → is.length ≤ 8 → ∀ S, run Gt 11 i_l_ask_text [tl itD is] S = .ok (.str (tx (askL is))) S := fun is ho hl S => r_l_ask_text ho (by omega)
  have rat : ∀ (is : List It), (∀ i ∈ is, okIt i) → is.length ≤ 8 → ∀ S, run Gt 11 i_ask_text [tl itD is] S = .ok (.str (tx (askL is))) S := fun is ho hl S => r_ask_text ho (by omega)
  have rto : ∀ l : List Nat, l.length ≤ 100000 → ∀ S, run Gt 11 i_l_told_2 [.str (tx l)] S = .ok (orD (tl itD) (rdAsk l)) S := fun l h S => r_told_2 (by omega) e0
  have rla : ∀ l : List Nat, l.length ≤ 100000 → ∀ S, run Gt 11 i_l_read_ask [.str (tx l)] S = .ok (opD (tl itD) (rdAsk l)) S := fun l h S => r_l_read_ask (by omega)
  have ror : ∀ (o : Option (List It)) S, run Gt 11 i_l_or [opD (tl itD) o] S = .ok (orD (tl itD) o) S := fun o S => r_l_or fun _ => rfl
  have okL : ∀ (is : List It), is.length ≤ 200000 → okD 11 (tl itD is) = true := fun is h => okD_tl (by unfold SZ; omega) fun i _ => by cases i <;> simp [itD, okD, SZ]
  have rso : ∀ l : List Nat, l.length ≤ 100000 → ∀ S, run Gt 11 i_l_same [orD (tl itD) (rdAsk l), orD (tl itD) (rdAsk l)] S = .ok (.bl true) S := fun l h S => same_or fun is e => okL is (by
    unfold rdAsk at e
    split at e
    · cases e
    · have := mapO_len e; omega)
  have rsi : ∀ (is : List It), is.length ≤ 1000 → ∀ S, run Gt 11 i_l_same [tl itD is, tl itD is] S = .ok (.bl true) S := fun is h S => r_same (okL is (by omega))
  have rss : ∀ (a : Str) S, run Gt 11 i_l_same [.str a, .str a] S = .ok (.bl true) S := fun a S => same_str
  refine pure_W (k := 11) (F := f_law_k09) rfl rfl rfl ?_
  generalize hrun : run Gt 11 = call at *
  clear hrun
  simp only [b_law_k09, startE]
  simp [rc, rd, isEmp, part, hxs, ra, -x_ifs]
  refine x_ifsW (t := xs.isEmpty) (S' := []) (fun e s => s = [] ∧ ∃ is : List It, (∀ i ∈ is, okIt i) ∧ is ≠ [] ∧ is.length ≤ 8 ∧ e = [some (.scr ns), some (.int c), some (tl itD is), none, none, none, none, none, none]) ?_ ?_ ?_ ?_
  · simp
  · intro _
    simp
    exact ⟨[.frm 0], by intro i hi; rw [List.mem_singleton.mp hi]; exact ⟨by decide, by decide⟩, by simp, by simp, rfl⟩
  · intro h
    simp
    exact ⟨xs.map itC, okx, by simpa using h, by simpa using xl, rfl⟩
  rintro _ _ ⟨rfl, is, io, ine, il, rfl⟩
  refine x_ifsW (t := decide (dF c 1 3 = 0)) (S' := []) (fun e s => s = [] ∧ ∃ is : List It, (∀ i ∈ is, okIt i) ∧ is ≠ [] ∧ is.length ≤ 8 ∧ e = [some (.scr ns), some (.int c), some (tl itD is), none, none, none, none, none, none]) ?_ ?_ ?_ ?_
  · simp [rd3]
  · intro _
    have md : ∀ S, bop .mod (.int c) (.int 1000000000) S = some (.int (c % 1000000000)) := fun S => bop_mod_int (by decide)
    have ct : cutD is none (some 7) = is.take 7 := cut_to (by decide)
    have ad : ∀ S, bop .add (tl itD (is.take 7)) (.tup [.tup [.str "span", .int (c % 1000000000), .int 999999999]]) S = some (tl itD (is.take 7 ++ [.span (c % 1000000000) 999999999])) := fun S => add_tl1 rfl (by rw [List.length_take]; unfold SZ; omega)
    simp [md, isEmp, part, ct, ad]
    refine ⟨is.take 7 ++ [.span (c % 1000000000) 999999999], ?_, by simp, by simp; omega, rfl⟩
    intro i hi
    rcases List.mem_append.mp hi with h | h
    · exact io i (List.mem_of_mem_take h)
    · rw [List.mem_singleton.mp h]
      exact ⟨Int.emod_nonneg _ (by decide), by omega, by decide⟩
  · intro _
    simp
    exact ⟨is, io, ine, il, rfl⟩
  clear ine io il is
  rintro _ _ ⟨rfl, is, io, ine, il, rfl⟩
  have hL := askL_len io il
  have hlt := rlt is io il
  have hat := rat is io il
  have hto := rto (askL is) (by omega)
  rw [rd_askL ine il io] at hto
  simp only [orD] at hto
  have hsi := rsi is (by omega)
  generalize askL is = L at *
  have ls : ∀ S, bfD .len [.str (tx L)] S = some (.int L.length) := fun S => len_txt (by omega)
  have md : ∀ S, bop .mod (.int mo) (.int ((L.length : Int) + 1)) S = some (.int (mo % ((L.length : Int) + 1))) := fun S => bop_mod_int (by omega)
  have fd : ∀ S, bop .fdiv (.int mo) (.int 200) S = some (.int (mo / 200)) := fun S => bop_fdiv_int (by decide) (by decide)
  have md8 : ∀ a S, bop .mod (.int a) (.int 8) S = some (.int (a % 8)) := fun a S => bop_mod_int (by decide)
  have sgn : ∃ g : Nat, ∀ S, getD_ (.str "0123-, a") (.int (mo / 200 % 8)) S = some (.str (sg g)) := by
    have l : ("0123-, a" : Str).length = 8 := by decide +kernel
    exact ⟨_, fun S => ix_str (by rw [l]; decide) (Int.emod_nonneg _ (by decide)) (by rw [l]; have := Int.emod_lt_of_pos (mo / 200) (show (0 : Int) < 8 by decide); have := Int.emod_nonneg (mo / 200) (show (8 : Int) ≠ 0 by decide); omega)⟩
  obtain ⟨g, hg⟩ := sgn
  have sl : ∀ lo hi S, slD (.str (tx L)) lo hi S = some (.str (L2.cutS (tx L) lo hi)) := fun lo hi S => sl_strE (by rw [len_tx]; omega)
  have cl : ∀ lo hi, (L2.cutS (tx L) lo hi).length ≤ 200 := fun lo hi => Nat.le_trans (L2.cutS_length (tx L) lo hi) (by rw [len_tx]; omega)
  have a1 : ∀ lo hi S, bop .add (.str (L2.cutS (tx L) lo hi)) (.str (sg g)) S = some (.str (L2.cutS (tx L) lo hi ++ sg g)) := fun lo hi S => add_str (by have := cl lo hi; rw [len_sg]; omega)
  have a2 : ∀ lo hi lo' hi' S, bop .add (.str (L2.cutS (tx L) lo hi ++ sg g)) (.str (L2.cutS (tx L) lo' hi')) S = some (.str (L2.cutS (tx L) lo hi ++ sg g ++ L2.cutS (tx L) lo' hi')) := fun lo hi lo' hi' S => add_str (by have := cl lo hi; have := cl lo' hi'; rw [str_len_append, len_sg]; omega)
  have a3 : ∀ lo hi lo' hi' S, bop .add (.str (L2.cutS (tx L) lo hi)) (.str (L2.cutS (tx L) lo' hi')) S = some (.str (L2.cutS (tx L) lo hi ++ L2.cutS (tx L) lo' hi')) := fun lo hi lo' hi' S => add_str (by have := cl lo hi; have := cl lo' hi'; omega)
  have a4 : ∀ S, bop .add (.str (tx L)) (.str ",") S = some (.str (tx L ++ ",")) := fun S => add_str (by rw [len_tx, l_comma]; omega)
  have a5 : ∀ S, bop .add (.str (tx L ++ ",")) (.str (tx L)) S = some (.str (tx L ++ "," ++ tx L)) := fun S => add_str (by rw [str_len_append, len_tx, l_comma]; omega)
  have j1 : ∀ S, bop .mul (.lst [.str "1-"]) (.int 9) S = some (.lst ((List.replicate 9 ("1-" : Str)).map .str)) := fun S => mul_lst1 (n := 9) (by decide)
  have j2 : ∀ S, bop .mul (.lst [.str "-1"]) (.int 8) S = some (.lst ((List.replicate 8 ("-1" : Str)).map .str)) := fun S => mul_lst1 (n := 8) (by decide)
  have jn1 := fun S => join_lst (S := S) (a := ",") (ys := List.replicate 9 ("1-" : Str)) (by decide) (by simp) (by intro y hy; rw [List.eq_of_mem_replicate hy]; decide +kernel)
  have jn2 := fun S => join_lst (S := S) (a := ",") (ys := List.replicate 8 ("-1" : Str)) (by decide) (by simp) (by intro y hy; rw [List.eq_of_mem_replicate hy]; decide +kernel)
  have jl1 : (Txt.join "," (List.replicate 9 ("1-" : Str))).length ≤ 100000 := by decide +kernel
  have jl2 : (Txt.join "," (List.replicate 8 ("-1" : Str))).length ≤ 100000 := by decide +kernel
  generalize (List.replicate 9 ("1-" : Str)).map D.str = R1 at *
  generalize (List.replicate 8 ("-1" : Str)).map D.str = R2 at *
  generalize Txt.join "," (List.replicate 9 ("1-" : Str)) = J1 at *
  generalize Txt.join "," (List.replicate 8 ("-1" : Str)) = J2 at *
  have mk8 : ∀ a b c d e f g h : D, mkLst [a, b, c, d, e, f, g, h] = some (.lst [a, b, c, d, e, f, g, h]) := fun a b c d e f g h => mkLst_of (by simp)
  have ad : ∀ (a b : List D) S, a.length + b.length ≤ 100 → bop .add (.lst a) (.lst b) S = some (.lst (a ++ b)) := fun a b S h => add_lst (by unfold SZ; omega)
  simp [hlt, -x_ifs]
  refine x_ifsW (t := false) (S' := []) (fun e s => s = [] ∧ e = [some (.scr ns), some (.int c), some (tl itD is), some (.str (tx L)), none, none, none, none, none]) ?_ ?_ ?_ ?_
  · simp [hat, rss, hto, hsi]
  · intro h; cases h
  · intro _; simp
  rintro _ _ ⟨rfl, rfl⟩
  simp [rc1, ls, md, fd, md8, hg, isEmp, part, sl, a1, a2, a3, a4, a5, j1, j2, jn1, jn2, mk8, ad]
  refine x_forWD (fun j e s => s = [] ∧ ∃ t4 t5 t6 t7 t8, e = [some (.scr ns), some (.int c), some (tl itD is), some (.str (tx L)), t4, t5, t6, t7, t8]) (d := _) (by simp; rfl) rfl ⟨rfl, _, _, _, _, _, rfl⟩ ?_ ?_
  · rintro j d _ _ hj ⟨rfl, t4, t5, t6, t7, t8, rfl⟩
    have hd : ∃ z : Str, d = .str z ∧ z.length ≤ 100000 := by
      have := List.mem_of_getElem? hj
      simp only [List.mem_cons, List.not_mem_nil, or_false] at this
      rcases this with rfl | rfl | rfl | rfl | rfl | rfl | rfl | rfl | rfl | rfl | rfl | rfl | rfl | rfl | rfl | rfl | rfl | rfl | rfl | rfl | rfl | rfl
      · exact ⟨_, rfl, by have := cl none (some (mo % ((L.length : Int) + 1))); have := cl (some (mo % ((L.length : Int) + 1))) none; rw [str_len_append, str_len_append, len_sg]; omega⟩
      · exact ⟨_, rfl, by have := cl none (some (mo % ((L.length : Int) + 1))); have := cl (some (mo % ((L.length : Int) + 1) + 1)) none; rw [str_len_append, str_len_append, len_sg]; omega⟩
      · exact ⟨_, rfl, by have := cl none (some (mo % ((L.length : Int) + 1))); omega⟩
      · exact ⟨_, rfl, by have := cl none (some (mo % ((L.length : Int) + 1))); have := cl (some (mo % ((L.length : Int) + 1) + 1)) none; rw [str_len_append]; omega⟩
      · exact ⟨_, rfl, by rw [str_len_append, str_len_append, len_tx, l_comma]; omega⟩
      · exact ⟨_, rfl, jl1⟩
      · exact ⟨_, rfl, jl2⟩
      all_goals exact ⟨_, rfl, by decide +kernel⟩
    obtain ⟨z, rfl, zl⟩ := hd
    obtain ⟨l, rfl⟩ : ∃ l, z = tx l := ⟨TL.tl z, (tx_tl z).symm⟩
    rw [len_tx] at zl
    have lz : ∀ S, bfD .len [.str (tx l)] S = some (.int l.length) := fun S => len_txt (by omega)
    by_cases q : (l.length : Int) ≤ 300
    · simp [turnB, lz, q, rto l zl, rla l zl, ror, rso l zl]
    · simp [turnB, lz, q]
  rintro _ _ ⟨rfl, t4, t5, t6, t7, t8, rfl⟩
  simp
end PL
namespace PL
open PySem PySem.Spec PyProof.Rows L2
def topS (i : Nat) : Stmt := PySem.Challenge.pw_piecehaul_k09_whole_texts_as_asks.main.body.getD i (.Pass ⟨0, 0, 0, 0⟩)
def Yt : Sx := ⟨lookN ([(i_number_of, ("number_of" : Str)), (i_item_text, ("item_text" : Str)), (i_ask_text, ("ask_text" : Str)), (i_read_item, ("read_item" : Str)), (i_read_ask, ("read_ask" : Str)), (i_l_d, ("_law_d" : Str)), (i_l_cell, ("_law_cell" : Str)), (i_l_same, ("_law_same" : Str)), (i_l_or, ("_law_or" : Str)), (i_l_ask, ("_law_ask" : Str)), (i_l_ask_text, ("_law_ask_text" : Str)), (i_l_number, ("_law_number" : Str)), (i_l_read_ask, ("_law_read_ask" : Str)), (i_l_told_2, ("_law_told" : Str)), (i_law_k09, ("law" : Str))] : List (Nat × Str)), lookN ([(4, ("FIGURES" : Str)), (5, ("FIGURES_MOST" : Str)), (6, ("ITEMS_MOST" : Str))] : List (Nat × Str)), [("len" : Str), ("str" : Str), ("isinstance" : Str), ("bool" : Str), ("tuple" : Str), ("all" : Str), ("zip" : Str), ("int" : Str)], lookN ([] : List (Nat × Str)), fun _ _ => none, fun _ => none, lookN ([(0, ("BadText" : Str))] : List (Nat × Str)), fun x => if x = (("BadText" : Str) : Str) then some [0] else none⟩
def pst (i : Nat) : List Str := (lookN ([(i_number_of, [("text" : Str)]), (i_item_text, [("item" : Str)]), (i_ask_text, [("ask" : Str)]), (i_read_item, [("text" : Str)]), (i_read_ask, [("text" : Str)]), (i_l_d, [("_law_cell_here" : Str), ("_law_place" : Str), ("_law_many" : Str)]), (i_l_cell, [("_law_script" : Str), ("_law_k" : Str)]), (i_l_same, [("_law_told_here" : Str), ("_law_due" : Str)]), (i_l_or, [("_law_due" : Str)]), (i_l_ask, [("_law_cells" : Str)]), (i_l_ask_text, [("_law_ask_here" : Str)]), (i_l_number, [("_law_text" : Str)]), (i_l_read_ask, [("_law_text" : Str)]), (i_l_told_2, [("_law_text" : Str)]), (i_law_k09, [("_law_script" : Str)])] : List (Nat × List Str)) i).getD []
abbrev s0 : Stmt := topS 7
def n0 : List Str := [("text" : Str), ("sign" : Str)]
theorem c0 : chkS Yt n0 (defScope s0) b_number_of (defBody s0) = true := by decide +kernel
theorem z0 : FnScope n0 (pst i_number_of) (defScope s0) := ⟨rfl, rfl, rfl, by decide +kernel, rfl, by decide +kernel, by decide +kernel⟩
abbrev s1 : Stmt := topS 8
def n1 : List Str := [("item" : Str)]
theorem c1 : chkS Yt n1 (defScope s1) b_item_text (defBody s1) = true := by decide +kernel
theorem z1 : FnScope n1 (pst i_item_text) (defScope s1) := ⟨rfl, rfl, rfl, by decide +kernel, rfl, by decide +kernel, by decide +kernel⟩
abbrev s2 : Stmt := topS 9
def n2 : List Str := [("ask" : Str), ("item" : Str)]
theorem c2 : chkS Yt n2 (defScope s2) b_ask_text (defBody s2) = true := by decide +kernel
theorem z2 : FnScope n2 (pst i_ask_text) (defScope s2) := ⟨rfl, rfl, rfl, by decide +kernel, rfl, by decide +kernel, by decide +kernel⟩
abbrev s3 : Stmt := topS 10
def n3 : List Str := [("text" : Str), ("front" : Str), ("gap" : Str), ("behind" : Str), ("begin" : Str), ("end" : Str)]
theorem c3 : chkS Yt n3 (defScope s3) b_read_item (defBody s3) = true := by decide +kernel
theorem z3 : FnScope n3 (pst i_read_item) (defScope s3) := ⟨rfl, rfl, rfl, by decide +kernel, rfl, by decide +kernel, by decide +kernel⟩
abbrev s4 : Stmt := topS 11
def n4 : List Str := [("text" : Str), ("parts" : Str), ("part" : Str)]
theorem c4 : chkS Yt n4 (defScope s4) b_read_ask (defBody s4) = true := by decide +kernel
theorem z4 : FnScope n4 (pst i_read_ask) (defScope s4) := ⟨rfl, rfl, rfl, by decide +kernel, rfl, by decide +kernel, by decide +kernel⟩
abbrev s5 : Stmt := topS 13
def n5 : List Str := [("_law_cell_here" : Str), ("_law_place" : Str), ("_law_many" : Str), ("_law_number_here" : Str)]
theorem c5 : chkS Yt n5 (defScope s5) b_l_d (defBody s5) = true := by decide +kernel
theorem z5 : FnScope n5 (pst i_l_d) (defScope s5) := ⟨rfl, rfl, rfl, by decide +kernel, rfl, by decide +kernel, by decide +kernel⟩
abbrev s6 : Stmt := topS 14
def n6 : List Str := [("_law_script" : Str), ("_law_k" : Str)]
theorem c6 : chkS Yt n6 (defScope s6) b_l_cell (defBody s6) = true := by decide +kernel
theorem z6 : FnScope n6 (pst i_l_cell) (defScope s6) := ⟨rfl, rfl, rfl, by decide +kernel, rfl, by decide +kernel, by decide +kernel⟩
abbrev s7 : Stmt := topS 15
def n7 : List Str := [("_law_told_here" : Str), ("_law_due" : Str), ("_law_one" : Str), ("_law_other" : Str)]
theorem c7 : chkS Yt n7 (defScope s7) b_l_same (defBody s7) = true := by decide +kernel
theorem z7 : FnScope n7 (pst i_l_same) (defScope s7) := ⟨rfl, rfl, rfl, by decide +kernel, rfl, by decide +kernel, by decide +kernel⟩
abbrev s8 : Stmt := topS 16
def n8 : List Str := [("_law_due" : Str)]
theorem c8 : chkS Yt n8 (defScope s8) b_l_or (defBody s8) = true := by decide +kernel
theorem z8 : FnScope n8 (pst i_l_or) (defScope s8) := ⟨rfl, rfl, rfl, by decide +kernel, rfl, by decide +kernel, by decide +kernel⟩
abbrev s9 : Stmt := topS 17
def n9 : List Str := [("_law_cells" : Str), ("_law_found" : Str), ("_law_cell_here" : Str), ("_law_a" : Str)]
theorem c9 : chkS Yt n9 (defScope s9) b_l_ask (defBody s9) = true := by decide +kernel
theorem z9 : FnScope n9 (pst i_l_ask) (defScope s9) := ⟨rfl, rfl, rfl, by decide +kernel, rfl, by decide +kernel, by decide +kernel⟩
abbrev s10 : Stmt := topS 18
def n10 : List Str := [("_law_ask_here" : Str), ("_law_texts" : Str), ("_law_item" : Str)]
theorem c10 : chkS Yt n10 (defScope s10) b_l_ask_text (defBody s10) = true := by decide +kernel
theorem z10 : FnScope n10 (pst i_l_ask_text) (defScope s10) := ⟨rfl, rfl, rfl, by decide +kernel, rfl, by decide +kernel, by decide +kernel⟩
abbrev s11 : Stmt := topS 19
def n11 : List Str := [("_law_text" : Str), ("_law_n" : Str), ("_law_sign" : Str)]
theorem c11 : chkS Yt n11 (defScope s11) b_l_number (defBody s11) = true := by decide +kernel
theorem z11 : FnScope n11 (pst i_l_number) (defScope s11) := ⟨rfl, rfl, rfl, by decide +kernel, rfl, by decide +kernel, by decide +kernel⟩
abbrev s12 : Stmt := topS 20
def n12 : List Str := [("_law_text" : Str), ("_law_found" : Str), ("_law_parts" : Str), ("_law_part" : Str), ("_law_ends" : Str), ("_law_numbers" : Str), ("_law_one" : Str)]
theorem c12 : chkS Yt n12 (defScope s12) b_l_read_ask (defBody s12) = true := by decide +kernel
theorem z12 : FnScope n12 (pst i_l_read_ask) (defScope s12) := ⟨rfl, rfl, rfl, by decide +kernel, rfl, by decide +kernel, by decide +kernel⟩
abbrev s13 : Stmt := topS 21
def n13 : List Str := [("_law_text" : Str), ("_law_found" : Str)]
theorem c13 : chkS Yt n13 (defScope s13) b_l_told_2 (defBody s13) = true := by decide +kernel
theorem z13 : FnScope n13 (pst i_l_told_2) (defScope s13) := ⟨rfl, rfl, rfl, by decide +kernel, rfl, by decide +kernel, by decide +kernel⟩
abbrev s14 : Stmt := topS 22
def n14 : List Str := [("_law_script" : Str), ("_law_cell_here" : Str), ("_law_ask_here" : Str), ("_law_text" : Str), ("_law_more" : Str), ("_law_at" : Str), ("_law_sign" : Str), ("_law_things" : Str), ("_law_thing" : Str)]
theorem c14 : chkS Yt n14 (defScope s14) b_law_k09 (defBody s14) = true := by decide +kernel
theorem z14 : FnScope n14 (pst i_law_k09) (defScope s14) := ⟨rfl, rfl, rfl, by decide +kernel, rfl, by decide +kernel, by decide +kernel⟩
def fnL : List (Nat × Str) := []
abbrev fnt : Nat → Str := fntOf fnL
theorem fnt_inj (f g : Nat) (h : fnt f = fnt g) : f = g := fnt_inj_of (by decide +kernel) (by decide +kernel) f g h
theorem all_mk {l : PySem.W.OpenLaw} {w : World} {K : PySem.W.Frag} {h : Heap} {mg : Str → Option Value} {fa : Addr} (X : K.In h) (Ns : h.Ns mainGlobals mg) (hfa : mg "law" = some (.ref fa))
    {X0 : Addr}
    {f0 : Addr} {od0 an0 : Option Addr} {sl0 : Array (Option Value)} {oc0 kV0 dc0 pm0 cd0 ct0 : Value}
    {f1 : Addr} {od1 an1 : Option Addr} {sl1 : Array (Option Value)} {oc1 kV1 dc1 pm1 cd1 ct1 : Value}
    {f2 : Addr} {od2 an2 : Option Addr} {sl2 : Array (Option Value)} {oc2 kV2 dc2 pm2 cd2 ct2 : Value}
    {f3 : Addr} {od3 an3 : Option Addr} {sl3 : Array (Option Value)} {oc3 kV3 dc3 pm3 cd3 ct3 : Value}
    {f4 : Addr} {od4 an4 : Option Addr} {sl4 : Array (Option Value)} {oc4 kV4 dc4 pm4 cd4 ct4 : Value}
    {f5 : Addr} {od5 an5 : Option Addr} {sl5 : Array (Option Value)} {oc5 kV5 dc5 pm5 cd5 ct5 : Value}
    {f6 : Addr} {od6 an6 : Option Addr} {sl6 : Array (Option Value)} {oc6 kV6 dc6 pm6 cd6 ct6 : Value}
    {f7 : Addr} {od7 an7 : Option Addr} {sl7 : Array (Option Value)} {oc7 kV7 dc7 pm7 cd7 ct7 : Value}
    {f8 : Addr} {od8 an8 : Option Addr} {sl8 : Array (Option Value)} {oc8 kV8 dc8 pm8 cd8 ct8 : Value}
    {f9 : Addr} {od9 an9 : Option Addr} {sl9 : Array (Option Value)} {oc9 kV9 dc9 pm9 cd9 ct9 : Value}
    {f10 : Addr} {od10 an10 : Option Addr} {sl10 : Array (Option Value)} {oc10 kV10 dc10 pm10 cd10 ct10 : Value}
    {f11 : Addr} {od11 an11 : Option Addr} {sl11 : Array (Option Value)} {oc11 kV11 dc11 pm11 cd11 ct11 : Value}
    {f12 : Addr} {od12 an12 : Option Addr} {sl12 : Array (Option Value)} {oc12 kV12 dc12 pm12 cd12 ct12 : Value}
    {f13 : Addr} {od13 an13 : Option Addr} {sl13 : Array (Option Value)} {oc13 kV13 dc13 pm13 cd13 ct13 : Value}
    {f14 : Addr} {od14 an14 : Option Addr} {sl14 : Array (Option Value)} {oc14 kV14 dc14 pm14 cd14 ct14 : Value}
    {t0 : Tok}
    {t1 : Tok}
    {t2 : Tok}
    (ea0 : PySem.W.nsIn K mainGlobals "BadText" = some (some (.ref X0)))
    (et0 : PySem.W.typeIn K (.ref X0) = some (.type "type"))
    (ek0 : PySem.W.keepIn K (.ref X0) = true) (xx0 : PySem.W.excIn K X0 [.type "ValueError", .type "Exception", .type "BaseException", .type "object"] "ValueError.__new__" = true)
    (eb0 : PySem.W.subIn K (.ref X0) (.type "BaseException") = some true) (ei0 : PySem.W.isClsIn K X0 = true)
    (es0_0 : PySem.W.subIn K (.ref X0) (.ref X0) = some true)
    (a0 : PySem.W.nsIn K mainGlobals "number_of" = some (some (.ref f0))) (l0 : K.lookup f0 = some ⟨oc0, od0, .func (PySem.W.fnOf "number_of" "number_of" (defArgs s0) (defBody s0) (defScope s0) .none kV0 dc0 pm0 an0 cd0 ct0), sl0⟩) (cc0 : PySem.W.codeIn K cd0 "number_of" = true) (k0 : PySem.W.keepIn K (.ref f0) = true)
    (a1 : PySem.W.nsIn K mainGlobals "item_text" = some (some (.ref f1))) (l1 : K.lookup f1 = some ⟨oc1, od1, .func (PySem.W.fnOf "item_text" "item_text" (defArgs s1) (defBody s1) (defScope s1) .none kV1 dc1 pm1 an1 cd1 ct1), sl1⟩) (cc1 : PySem.W.codeIn K cd1 "item_text" = true) (k1 : PySem.W.keepIn K (.ref f1) = true)
    (a2 : PySem.W.nsIn K mainGlobals "ask_text" = some (some (.ref f2))) (l2 : K.lookup f2 = some ⟨oc2, od2, .func (PySem.W.fnOf "ask_text" "ask_text" (defArgs s2) (defBody s2) (defScope s2) .none kV2 dc2 pm2 an2 cd2 ct2), sl2⟩) (cc2 : PySem.W.codeIn K cd2 "ask_text" = true) (k2 : PySem.W.keepIn K (.ref f2) = true)
    (a3 : PySem.W.nsIn K mainGlobals "read_item" = some (some (.ref f3))) (l3 : K.lookup f3 = some ⟨oc3, od3, .func (PySem.W.fnOf "read_item" "read_item" (defArgs s3) (defBody s3) (defScope s3) .none kV3 dc3 pm3 an3 cd3 ct3), sl3⟩) (cc3 : PySem.W.codeIn K cd3 "read_item" = true) (k3 : PySem.W.keepIn K (.ref f3) = true)
    (a4 : PySem.W.nsIn K mainGlobals "read_ask" = some (some (.ref f4))) (l4 : K.lookup f4 = some ⟨oc4, od4, .func (PySem.W.fnOf "read_ask" "read_ask" (defArgs s4) (defBody s4) (defScope s4) .none kV4 dc4 pm4 an4 cd4 ct4), sl4⟩) (cc4 : PySem.W.codeIn K cd4 "read_ask" = true) (k4 : PySem.W.keepIn K (.ref f4) = true)
    (a5 : PySem.W.nsIn K mainGlobals "_law_d" = some (some (.ref f5))) (l5 : K.lookup f5 = some ⟨oc5, od5, .func (PySem.W.fnOf "_law_d" "_law_d" (defArgs s5) (defBody s5) (defScope s5) .none kV5 dc5 pm5 an5 cd5 ct5), sl5⟩) (cc5 : PySem.W.codeIn K cd5 "_law_d" = true) (k5 : PySem.W.keepIn K (.ref f5) = true)
    (a6 : PySem.W.nsIn K mainGlobals "_law_cell" = some (some (.ref f6))) (l6 : K.lookup f6 = some ⟨oc6, od6, .func (PySem.W.fnOf "_law_cell" "_law_cell" (defArgs s6) (defBody s6) (defScope s6) .none kV6 dc6 pm6 an6 cd6 ct6), sl6⟩) (cc6 : PySem.W.codeIn K cd6 "_law_cell" = true) (k6 : PySem.W.keepIn K (.ref f6) = true)
    (a7 : PySem.W.nsIn K mainGlobals "_law_same" = some (some (.ref f7))) (l7 : K.lookup f7 = some ⟨oc7, od7, .func (PySem.W.fnOf "_law_same" "_law_same" (defArgs s7) (defBody s7) (defScope s7) .none kV7 dc7 pm7 an7 cd7 ct7), sl7⟩) (cc7 : PySem.W.codeIn K cd7 "_law_same" = true) (k7 : PySem.W.keepIn K (.ref f7) = true)
    (a8 : PySem.W.nsIn K mainGlobals "_law_or" = some (some (.ref f8))) (l8 : K.lookup f8 = some ⟨oc8, od8, .func (PySem.W.fnOf "_law_or" "_law_or" (defArgs s8) (defBody s8) (defScope s8) .none kV8 dc8 pm8 an8 cd8 ct8), sl8⟩) (cc8 : PySem.W.codeIn K cd8 "_law_or" = true) (k8 : PySem.W.keepIn K (.ref f8) = true)
    (a9 : PySem.W.nsIn K mainGlobals "_law_ask" = some (some (.ref f9))) (l9 : K.lookup f9 = some ⟨oc9, od9, .func (PySem.W.fnOf "_law_ask" "_law_ask" (defArgs s9) (defBody s9) (defScope s9) .none kV9 dc9 pm9 an9 cd9 ct9), sl9⟩) (cc9 : PySem.W.codeIn K cd9 "_law_ask" = true) (k9 : PySem.W.keepIn K (.ref f9) = true)
    (a10 : PySem.W.nsIn K mainGlobals "_law_ask_text" = some (some (.ref f10))) (l10 : K.lookup f10 = some ⟨oc10, od10, .func (PySem.W.fnOf "_law_ask_text" "_law_ask_text" (defArgs s10) (defBody s10) (defScope s10) .none kV10 dc10 pm10 an10 cd10 ct10), sl10⟩) (cc10 : PySem.W.codeIn K cd10 "_law_ask_text" = true) (k10 : PySem.W.keepIn K (.ref f10) = true)
    (a11 : PySem.W.nsIn K mainGlobals "_law_number" = some (some (.ref f11))) (l11 : K.lookup f11 = some ⟨oc11, od11, .func (PySem.W.fnOf "_law_number" "_law_number" (defArgs s11) (defBody s11) (defScope s11) .none kV11 dc11 pm11 an11 cd11 ct11), sl11⟩) (cc11 : PySem.W.codeIn K cd11 "_law_number" = true) (k11 : PySem.W.keepIn K (.ref f11) = true)
    (a12 : PySem.W.nsIn K mainGlobals "_law_read_ask" = some (some (.ref f12))) (l12 : K.lookup f12 = some ⟨oc12, od12, .func (PySem.W.fnOf "_law_read_ask" "_law_read_ask" (defArgs s12) (defBody s12) (defScope s12) .none kV12 dc12 pm12 an12 cd12 ct12), sl12⟩) (cc12 : PySem.W.codeIn K cd12 "_law_read_ask" = true) (k12 : PySem.W.keepIn K (.ref f12) = true)
    (a13 : PySem.W.nsIn K mainGlobals "_law_told" = some (some (.ref f13))) (l13 : K.lookup f13 = some ⟨oc13, od13, .func (PySem.W.fnOf "_law_told" "_law_told" (defArgs s13) (defBody s13) (defScope s13) .none kV13 dc13 pm13 an13 cd13 ct13), sl13⟩) (cc13 : PySem.W.codeIn K cd13 "_law_told" = true) (k13 : PySem.W.keepIn K (.ref f13) = true)
    (a14 : PySem.W.nsIn K mainGlobals "law" = some (some (.ref f14))) (l14 : K.lookup f14 = some ⟨oc14, od14, .func (PySem.W.fnOf "law" "law" (defArgs s14) (defBody s14) (defScope s14) .none kV14 dc14 pm14 an14 cd14 ct14), sl14⟩) (cc14 : PySem.W.codeIn K cd14 "law" = true) (k14 : PySem.W.keepIn K (.ref f14) = true)
    (p0 : PySem.W.nsIn K mainGlobals "FIGURES" = some (some (.str "0123456789" t0)))
    (p1 : PySem.W.nsIn K mainGlobals "FIGURES_MOST" = some (some (.int 9 t1)))
    (p2 : PySem.W.nsIn K mainGlobals "ITEMS_MOST" = some (some (.int 8 t2)))
    (y0 : PySem.W.nsIn K mainGlobals "len" = some none)
    (y1 : PySem.W.nsIn K mainGlobals "str" = some none)
    (y2 : PySem.W.nsIn K mainGlobals "isinstance" = some none)
    (y3 : PySem.W.nsIn K mainGlobals "bool" = some none)
    (y4 : PySem.W.nsIn K mainGlobals "tuple" = some none)
    (y5 : PySem.W.nsIn K mainGlobals "all" = some none)
    (y6 : PySem.W.nsIn K mainGlobals "zip" = some none)
    (y7 : PySem.W.nsIn K mainGlobals "int" = some none)
    (hl : ∀ ns : List Int, ns.length ≤ 63 → run Gt KK LI [.scr ns] [] = .ok (.bl true) []) :
    ∃ fd : FuncData, (∀ (s : Shared) (v : Value), BindsTo s fd ⟨[v], []⟩ [("_law_script", v)]) ∧ ∀ base : Heap, K.In base → base.Ns mainGlobals mg → FnOk l.prog w K mg base (L2.CX l.prog w) (2 * KK) fa fd ["_law_script"] (spL K) := by
  have efa : fa = f14 := by
    injection hfa.symm.trans (PySem.W.mg_of X Ns a14) with e
    injection e
  rw [efa]
  have F0 := fun_mk (st := s0) l0 cc0 k0
  have F1 := fun_mk (st := s1) l1 cc1 k1
  have F2 := fun_mk (st := s2) l2 cc2 k2
  have F3 := fun_mk (st := s3) l3 cc3 k3
  have F4 := fun_mk (st := s4) l4 cc4 k4
  have F5 := fun_mk (st := s5) l5 cc5 k5
  have F6 := fun_mk (st := s6) l6 cc6 k6
  have F7 := fun_mk (st := s7) l7 cc7 k7
  have F8 := fun_mk (st := s8) l8 cc8 k8
  have F9 := fun_mk (st := s9) l9 cc9 k9
  have F10 := fun_mk (st := s10) l10 cc10 k10
  have F11 := fun_mk (st := s11) l11 cc11 k11
  have F12 := fun_mk (st := s12) l12 cc12 k12
  have F13 := fun_mk (st := s13) l13 cc13 k13
  have F14 := fun_mk (st := s14) l14 cc14 k14
  let fas : Nat → Addr := fun i => (lookN ([(i_number_of, f0), (i_item_text, f1), (i_ask_text, f2), (i_read_item, f3), (i_read_ask, f4), (i_l_d, f5), (i_l_cell, f6), (i_l_same, f7), (i_l_or, f8), (i_l_ask, f9), (i_l_ask_text, f10), (i_l_number, f11), (i_l_read_ask, f12), (i_l_told_2, f13), (i_law_k09, f14)] : List (Nat × Addr)) i).getD 0
  let fds : Nat → FuncData := fun i => (lookN ([(i_number_of, PySem.W.fnOf "number_of" "number_of" (defArgs s0) (defBody s0) (defScope s0) .none kV0 dc0 pm0 an0 cd0 ct0), (i_item_text, PySem.W.fnOf "item_text" "item_text" (defArgs s1) (defBody s1) (defScope s1) .none kV1 dc1 pm1 an1 cd1 ct1), (i_ask_text, PySem.W.fnOf "ask_text" "ask_text" (defArgs s2) (defBody s2) (defScope s2) .none kV2 dc2 pm2 an2 cd2 ct2), (i_read_item, PySem.W.fnOf "read_item" "read_item" (defArgs s3) (defBody s3) (defScope s3) .none kV3 dc3 pm3 an3 cd3 ct3), (i_read_ask, PySem.W.fnOf "read_ask" "read_ask" (defArgs s4) (defBody s4) (defScope s4) .none kV4 dc4 pm4 an4 cd4 ct4), (i_l_d, PySem.W.fnOf "_law_d" "_law_d" (defArgs s5) (defBody s5) (defScope s5) .none kV5 dc5 pm5 an5 cd5 ct5), (i_l_cell, PySem.W.fnOf "_law_cell" "_law_cell" (defArgs s6) (defBody s6) (defScope s6) .none kV6 dc6 pm6 an6 cd6 ct6), (i_l_same, PySem.W.fnOf "_law_same" "_law_same" (defArgs s7) (defBody s7) (defScope s7) .none kV7 dc7 pm7 an7 cd7 ct7), (i_l_or, PySem.W.fnOf "_law_or" "_law_or" (defArgs s8) (defBody s8) (defScope s8) .none kV8 dc8 pm8 an8 cd8 ct8), (i_l_ask, PySem.W.fnOf "_law_ask" "_law_ask" (defArgs s9) (defBody s9) (defScope s9) .none kV9 dc9 pm9 an9 cd9 ct9), (i_l_ask_text, PySem.W.fnOf "_law_ask_text" "_law_ask_text" (defArgs s10) (defBody s10) (defScope s10) .none kV10 dc10 pm10 an10 cd10 ct10), (i_l_number, PySem.W.fnOf "_law_number" "_law_number" (defArgs s11) (defBody s11) (defScope s11) .none kV11 dc11 pm11 an11 cd11 ct11), (i_l_read_ask, PySem.W.fnOf "_law_read_ask" "_law_read_ask" (defArgs s12) (defBody s12) (defScope s12) .none kV12 dc12 pm12 an12 cd12 ct12), (i_l_told_2, PySem.W.fnOf "_law_told" "_law_told" (defArgs s13) (defBody s13) (defScope s13) .none kV13 dc13 pm13 an13 cd13 ct13), (i_law_k09, PySem.W.fnOf "law" "law" (defArgs s14) (defBody s14) (defScope s14) .none kV14 dc14 pm14 an14 cd14 ct14)] : List (Nat × FuncData)) i).getD (PySem.W.fnOf "number_of" "number_of" (defArgs s0) (defBody s0) (defScope s0) .none kV0 dc0 pm0 an0 cd0 ct0)
  let nmt : Nm := ⟨fun i => (lookN ([] : List (Nat × Addr)) i).getD 0, fnt, fun i => (lookN ([(0, X0)] : List (Nat × Addr)) i).getD 0⟩
  have g : GOk K mg Gt Yt nmt fas fds pst := by
    refine ⟨fun j x h => ?_, fun j x h => ?_, fun j h => ?_, fun x h => ?_, fun c x h => ?_, fun x cs h => ?_, fun c x h => ?_, fun c m n h => ?_, fun c x h => ?_, fnt_inj⟩
    · have h := lookN_mem h
      simp only [List.mem_cons, List.not_mem_nil, or_false, Prod.mk.injEq] at h
      rcases h with ⟨rfl, rfl⟩ | ⟨rfl, rfl⟩ | ⟨rfl, rfl⟩
      · exact ⟨_, _, V.str "0123456789", rfl, PySem.W.mg_of X Ns p0, ⟨_, rfl⟩, rep_str K _⟩
      · exact ⟨_, _, V.int 9, rfl, PySem.W.mg_of X Ns p1, ⟨_, rfl⟩, rep_int K _⟩
      · exact ⟨_, _, V.int 8, rfl, PySem.W.mg_of X Ns p2, ⟨_, rfl⟩, rep_int K _⟩
    · have h := lookN_mem h
      simp only [List.mem_cons, List.not_mem_nil, or_false, Prod.mk.injEq] at h
      rcases h with ⟨rfl, rfl⟩ | ⟨rfl, rfl⟩ | ⟨rfl, rfl⟩ | ⟨rfl, rfl⟩ | ⟨rfl, rfl⟩ | ⟨rfl, rfl⟩ | ⟨rfl, rfl⟩ | ⟨rfl, rfl⟩ | ⟨rfl, rfl⟩ | ⟨rfl, rfl⟩ | ⟨rfl, rfl⟩ | ⟨rfl, rfl⟩ | ⟨rfl, rfl⟩ | ⟨rfl, rfl⟩ | ⟨rfl, rfl⟩
      · exact ⟨rfl, PySem.W.mg_of X Ns a0, k0⟩
      · exact ⟨rfl, PySem.W.mg_of X Ns a1, k1⟩
      · exact ⟨rfl, PySem.W.mg_of X Ns a2, k2⟩
      · exact ⟨rfl, PySem.W.mg_of X Ns a3, k3⟩
      · exact ⟨rfl, PySem.W.mg_of X Ns a4, k4⟩
      · exact ⟨rfl, PySem.W.mg_of X Ns a5, k5⟩
      · exact ⟨rfl, PySem.W.mg_of X Ns a6, k6⟩
      · exact ⟨rfl, PySem.W.mg_of X Ns a7, k7⟩
      · exact ⟨rfl, PySem.W.mg_of X Ns a8, k8⟩
      · exact ⟨rfl, PySem.W.mg_of X Ns a9, k9⟩
      · exact ⟨rfl, PySem.W.mg_of X Ns a10, k10⟩
      · exact ⟨rfl, PySem.W.mg_of X Ns a11, k11⟩
      · exact ⟨rfl, PySem.W.mg_of X Ns a12, k12⟩
      · exact ⟨rfl, PySem.W.mg_of X Ns a13, k13⟩
      · exact ⟨rfl, PySem.W.mg_of X Ns a14, k14⟩
    · obtain ⟨F, h⟩ := Option.isSome_iff_exists.mp h
      have h := lookN_mem h
      simp only [List.mem_cons, List.not_mem_nil, or_false, Prod.mk.injEq] at h
      rcases h with ⟨rfl, rfl⟩ | ⟨rfl, rfl⟩ | ⟨rfl, rfl⟩ | ⟨rfl, rfl⟩ | ⟨rfl, rfl⟩ | ⟨rfl, rfl⟩ | ⟨rfl, rfl⟩ | ⟨rfl, rfl⟩ | ⟨rfl, rfl⟩ | ⟨rfl, rfl⟩ | ⟨rfl, rfl⟩ | ⟨rfl, rfl⟩ | ⟨rfl, rfl⟩ | ⟨rfl, rfl⟩ | ⟨rfl, rfl⟩
      · exact F0.binds (ps := pst i_number_of) fun _ _ _ _ _ _ us hl => match us, hl with | [_], _ => rfl
      · exact F1.binds (ps := pst i_item_text) fun _ _ _ _ _ _ us hl => match us, hl with | [_], _ => rfl
      · exact F2.binds (ps := pst i_ask_text) fun _ _ _ _ _ _ us hl => match us, hl with | [_], _ => rfl
      · exact F3.binds (ps := pst i_read_item) fun _ _ _ _ _ _ us hl => match us, hl with | [_], _ => rfl
      · exact F4.binds (ps := pst i_read_ask) fun _ _ _ _ _ _ us hl => match us, hl with | [_], _ => rfl
      · exact F5.binds (ps := pst i_l_d) fun _ _ _ _ _ _ us hl => match us, hl with | [_, _, _], _ => rfl
      · exact F6.binds (ps := pst i_l_cell) fun _ _ _ _ _ _ us hl => match us, hl with | [_, _], _ => rfl
      · exact F7.binds (ps := pst i_l_same) fun _ _ _ _ _ _ us hl => match us, hl with | [_, _], _ => rfl
      · exact F8.binds (ps := pst i_l_or) fun _ _ _ _ _ _ us hl => match us, hl with | [_], _ => rfl
      · exact F9.binds (ps := pst i_l_ask) fun _ _ _ _ _ _ us hl => match us, hl with | [_], _ => rfl
      · exact F10.binds (ps := pst i_l_ask_text) fun _ _ _ _ _ _ us hl => match us, hl with | [_], _ => rfl
      · exact F11.binds (ps := pst i_l_number) fun _ _ _ _ _ _ us hl => match us, hl with | [_], _ => rfl
      · exact F12.binds (ps := pst i_l_read_ask) fun _ _ _ _ _ _ us hl => match us, hl with | [_], _ => rfl
      · exact F13.binds (ps := pst i_l_told_2) fun _ _ _ _ _ _ us hl => match us, hl with | [_], _ => rfl
      · exact F14.binds (ps := pst i_law_k09) fun _ _ _ _ _ _ us hl => match us, hl with | [_], _ => rfl
    · simp only [Yt, List.mem_cons, List.not_mem_nil, or_false] at h
      rcases h with rfl | rfl | rfl | rfl | rfl | rfl | rfl | rfl
      · exact PySem.W.mg_none_of X Ns y0
      · exact PySem.W.mg_none_of X Ns y1
      · exact PySem.W.mg_none_of X Ns y2
      · exact PySem.W.mg_none_of X Ns y3
      · exact PySem.W.mg_none_of X Ns y4
      · exact PySem.W.mg_none_of X Ns y5
      · exact PySem.W.mg_none_of X Ns y6
      · exact PySem.W.mg_none_of X Ns y7
    · have h := lookN_mem h
      simp only [List.mem_cons, List.not_mem_nil, or_false, Prod.mk.injEq] at h
      obtain ⟨rfl, rfl⟩ := h
      · exact ⟨PySem.W.mg_of X Ns ea0, ek0, xx0, eb0, et0⟩
    · simp only [Yt] at h
      repeat' split at h
      · subst_vars; cases h
        refine ⟨X0, PySem.W.mg_of X Ns ea0, fun c hc => ?_⟩
        simp only [Gt, List.mem_cons, List.not_mem_nil, or_false] at hc
        subst hc
        · exact exm_by eb0 ei0 et0 es0_0 rfl
      · cases h
    · exact absurd h (by simp [Yt, lookN])
    · exact absurd h (by simp [Yt])
    · exact absurd h (by simp [Yt, lookN])
  have O : ∀ f : Nat, (Gt.fns f).isSome = true → FOk K Gt Yt f (fas f) (fds f) (pst f) := fun f h => by
    obtain ⟨F, h⟩ := Option.isSome_iff_exists.mp h
    have h := lookN_mem h
    simp only [List.mem_cons, List.not_mem_nil, or_false, Prod.mk.injEq] at h
    rcases h with ⟨rfl, rfl⟩ | ⟨rfl, rfl⟩ | ⟨rfl, rfl⟩ | ⟨rfl, rfl⟩ | ⟨rfl, rfl⟩ | ⟨rfl, rfl⟩ | ⟨rfl, rfl⟩ | ⟨rfl, rfl⟩ | ⟨rfl, rfl⟩ | ⟨rfl, rfl⟩ | ⟨rfl, rfl⟩ | ⟨rfl, rfl⟩ | ⟨rfl, rfl⟩ | ⟨rfl, rfl⟩ | ⟨rfl, rfl⟩
    · exact ⟨⟨_, _, s0, n0, _, rfl, F0, z0, rfl, rfl, c0⟩⟩
    · exact ⟨⟨_, _, s1, n1, _, rfl, F1, z1, rfl, rfl, c1⟩⟩
    · exact ⟨⟨_, _, s2, n2, _, rfl, F2, z2, rfl, rfl, c2⟩⟩
    · exact ⟨⟨_, _, s3, n3, _, rfl, F3, z3, rfl, rfl, c3⟩⟩
    · exact ⟨⟨_, _, s4, n4, _, rfl, F4, z4, rfl, rfl, c4⟩⟩
    · exact ⟨⟨_, _, s5, n5, _, rfl, F5, z5, rfl, rfl, c5⟩⟩
    · exact ⟨⟨_, _, s6, n6, _, rfl, F6, z6, rfl, rfl, c6⟩⟩
    · exact ⟨⟨_, _, s7, n7, _, rfl, F7, z7, rfl, rfl, c7⟩⟩
    · exact ⟨⟨_, _, s8, n8, _, rfl, F8, z8, rfl, rfl, c8⟩⟩
    · exact ⟨⟨_, _, s9, n9, _, rfl, F9, z9, rfl, rfl, c9⟩⟩
    · exact ⟨⟨_, _, s10, n10, _, rfl, F10, z10, rfl, rfl, c10⟩⟩
    · exact ⟨⟨_, _, s11, n11, _, rfl, F11, z11, rfl, rfl, c11⟩⟩
    · exact ⟨⟨_, _, s12, n12, _, rfl, F12, z12, rfl, rfl, c12⟩⟩
    · exact ⟨⟨_, _, s13, n13, _, rfl, F13, z13, rfl, rfl, c13⟩⟩
    · exact ⟨⟨_, _, s14, n14, _, rfl, F14, z14, rfl, rfl, c14⟩⟩
  exact ⟨_, fun s v => .of_eq rfl, fun base _ _ => law_fn (fn_all (P := l.prog) (w := w) (base := base) g O KK LI rfl) hl⟩
end PL
open PySem PySem.W PyProof.Rows
set_option maxRecDepth 100000 in
set_option maxHeartbeats 0 in
theorem PySem.Challenge.cw_piecehaul_k09_whole_texts_as_asks_holds : PySem.Challenge.rw_piecehaul_k09_whole_texts_as_asks.Holds := by
  w_on; o_law; k_head; (case hw => w_witness2)
  k_fill
  refine PL.law_walk (l := PySem.Challenge.rw_piecehaul_k09_whole_texts_as_asks) (x := "_law_script") (k := 2 * 12) rfl rfl ⟨rfl, by decide, by decide⟩ (fun w h Y => PySem.W.kIn_of Y) ?F
  case F =>
    intro w mg fa h KX Ns hmg
    refine' PL.all_mk KX Ns hmg ?ea0 ?et0 ?ek0 ?xx0 ?eb0 ?ei0 ?es0_0 ?a0 ?l0 ?cc0 ?k0 ?a1 ?l1 ?cc1 ?k1 ?a2 ?l2 ?cc2 ?k2 ?a3 ?l3 ?cc3 ?k3 ?a4 ?l4 ?cc4 ?k4 ?a5 ?l5 ?cc5 ?k5 ?a6 ?l6 ?cc6 ?k6 ?a7 ?l7 ?cc7 ?k7 ?a8 ?l8 ?cc8 ?k8 ?a9 ?l9 ?cc9 ?k9 ?a10 ?l10 ?cc10 ?k10 ?a11 ?l11 ?cc11 ?k11 ?a12 ?l12 ?cc12 ?k12 ?a13 ?l13 ?cc13 ?k13 ?a14 ?l14 ?cc14 ?k14 ?p0 ?p1 ?p2 ?y0 ?y1 ?y2 ?y3 ?y4 ?y5 ?y6 ?y7 PL.law_true
    (case ea0 => k_is)
    (case et0 => k_is)
    (case ek0 => k_is)
    (case xx0 => k_exc)
    (case eb0 => k_is)
    (case ei0 => k_is)
    (case es0_0 => first | rfl | k_is)
    (case a0 => k_is)
    (case l0 => k_is)
    (case cc0 => k_is)
    (case k0 => k_is)
    (case a1 => k_is)
    (case l1 => k_is)
    (case cc1 => k_is)
    (case k1 => k_is)
    (case a2 => k_is)
    (case l2 => k_is)
    (case cc2 => k_is)
    (case k2 => k_is)
    (case a3 => k_is)
    (case l3 => k_is)
    (case cc3 => k_is)
    (case k3 => k_is)
    (case a4 => k_is)
    (case l4 => k_is)
    (case cc4 => k_is)
    (case k4 => k_is)
    (case a5 => k_is)
    (case l5 => k_is)
    (case cc5 => k_is)
    (case k5 => k_is)
    (case a6 => k_is)
    (case l6 => k_is)
    (case cc6 => k_is)
    (case k6 => k_is)
    (case a7 => k_is)
    (case l7 => k_is)
    (case cc7 => k_is)
    (case k7 => k_is)
    (case a8 => k_is)
    (case l8 => k_is)
    (case cc8 => k_is)
    (case k8 => k_is)
    (case a9 => k_is)
    (case l9 => k_is)
    (case cc9 => k_is)
    (case k9 => k_is)
    (case a10 => k_is)
    (case l10 => k_is)
    (case cc10 => k_is)
    (case k10 => k_is)
    (case a11 => k_is)
    (case l11 => k_is)
    (case cc11 => k_is)
    (case k11 => k_is)
    (case a12 => k_is)
    (case l12 => k_is)
    (case cc12 => k_is)
    (case k12 => k_is)
    (case a13 => k_is)
    (case l13 => k_is)
    (case cc13 => k_is)
    (case k13 => k_is)
    (case a14 => k_is)
    (case l14 => k_is)
    (case cc14 => k_is)
    (case k14 => k_is)
    (case p0 => k_is)
    (case p1 => k_is)
    (case p2 => k_is)
    (case y0 => k_is)
    (case y1 => k_is)
    (case y2 => k_is)
    (case y3 => k_is)
    (case y4 => k_is)
    (case y5 => k_is)
    (case y6 => k_is)
    (case y7 => k_is)

