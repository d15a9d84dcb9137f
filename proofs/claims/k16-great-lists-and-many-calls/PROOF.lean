import PyProof.Rows.All
import Wide.All
import OpenK.AllK
import Wide.FinOn
import HandS.ForMost
import HandS.ForExc
import HandS.Wide
import HandS.IsInst
import HandS.Conv
import HandS.ForDict
import HandS.Comp
import HandS.Exc
import HandS.More
import HandS.CallSlots
import HandS.Defaults
import HandS.WordsExc
import HandS.TryMany
import HandS.ExcIs
import HandS.ExcOwn
import HandS.Iter
import HandS.Style
import PySem.Challenge.RW_fieldgate_k16_great_lists_and_many_calls
set_option Elab.async false
set_option linter.all false
set_option maxRecDepth 100000
/-! Mi20: a list comprehension whose element may raise. -/
namespace Mi
open PySem L2 PySem.Spec PyProof.Rows
section
variable {M : Model} {A : Around} {E : Value → Shared → Prop} {s : Shared} {env : Env}
/-- a comprehension's end, the block's environment told -/
def cpX (M : Model) (A : Around) (E : Value → Shared → Prop) (use : Option (Value → Sem Unit)) (Q : Value → Shared → Prop) (acc : Value) (ce : Env) (r : Result) (s' : Shared) : Prop :=
  match r with
  | .error x => ∃ m, s'.heap.Ns ce.locals m ∧ ∀ h1, Heap.SameBut ce.locals s'.heap h1 → wpAny M A (passOn "comprehension.variables-let-go" x ce : Sem Value) (fun _ _ => False) E { s' with heap := h1 }
  | .ok f => compPost M A E use Q acc ce.locals (.ok f) s'
theorem comp_x {e : Expr} {scope : Scope} {pos : Pos} {nw fst : Sem Value} {g : Comprehension} {gs : List Comprehension} {cl : List (Str × Addr)} {use : Option (Value → Sem Unit)} {Q : Value → Shared → Prop}
    (h1 : clausesOf e = g :: gs) (h2 : ∀ x, foldedSetIterable g.iter env x = pure x) (h3 : closureFor scope env = pure cl) (h4 : scope.kind = .function) (h5 : ∀ x ∈ scope.names, x.2 = .local → scope.names.lookup x.1 = some .local)
    (h : wpAny M A fst (fun x s1 => wpAny M A (pyIter x) (fun it s2 => wpAny M A nw (fun acc s3 => wpAny M A (newFunctionEnv scope env.globals cl [] env.qual none .none (some env)) (fun ce s4 =>
      codeAny M A (.compStart e 0 it acc { ce with scope := relabel scope env }) (cpX M A E use Q acc { ce with scope := relabel scope env }) s4) E s3) E s2) E s1) E s) :
    wpAny M A (comprehension e scope env pos nw false fst use) Q E s := by
  unfold comprehension
  rw [h3, h1]
  refine wpAny_bind (wpAny_mono h (fun x s1 k1 => ?_) fun _ _ z => z)
  refine wpAny_bind (wpAny_standAt (wpAny_bind (wpAny_of_eq (h2 x) (wpAny_bind (wpAny_holding (wpAny_mono k1 (fun it s2 k2 => ?_) fun _ _ z => z))))))
  refine wpAny_standIf (wpAny_bind (wpAny_mono k2 (fun acc s3 k3 => ?_) fun _ _ z => z))
  refine wpAny_bind (wpAny_pure (wpAny_bind (wpAny_mono k3 (fun ce s4 k4 => ?_) fun _ _ z => z)))
  dsimp only
  have va : ∀ y ∈ (scope.names.filter fun x => (x.2 == .local || x.2 == .cell) && x.1 != (".0" : Str)).reverse, y.2 = .local → Env.kindOf { ce with scope := relabel scope env } y.1 = some .local :=
    fun y hy hl => lookup_relabel_local (h5 y (List.mem_filter.mp (List.mem_reverse.mp hy)).1 hl)
  have vb : ∀ y ∈ (scope.names.filter fun x => (x.2 == .local || x.2 == .cell) && x.1 != (".0" : Str)).reverse.drop 1 ++ (scope.names.filter fun x => (x.2 == .local || x.2 == .cell) && x.1 != (".0" : Str)).reverse.take 1,
      y.2 = .local → Env.kindOf { ce with scope := relabel scope env } y.1 = some .local := fun y hy hl =>
    (List.mem_append.mp hy).elim (fun z => va y (List.mem_of_mem_drop z) hl) fun z => va y (List.mem_of_mem_take z) hl
  refine wpAny_holding (wpAny_bind (wpAny_attempt (wpAny_holding (wpAny_run (codeAny_mono k4 fun r s' kr => ?_)))))
  cases r with
  | error x =>
    obtain ⟨m, k5, k6⟩ := kr
    have k7 := @k6
    exact wpAny_bind (wpAny_holding (wpAny_comp_letGo (cenv := { ce with scope := relabel scope env }) h4 _ s' m va k5 fun h' _ _ sb => wpAny_mono (k7 h' sb) (fun _ _ z => z.elim) fun _ _ z => z))
  | ok f =>
    cases use with
    | some u =>
      refine wpAny_bind (wpAny_rule (wpAny_bind (wpAny_holding (wpAny_mono kr (fun _ s'' k5 => ?_) fun _ _ z => z))))
      obtain ⟨m, k6, k7⟩ := k5
      exact wpAny_bind (wpAny_comp_letGo (cenv := { ce with scope := relabel scope env }) h4 _ s'' m vb k6 fun h' _ _ sb => wpAny_pure (k7 h' sb))
    | none =>
      obtain ⟨m, k6, k7⟩ := kr
      exact wpAny_bind (wpAny_holding (wpAny_comp_letGo (cenv := { ce with scope := relabel scope env }) h4 _ s' m va k6 fun h' _ _ sb => wpAny_pure (k7 h' sb)))
end
/-- a frame is noted by its own address alone -/
theorem noteFrame_eq {e : Value} {env env' : Env} (h : env.frame = env'.frame) : noteFrame e env = noteFrame e env' := by
  unfold noteFrame PySem.frameOf
  rw [h]
open HandSPX in
/-- noted by another frame so far, or by none -/
theorem look_otherZ {M : Model} {A : Around} {E : Value → Shared → Prop} {s : Shared} {Z : Obj → Prop} {G : Heap} {env : Env} {outer : List Env} {L e : Addr} {fl : Value} {Q : Unit → Shared → Prop} (hZ : Steady Z) (hfr : A.frames = some (env :: outer)) (hf : env.frame = some L)
    (g1 : G.StaysIn s.heap) (g2 : G.get? e = none) (g3 : s.heap.FunFrames G (env :: outer)) (g4 : TracedZ s.heap G e Z fl) (ne : (fl == rawInt L) = false)
    (hQ : ∀ h', HeldZ G (env :: outer) e Z L h' → s.heap.UpToSlots h' → Q () { s with heap := h' }) : wpAny M A (noteFrame (.ref e) env) Q E s := by
  obtain ⟨oe, vs, T, oT, ts, k1, k2, k3, k4, k5, k6, k7, k8, k9⟩ := g4
  unfold noteFrame
  simp only [hf]
  refine wpAny_bind (wpAny_field k1 k3 k4 ?_)
  rw [if_pos (show (Value.ref T != Value.none) = true by simp)]
  refine wpAny_bind (wpAny_field k7 k8 k9 ?_)
  rw [if_neg (show ¬ ((fl == rawInt L) = true) by rw [ne]; exact Bool.false_ne_true)]
  refine wpAny_bind (wpAny_setField k7 k8 (Array.getElem?_eq_some_iff.mp k9).1 ?_)
  have oth : ∀ b, b ≠ T → (s.heap.update T (Obj.mapFields (·.setIfInBounds 3 Value.none))).get? b = s.heap.get? b := fun b hb => Heap.get?_update_other _ _ fun z => hb z.symm
  have nor : ∀ b o, s.heap.get? b = some o → (∀ vs, o.data ≠ .fields vs) → b ≠ T := fun b o hb hn q => by
    subst q
    rw [k7] at hb
    cases hb
    exact hn ts k8
  refine wpAny_entryZ hZ hfr (g3.of_keeps fun b o hb hn => ⟨o, by rw [oth b (nor b o hb hn)]; exact hb, rfl⟩) hf (by rw [oth e fun z => k6 z.symm]; exact k1)
    (fun b o hb => by rw [oth b fun q => by rw [q, k5] at hb; cases hb]; exact g1 b o hb) g2 k3 (Array.getElem?_eq_some_iff.mp k4).1 k2 fun h' hN => ?_
  obtain ⟨x1, x2, x3, x4⟩ := hN
  exact hQ h' ⟨x1, g2, x2, x3⟩ fun b o hb hn => x4 b o (by rw [oth b (nor b o hb hn)]; exact hb) hn

theorem rawInt_ne {a b : Addr} (h : a ≠ b) : (rawInt a == rawInt b) = false := by
  simp only [rawInt, beq_eq_false_iff_ne, ne_eq]
  intro e
  injection e with e _
  exact h (Int.ofNat.inj e)
section
variable {X : Cx} {pins : List (Addr × Obj)} {σ : L2.St} {H3 : Hp} {s3 s' : Shared} {scope : Scope} {ce : Env} {fp : List Addr} {W : WX}
open HandSPX in
/-- an exception of the block's: noted, then let on with the block's names gone -/
theorem blk_out (hs : X.stack = X.env :: X.outer) (hf : X.env.frame = some X.env.locals) (tk : Takes X W) (I3 : Inv X pins σ H3 s3) (cL : ce.locals = s3.heap.objs.size) (cF : ce.frame = X.env.frame)
    (hfp : ∀ b ∈ fp, (b ∈ X.ex ∨ X.s_0.heap.objs.size ≤ b) ∧ b ≠ X.env.locals ∧ (∀ x c, X.env.cells.lookup x = some c → c ≠ b) ∧ ∀ p ∈ X.pn ++ pins, p.1 ≠ b)
    {use : Option (Value → Sem Unit)} {Qf : Value → Shared → Prop} {acc : Value} {u : Value} {E1 : Value → Shared → Prop} (x : XE (X.blk s3 H3 scope ce fp) (fun c d _ H => W c d σ H) u s') :
    wpAny (model X.prog X.w) X.A (noteFrame u ce) (fun _ s'' => cpX (model X.prog X.w) X.A X.xe use Qf acc ce (.error u) s'') E1 s' := by
  obtain ⟨a, B, sI, pins', σ', H', cls, d, rfl, I, nb, up, sky, na, os, ag, w⟩ := x
  have hfr : X.A.frames = some (X.env :: X.outer) := by rw [I3.ok.frames, hs]
  have fC : ce.frame = some X.env.locals := by rw [cF, hf]
  have nCL : ce.locals ≠ X.env.locals := by
    rw [cL]
    obtain ⟨m, ⟨oL, _, _, hoL, _⟩, _⟩ := I3.loc
    exact Nat.ne_of_gt (Heap.lt_size hoL)
  have nCF : ce.locals ∉ frs X.stack := fun z => by
    obtain ⟨o, e, _⟩ := (I3.stack.mem z).2
    rw [cL] at e
    exact absurd (Heap.lt_size e) (Nat.lt_irrefl _)
  obtain ⟨m, hn, _⟩ := I.loc
  obtain ⟨oC, es, ep, hoC, hdC, hrC⟩ := id hn
  have hBC : B.get? ce.locals = some oC := nb _ _ hoC nCF
  -- behind the note
  have fin : ∀ h1, HeldZ B (X.env :: X.outer) a (Zc cls d) X.env.locals h1 → s'.heap.UpToSlots h1 → cpX (model X.prog X.w) X.A X.xe use Qf acc ce (.error (.ref a)) { s' with heap := h1 } := fun h1 held up1 => by
    obtain ⟨k1, k2, k3, oe, vs, T, oT, ts, t1, t2, t3, t4, t5, t6, t7, t8, t9⟩ := held
    refine ⟨m, ⟨oC, es, ep, k1 _ _ hBC, hdC, hrC⟩, fun h2 sb => ?_⟩
    have aC : a ≠ ce.locals := fun z => by rw [z, hBC] at k2; cases k2
    have TC : T ≠ ce.locals := fun z => by rw [z, hBC] at t5; cases t5
    have e2 : ∀ b, b ≠ ce.locals → h2.get? b = h1.get? b := fun b z => sb.2 b z
    obtain ⟨G, g1, g2⟩ := restrict h2 fun b => (B.get? b).isSome
    obtain ⟨F, f1, f2⟩ := restrict h2 fun b => (B.get? b).isSome || decide (b ∈ frs X.stack)
    have gS : G.StaysIn h2 := fun b o e => by
      cases q : (B.get? b).isSome with
      | false => rw [g2 b q] at e; cases e
      | true => rw [g1 b q] at e; exact e
    have gN : ∀ b, B.get? b = none → G.get? b = none := fun b e => g2 b (by rw [e]; rfl)
    have fS : ∀ b o, F.get? b = some o → h2.get? b = some o := fun b o e => by
      cases q : ((B.get? b).isSome || decide (b ∈ frs X.stack)) with
      | false => rw [f2 b q] at e; cases e
      | true => rw [f1 b q] at e; exact e
    have fB : ∀ b o, b ≠ ce.locals → B.get? b = some o → F.get? b = some o := fun b o n e => by
      rw [f1 b (by simp [e]), e2 b n]
      exact k1 b o e
    have frs1 : ∀ b ∈ frs X.stack, ∀ o, sI.heap.get? b = some o → ∃ sl, F.get? b = some { o with slots := sl } := fun b hb o e => by
      obtain ⟨_, o', e', hd⟩ := I.stack.mem hb
      rw [e] at e'
      cases e'
      obtain ⟨sl, y1⟩ := up b o e hd
      obtain ⟨sl2, y2⟩ := up1 b _ y1 hd
      refine ⟨sl2, ?_⟩
      rw [f1 b (by simp [hb]), e2 b fun z => nCF (by rw [← z]; exact hb)]
      exact y2
    have hok : HOk X.prog X.w H' F := fun b o q => (I.hok b o q).stay (fun c v hc r => by
      have nc : H' c ≠ none := by
        rcases hc with hc | hc
        · rw [hc, q]; exact fun z => nomatch z
        · rw [hc]; exact fun z => nomatch z
      have n1 : c ≠ ce.locals := fun z => nc (by rw [z]; exact I.free)
      exact fB c v n1 (nb c v r fun hm => nc (I.stkFree c hm))) (fun _ r => r) fun _ _ r => r
    have J : Inv X pins σ H' { sI with heap := F } := by
      have sC : ∀ b o, s3.heap.get? b = some o → b ≠ ce.locals := fun b o e z => by
        rw [z, cL] at e
        exact absurd (Heap.lt_size e) (Nat.lt_irrefl _)
      refine I3.call' (ch := fp) I.os ⟨fun b o e n hb hx => ?_, fun b o e n hb hx => ?_, fun b o e n hx => I.base.free b o e n hx, fun b o e hx => ?_, I.base.tups, I.base.frzs, I.base.tbls⟩ hok I.bare hfp
      · exact fB b o (sC b o e) (nb b o (I.base.keep b o e n hb hx) hb)
      · obtain ⟨sl, y⟩ := I.base.slot b o e n hb hx
        obtain ⟨sl2, y2⟩ := frs1 b hb _ y
        exact ⟨sl2, y2⟩
      · obtain ⟨o', y⟩ := I.base.there b o e hx
        by_cases hb : b ∈ frs X.stack
        · obtain ⟨sl, y2⟩ := frs1 b hb _ y
          exact ⟨_, y2⟩
        · exact ⟨o', fB b o' (sC b o e) (nb b o' y hb)⟩
    have fr2 : h2.FunFrames G (X.env :: X.outer) := by
      have y := funFrames_none (B := G) k3 fun L hL => gN L (by
        rw [← hs] at hL
        exact (k3.mem (by rw [← hs]; exact hL)).1)
      have go : ∀ {l : List Env}, (∀ b ∈ frs l, b ≠ ce.locals) → h1.FunFrames G l → h2.FunFrames G l := by
        intro l
        induction l with
        | nil => intro _ _; trivial
        | cons env r ih =>
          intro hl hy
          obtain ⟨q1, ⟨L, o, q2, q3, q4, q5⟩, q6⟩ := hy
          refine ⟨q1, ⟨L, o, q2, q3, ?_, q5⟩, ih (fun b hb => hl b ?_) q6⟩
          · rw [e2 L (hl L (List.mem_filterMap.mpr ⟨env, List.mem_cons_self, q2⟩))]
            exact q4
          · obtain ⟨e, he, q⟩ := List.mem_filterMap.mp hb
            exact List.mem_filterMap.mpr ⟨e, List.mem_cons_of_mem _ he, q⟩
      exact go (fun b hb z => nCF (by rw [hs, ← z]; exact hb)) y
    have tr2 : TracedZ h2 G a (Zc cls d) (rawInt X.env.locals) := ⟨oe, vs, T, oT, ts, by rw [e2 a aC]; exact t1, t2, t3, t4, gN T t5, t6, by rw [e2 T TC]; exact t7, t8, t9⟩
    unfold PySem.passOn
    refine wpAny_bind (wpAny_field (by rw [e2 a aC]; exact t1) t3 t4 ?_)
    rw [if_neg (show ¬ ((Value.ref T == Value.none) = true) by simp)]
    have thr : wpAny (model X.prog X.w) X.A (setFlight (.ref a) ce.frame) (fun _ s4 => wpAny (model X.prog X.w) X.A (throw (.ref a) : Sem Value) (fun _ _ => False) X.xe s4) X.xe { s' with heap := h2 } := by
      rw [fC]
      refine setFlight_anyZ gS fr2 tr2 fun h3 y1 y2 y3 y4 => wpAny_throw (tk _ _ ?_)
      refine ⟨a, G, { sI with heap := F }, pins, σ, H', cls, d, rfl, J, fun b o e hb => ?_, (Heap.UpToSlots.of_keeps fS).trans y4, .inr (.inr ?_), na, os, ag, w⟩
      · have e : F.get? b = some o := e
        cases q : (B.get? b).isSome with
        | false => rw [f2 b (by rw [q]; simpa using hb)] at e; cases e
        | true => rw [g1 b q]; exact fS b o e
      · rw [hs]
        exact ⟨y1, gN a k2, y2, y3⟩
    first
      | exact wpAny_bind (wpAny_pure (wpAny_bind thr))
      | exact wpAny_bind thr
  have sky : Sky B (X.env :: X.outer) a (Zc cls d) ce.locals s'.heap := by
    have y : Sky B X.stack a (Zc cls d) ce.locals s'.heap := sky
    rw [hs] at y
    exact y
  rw [noteFrame_eq cF]
  rcases sky with ⟨hB, hn, hl, oe, vs, he, hz, hd, h1⟩ | ⟨y1, y2, y3, y4⟩ | ⟨y1, y2, y3, y4⟩
  · exact look_newZ Zc.steady hfr hl hf he hB hn hd h1 hz fin
  · exact looks_onZ Zc.steady hfr hf ⟨y1, y2, y3, y4⟩ fin
  · exact look_otherZ Zc.steady hfr hf y1 y2 y3 y4 (rawInt_ne nCL) fin
end
end Mi
/-! Mi21: a list comprehension whose element may raise: the loop. -/
namespace Mi
open PySem L2 PySem.Spec PyProof.Rows
/-- what leaves a block, by the slots ahead of it -/
def wOut (W : WX) (σ : L2.St) : WX := fun c d _ H => W c d σ H
/-- the block of a comprehension, its exceptions told by W -/
abbrev blkX (X : Cx) (s : Shared) (H : Hp) (scope : Scope) (ce : Env) (fp : List Addr) (W : WX) : Cx := (X.blk s H scope ce fp).wish (XE (X.blk s H scope ce fp) W)
theorem takes_blk {X : Cx} {s : Shared} {H : Hp} {scope : Scope} {ce : Env} {fp : List Addr} {W : WX} : Takes (blkX X s H scope ce fp W) W := fun u s' ⟨a, B, sI, pins, σ, H', cls, d, e, I, nb, up, sky, na, os, ag, w⟩ =>
  ⟨a, B, sI, pins, σ, H', cls, d, e, I.unwish, nb, up, sky, na, os, ag, w⟩
section
variable {X : Cx} {elt tg iter : Expr} {ifs : List Expr} {scope : Scope} {own : List (Str × Nat)} {pos : Pos} {wi : TI} {g : TG} {tt : WX → TT} {te : WX → TE} {W : WX}
/-- what is asked of a block's parts -/
structure BlkX (X : Cx) (tg : Expr) (ifs : List Expr) (elt : Expr) (scope : Scope) (g : TG) (tt : WX → TT) (te : WX → TE) : Prop where
  g : ∀ (s : Shared) (H : Hp) (C : Addr) (cl : List (Str × Addr)) (fp : List Addr) (W : WX), PG (blkX X s H scope (compEnvC scope cl C X.env) fp W) tg g
  t : ∀ (s : Shared) (H : Hp) (C : Addr) (cl : List (Str × Addr)) (fp : List Addr) (W : WX), PTs (blkX X s H scope (compEnvC scope cl C X.env) fp W) ifs (tt W)
  e : ∀ (s : Shared) (H : Hp) (C : Addr) (cl : List (Str × Addr)) (fp : List Addr) (W : WX), PE (blkX X s H scope (compEnvC scope cl C X.env) fp W) elt (te W)
def tLcX (W : WX) (wi : TI) (g : TG) (tt : WX → TT) (te : WX → TE) (vs : List Nat) : TE := fun σ H Q => tLc wi g (tt (wOut W σ)) (te (wOut W σ)) vs σ H Q
theorem lcX_core {pins : List (Addr × Obj)} {s : Shared} {σ : L2.St} {H : Hp} {Q : VK} {pos' : Pos} {use : Option (Value → Sem Unit)} {Qf : Value → Shared → Prop}
    (hst : X.stack = X.env :: X.outer) (hfr : X.env.frame = some X.env.locals) (tk : Takes X W) (hc : X.calm = true) (hN : X.N.Nodup) (I : Inv X pins σ H s) (hi : PI X tg iter wi) (ok : BlkOk X.N X.env.scope scope own)
    (bk : BlkX X tg ifs elt scope g tt te) (hs : ∀ x, foldedSetIterable iter X.env x = pure x) (h : tLcX W wi g tt te (own.map (·.2)) σ H Q)
    (hR : ∀ D C s' m H', Inv X pins σ H' s' → Q (.ref D) H' → s'.heap.Ns C m → FpOk X pins H' C → compPost (model X.prog X.w) X.A X.xe use Qf (.ref D) C (.ok .next) s') :
    wpAny (model X.prog X.w) X.A (comprehension (.ListComp elt [⟨tg, iter, ifs, 0⟩] scope pos) scope X.env pos' (newList []) false (eval iter X.env) use) Qf X.xe s := by
  have hfree : ∀ y ∈ scope.names, y.2 = .free → ∃ c, X.env.cells.lookup y.1 = some c := fun y hy e => (ok.free y hy e).elim (fun k => I.ok.has _ (.inl k)) fun k => I.ok.has _ (.inr k)
  refine comp_x (use := use) rfl hs (closure_ok hfree) ok.kind (fun y hy e => by rw [ok.uniq y hy, e]) (thn (hi.run pins s σ H _ I h) fun xv s1 hx => thn hx fun itv s2 h2 => ?_)
  obtain ⟨it, fp, tn, J, H2, rfl, I2, T, st2, f2, q⟩ := h2
  refine wpAny_newObj_type (newEnv_comp ?_) (by show 0 ≤ sizeLine; decide)
  generalize hD : s2.heap.objs.size = D
  obtain ⟨Wt, ⟨m0, w0⟩, turn⟩ := q D (I2.hok.fresh (Nat.le_of_eq hD))
  generalize hs3 : ({ s2 with heap := s2.heap.push { cls := .type "list", data := .seq ([] : List Value).toArray } } : Shared) = s3
  have h3 : s3.heap = s2.heap.push { cls := .type "list", data := .seq ([] : List Value).toArray } := by rw [← hs3]
  have up3 : ∀ b o, s2.heap.get? b = some o → s3.heap.get? b = some o := fun b o e => by
    rw [h3]
    exact Heap.get?_push_of_some _ e
  have I3 : Inv X pins σ (upd H2 D (.lst [])) s3 := by
    rw [← hs3]
    exact I2.laid (t' := s2.toks) (fun b o e => Heap.get?_push_of_some _ e) (Nat.le_of_eq hD) ⟨Nat.zero_le _, [], 0, .nil, by rw [← hD]; exact Heap.get?_push_size _ rfl⟩
  have sz : ∀ b ∈ fp, b < s2.heap.objs.size := fun b hb => let ⟨o, e, _⟩ := T.obj _ _ st2 b hb; Heap.lt_size e
  have f3 : ∀ b ∈ fp, FpOk X pins (upd H2 D (.lst [])) b ∧ b < s3.heap.objs.size := fun b hb => by
    have hlt := sz b hb
    refine ⟨⟨?_, (f2 b hb).2⟩, by rw [h3, Heap.size_push]; exact Nat.lt_succ_of_lt hlt⟩
    rw [upd_ne (by rw [← hD]; exact Nat.ne_of_lt hlt)]
    exact (f2 b hb).1
  have st3 : tn 0 s3.heap := T.keep _ _ _ st2 fun b _ o e => up3 b o e
  have I4 := block_start I3 ok hN f3
  generalize hcl : cellsFrom (s3.heap.objs.size + 1) scope.names (cloFrom X.env.cells scope.names []) = cl at I4
  have pg := bk.g s3 (upd H2 D (.lst [])) s3.heap.objs.size cl fp (wOut W σ)
  have pt := bk.t s3 (upd H2 D (.lst [])) s3.heap.objs.size cl fp (wOut W σ)
  have pe := bk.e s3 (upd H2 D (.lst [])) s3.heap.objs.size cl fp (wOut W σ)
  show codeAny _ _ (.compStart (.ListComp elt [⟨tg, iter, ifs, 0⟩] scope pos) 0 (.ref it) (.ref D) (compEnvC scope cl s3.heap.objs.size X.env))
    (cpX (model X.prog X.w) X.A X.xe use Qf (.ref D) (compEnvC scope cl s3.heap.objs.size X.env)) { s3 with heap := pushCells (s3.heap.push { cls := .type "dict", data := .dict #[] }) scope.names }
  generalize hce : compEnvC scope cl s3.heap.objs.size X.env = ce at I4 pg pt pe ⊢
  have cL : ce.locals = s3.heap.objs.size := by subst hce; rfl
  have cF : ce.frame = X.env.frame := by subst hce; rfl
  generalize hH3 : upd H2 D (.lst []) = H3 at I3 I4 pg pt pe w0 f3
  generalize hs4 : ({ s3 with heap := pushCells (s3.heap.push { cls := .type "dict", data := .dict #[] }) scope.names } : Shared) = s4 at I4 ⊢
  have st4 : tn 0 s4.heap := T.keep _ _ _ st3 fun b _ o e => by rw [← hs4]; exact pushCells_keeps _ _ _ _ (Heap.get?_push_of_some _ e)
  have hfp : ∀ b ∈ fp, (b ∈ X.ex ∨ X.s_0.heap.objs.size ≤ b) ∧ b ≠ X.env.locals ∧ (∀ x c, X.env.cells.lookup x = some c → c ≠ b) ∧ ∀ p ∈ X.pn ++ pins, p.1 ≠ b := fun b hb => ⟨(f3 b hb).1.2.2.2.1, (f3 b hb).1.2.1, (f3 b hb).1.2.2.2.2.1, (f3 b hb).1.2.2.2.2.2⟩
  -- an exception of a turn
  have noted : ∀ e s', XE (X.blk s3 H3 scope ce fp) (wOut W σ) e s' → notedBy (model X.prog X.w) X.A ce (fun e s' => cpX (model X.prog X.w) X.A X.xe use Qf (.ref D) ce (.error e) s') e s' := fun e s' x =>
    blk_out hst hfr tk I3 cL cF hfp x
  have I4' : Inv (blkX X s3 H3 scope ce fp (wOut W σ)) [] (wipe σ (own.map (·.2))) H3 s4 := I4.wish _
  have stat : ∀ {σ' : L2.St} {H' : Hp} {s' : Shared}, Inv (blkX X s3 H3 scope ce fp (wOut W σ)) [] σ' H' s' → (∀ b ∈ fp, H' b = none) → ∀ b ∈ fp, FpOk (blkX X s3 H3 scope ce fp (wOut W σ)) [] H' b := fun {σ' H' s'} I' hn b hb =>
    ⟨hn b hb, (I'.ok.exf b hb).1, I'.ok.exfs b hb, .inl hb, fun x c e => (I'.ok.exf b hb).2 x c e, fun p hp => absurd (show p ∈ ([] : List (Addr × Obj)) ++ [] from hp) (by simp)⟩
  have loop : codeAny (model X.prog X.w) X.A (.compLoop (.ListComp elt [⟨tg, iter, ifs, 0⟩] scope pos) 0 (.ref it) (.ref D) ce) (cpX (model X.prog X.w) X.A X.xe use Qf (.ref D) ce) s4 := by
    refine compLoop_any (fun n s' => ∃ i H', Inv (blkX X s3 H3 scope ce fp (wOut W σ)) [] (wipe σ (own.map (·.2))) H' s' ∧ tn i s'.heap ∧ (∀ b ∈ fp, H' b = none) ∧ Wt i n H') ?_ m0 ⟨0, H3, I4', st4, fun b hb => (f3 b hb).1.1, w0⟩
    rintro n s5 ⟨i, H5, I5, st5, n5, w5⟩
    rcases turn i n H5 w5 with ⟨stop, qq⟩ | ⟨go, Nx, hNx, step⟩
    · have td := T.done (blkX X s3 H3 scope ce fp (wOut W σ)) rfl rfl rfl hc i [] s5 _ H5 (fun _ _ => False) I5 (stat I5 n5) st5 stop
      refine thnF td fun r s6 ⟨hr, I6⟩ => ?_
      subst hr
      have I7 : Inv X pins σ H5 s6 := I3.call' (ch := fp) I6.os I6.base I6.hok I6.bare hfp
      obtain ⟨m, hn, _⟩ := I6.loc
      have nC : H5 s3.heap.objs.size = none := by
        rw [← cL]
        exact I6.free
      have hR' := hR D s3.heap.objs.size s6 m H5 I7 qq (by rw [← cL]; exact hn) (I3.fpOk (Nat.le_refl _) nC)
      show compPost (model X.prog X.w) X.A X.xe use Qf (.ref D) ce.locals (.ok .next) s6
      rw [cL]
      exact hR'
    · have ti := T.item (blkX X s3 H3 scope ce fp (wOut W σ)) rfl rfl rfl hc i [] s5 _ H5 (fun _ _ => False) I5 (stat I5 n5) st5 go
      refine thnF ti fun r s6 ⟨u, hr, h6⟩ => ?_
      subst hr
      refine thnF h6 fun _ s7 ⟨x, H7, I7, r7, y7, st7, n7⟩ => ?_
      have I7' := I7.pinned (stat I7 n7) (T.obj _ _ st7)
      refine wpAny_mono (pg.run _ s7 _ H7 x u _ I7' r7 (step x H7 y7)) (fun _ s8 ⟨σ8, H8, I8, hw8, q8⟩ => ?_) noted
      refine wpAny_mono (pt.run _ s8 σ8 H8 _ I8 q8) (fun b s9 ⟨H9, I9, q9⟩ => ?_) noted
      have fin : ∀ {s' : Shared} {H' : Hp}, Inv (blkX X s3 H3 scope ce fp (wOut W σ)) ([] ++ pinsAt fp s7.heap) σ8 H' s' → Nx H' →
          ∃ m, m < n ∧ ∃ i H', Inv (blkX X s3 H3 scope ce fp (wOut W σ)) [] (wipe σ (own.map (·.2))) H' s' ∧ tn i s'.heap ∧ (∀ b ∈ fp, H' b = none) ∧ Wt i m H' := fun {s' H'} I' nx => by
        obtain ⟨m', hm, w'⟩ := hNx H' nx
        have pin' : ∀ b ∈ fp, ∀ o, s7.heap.get? b = some o → s'.heap.get? b = some o ∧ H' b = none := fun b hb o e =>
          let z := I'.pin (b, o) (List.mem_append_right _ (List.mem_append_right _ (mem_pinsAt hb e)))
          ⟨z.1, z.2.1⟩
        refine ⟨m', hm, i + 1, H', (I'.unpinned (pins := [])).weak (by rw [← hw8, wipe_length]) (fun j v e => ?_), T.keep _ _ _ st7 fun b hb o e => (pin' b hb o e).1, fun b hb => ?_, w'⟩
        · rw [← hw8] at e
          exact (wipe_some e).1
        · obtain ⟨o, e, _⟩ := T.obj _ _ st7 b hb
          exact (pin' b hb o e).2
      cases b with
      | false =>
        simp only [Bool.false_eq_true, if_false] at q9 ⊢
        exact fin I9 q9
      | true =>
        simp only [if_true] at q9 ⊢
        refine wpAny_mono (pe.run _ s9 σ8 H9 _ I9 q9) (fun z s10 ⟨yv, H10, I10, r10, acc, hD10, hz10, nx⟩ => ?_) noted
        exact app_ok (X := blkX X s3 H3 scope ce fp (wOut W σ)) I10 hD10 hz10 r10 fun s11 I11 => fin I11 nx
  exact codeAny_compStart_list loop (T.self X.A 0 _ _ _ st4 loop)
theorem pe_lcX (hst : X.stack = X.env :: X.outer) (hfr : X.env.frame = some X.env.locals) (tk : Takes X W) (hc : X.calm = true) (hN : X.N.Nodup) (hi : PI X tg iter wi) (ok : BlkOk X.N X.env.scope scope own) (bk : BlkX X tg ifs elt scope g tt te)
    (hs : ∀ x, foldedSetIterable iter X.env x = pure x) : PE X (.ListComp elt [⟨tg, iter, ifs, 0⟩] scope pos) (tLcX W wi g tt te (own.map (·.2))) := by
  refine ⟨fun pins s σ H Q I h => ?_⟩
  rw [eval_ListComp]
  refine lcX_core hst hfr tk hc hN I hi ok bk hs h fun D C s' m H' I' q hn f => ⟨m, hn, fun h'' sb => ?_⟩
  obtain ⟨f0, f1, f2, f3, f4, f5⟩ := f
  exact ⟨.ref D, H', I'.turned (t' := s'.toks) (fun b o hb e => (sb.2 b hb).trans e) f0 f1 f3 f4 f5, rfl, q⟩
theorem ps_setLcX {i : Nat} {y : Str} {py spos : Pos} (hst : X.stack = X.env :: X.outer) (hfr : X.env.frame = some X.env.locals) (tk : Takes X W) (hc : X.calm = true) (hN : X.N.Nodup) (hy : X.N[i]? = some y) (hyl : X.env.scope.names.lookup y = some .local)
    (hsw : swapsWith (.ListComp elt [⟨tg, iter, ifs, 0⟩] scope pos) (some (.Name y py)) spos.line X.env = pure true) (hi : PI X tg iter wi) (ok : BlkOk X.N X.env.scope scope own) (bk : BlkX X tg ifs elt scope g tt te)
    (hs : ∀ x, foldedSetIterable iter X.env x = pure x) : PS X (.Assign [.Name y py] (.ListComp elt [⟨tg, iter, ifs, 0⟩] scope pos) spos) (tAsg (tLcX W wi g tt te (own.map (·.2))) (gName i)) := by
  refine ⟨fun pins s σ H D I h => ?_⟩
  rw [exec_Assign_Name_used _ _ _ _ hsw]
  refine wpAny_bind (wpAny_standAt (wpAny_bind ?_))
  show wpAny _ X.A (do let _ ← comprehension (.ListComp elt [⟨tg, iter, ifs, 0⟩] scope pos) scope X.env (firstIterPos [⟨tg, iter, ifs, 0⟩] pos) (newList []) false (eval iter X.env) (some (assign (.Name y py) X.env))) _ _ s
  have h : tLcX W wi g tt te (own.map (·.2)) σ H (fun x H1 => gName i x σ H1 D.nx) := h
  refine wpAny_bind (thn (lcX_core (Qf := fun _ s' => SP X pins D .next s') hst hfr tk hc hN I hi ok bk hs h fun L C s' m H' I' q hn f => ?_) fun _ s' hq => wpAny_pure (wpAny_pure hq))
  show wpAny _ _ (assign (.Name y py) X.env (.ref L)) _ _ _
  obtain ⟨f0, f1, f2, f3, f4, f5⟩ := f
  refine wpAny_assign_Name (store_ok2 (v := V.ref L) I' hN hy (.inl hyl) rfl (fun s2 I2 ⟨a, sb, ha⟩ => ?_) (.inr hyl))
  have nC : C ≠ a := ha.elim (fun z => by rw [z]; exact f1) fun z e => f4 y a z e.symm
  exact ⟨m, hn.sameBut sb nC, fun h3 sb3 => ⟨_, H', I2.turned (t' := s2.toks) (fun b o hb e => (sb3.2 b hb).trans e) f0 f1 f3 f4 f5, q⟩⟩
end
end Mi
/-! Mi1: data, owned data, expressions, statements, and what they come to. -/
namespace Mi
open PySem L2

/-- data: frozen, shared at will -/
inductive D where
  | non | bl (b : Bool) | int (i : Int) | str (s : Str)
  | tup (xs : List D) | lst (xs : List D)
  | dct (ks : List Key) (xs : List D)
  | ins (c : Str) (ks : List Str) (xs : List D)
  | exc (c : Str)
  deriving Inhabited

/-- what one place alone holds -/
inductive M where
  | dat (d : D)
  | lst (xs : List M)
  | dct (ks : List Key) (xs : List M)
  | ins (c : Str) (ks : List Str) (xs : List M)
  | tup (xs : List M)
  deriving Inhabited

abbrev Env := List (Option M)
inductive Out (α : Type) where
  | stuck
  | err (c : Str) (μ : Env)
  | ok (a : α) (μ : Env)
@[simp] def Out.bind {α β : Type} (o : Out α) (k : α → Env → Out β) : Out β :=
  match o with
  | .stuck => .stuck
  | .err c μ => .err c μ
  | .ok a μ => k a μ

/-- what a call comes to: the parameters that are handed in by place, as they are then -/
inductive CR where
  | stuck
  | err (c : Str) (outs : List (Option M))
  | ok (m : M) (outs : List (Option M))

/-- a target: a slot, or some of a tuple -/
inductive Tg where
  | one (i : Nat)
  | many (is : List Nat)

/-- an index, reckoned without effects -/
inductive I where
  | var (i : Nat)
  | con (d : D)
  | op1 (f : D → Option D) (a : I)
  | op2 (f : D → D → Option D) (a b : I)
mutual
inductive E where
  | var (i : Nat)
  | mov (i : Nat)
  | con (d : D)
  | op1 (f : D → Option D) (a : E)
  | op2 (f : D → D → Option D) (a b : E)
  | opN (f : List D → Option D) (as : Es)
  | and (a b : E)
  | or (a b : E)
  | ite (c a b : E)
  | call (o : Bool) (g : Nat) (as : As)
  | comp (x : Bool) (own : List Nat) (t : Tg) (f : List D → Option (List D)) (src : Es) (c e : E)
  | own (e : E)
  | ml (es : Es)
  | mt (es : Es)
  | md (ks : List Key) (es : Es)
  | pth (p : Path)
  | view (e : E)
  | viewF (e : E)
  | mut (kd : Nat) (f : M → List M → Option (M × M)) (pre : Es) (p : Path) (as : Es)
  | new (c : Str) (g : Nat) (as : As)
  | meth (o : Bool) (c m : Str) (g : Nat) (p : Path) (as : As)
inductive Es where
  | nil
  | cons (e : E) (r : Es)
inductive As where
  | nil
  | val (e : E) (r : As)
  | ref (p : Path) (r : As)
inductive Path where
  | root (i : Nat)
  | fld (p : Path) (c n : Str)
  | key (p : Path) (k : Key)
  | idx (p : Path) (e : I)
end

mutual
inductive S where
  | set (t : Tg) (e : E)
  | expr (e : E)
  | ret (e : E)
  | ite (c : E) (a b : Ss)
  | wh (c : E) (b : Ss)
  | for_ (t : Tg) (f : List D → Option (List D)) (src : Es) (b : Ss)
  | brk
  | cont
  | pass
  | raise (c : Str)
  | try_ (b : Ss) (hs : Hs)
  | frz (i : Nat) (s : S)
  | isl (i j : Nat) (Ts : List Str)
inductive Ss where
  | nil
  | cons (s : S) (r : Ss)
inductive Hs where
  | nil
  | cons (c : Str) (i : Option Nat) (b : Ss) (r : Hs)
end

/-- a function: how many parameters, how many slots, the parameters that stay bound, the body -/
structure Fn where
  np : Nat
  n : Nat
  pin : List Nat
  body : Ss

/-! ### owned data and data -/
mutual
def M.toD : M → D
  | .dat d => d
  | .lst xs => .lst (M.toDs xs)
  | .dct ks xs => .dct ks (M.toDs xs)
  | .ins c ks xs => .ins c ks (M.toDs xs)
  | .tup xs => .tup (M.toDs xs)
def M.toDs : List M → List D
  | [] => []
  | m :: r => m.toD :: M.toDs r
end
/-- nothing in it ever changes: no list, no dict, no instance -/
def D.hard : D → Bool
  | .tup xs => hards xs
  | .lst _ => false
  | .dct _ _ => false
  | .ins _ _ _ => false
  | _ => true
where hards : List D → Bool
  | [] => true
  | d :: r => d.hard && hards r

/-- no reference in it -/
def D.flat : D → Bool
  | .non => true
  | .bl _ => true
  | .int _ => true
  | .str _ => true
  | _ => false
/-- no owned tuple in it -/
def M.noTup : M → Bool
  | .dat _ => true
  | .lst xs => noTups xs
  | .dct _ xs => noTups xs
  | .ins _ _ xs => noTups xs
  | .tup _ => false
where noTups : List M → Bool
  | [] => true
  | m :: r => m.noTup && noTups r
def noTupE (μ : Env) : Bool := μ.all fun o => match o with
  | some m => m.noTup
  | none => true
def slot (μ : Env) (i : Nat) : Option M := (μ[i]?).getD none
def M.kind : M → Nat
  | .lst _ => 0
  | .dct _ _ => 1
  | .ins _ _ _ => 2
  | .dat _ => 3
  | .tup _ => 4
def M.kids : M → List M
  | .dat _ => []
  | .lst xs => xs
  | .dct _ xs => xs
  | .ins _ _ xs => xs
  | .tup xs => xs
def M.setKid : M → Nat → M → M
  | .dat d, _, _ => .dat d
  | .lst xs, i, m => .lst (xs.set i m)
  | .dct ks xs, i, m => .dct ks (xs.set i m)
  | .ins c ks xs, i, m => .ins c ks (xs.set i m)
  | .tup xs, i, m => .tup (xs.set i m)
/-- what stands at a place within -/
def M.at : M → List Nat → Option M
  | m, [] => some m
  | m, i :: r => match m.kids[i]? with
    | some k => k.at r
    | none => none
def M.put : M → List Nat → M → M
  | _, [], x => x
  | m, i :: r, x => match m.kids[i]? with
    | some k => m.setKid i (k.put r x)
    | none => m

/-- a place: a slot, and the way within -/
abbrev Pl := Nat × List Nat
def atPl (μ : Env) (p : Pl) : Option M := (slot μ p.1).bind fun m => m.at p.2
def putPl (μ : Env) (p : Pl) (x : M) : Env := match slot μ p.1 with
  | some m => μ.set p.1 (some (m.put p.2 x))
  | none => μ

/-! ### no effects -/
mutual
def E.pure : E → Bool
  | .var _ => true
  | .mov _ => false
  | .con _ => true
  | .op1 _ a => a.pure
  | .op2 _ a b => a.pure && b.pure
  | .opN _ as => as.pure
  | .and a b => a.pure && b.pure
  | .or a b => a.pure && b.pure
  | .ite c a b => c.pure && a.pure && b.pure
  | .call o _ as => !o && as.pure
  | .comp _ _ _ _ s c e => s.pure && c.pure && e.pure
  | .own _ => false
  | .ml _ => false
  | .mt _ => false
  | .md _ _ => false
  | .pth p => p.pure
  | .view e => e.pure
  | .viewF e => e.pure
  | .mut _ _ _ _ _ => false
  | .new _ _ _ => false
  | .meth _ _ _ _ _ _ => false
def Es.pure : Es → Bool
  | .nil => true
  | .cons e r => e.pure && r.pure
def As.pure : As → Bool
  | .nil => true
  | .val e r => e.pure && r.pure
  | .ref _ _ => false
def Path.pure : Path → Bool
  | .root _ => true
  | .fld p _ _ => p.pure
  | .key p _ => p.pure
  | .idx p _ => p.pure
end
/-- the values among them have no effects -/
def As.vals : As → Bool
  | .nil => true
  | .val e r => e.pure && r.vals
  | .ref _ r => r.vals

def Tg.slots : Tg → List Nat
  | .one i => [i]
  | .many is => is
def setMany : List Nat → List D → Env → Option Env
  | [], [], μ => some μ
  | i :: is, d :: ds, μ => if i < μ.length then setMany is ds (μ.set i (some (.dat d))) else none
  | _, _, _ => none
def setTg : Tg → M → Env → Option Env
  | .one i, m, μ => if i < μ.length then some (μ.set i (some m)) else none
  | .many is, .dat (.tup ds), μ => setMany is ds μ
  | .many _, _, _ => none
def wipeE : List Nat → Env → Env
  | [], μ => μ
  | i :: r, μ => (wipeE r μ).set i none
/-- errors may pass, or not -/
def Out.lets {α : Type} (x : Bool) (own : List Nat) (n : Nat) : Out α → Out α
  | .err c μ => if x = true ∧ n ≤ sizeLine then .err c (wipeE own μ) else .stuck
  | o => o
def viewE (μ : Env) : Env := μ.map fun o => o.map fun m => .dat m.toD

/-- the loop of a comprehension -/
def compLoop (own : List Nat) (t : Tg) (c e : Env → Out D) : List D → List D → Env → Out (List D)
  | [], acc, μ => .ok acc μ
  | d :: ds, acc, μ => match setTg t (.dat d) μ with
    | none => .stuck
    | some μ1 => (c μ1).bind fun b μ2 => match b with
      | .bl false => compLoop own t c e ds acc (wipeE own μ2)
      | .bl true => (e μ2).bind fun x μ3 => compLoop own t c e ds (acc ++ [x]) (wipeE own μ3)
      | _ => .stuck

def onDat (k : D → Env → Out M) : M → Env → Out M
  | .dat d, μ => k d μ
  | _, _ => .stuck
def outD (d : Option D) (μ : Env) : Out M := match d with
  | some d => .ok (.dat d) μ
  | none => .stuck
def keyIx (ks : List Key) (k : Key) : Option Nat := ks.findIdx? (· = k)
def fldIx (ks : List Str) (k : Str) : Option Nat := ks.findIdx? (· = k)
def toOwned : M → Option M
  | .dat (.lst ds) => some (.lst (ds.map .dat))
  | .dat (.dct ks ds) => some (.dct ks (ds.map .dat))
  | _ => none
def datOf : Out M → Out D
  | .stuck => .stuck
  | .err c μ => .err c μ
  | .ok (.dat d) μ => .ok d μ
  | .ok _ _ => .stuck

/-- an argument: a value, or a place -/
inductive Ag where
  | val (m : M)
  | ref (p : Pl)
def Ag.roots : List Ag → List Nat
  | [] => []
  | .val _ :: r => Ag.roots r
  | .ref p :: r => p.1 :: Ag.roots r
def Ag.flat : List Ag → Bool
  | [] => true
  | .val _ :: r => Ag.flat r
  | .ref p :: r => p.2.isEmpty && Ag.flat r
def argMs : List Ag → Env → Option (List M)
  | [], _ => some []
  | .val m :: r, μ => (argMs r μ).map (m :: ·)
  | .ref p :: r, μ => match atPl μ p with
    | some m => (argMs r μ).map (m :: ·)
    | none => none
/-- the places' objects as the callee leaves them -/
def backAs : List Ag → List (Option M) → Env → Option Env
  | [], _, μ => some μ
  | .val _ :: r, _ :: os, μ => backAs r os μ
  | .ref p :: r, some m :: os, μ => backAs r os (putPl μ p m)
  | _, _, _ => none
def nodupB : List Nat → Bool
  | [] => true
  | i :: r => !r.contains i && nodupB r
/-- behind a call -/
def callEnd (o : Bool) (ags : List Ag) (μ : Env) : CR → Out M
  | .stuck => .stuck
  | .err c outs => match backAs ags outs μ with
    | some μ' => .err c μ'
    | none => .stuck
  | .ok m outs => match backAs ags outs μ with
    | some μ' => .ok (if o = true then m else .dat m.toD) μ'
    | none => .stuck
def newEnd (ags : List Ag) (μ : Env) : CR → Out M
  | .ok (.dat .non) (some m :: outs) => match backAs ags outs μ with
    | some μ' => .ok m μ'
    | none => .stuck
  | .err c (_ :: outs) => match backAs ags outs μ with
    | some μ' => .err c μ'
    | none => .stuck
  | _ => .stuck
/-- an instance of class c without an attribute m of its own -/
def insOk (c m : Str) : Option M → Bool
  | some (.ins c' ks _) => decide (c' = c) && !ks.contains m
  | _ => false
def datsOf : List M → Option (List D)
  | [] => some []
  | .dat d :: r => (datsOf r).map (d :: ·)
  | _ :: _ => none

def evalI : I → Env → Option D
  | .var i, μ => match slot μ i with
    | some (.dat d) => some d
    | _ => none
  | .con d, _ => some d
  | .op1 f a, μ => (evalI a μ).bind f
  | .op2 f a b, μ => (evalI a μ).bind fun x => (evalI b μ).bind fun y => f x y
section
variable (C : Nat → List M → CR) (pin : List Nat)
mutual
def evalE : E → Env → Out M
  | .var i, μ => match slot μ i with
    | some (.dat d) => .ok (.dat d) μ
    | _ => .stuck
  | .mov i, μ => match slot μ i with
    | some m => .ok m (μ.set i none)
    | none => .stuck
  | .con d, μ => .ok (.dat d) μ
  | .op1 f a, μ => (evalE a μ).bind (onDat fun d μ1 => outD (f d) μ1)
  | .op2 f a b, μ => (evalE a μ).bind (onDat fun x μ1 => (evalE b μ1).bind (onDat fun y μ2 => outD (f x y) μ2))
  | .opN f as, μ => (evalEs as μ).bind fun ms μ1 => match datsOf ms with
    | some ds => outD (f ds) μ1
    | none => .stuck
  | .and a b, μ => (evalE a μ).bind (onDat fun x μ1 => match x with
    | .bl true => evalE b μ1
    | .bl false => .ok (.dat (.bl false)) μ1
    | _ => .stuck)
  | .or a b, μ => (evalE a μ).bind (onDat fun x μ1 => match x with
    | .bl true => .ok (.dat (.bl true)) μ1
    | .bl false => evalE b μ1
    | _ => .stuck)
  | .ite c a b, μ => (evalE c μ).bind (onDat fun x μ1 => match x with
    | .bl true => evalE a μ1
    | .bl false => evalE b μ1
    | _ => .stuck)
  | .call o g as, μ => (evalAs as μ).bind fun ags μ1 =>
    if (nodupB (Ag.roots ags) && (Ag.flat ags || as.vals)) = true then
      match argMs ags μ1 with
      | some ms => callEnd o ags μ1 (C g ms)
      | none => .stuck
    else .stuck
  | .comp x own t f src c e, μ => if (own.all fun i => !pin.contains i) = true && (t.slots.all fun i => own.contains i) = true then
      (evalEs src μ).bind fun ms μ1 => match datsOf ms with
      | some ds => match f ds with
        | some xs => ((compLoop own t (fun μ => datOf (evalE c μ)) (fun μ => datOf (evalE e μ)) xs [] (wipeE own μ1)).lets x own xs.length).bind fun ys μ2 =>
          if ys.length ≤ sizeLine then .ok (.dat (.lst ys)) μ2 else .stuck
        | none => .stuck
      | none => .stuck
    else .stuck
  | .own e, μ => (evalE e μ).bind fun m μ1 => match toOwned m with
    | some m' => .ok m' μ1
    | none => .stuck
  | .ml es, μ => (evalEs es μ).bind fun ms μ1 => if ms.length ≤ sizeLine then .ok (.lst ms) μ1 else .stuck
  | .mt es, μ => (evalEs es μ).bind fun ms μ1 => if ms.length ≤ sizeLine then .ok (.tup ms) μ1 else .stuck
  | .md ks es, μ => (evalEs es μ).bind fun ms μ1 => if ms.length = ks.length then .ok (.dct ks ms) μ1 else .stuck
  | .pth p, μ => match evalP p μ with
    | some pl => match atPl μ pl with
      | some (.dat d) => .ok (.dat d) μ
      | _ => .stuck
    | none => .stuck
  | .view e, μ => if e.pure = true then
      match evalE e (viewE μ) with
      | .ok (.dat d) _ => if (d.hard && (d.flat || noTupE μ)) = true then .ok (.dat d) μ else .stuck
      | _ => .stuck
    else .stuck
  | .viewF e, μ => if e.pure = true then
      match evalE e (viewE μ) with
      | .ok (.dat (.lst ds)) _ => if (D.hard.hards ds && (ds.all D.flat || noTupE μ)) = true then .ok (.dat (.lst ds)) μ else .stuck
      | _ => .stuck
    else .stuck
  | .mut kd f pre p as, μ => (evalEs pre μ).bind fun ws μ0 => match evalP p μ0 with
    | some pl => if ((atPl μ0 pl).map M.kind) = some kd then (evalEs as μ0).bind fun ms μ1 => if (pl.2.isEmpty || as.pure) = true then
        match atPl μ1 pl with
        | some m => match f m (ws ++ ms) with
          | some (m', r) => .ok r (putPl μ1 pl m')
          | none => .stuck
        | none => .stuck
      else .stuck
      else .stuck
    | none => .stuck
  | .new c g as, μ => (evalAs as μ).bind fun ags μ1 =>
    if (nodupB (Ag.roots ags) && (Ag.flat ags || as.vals)) = true then
      match argMs ags μ1 with
      | some ms => newEnd ags μ1 (C g (.ins c [] [] :: ms))
      | none => .stuck
    else .stuck
  | .meth o c m g p as, μ => match evalP p μ with
    | some pl => if insOk c m (atPl μ pl) = true then (evalAs as μ).bind fun ags μ1 =>
        if (nodupB (Ag.roots (.ref pl :: ags)) && (Ag.flat (.ref pl :: ags) || as.vals)) = true then
          match argMs (.ref pl :: ags) μ1 with
          | some ms => callEnd o (.ref pl :: ags) μ1 (C g ms)
          | none => .stuck
        else .stuck
      else .stuck
    | none => .stuck
def evalEs : Es → Env → Out (List M)
  | .nil, μ => .ok [] μ
  | .cons e r, μ => (evalE e μ).bind fun m μ1 => (evalEs r μ1).bind fun ms μ2 => .ok (m :: ms) μ2
def evalAs : As → Env → Out (List Ag)
  | .nil, μ => .ok [] μ
  | .val e r, μ => (evalE e μ).bind fun m μ1 => (evalAs r μ1).bind fun ags μ2 => .ok (.val m :: ags) μ2
  | .ref p r, μ => match evalP p μ with
    | some pl => (evalAs r μ).bind fun ags μ2 => .ok (.ref pl :: ags) μ2
    | none => .stuck
def evalP : Path → Env → Option Pl
  | .root i, μ => match slot μ i with
    | some _ => some (i, [])
    | none => none
  | .fld p c n, μ => match evalP p μ with
    | some pl => match atPl μ pl with
      | some (.ins c' ks _) => if c' = c then (fldIx ks n).map fun j => (pl.1, pl.2 ++ [j]) else none
      | _ => none
    | none => none
  | .key p k, μ => match evalP p μ with
    | some pl => match atPl μ pl with
      | some (.dct ks _) => (keyIx ks k).map fun j => (pl.1, pl.2 ++ [j])
      | _ => none
    | none => none
  | .idx p e, μ => match evalP p μ with
    | some pl => match evalI e μ with
      | some (.int i) => match atPl μ pl with
        | some (.lst xs) => (ixN xs.length i).map fun j => (pl.1, pl.2 ++ [j])
        | some (.tup xs) => (ixN xs.length i).map fun j => (pl.1, pl.2 ++ [j])
        | _ => none
      | _ => none
    | none => none
end
end

/-! ### statements -/
inductive Res where
  | stuck
  | err (c : Str) (μ : Env)
  | nx (μ : Env)
  | ret (m : M) (μ : Env)
  | brk (μ : Env)
  | cont (μ : Env)
@[simp] def Out.res {α : Type} (o : Out α) (k : α → Env → Res) : Res :=
  match o with
  | .stuck => .stuck
  | .err c μ => .err c μ
  | .ok a μ => k a μ
def whLoop (c : Env → Out M) (b : Env → Res) : Nat → Env → Res
  | 0, _ => .stuck
  | n + 1, μ => (c μ).res fun m μ1 => match m with
    | .dat (.bl false) => .nx μ1
    | .dat (.bl true) => match b μ1 with
      | .nx μ2 => whLoop c b n μ2
      | .cont μ2 => whLoop c b n μ2
      | .brk μ2 => .nx μ2
      | r => r
    | _ => .stuck
def forLoop (t : Tg) (b : Env → Res) : List D → Env → Res
  | [], μ => .nx μ
  | d :: ds, μ => match setTg t (.dat d) μ with
    | none => .stuck
    | some μ1 => match b μ1 with
      | .nx μ2 => forLoop t b ds μ2
      | .cont μ2 => forLoop t b ds μ2
      | .brk μ2 => .nx μ2
      | r => r
def Res.unslot (i : Nat) : Res → Res
  | .nx μ => .nx (μ.set i none)
  | .ret m μ => .ret m (μ.set i none)
  | .brk μ => .brk (μ.set i none)
  | .cont μ => .cont (μ.set i none)
  | _ => .stuck
def Res.noErr : Res → Res
  | .err _ _ => .stuck
  | r => r
section
variable (sub : Str → Str → Bool) (C : Nat → List M → CR) (pin : List Nat) (N : Nat)
mutual
def execS : S → Env → Res
  | .set t e, μ => (evalE C pin e μ).res fun m μ1 => if (t.slots.all fun i => !pin.contains i) = true then match setTg t m μ1 with
      | some μ2 => .nx μ2
      | none => .stuck
    else .stuck
  | .expr e, μ => (evalE C pin e μ).res fun _ μ1 => .nx μ1
  | .ret e, μ => (evalE C pin e μ).res fun m μ1 => .ret m μ1
  | .ite c a b, μ => (evalE C pin c μ).res fun m μ1 => match m with
    | .dat (.bl true) => execSs a μ1
    | .dat (.bl false) => execSs b μ1
    | _ => .stuck
  | .wh c b, μ => whLoop (evalE C pin c) (execSs b) N μ
  | .for_ t f src b, μ => if (t.slots.all fun i => !pin.contains i) = true then (evalEs C pin src μ).res fun ms μ1 => match datsOf ms with
      | some ds => match f ds with
        | some xs => forLoop t (execSs b) xs μ1
        | none => .stuck
      | none => .stuck
    else .stuck
  | .brk, μ => .brk μ
  | .cont, μ => .cont μ
  | .pass, μ => .nx μ
  | .raise c, μ => .err c μ
  | .try_ b hs, μ => match execSs b μ with
    | .err c μ1 => execHs hs c μ1
    | r => r
  | .frz i s, μ => match slot μ i with
    | some m => execS s (μ.set i (some (.dat m.toD)))
    | none => .stuck
  | .isl i j Ts, μ => match slot μ j with
    | some (.dat (.exc c)) => if i < μ.length ∧ pin.contains i = false then .nx (μ.set i (some (.dat (.lst (Ts.map fun T => .bl (sub c T)))))) else .stuck
    | _ => .stuck
def execSs : Ss → Env → Res
  | .nil, μ => .nx μ
  | .cons s r, μ => match execS s μ with
    | .nx μ1 => execSs r μ1
    | q => q
def execHs : Hs → Str → Env → Res
  | .nil, c, μ => .err c μ
  | .cons c' i b r, c, μ => if sub c c = true then
      if sub c c' = true then match i with
        | none => (execSs b μ).noErr
        | some j => if j < μ.length ∧ pin.contains j = false then (execSs b (μ.set j (some (.dat (.exc c))))).noErr.unslot j else .stuck
      else execHs r c μ
    else .stuck
end
end
def outsOf (fn : Fn) (μ : Env) : List (Option M) := (List.range fn.np).map fun j => if fn.pin.contains j then slot μ j else none
def fnEnd (fn : Fn) : Res → CR
  | .nx μ => .ok (.dat .non) (outsOf fn μ)
  | .ret m μ => .ok m (outsOf fn μ)
  | .err c μ => .err c (outsOf fn μ)
  | _ => .stuck
def startE (fn : Fn) (ms : List M) : Env := ms.map some ++ List.replicate (fn.n - fn.np) none
/-- the calls: k of them within one another -/
def callF (sub : Str → Str → Bool) (tab : Nat → Option Fn) (N : Nat) : Nat → Nat → List M → CR
  | 0, _, _ => .stuck
  | k + 1, g, ms => match tab g with
    | some fn => if ms.length = fn.np then fnEnd fn (execSs sub (callF sub tab N k) fn.pin N fn.body (startE fn ms)) else .stuck
    | none => .stuck
example (C : Nat → List M → CR) (pin : List Nat) (d : D) (μ : Env) : evalE C pin (.con d) μ = .ok (.dat d) μ := rfl
end Mi
/-! Mi2: what stands for data in an abstract heap. -/
namespace Mi
open PySem L2

abbrev ASet := Addr → Prop
def Ex (H H' : Hp) : Prop := ∀ a o, H a = some o → H' a = some o
theorem Ex.refl (H : Hp) : Ex H H := fun _ _ h => h
theorem Ex.trans {H H1 H2 : Hp} (a : Ex H H1) (b : Ex H1 H2) : Ex H H2 := fun x o h => b x o (a x o h)
theorem Ex.new {H : Hp} {p : Addr} {o : HO} (h : H p = none) : Ex H (upd H p o) := fun a u e => by
  rw [upd_ne (ne_of_none e h)]
  exact e
theorem Ex.none {H H' : Hp} (e : Ex H H') {a : Addr} (h : H' a = none) : H a = none := by
  cases q : H a with
  | none => rfl
  | some o => rw [e a o q] at h; cases h
theorem Ex.l {K : PySem.W.Frag} {H H' : Hp} {a : Addr} {xs : List V} (e : Ex H H') (h : SqL K H a xs) : SqL K H' a xs := by
  rcases h with (h | ⟨o, h⟩) | h
  · exact .inl (.inl (e a _ h))
  · exact .inl (.inr ⟨o, e a _ h⟩)
  · exact .inr h
theorem Ex.t {K : PySem.W.Frag} {H H' : Hp} {a : Addr} {xs : List V} (e : Ex H H') (h : SqT K H a xs) : SqT K H' a xs := by
  rcases h with (h | ⟨o, h⟩) | h
  · exact .inl (.inl (e a _ h))
  · exact .inl (.inr ⟨o, e a _ h⟩)
  · exact .inr h

/-- what is read of a heap stays -/
structure Sw (K : PySem.W.Frag) (B B' : Hp) : Prop where
  l : ∀ {a : Addr} {xs : List V}, SqL K B a xs → SqL K B' a xs
  t : ∀ {a : Addr} {xs : List V}, SqT K B a xs → SqT K B' a xs
  d : ∀ {a : Addr} {kvs : List (Key × V)}, Rd B a (.dK kvs) → Rd B' a (.dK kvs)
  i : ∀ {a C dx : Addr} {fs : List (Str × V)}, B a = some (.ins C dx fs) → B' a = some (.ins C dx fs)
theorem Ex.r {H H' : Hp} {a : Addr} {u : HO} (e : Ex H H') (h : Rd H a u) : Rd H' a u := h.elim (fun h => .inl (e a _ h)) fun ⟨o, h⟩ => .inr ⟨o, e a _ h⟩
theorem Ex.sw {K : PySem.W.Frag} {H H' : Hp} (e : Ex H H') : Sw K H H' := ⟨fun h => e.l h, fun h => e.t h, fun h => e.r h, fun h => e _ _ h⟩

section
variable (K : PySem.W.Frag) (mg : Str → Option Value)
mutual
def Rep (B : Hp) : D → V → Prop
  | .non, v => v = .non
  | .bl b, v => v = .bl b
  | .int i, v => v = .int i
  | .str s, v => v = .str s
  | .tup xs, v => ∃ a vs, v = .ref a ∧ SqT K B a vs ∧ RepL B xs vs
  | .lst xs, v => ∃ a vs, v = .ref a ∧ SqL K B a vs ∧ RepL B xs vs
  | .dct ks xs, v => ∃ a vs, v = .ref a ∧ Rd B a (.dK (ks.zip vs)) ∧ ks.length = vs.length ∧ RepL B xs vs
  | .ins c ks xs, v => ∃ a vs, v = .ref a ∧ (∃ C dx, mg c = some (.ref C) ∧ B a = some (.ins C dx (ks.zip vs))) ∧ ks.length = vs.length ∧ RepL B xs vs
  | .exc _, v => ∃ a, v = .ref a
def RepL (B : Hp) : List D → List V → Prop
  | [], vs => vs = []
  | d :: ds, vs => ∃ v r, vs = v :: r ∧ Rep B d v ∧ RepL B ds r
end
/-- the object of an owned node -/
def ObjAt (H : Hp) : M → Addr → List V → Prop
  | .dat _, _, _ => False
  | .lst _, a, vs => H a = some (.lst vs)
  | .dct ks _, a, vs => H a = some (.dK (ks.zip vs)) ∧ ks.length = vs.length
  | .ins c ks _, a, vs => (∃ C dx, mg c = some (.ref C) ∧ H a = some (.ins C dx (ks.zip vs))) ∧ ks.length = vs.length
  | .tup _, a, vs => H a = some (.tup vs)
mutual
def RepM (B H : Hp) : M → V → ASet → Prop
  | .dat d, v, T => Rep K mg B d v ∧ ∀ a, ¬ T a
  | .lst ms, v, T => ∃ a vs U, v = .ref a ∧ ObjAt mg H (.lst ms) a vs ∧ B a = none ∧ RepMs B H ms vs U ∧ ¬ U a ∧ ∀ b, T b ↔ b = a ∨ U b
  | .dct ks ms, v, T => ∃ a vs U, v = .ref a ∧ ObjAt mg H (.dct ks ms) a vs ∧ B a = none ∧ RepMs B H ms vs U ∧ ¬ U a ∧ ∀ b, T b ↔ b = a ∨ U b
  | .ins c ks ms, v, T => ∃ a vs U, v = .ref a ∧ ObjAt mg H (.ins c ks ms) a vs ∧ B a = none ∧ RepMs B H ms vs U ∧ ¬ U a ∧ ∀ b, T b ↔ b = a ∨ U b
  | .tup ms, v, T => ∃ a vs U, v = .ref a ∧ ObjAt mg H (.tup ms) a vs ∧ B a = none ∧ RepMs B H ms vs U ∧ ¬ U a ∧ ∀ b, T b ↔ b = a ∨ U b
def RepMs (B H : Hp) : List M → List V → ASet → Prop
  | [], vs, T => vs = [] ∧ ∀ a, ¬ T a
  | m :: ms, vs, T => ∃ v r T1 T2, vs = v :: r ∧ RepM B H m v T1 ∧ RepMs B H ms r T2 ∧ (∀ a, T1 a → ¬ T2 a) ∧ ∀ b, T b ↔ T1 b ∨ T2 b
end
def M.isDat : M → Bool
  | .dat _ => true
  | _ => false
variable {K mg}
theorem repM_node {B H : Hp} {m : M} {v : V} {T : ASet} (h : m.isDat = false) :
    RepM K mg B H m v T ↔ ∃ a vs U, v = .ref a ∧ ObjAt mg H m a vs ∧ B a = none ∧ RepMs K mg B H m.kids vs U ∧ ¬ U a ∧ ∀ b, T b ↔ b = a ∨ U b := by
  cases m with
  | dat d => cases h
  | lst ms => unfold RepM; exact Iff.rfl
  | dct ks ms => unfold RepM; exact Iff.rfl
  | ins c ks ms => unfold RepM; exact Iff.rfl
  | tup ms => unfold RepM; exact Iff.rfl
theorem repM_dat {B H : Hp} {d : D} {v : V} {T : ASet} : RepM K mg B H (.dat d) v T ↔ Rep K mg B d v ∧ ∀ a, ¬ T a := by
  unfold RepM; exact Iff.rfl

mutual
theorem Rep.sw {B B' : Hp} (e : Sw K B B') : ∀ {d : D} {v : V}, Rep K mg B d v → Rep K mg B' d v
  | .non, _, h => by unfold Rep at *; exact h
  | .bl _, _, h => by unfold Rep at *; exact h
  | .int _, _, h => by unfold Rep at *; exact h
  | .str _, _, h => by unfold Rep at *; exact h
  | .exc _, _, h => by unfold Rep at *; exact h
  | .tup xs, _, h => by
    unfold Rep at *
    obtain ⟨a, vs, h1, h2, h3⟩ := h
    exact ⟨a, vs, h1, e.t h2, RepL.sw e h3⟩
  | .lst xs, _, h => by
    unfold Rep at *
    obtain ⟨a, vs, h1, h2, h3⟩ := h
    exact ⟨a, vs, h1, e.l h2, RepL.sw e h3⟩
  | .dct ks xs, _, h => by
    unfold Rep at *
    obtain ⟨a, vs, h1, h2, h3, h4⟩ := h
    exact ⟨a, vs, h1, e.d h2, h3, RepL.sw e h4⟩
  | .ins c ks xs, _, h => by
    unfold Rep at *
    obtain ⟨a, vs, h1, ⟨C, dx, h2, h5⟩, h3, h4⟩ := h
    exact ⟨a, vs, h1, ⟨C, dx, h2, e.i h5⟩, h3, RepL.sw e h4⟩
theorem RepL.sw {B B' : Hp} (e : Sw K B B') : ∀ {ds : List D} {vs : List V}, RepL K mg B ds vs → RepL K mg B' ds vs
  | [], _, h => by unfold RepL at *; exact h
  | d :: ds, _, h => by
    unfold RepL at *
    obtain ⟨v, r, h1, h2, h3⟩ := h
    exact ⟨v, r, h1, Rep.sw e h2, RepL.sw e h3⟩
end
theorem Rep.mono {B B' : Hp} (e : Ex B B') {d : D} {v : V} (h : Rep K mg B d v) : Rep K mg B' d v := h.sw e.sw
theorem RepL.mono {B B' : Hp} (e : Ex B B') {ds : List D} {vs : List V} (h : RepL K mg B ds vs) : RepL K mg B' ds vs := h.sw e.sw
mutual
theorem Rep.hard {B B' : Hp} (e : ∀ a vs, SqT K B a vs → SqT K B' a vs) : ∀ {d : D} {v : V}, d.hard = true → Rep K mg B d v → Rep K mg B' d v
  | .non, _, _, h => by unfold Rep at *; exact h
  | .bl _, _, _, h => by unfold Rep at *; exact h
  | .int _, _, _, h => by unfold Rep at *; exact h
  | .str _, _, _, h => by unfold Rep at *; exact h
  | .exc _, _, _, h => by unfold Rep at *; exact h
  | .tup xs, _, q, h => by
    unfold Rep at *
    obtain ⟨a, vs, h1, h2, h3⟩ := h
    exact ⟨a, vs, h1, e _ _ h2, RepL.hard e (by simpa [D.hard] using q) h3⟩
theorem RepL.hard {B B' : Hp} (e : ∀ a vs, SqT K B a vs → SqT K B' a vs) : ∀ {ds : List D} {vs : List V}, D.hard.hards ds = true → RepL K mg B ds vs → RepL K mg B' ds vs
  | [], _, _, h => by unfold RepL at *; exact h
  | d :: ds, _, q, h => by
    unfold RepL at *
    obtain ⟨v, r, h1, h2, h3⟩ := h
    have q' : d.hard = true ∧ D.hard.hards ds = true := by simpa [D.hard.hards] using q
    exact ⟨v, r, h1, Rep.hard e q'.1 h2, RepL.hard e q'.2 h3⟩
end

theorem ObjAt.there {H : Hp} {m : M} {a : Addr} {vs : List V} (h : ObjAt mg H m a vs) : H a ≠ none := by
  cases m with
  | dat d => exact h.elim
  | lst ms => intro e; have h : H a = some _ := h; rw [h] at e; cases e
  | dct ks ms => intro e; have h := h.1; rw [h] at e; cases e
  | ins c ks ms => intro e; obtain ⟨⟨C, dx, _, h⟩, _⟩ := h; rw [h] at e; cases e
  | tup ms => intro e; have h : H a = some _ := h; rw [h] at e; cases e
theorem ObjAt.congr {H H' : Hp} {m : M} {a : Addr} {vs : List V} (q : H' a = H a) (h : ObjAt mg H m a vs) : ObjAt mg H' m a vs := by
  cases m with
  | dat d => exact h
  | lst ms => show H' a = some _; rw [q]; exact h
  | dct ks ms => show H' a = some _ ∧ _; rw [q]; exact h
  | ins c ks ms => show (∃ C dx, _ ∧ H' a = some _) ∧ _; rw [q]; exact h
  | tup ms => show H' a = some _; rw [q]; exact h

mutual
/-- the owned nodes stand in the heap, and not among the frozen -/
theorem RepM.owned {B H : Hp} : ∀ {m : M} {v : V} {T : ASet}, RepM K mg B H m v T → ∀ a, T a → H a ≠ none ∧ B a = none
  | .dat d, v, T, h, a, ha => absurd ha ((repM_dat.mp h).2 a)
  | .lst ms, v, T, h, b, hb => by
    unfold RepM at h
    obtain ⟨a, vs, U, _, h2, h3, h4, _, h6⟩ := h
    rcases (h6 b).mp hb with rfl | q
    · exact ⟨h2.there, h3⟩
    · exact RepMs.owned h4 b q
  | .dct ks ms, v, T, h, b, hb => by
    unfold RepM at h
    obtain ⟨a, vs, U, _, h2, h3, h4, _, h6⟩ := h
    rcases (h6 b).mp hb with rfl | q
    · exact ⟨h2.there, h3⟩
    · exact RepMs.owned h4 b q
  | .ins c ks ms, v, T, h, b, hb => by
    unfold RepM at h
    obtain ⟨a, vs, U, _, h2, h3, h4, _, h6⟩ := h
    rcases (h6 b).mp hb with rfl | q
    · exact ⟨h2.there, h3⟩
    · exact RepMs.owned h4 b q
  | .tup ms, v, T, h, b, hb => by
    unfold RepM at h
    obtain ⟨a, vs, U, _, h2, h3, h4, _, h6⟩ := h
    rcases (h6 b).mp hb with rfl | q
    · exact ⟨h2.there, h3⟩
    · exact RepMs.owned h4 b q
theorem RepMs.owned {B H : Hp} : ∀ {ms : List M} {vs : List V} {T : ASet}, RepMs K mg B H ms vs T → ∀ a, T a → H a ≠ none ∧ B a = none
  | [], vs, T, h, a, ha => by unfold RepMs at h; exact absurd ha (h.2 a)
  | m :: ms, vs, T, h, a, ha => by
    unfold RepMs at h
    obtain ⟨v, r, T1, T2, _, h1, h2, _, h4⟩ := h
    rcases (h4 a).mp ha with q | q
    · exact RepM.owned h1 a q
    · exact RepMs.owned h2 a q
end

mutual
theorem RepM.sw {B B' H H' : Hp} (e : Sw K B B') : ∀ {m : M} {v : V} {T : ASet}, (∀ a, T a → H' a = H a ∧ B' a = none) → RepM K mg B H m v T → RepM K mg B' H' m v T
  | .dat d, v, T, _, h => repM_dat.mpr ⟨Rep.sw e (repM_dat.mp h).1, (repM_dat.mp h).2⟩
  | .lst ms, v, T, k, h => by
    unfold RepM at *
    obtain ⟨a, vs, U, h1, h2, h3, h4, h5, h6⟩ := h
    have ka := k a ((h6 a).mpr (.inl rfl))
    exact ⟨a, vs, U, h1, h2.congr ka.1, ka.2, RepMs.sw e (fun b hb => k b ((h6 b).mpr (.inr hb))) h4, h5, h6⟩
  | .dct ks ms, v, T, k, h => by
    unfold RepM at *
    obtain ⟨a, vs, U, h1, h2, h3, h4, h5, h6⟩ := h
    have ka := k a ((h6 a).mpr (.inl rfl))
    exact ⟨a, vs, U, h1, h2.congr ka.1, ka.2, RepMs.sw e (fun b hb => k b ((h6 b).mpr (.inr hb))) h4, h5, h6⟩
  | .ins c ks ms, v, T, k, h => by
    unfold RepM at *
    obtain ⟨a, vs, U, h1, h2, h3, h4, h5, h6⟩ := h
    have ka := k a ((h6 a).mpr (.inl rfl))
    exact ⟨a, vs, U, h1, h2.congr ka.1, ka.2, RepMs.sw e (fun b hb => k b ((h6 b).mpr (.inr hb))) h4, h5, h6⟩
  | .tup ms, v, T, k, h => by
    unfold RepM at *
    obtain ⟨a, vs, U, h1, h2, h3, h4, h5, h6⟩ := h
    have ka := k a ((h6 a).mpr (.inl rfl))
    exact ⟨a, vs, U, h1, h2.congr ka.1, ka.2, RepMs.sw e (fun b hb => k b ((h6 b).mpr (.inr hb))) h4, h5, h6⟩
theorem RepMs.sw {B B' H H' : Hp} (e : Sw K B B') : ∀ {ms : List M} {vs : List V} {T : ASet}, (∀ a, T a → H' a = H a ∧ B' a = none) → RepMs K mg B H ms vs T → RepMs K mg B' H' ms vs T
  | [], vs, T, _, h => by unfold RepMs at *; exact h
  | m :: ms, vs, T, k, h => by
    unfold RepMs at *
    obtain ⟨v, r, T1, T2, h0, h1, h2, h3, h4⟩ := h
    exact ⟨v, r, T1, T2, h0, RepM.sw e (fun a ha => k a ((h4 a).mpr (.inl ha))) h1, RepMs.sw e (fun a ha => k a ((h4 a).mpr (.inr ha))) h2, h3, h4⟩
end
theorem RepM.congr {B B' H H' : Hp} (e : Ex B B') {m : M} {v : V} {T : ASet} (k : ∀ a, T a → H' a = H a ∧ B' a = none) (h : RepM K mg B H m v T) : RepM K mg B' H' m v T := h.sw e.sw k
theorem RepMs.congr {B B' H H' : Hp} (e : Ex B B') {ms : List M} {vs : List V} {T : ASet} (k : ∀ a, T a → H' a = H a ∧ B' a = none) (h : RepMs K mg B H ms vs T) : RepMs K mg B' H' ms vs T := h.sw e.sw k

/-! ### freezing -/
open Classical in
/-- what is owned by T is frozen as it stands -/
noncomputable def frz (B H : Hp) (T : ASet) : Hp := fun a => if T a then H a else B a
theorem frz_in {B H : Hp} {T : ASet} {a : Addr} (h : T a) : frz B H T a = H a := by unfold frz; rw [if_pos h]
theorem frz_out {B H : Hp} {T : ASet} {a : Addr} (h : ¬ T a) : frz B H T a = B a := by unfold frz; rw [if_neg h]
theorem frz_ex {B H : Hp} {T : ASet} (k : ∀ a, T a → B a = none) : Ex B (frz B H T) := fun a o e => by
  by_cases h : T a
  · rw [k a h] at e; cases e
  · rw [frz_out h]; exact e
theorem frz_sub {B H : Hp} {T : ASet} (e : Ex B H) : Ex (frz B H T) H := fun a o q => by
  by_cases h : T a
  · rw [frz_in h] at q; exact q
  · rw [frz_out h] at q; exact e a o q

theorem repL_len {B : Hp} : ∀ {ds : List D} {vs : List V}, RepL K mg B ds vs → ds.length = vs.length
  | [], vs, h => by unfold RepL at h; subst h; rfl
  | d :: ds, vs, h => by
    unfold RepL at h
    obtain ⟨v, r, rfl, _, h⟩ := h
    simp [repL_len h]
theorem repMs_len {B H : Hp} : ∀ {ms : List M} {vs : List V} {T : ASet}, RepMs K mg B H ms vs T → ms.length = vs.length
  | [], vs, T, h => by unfold RepMs at h; rw [h.1]; rfl
  | m :: ms, vs, T, h => by
    unfold RepMs at h
    obtain ⟨v, r, T1, T2, rfl, _, h, _⟩ := h
    simp [repMs_len h]

mutual
theorem RepM.freeze {B H B' : Hp} (e : Ex B B') : ∀ {m : M} {v : V} {T : ASet}, (∀ a, T a → B' a = H a) → RepM K mg B H m v T → Rep K mg B' m.toD v
  | .dat d, v, T, _, h => by
    have q := (repM_dat.mp h).1
    unfold M.toD
    exact Rep.mono e q
  | .lst ms, v, T, k, h => by
    unfold RepM at h
    obtain ⟨a, vs, U, h1, h2, h3, h4, h5, h6⟩ := h
    unfold M.toD Rep
    refine ⟨a, vs, h1, .inl (.inl ?_), RepMs.freeze e (fun b hb => k b ((h6 b).mpr (.inr hb))) h4⟩
    rw [k a ((h6 a).mpr (.inl rfl))]
    exact h2
  | .dct ks ms, v, T, k, h => by
    unfold RepM at h
    obtain ⟨a, vs, U, h1, h2, h3, h4, h5, h6⟩ := h
    unfold M.toD Rep
    refine ⟨a, vs, h1, .inl ?_, h2.2, RepMs.freeze e (fun b hb => k b ((h6 b).mpr (.inr hb))) h4⟩
    rw [k a ((h6 a).mpr (.inl rfl))]
    exact h2.1
  | .ins c ks ms, v, T, k, h => by
    unfold RepM at h
    obtain ⟨a, vs, U, h1, h2, h3, h4, h5, h6⟩ := h
    unfold M.toD Rep
    refine ⟨a, vs, h1, ?_, h2.2, RepMs.freeze e (fun b hb => k b ((h6 b).mpr (.inr hb))) h4⟩
    rw [k a ((h6 a).mpr (.inl rfl))]
    exact h2.1
  | .tup ms, v, T, k, h => by
    unfold RepM at h
    obtain ⟨a, vs, U, h1, h2, h3, h4, h5, h6⟩ := h
    unfold M.toD Rep
    refine ⟨a, vs, h1, .inl (.inl ?_), RepMs.freeze e (fun b hb => k b ((h6 b).mpr (.inr hb))) h4⟩
    rw [k a ((h6 a).mpr (.inl rfl))]
    exact h2
theorem RepMs.freeze {B H B' : Hp} (e : Ex B B') : ∀ {ms : List M} {vs : List V} {T : ASet}, (∀ a, T a → B' a = H a) → RepMs K mg B H ms vs T → RepL K mg B' (M.toDs ms) vs
  | [], vs, T, _, h => by
    unfold RepMs at h
    unfold M.toDs RepL
    exact h.1
  | m :: ms, vs, T, k, h => by
    unfold RepMs at h
    obtain ⟨v, r, T1, T2, h0, h1, h2, h3, h4⟩ := h
    unfold M.toDs RepL
    exact ⟨v, r, h0, RepM.freeze e (fun a ha => k a ((h4 a).mpr (.inl ha))) h1, RepMs.freeze e (fun a ha => k a ((h4 a).mpr (.inr ha))) h2⟩
end
end
end Mi
/-! Mi3: the state of a body: slots, frozen and owned; what a step may change. -/
namespace Mi
open PySem L2

/-- what a piece of code may do to the heap: B frozen, S owned ahead; B', S' behind -/
structure Step (B H : Hp) (S : ASet) (B' H' : Hp) (S' : ASet) : Prop where
  ex : Ex B B'
  fr : ∀ a u, H a = some u → ¬ S a → H' a = some u
  dom : ∀ a, H' a = none → H a = none
  ow : ∀ a, S' a → S a ∨ H a = none
  fz : ∀ a, B' a ≠ none → B a ≠ none ∨ S a ∨ H a = none
theorem Step.refl (B H : Hp) (S : ASet) : Step B H S B H S := ⟨Ex.refl B, fun _ _ h _ => h, fun _ h => h, fun _ h => .inl h, fun _ h => .inl h⟩
theorem Step.trans {B H B1 H1 B2 H2 : Hp} {S S1 S2 : ASet} (x : Step B H S B1 H1 S1) (y : Step B1 H1 S1 B2 H2 S2) : Step B H S B2 H2 S2 where
  ex := x.ex.trans y.ex
  fr := fun a u e n => y.fr a u (x.fr a u e n) fun q => (x.ow a q).elim n fun z => by rw [z] at e; cases e
  dom := fun a e => x.dom a (y.dom a e)
  ow := fun a q => (y.ow a q).elim (x.ow a) fun z => .inr (x.dom a z)
  fz := fun a q => (y.fz a q).elim (x.fz a) fun z => z.elim (fun z => (x.ow a z).elim (fun w => .inr (.inl w)) fun w => .inr (.inr w)) fun z => .inr (.inr (x.dom a z))
/-- more owned ahead, less behind -/
theorem Step.weak {B H B' H' : Hp} {S S' T T' : ASet} (x : Step B H S B' H' S') (h : ∀ a, S a → T a) (h' : ∀ a, T' a → S' a) : Step B H T B' H' T' where
  ex := x.ex
  fr := fun a u e n => x.fr a u e fun q => n (h a q)
  dom := x.dom
  ow := fun a q => (x.ow a (h' a q)).imp (h a) id
  fz := fun a q => (x.fz a q).imp id fun z => z.imp (h a) id
/-- something beside that stays -/
theorem Step.frame {B H B' H' : Hp} {S S' F : ASet} (x : Step B H S B' H' S') (hF : ∀ a, F a → ¬ S a ∧ H a ≠ none) : Step B H (fun a => S a ∨ F a) B' H' (fun a => S' a ∨ F a) where
  ex := x.ex
  fr := fun a u e n => x.fr a u e fun q => n (.inl q)
  dom := x.dom
  ow := fun a q => q.elim (fun z => (x.ow a z).imp .inl id) fun z => .inl (.inr z)
  fz := fun a q => (x.fz a q).imp id fun z => z.imp .inl id
/-- .. and is apart from what is owned behind, and not frozen -/
theorem Step.apart {B H B' H' : Hp} {S S' : ASet} (x : Step B H S B' H' S') {a : Addr} (n : ¬ S a) (h : H a ≠ none) (hb : B a = none) : ¬ S' a ∧ B' a = none ∧ H' a = H a := by
  refine ⟨fun q => (x.ow a q).elim n h, ?_, ?_⟩
  · cases e : B' a with
    | none => rfl
    | some u => exact absurd ((x.fz a (by rw [e]; simp)).elim (fun z => absurd hb z) fun z => z.elim (fun z => absurd z n) fun z => absurd z h) id
  · cases e : H a with
    | none => exact absurd e h
    | some u => exact x.fr a u e n
/-- new things alone, and they are frozen -/
structure PStep (B H B' H' : Hp) : Prop where
  ex : Ex B B'
  sub : Ex B' H'
  ext : Ex H H'
  fz : ∀ a, B' a ≠ none → B a ≠ none ∨ H a = none
theorem PStep.refl {B H : Hp} (h : Ex B H) : PStep B H B H := ⟨Ex.refl B, h, Ex.refl H, fun _ h => .inl h⟩
theorem PStep.step {B H B' H' : Hp} (x : PStep B H B' H') (S : ASet) : Step B H S B' H' S where
  ex := x.ex
  fr := fun a u e _ => x.ext a u e
  dom := fun a e => x.ext.none e
  ow := fun _ q => .inl q
  fz := fun a q => (x.fz a q).imp id .inr
/-- a new object, frozen -/
theorem PStep.new {B H : Hp} (e : Ex B H) {p : Addr} (o : HO) (h : H p = none) : PStep B H (upd B p o) (upd H p o) where
  ex := Ex.new (e.none h)
  sub := fun a u q => by
    by_cases z : a = p
    · subst z; rw [upd_same] at q ⊢; exact q
    · rw [upd_ne z] at q ⊢; exact e a u q
  ext := Ex.new h
  fz := fun a q => by
    by_cases z : a = p
    · subst z; exact .inr h
    · rw [upd_ne z] at q; exact .inl q

section
variable (K : PySem.W.Frag) (mg : Str → Option Value)
/-- the slots: each its own -/
def Slots (B H : Hp) (σ : L2.St) (μ : Env) (S : ASet) : Prop :=
  ∃ F : Nat → ASet, (∀ i m, slot μ i = some m → ∃ v, σ[i]? = some (some v) ∧ RepM K mg B H m v (F i)) ∧ (∀ i, slot μ i = none → ∀ a, ¬ F i a) ∧
    (∀ i j a, i ≠ j → F i a → ¬ F j a) ∧ ∀ a, S a ↔ ∃ i, F i a
/-- the state: π the slots that stay bound -/
structure Stt (π : List (Nat × V)) (B H : Hp) (σ : L2.St) (μ : Env) (S : ASet) : Prop where
  sub : Ex B H
  len : σ.length = μ.length
  slots : Slots K mg B H σ μ S
  pins : ∀ p ∈ π, σ[p.1]? = some (some p.2)
variable {K mg}
variable {π : List (Nat × V)} {B H B' H' : Hp} {σ : L2.St} {μ : Env} {S : ASet}

theorem RepM.cast {m : M} {v : V} {T T' : ASet} (r : RepM K mg B H m v T) (h : ∀ a, T a ↔ T' a) : RepM K mg B H m v T' := by
  have e : T = T' := funext fun a => propext (h a)
  rw [← e]; exact r
theorem slot_lt {i : Nat} {m : M} (h : slot μ i = some m) : i < μ.length := by
  unfold slot at h
  cases e : μ[i]? with
  | none => rw [e] at h; cases h
  | some o => exact (List.getElem?_eq_some_iff.mp e).1
theorem slot_set_same {i : Nat} {o : Option M} (h : i < μ.length) : slot (μ.set i o) i = o := by
  unfold slot; rw [List.getElem?_set_self h]; rfl
theorem slot_set_ne {i j : Nat} {o : Option M} (h : i ≠ j) : slot (μ.set i o) j = slot μ j := by
  unfold slot; rw [List.getElem?_set_ne h]
theorem slot_set_none {i j : Nat} : slot (μ.set i none) j = if i = j then none else slot μ j := by
  by_cases h : i = j
  · subst h
    rw [if_pos rfl]
    by_cases hl : i < μ.length
    · exact slot_set_same hl
    · unfold slot; rw [List.getElem?_eq_none (by simpa using hl)]; rfl
  · rw [if_neg h]; exact slot_set_ne h

theorem Stt.owned (s : Stt K mg π B H σ μ S) : ∀ a, S a → H a ≠ none ∧ B a = none := fun a ha => by
  obtain ⟨F, h1, h2, h3, h4⟩ := s.slots
  obtain ⟨i, hi⟩ := (h4 a).mp ha
  cases e : slot μ i with
  | none => exact absurd hi (h2 i e a)
  | some m =>
    obtain ⟨v, _, r⟩ := h1 i m e
    exact r.owned a hi
/-- what is owned stands as it stood -/
theorem Stt.congr (s : Stt K mg π B H σ μ S) (ex : Ex B B') (sub : Ex B' H') (k : ∀ a, S a → H' a = H a ∧ B' a = none) : Stt K mg π B' H' σ μ S := by
  obtain ⟨F, h1, h2, h3, h4⟩ := s.slots
  refine ⟨sub, s.len, ⟨F, fun i m e => ?_, h2, h3, h4⟩, s.pins⟩
  obtain ⟨v, e1, r⟩ := h1 i m e
  exact ⟨v, e1, r.congr ex fun a ha => k a ((h4 a).mpr ⟨i, ha⟩)⟩
theorem Stt.pure (s : Stt K mg π B H σ μ S) (p : PStep B H B' H') : Stt K mg π B' H' σ μ S := by
  refine s.congr p.ex p.sub fun a ha => ?_
  obtain ⟨h1, h2⟩ := s.owned a ha
  refine ⟨?_, ?_⟩
  · cases e : H a with
    | none => exact absurd e h1
    | some u => exact p.ext a u e
  · cases e : B' a with
    | none => rfl
    | some u => exact absurd ((p.fz a (by rw [e]; simp)).elim (fun z => z h2) h1) id
/-- a slot's own -/
theorem Stt.get (s : Stt K mg π B H σ μ S) {i : Nat} {m : M} (e : slot μ i = some m) : ∃ v T, σ[i]? = some (some v) ∧ RepM K mg B H m v T ∧ ∀ a, T a → S a := by
  obtain ⟨F, h1, h2, h3, h4⟩ := s.slots
  obtain ⟨v, e1, r⟩ := h1 i m e
  exact ⟨v, F i, e1, r, fun a ha => (h4 a).mpr ⟨i, ha⟩⟩
theorem Stt.getD (s : Stt K mg π B H σ μ S) {i : Nat} {d : D} (e : slot μ i = some (.dat d)) : ∃ v, σ[i]? = some (some v) ∧ Rep K mg B d v := by
  obtain ⟨v, T, e1, r, _⟩ := s.get e
  exact ⟨v, e1, (repM_dat.mp r).1⟩
/-- a slot is taken out -/
theorem Stt.take (s : Stt K mg π B H σ μ S) {i : Nat} {m : M} (e : slot μ i = some m) : ∃ v T S', σ[i]? = some (some v) ∧ RepM K mg B H m v T ∧ Stt K mg π B H σ (μ.set i none) S' ∧ (∀ a, T a → ¬ S' a) ∧ ∀ a, S a ↔ S' a ∨ T a := by
  obtain ⟨F, h1, h2, h3, h4⟩ := s.slots
  obtain ⟨v, e1, r⟩ := h1 i m e
  refine ⟨v, F i, fun a => ∃ j, j ≠ i ∧ F j a, e1, r, ⟨s.sub, by rw [List.length_set]; exact s.len, ⟨fun j a => j ≠ i ∧ F j a, fun j m' e' => ?_, fun j e' a q => ?_, fun j k a n q z => h3 j k a n q.2 z.2, fun a => Iff.rfl⟩, s.pins⟩,
    fun a q ⟨j, n, z⟩ => h3 j i a n z q, fun a => ⟨fun q => ?_, fun q => ?_⟩⟩
  · rw [slot_set_none] at e'
    by_cases z : i = j
    · rw [if_pos z] at e'; cases e'
    · rw [if_neg z] at e'
      obtain ⟨v', e2, r'⟩ := h1 j m' e'
      exact ⟨v', e2, r'.cast fun a => ⟨fun q => ⟨fun w => z w.symm, q⟩, fun q => q.2⟩⟩
  · rw [slot_set_none] at e'
    by_cases z : i = j
    · exact q.1 z.symm
    · rw [if_neg z] at e'
      exact h2 j e' a q.2
  · obtain ⟨j, z⟩ := (h4 a).mp q
    by_cases w : j = i
    · subst w; exact .inr z
    · exact .inl ⟨j, w, z⟩
  · rcases q with ⟨j, _, z⟩ | z
    · exact (h4 a).mpr ⟨j, z⟩
    · exact (h4 a).mpr ⟨i, z⟩
/-- a slot is filled (what stood there is dropped) -/
theorem Stt.fill (s : Stt K mg π B H σ μ S) {i : Nat} {m : M} {v : V} {T : ASet} (hi : i < μ.length) (r : RepM K mg B H m v T) (d : ∀ a, T a → ¬ S a) (np : ∀ p ∈ π, p.1 ≠ i) :
    ∃ S', Stt K mg π B H (σ.set i (some v)) (μ.set i (some m)) S' ∧ ∀ a, S' a → S a ∨ T a := by
  obtain ⟨F, h1, h2, h3, h4⟩ := s.slots
  refine ⟨fun a => ∃ j, (j ≠ i ∧ F j a) ∨ (j = i ∧ T a), ⟨s.sub, by rw [List.length_set, List.length_set]; exact s.len, ⟨fun j a => (j ≠ i ∧ F j a) ∨ (j = i ∧ T a), fun j m' e' => ?_, fun j e' a q => ?_, fun j k a n q z => ?_, fun a => Iff.rfl⟩, fun p hp => ?_⟩, fun a ⟨j, q⟩ => ?_⟩
  · by_cases z : j = i
    · subst z
      rw [slot_set_same hi] at e'
      cases e'
      exact ⟨v, List.getElem?_set_self (by rw [s.len]; exact hi), r.cast fun a => ⟨fun q => .inr ⟨rfl, q⟩, fun q => q.elim (fun q => absurd rfl q.1) fun q => q.2⟩⟩
    · rw [slot_set_ne (fun w => z w.symm)] at e'
      obtain ⟨v', e2, r'⟩ := h1 j m' e'
      exact ⟨v', by rw [List.getElem?_set_ne (fun w => z w.symm)]; exact e2, r'.cast fun a => ⟨fun q => .inl ⟨z, q⟩, fun q => q.elim (fun q => q.2) fun q => absurd q.1 z⟩⟩
  · by_cases z : j = i
    · subst z
      rw [slot_set_same hi] at e'
      cases e'
    · rw [slot_set_ne (fun w => z w.symm)] at e'
      rcases q with q | q
      · exact h2 j e' a q.2
      · exact z q.1
  · rcases q with q | q
    · rcases z with z | z
      · exact h3 j k a n q.2 z.2
      · exact d a z.2 ((h4 a).mpr ⟨j, q.2⟩)
    · rcases z with z | z
      · exact d a q.2 ((h4 a).mpr ⟨k, z.2⟩)
      · exact n (q.1.trans z.1.symm)
  · rw [List.getElem?_set_ne (fun w => np p hp w.symm)]
    exact s.pins p hp
  · rcases q with q | q
    · exact .inl ((h4 a).mpr ⟨j, q.2⟩)
    · exact .inr q.2
theorem set_back {i : Nat} {v : V} (h : σ[i]? = some (some v)) : σ.set i (some v) = σ := by
  apply List.ext_getElem?
  intro j
  by_cases e : i = j
  · subst e
    rw [h, List.getElem?_set_self (List.getElem?_eq_some_iff.mp h).1]
  · rw [List.getElem?_set_ne e]
/-- a slot is filled with what stands at its value -/
theorem Stt.refill (s : Stt K mg π B H σ μ S) {i : Nat} {m : M} {v : V} {T : ASet} (hv : σ[i]? = some (some v)) (r : RepM K mg B H m v T) (d : ∀ a, T a → ¬ S a) :
    ∃ S', Stt K mg π B H σ (μ.set i (some m)) S' ∧ ∀ a, S' a → S a ∨ T a := by
  have s0 : Stt K mg [] B H σ μ S := ⟨s.sub, s.len, s.slots, fun p hp => nomatch hp⟩
  have hi : i < μ.length := by rw [← s.len]; exact (List.getElem?_eq_some_iff.mp hv).1
  obtain ⟨S', s1, h⟩ := s0.fill hi r d fun p hp => nomatch hp
  rw [set_back hv] at s1
  exact ⟨S', ⟨s1.sub, s1.len, s1.slots, s.pins⟩, h⟩
end

/-! ### places within -/
def kidsO : HO → List V
  | .lst vs => vs
  | .dK kvs => kvs.map (·.2)
  | .ins _ _ fs => fs.map (·.2)
  | .tup vs => vs
  | _ => []
/-- the value at a place within -/
def vAt (H : Hp) : V → List Nat → V → Prop
  | v, [], w => w = v
  | v, i :: r, w => ∃ a o v', v = .ref a ∧ H a = some o ∧ (kidsO o)[i]? = some v' ∧ vAt H v' r w
theorem vAt.mono {H H' : Hp} (e : Ex H H') : ∀ {p : List Nat} {v w : V}, vAt H v p w → vAt H' v p w
  | [], _, _, h => h
  | i :: r, _, _, h => by
    obtain ⟨a, o, v', h1, h2, h3, h4⟩ := h
    exact ⟨a, o, v', h1, e _ _ h2, h3, h4.mono e⟩
theorem vAt.det {H : Hp} : ∀ {p : List Nat} {v w w' : V}, vAt H v p w → vAt H v p w' → w = w'
  | [], _, _, _, h, h' => by rw [show _ = _ from h, show _ = _ from h']
  | i :: r, _, _, _, h, h' => by
    obtain ⟨a, o, v', h1, h2, h3, h4⟩ := h
    obtain ⟨a', o', v'', k1, k2, k3, k4⟩ := h'
    rw [h1] at k1
    cases k1
    rw [h2] at k2
    cases k2
    rw [h3] at k3
    cases k3
    exact h4.det k4
section
variable {K : PySem.W.Frag} {mg : Str → Option Value}
/-- one of some -/
theorem RepMs.at {B H : Hp} : ∀ {ms : List M} {vs : List V} {T : ASet} {i : Nat} {m : M}, RepMs K mg B H ms vs T → ms[i]? = some m →
    ∃ v Ti, vs[i]? = some v ∧ RepM K mg B H m v Ti ∧ (∀ a, Ti a → T a) ∧
      ∀ (B' H' : Hp) (m' : M) (v' : V) (T' : ASet), Ex B B' → (∀ a, T a → ¬ Ti a → H' a = H a ∧ B' a = none) → RepM K mg B' H' m' v' T' → (∀ a, T' a → T a → Ti a) →
        ∃ Tn, RepMs K mg B' H' (ms.set i m') (vs.set i v') Tn ∧ ∀ a, Tn a ↔ (T a ∧ ¬ Ti a) ∨ T' a
  | [], _, _, _, _, _, e => by simp at e
  | m0 :: ms, vs, T, 0, m, h, e => by
    simp only [List.getElem?_cons_zero, Option.some.injEq] at e
    subst e
    unfold RepMs at h
    obtain ⟨v, r, T1, T2, rfl, h1, h2, h3, h4⟩ := h
    refine ⟨v, T1, rfl, h1, fun a q => (h4 a).mpr (.inl q), fun B' H' m' v' T' ex k r' d => ?_⟩
    refine ⟨fun a => T' a ∨ T2 a, ?_, fun a => ⟨fun q => q.elim .inr fun q => .inl ⟨(h4 a).mpr (.inr q), fun z => h3 a z q⟩, fun q => q.elim (fun q => ((h4 a).mp q.1).elim (fun z => absurd z q.2) .inr) .inl⟩⟩
    show RepMs K mg B' H' (m' :: ms) (v' :: r) _
    unfold RepMs
    exact ⟨v', r, T', T2, rfl, r', h2.congr ex fun a q => k a ((h4 a).mpr (.inr q)) fun z => h3 a z q, fun a q z => h3 a (d a q ((h4 a).mpr (.inr z))) z, fun _ => Iff.rfl⟩
  | m0 :: ms, vs, T, i + 1, m, h, e => by
    simp only [List.getElem?_cons_succ] at e
    unfold RepMs at h
    obtain ⟨v, r, T1, T2, rfl, h1, h2, h3, h4⟩ := h
    obtain ⟨w, Ti, e1, rw', sub, k0⟩ := RepMs.at h2 e
    refine ⟨w, Ti, by simpa using e1, rw', fun a q => (h4 a).mpr (.inr (sub a q)), fun B' H' m' v' T' ex k r' d => ?_⟩
    obtain ⟨Tn, q1, q2⟩ := k0 B' H' m' v' T' ex (fun a z n => k a ((h4 a).mpr (.inr z)) n) r' fun a z w => d a z ((h4 a).mpr (.inr w))
    refine ⟨fun a => T1 a ∨ Tn a, ?_, fun a => ?_⟩
    · show RepMs K mg B' H' (m0 :: ms.set i m') (v :: r.set i v') _
      unfold RepMs
      refine ⟨v, r.set i v', T1, Tn, rfl, h1.congr ex fun a q => k a ((h4 a).mpr (.inl q)) fun z => h3 a q (sub a z), q1, fun a q z => ?_, fun _ => Iff.rfl⟩
      rcases (q2 a).mp z with ⟨z, _⟩ | z
      · exact h3 a q z
      · exact h3 a q (sub a (d a z ((h4 a).mpr (.inl q))))
    · show (T1 a ∨ Tn a) ↔ _
      rw [h4, q2]
      refine ⟨fun q => q.elim (fun q => .inl ⟨.inl q, fun z => h3 a q (sub a z)⟩) fun q => q.elim (fun q => .inl ⟨.inr q.1, q.2⟩) .inr, fun q => q.elim (fun q => q.1.elim .inl fun z => .inr (.inl ⟨z, q.2⟩)) fun z => .inr (.inr z)⟩

theorem map_snd_zip {α : Type} : ∀ {ks : List α} {vs : List V}, ks.length = vs.length → (ks.zip vs).map (·.2) = vs
  | [], [], _ => rfl
  | k :: ks, v :: vs, h => by
    show v :: (ks.zip vs).map (·.2) = v :: vs
    rw [map_snd_zip (by simpa using h)]
theorem ObjAt.kids {H : Hp} {m : M} {a : Addr} {vs : List V} (h : ObjAt mg H m a vs) : ∃ o, H a = some o ∧ kidsO o = vs := by
  cases m with
  | dat d => exact h.elim
  | lst ms => exact ⟨_, h, rfl⟩
  | dct ks ms => exact ⟨_, h.1, map_snd_zip h.2⟩
  | ins c ks ms =>
    obtain ⟨⟨C, dx, _, e⟩, l⟩ := h
    exact ⟨_, e, map_snd_zip l⟩
  | tup ms => exact ⟨_, h, rfl⟩
theorem M.kids_dat {d : D} : (M.dat d).kids = [] := rfl
theorem ObjAt.put {H : Hp} {m : M} {a : Addr} {vs : List V} {i : Nat} {x : M} {v : V} (h : ObjAt mg H m a vs) (e : vs[i]? = some v) : ObjAt mg H (m.setKid i x) a (vs.set i v) := by
  have q : vs.set i v = vs := by
    apply List.ext_getElem?
    intro j
    by_cases w : i = j
    · subst w; rw [e, List.getElem?_set_self (List.getElem?_eq_some_iff.mp e).1]
    · rw [List.getElem?_set_ne w]
  rw [q]
  cases m with
  | dat d => exact h
  | lst ms => exact h
  | dct ks ms => exact h
  | ins c ks ms => exact h
  | tup ms => exact h
theorem M.isDat_setKid {m : M} {i : Nat} {x : M} : (m.setKid i x).isDat = m.isDat := by cases m <;> rfl
theorem M.kids_setKid {m : M} {i : Nat} {x : M} : (m.setKid i x).kids = m.kids.set i x := by cases m <;> rfl
/-- what stands within, and what comes of another thing there -/
theorem RepM.at {B H : Hp} : ∀ (p : List Nat) {m : M} {v : V} {T : ASet} {m1 : M}, RepM K mg B H m v T → m.at p = some m1 →
    ∃ v1 T1, RepM K mg B H m1 v1 T1 ∧ (∀ a, T1 a → T a) ∧ vAt H v p v1 ∧
      ∀ (B' H' : Hp) (m' : M) (T' : ASet), Ex B B' → (∀ a, T a → ¬ T1 a → H' a = H a ∧ B' a = none) → RepM K mg B' H' m' v1 T' → (∀ a, T' a → T a → T1 a) →
        ∃ Tn, RepM K mg B' H' (m.put p m') v Tn ∧ ∀ a, Tn a ↔ (T a ∧ ¬ T1 a) ∨ T' a
  | [], m, v, T, m1, h, e => by
    have e' : m = m1 := by simpa [M.at] using e
    subst e'
    refine ⟨v, T, h, fun _ q => q, rfl, fun B' H' m' T' _ _ r _ => ⟨T', ?_, fun a => ⟨.inr, fun q => q.elim (fun z => absurd z.1 z.2) id⟩⟩⟩
    have q : m.put [] m' = m' := by unfold M.put; rfl
    rw [q]; exact r
  | i :: p, m, v, T, m1, h, e => by
    unfold M.at at e
    cases ek : m.kids[i]? with
    | none => rw [ek] at e; cases e
    | some k =>
      rw [ek] at e
      have e : k.at p = some m1 := e
      have nd : m.isDat = false := by
        cases m with
        | dat d => simp [M.kids] at ek
        | lst ms => rfl
        | dct ks ms => rfl
        | ins c ks ms => rfl
        | tup ms => rfl
      obtain ⟨a, vs, U, hv, ho, hb, hk, hu, ht⟩ := (repM_node nd).mp h
      obtain ⟨w, Ti, e1, rk, sub, put1⟩ := hk.at ek
      obtain ⟨v1, T1, r1, sub1, va, put2⟩ := RepM.at p rk e
      obtain ⟨o, ho1, ho2⟩ := ho.kids
      have sT : ∀ a, Ti a → T a := fun b q => (ht b).mpr (.inr (sub b q))
      refine ⟨v1, T1, r1, fun b q => sT b (sub1 b q), ⟨a, o, w, hv, ho1, by rw [ho2]; exact e1, va⟩, fun B' H' m' T' ex keep r' d => ?_⟩
      obtain ⟨Tn, q1, q2⟩ := put2 B' H' m' T' ex (fun b z n => keep b (sT b z) n) r' fun b z w => d b z (sT b w)
      obtain ⟨Tm, q3, q4⟩ := put1 B' H' (k.put p m') w Tn ex (fun b z n => keep b ((ht b).mpr (.inr z)) fun z' => n (sub1 b z')) q1 fun b z w => ((q2 b).mp z).elim (fun z => z.1) fun z => sub1 b (d b z ((ht b).mpr (.inr w)))
      have na : ¬ Ti a := fun z => hu (sub a z)
      have ka := keep a ((ht a).mpr (.inl rfl)) fun z => na (sub1 a z)
      have nTn : ¬ Tm a := fun z => by
        rcases (q4 a).mp z with z | z
        · exact hu z.1
        · rcases (q2 a).mp z with z | z
          · exact na z.1
          · exact na (sub1 a (d a z ((ht a).mpr (.inl rfl))))
      have ep : m.put (i :: p) m' = m.setKid i (k.put p m') := by
        show (match m.kids[i]? with | some k => m.setKid i (k.put p m') | none => m) = _
        rw [ek]
      rw [ep]
      refine ⟨fun b => b = a ∨ Tm b, (repM_node (by rw [M.isDat_setKid]; exact nd)).mpr ⟨a, vs.set i w, Tm, hv, (ho.congr ka.1).put e1, ka.2, by rw [M.kids_setKid]; exact q3, nTn, fun _ => Iff.rfl⟩, fun b => ?_⟩
      show (b = a ∨ Tm b) ↔ _
      rw [q4, q2, ht]
      refine ⟨fun q => ?_, fun q => ?_⟩
      · rcases q with rfl | q | q | q
        · exact .inl ⟨.inl rfl, fun z => na (sub1 b z)⟩
        · exact .inl ⟨.inr q.1, fun z => q.2 (sub1 b z)⟩
        · exact .inl ⟨.inr (sub b q.1), q.2⟩
        · exact .inr q
      · rcases q with ⟨rfl | z, n⟩ | q
        · exact .inl rfl
        · by_cases w : Ti b
          · exact .inr (.inr (.inl ⟨w, n⟩))
          · exact .inr (.inl ⟨z, w⟩)
        · exact .inr (.inr (.inr q))

variable {π : List (Nat × V)} {B H : Hp} {σ : L2.St} {μ : Env} {S : ASet}
/-- what stands at a place, and what comes of another thing there -/
theorem Stt.at (s : Stt K mg π B H σ μ S) {p : Pl} {m1 : M} (e : atPl μ p = some m1) :
    ∃ v1 T1, RepM K mg B H m1 v1 T1 ∧ (∀ a, T1 a → S a) ∧ (∃ v0, σ[p.1]? = some (some v0) ∧ vAt H v0 p.2 v1) ∧
      ∀ (B' H' : Hp) (m' : M) (T' : ASet), Ex B B' → Ex B' H' → (∀ a, S a → ¬ T1 a → H' a = H a ∧ B' a = none) → RepM K mg B' H' m' v1 T' → (∀ a, T' a → S a → T1 a) →
        ∃ S', Stt K mg π B' H' σ (putPl μ p m') S' ∧ ∀ a, S' a → (S a ∧ ¬ T1 a) ∨ T' a := by
  unfold atPl at e
  cases es : slot μ p.1 with
  | none => rw [es] at e; cases e
  | some m =>
    rw [es] at e
    have e : m.at p.2 = some m1 := e
    obtain ⟨v, T, S0, hv, r, s0, dj, hS⟩ := s.take es
    obtain ⟨v1, T1, r1, sub1, va, put1⟩ := r.at p.2 e
    refine ⟨v1, T1, r1, fun a q => (hS a).mpr (.inr (sub1 a q)), ⟨v, hv, va⟩, fun B' H' m' T' ex sub keep r' d => ?_⟩
    obtain ⟨Tn, q1, q2⟩ := put1 B' H' m' T' ex (fun a z n => keep a ((hS a).mpr (.inr z)) n) r' fun a z w => d a z ((hS a).mpr (.inr w))
    have s1 : Stt K mg π B' H' σ (μ.set p.1 none) S0 := s0.congr ex sub fun a q => keep a ((hS a).mpr (.inl q)) fun z => dj a (sub1 a z) q
    obtain ⟨S', s2, h2⟩ := s1.refill hv q1 fun a z w => by
      rcases (q2 a).mp z with z | z
      · exact dj a z.1 w
      · exact dj a (sub1 a (d a z ((hS a).mpr (.inl w)))) w
    rw [List.set_set] at s2
    have ep : putPl μ p m' = μ.set p.1 (some (m.put p.2 m')) := by unfold putPl; rw [es]
    rw [ep]
    refine ⟨S', s2, fun a q => ?_⟩
    rcases h2 a q with z | z
    · exact .inl ⟨(hS a).mpr (.inl z), fun w => dj a (sub1 a w) z⟩
    · exact ((q2 a).mp z).imp (fun z => ⟨(hS a).mpr (.inr z.1), z.2⟩) id
end
end Mi
/-! Mi4: expressions: what they come to is what the machine comes to. -/
namespace Mi
open PySem L2

/-! ### behind a piece of code -/
section
variable (K : PySem.W.Frag) (mg : Str → Option Value)
def Post {α β : Type} (pu : Bool) (Rl : Hp → Hp → α → β → ASet → Prop) (π : List (Nat × V)) (B H : Hp) (S : ASet) (σ : L2.St) (W : WX) (Q : β → Hp → Prop) : Out α → Prop
  | .stuck => False
  | .err c μ' => ∀ B' H' S', Stt K mg π B' H' σ μ' S' → Step B H S B' H' S' → ∀ C, mg c = some (.ref C) → W (.ref C) none σ H'
  | .ok a μ' => ∀ v B' H' S' T, Stt K mg π B' H' σ μ' S' → Rl B' H' a v T → (∀ x, T x → ¬ S' x) → Step B H S B' H' (fun x => S' x ∨ T x) → (pu = true → Ex H H') → Q v H'
variable {K mg}
theorem Post.mono {α β : Type} {pu : Bool} {Rl : Hp → Hp → α → β → ASet → Prop} {π : List (Nat × V)} {B H B1 H1 : Hp} {S S1 T : ASet} {σ : L2.St} {W : WX} {Q : β → Hp → Prop} {o : Out α}
    (h : Post K mg pu Rl π B H S σ W Q o) (x : Step B H S B1 H1 T) (hs : ∀ a, S1 a → T a) (hu : pu = true → Ex H H1) : Post K mg pu Rl π B1 H1 S1 σ W Q o := by
  cases o with
  | stuck => exact h
  | err c μ' => exact fun B' H' S' s y C hC => h B' H' S' s (x.trans (y.weak hs fun _ q => q)) C hC
  | ok a μ' => exact fun v B' H' S' T' s r d y u => h v B' H' S' T' s r d (x.trans (y.weak hs fun _ q => q)) fun q => (hu q).trans (u q)
end
theorem Post.pu {K : PySem.W.Frag} {mg : Str → Option Value} {α β : Type} {pu pu' : Bool} {Rl : Hp → Hp → α → β → ASet → Prop} {π : List (Nat × V)} {B H : Hp} {S : ASet} {σ : L2.St} {W : WX} {Q : β → Hp → Prop} {o : Out α}
    (h : Post K mg pu Rl π B H S σ W Q o) (k : pu = true → pu' = true) : Post K mg pu' Rl π B H S σ W Q o := by
  cases o with
  | stuck => exact h
  | err c μ' => exact h
  | ok a μ' => exact fun v B' H' S' T' s r d y u => h v B' H' S' T' s r d y fun q => u (k q)
/-- the pins are of these slots -/
def PinOf (π : List (Nat × V)) (pin : List Nat) : Prop := ∀ p ∈ π, p.1 ∈ pin
abbrev RM (K : PySem.W.Frag) (mg : Str → Option Value) : Hp → Hp → M → V → ASet → Prop := fun B H m v T => RepM K mg B H m v T
abbrev RMs (K : PySem.W.Frag) (mg : Str → Option Value) : Hp → Hp → List M → List V → ASet → Prop := fun B H m v T => RepMs K mg B H m v T
section
variable (K : PySem.W.Frag) (mg : Str → Option Value) (C : Nat → List M → CR) (pin : List Nat)
def tE (e : E) (W : WX) : TE := fun σ H Q => ∃ π B μ S, PinOf π pin ∧ Stt K mg π B H σ μ S ∧ Post K mg e.pure (RM K mg) π B H S σ W Q (evalE C pin e μ)
def tEs (es : Es) (W : WX) : TA := fun σ H Q => ∃ π B μ S, PinOf π pin ∧ Stt K mg π B H σ μ S ∧ Post K mg es.pure (RMs K mg) π B H S σ W Q (evalEs C pin es μ)
def tB' (Q : Bool → Hp → Prop) : V → Hp → Prop := fun v H => ∃ b, v = .bl b ∧ Q b H
def tT (e : E) (W : WX) : TT := fun σ H Q => tE K mg C pin e W σ H (fun v H' => ∃ b, v = .bl b ∧ Q b H')
/-- something new that holds this -/
def Fresh (B : Hp) (d : D) (o : HO) : Prop := (∃ ds vs, d = .lst ds ∧ o = .lst vs ∧ RepL K mg B ds vs) ∨ (∃ ks ds vs, d = .dct ks ds ∧ o = .dK (ks.zip vs) ∧ ks.length = vs.length ∧ RepL K mg B ds vs)
def PostF (pu : Bool) (π : List (Nat × V)) (B H : Hp) (S : ASet) (σ : L2.St) (W : WX) (Q : VK) : Out M → Prop
  | .ok (.dat d) μ' => ∀ p o B' H' S', Stt K mg π B' H' σ μ' S' → Step B H S B' H' S' → (pu = true → Ex H H') → H' p = none → Fresh K mg B' d o → Q (.ref p) (upd H' p o)
  | .ok _ _ => True
  | .stuck => False
  | .err c μ' => ∀ B' H' S', Stt K mg π B' H' σ μ' S' → Step B H S B' H' S' → ∀ C, mg c = some (.ref C) → W (.ref C) none σ H'
def tF (e : E) (W : WX) : TE := fun σ H Q => ∃ π B μ S, PinOf π pin ∧ Stt K mg π B H σ μ S ∧ PostF K mg e.pure π B H S σ W Q (evalE C pin e μ)
end

theorem PE.imp {X : Cx} {e : Expr} {t t' : TE} (h : PE X e t) (k : ∀ σ H Q, t' σ H Q → t σ H Q) : PE X e t' := ⟨fun pins s σ H Q I q => h.run pins s σ H Q I (k σ H Q q)⟩
theorem PT.imp {X : Cx} {e : Expr} {t t' : TT} (h : PT X e t) (k : ∀ σ H Q, t' σ H Q → t σ H Q) : PT X e t' := ⟨fun pins s σ H Q I q => h.run pins s σ H Q I (k σ H Q q)⟩
theorem PA.imp {X : Cx} {e : List Expr} {t t' : TA} (h : PA X e t) (k : ∀ σ H Q, t' σ H Q → t σ H Q) : PA X e t' := ⟨fun pos pins s σ H Q I q => h.run pos pins s σ H Q I (k σ H Q q)⟩

/-- the calls and the pins of a body -/
structure Bd where
  C : Nat → List M → CR
  pin : List Nat
  sub : Str → Str → Bool
  N : Nat
abbrev Bd.tE (b : Bd) (X : Cx) (e : E) (W : WX) : TE := Mi.tE X.K X.mg b.C b.pin e W
abbrev Bd.tEs (b : Bd) (X : Cx) (e : Es) (W : WX) : TA := Mi.tEs X.K X.mg b.C b.pin e W
abbrev Bd.tT (b : Bd) (X : Cx) (e : E) (W : WX) : TT := Mi.tT X.K X.mg b.C b.pin e W
abbrev Bd.tF (b : Bd) (X : Cx) (e : E) (W : WX) : TE := Mi.tF X.K X.mg b.C b.pin e W
/-- an expression does as e says -/
def ME (b : Bd) (X : Cx) (x : Expr) (e : E) : Prop := ∀ W, Takes X W → PE X x (b.tE X e W)
def MEs (b : Bd) (X : Cx) (x : List Expr) (e : Es) : Prop := ∀ W, Takes X W → PA X x (b.tEs X e W)
def MT (b : Bd) (X : Cx) (x : Expr) (e : E) : Prop := ∀ W, Takes X W → PT X x (b.tT X e W)
def MF (b : Bd) (X : Cx) (x : Expr) (e : E) : Prop := ∀ W, Takes X W → PE X x (b.tF X e W)

section
variable {K : PySem.W.Frag} {mg : Str → Option Value} {C : Nat → List M → CR} {pin : List Nat}
variable {π : List (Nat × V)} {B H : Hp} {σ : L2.St} {μ : Env} {S : ASet} {W : WX}
/-- an expression ahead of more -/
theorem bindE {β γ : Type} {pu : Bool} {Rl : Hp → Hp → β → γ → ASet → Prop} {e : E} {k : M → Env → Out β} {Q' : γ → Hp → Prop} {Q : VK} (hp : PinOf π pin) (s : Stt K mg π B H σ μ S)
    (h : Post K mg pu Rl π B H S σ W Q' ((evalE C pin e μ).bind k)) (hu : pu = true → e.pure = true)
    (hk : ∀ m μ1 v B1 H1 S1 T, Stt K mg π B1 H1 σ μ1 S1 → RepM K mg B1 H1 m v T → (∀ x, T x → ¬ S1 x) → Step B H S B1 H1 (fun x => S1 x ∨ T x) → Post K mg pu Rl π B1 H1 S1 σ W Q' (k m μ1) → Post K mg pu Rl π B1 H1 (fun x => S1 x ∨ T x) σ W Q' (k m μ1) → (e.pure = true → Ex H H1) → Q v H1) : tE K mg C pin e W σ H Q := by
  refine ⟨π, B, μ, S, hp, s, ?_⟩
  cases q : evalE C pin e μ with
  | stuck => rw [q] at h; exact h
  | err c μ' => rw [q] at h; exact h
  | ok m μ1 =>
    rw [q] at h
    have h : Post K mg pu Rl π B H S σ W Q' (k m μ1) := h
    exact fun v B' H' S' T s' r d x u => hk m μ1 v B' H' S' T s' r d x (h.mono x (fun _ z => .inl z) fun q => u (hu q)) (h.mono x (fun _ z => z) fun q => u (hu q)) u
theorem bindEs {β γ : Type} {pu : Bool} {Rl : Hp → Hp → β → γ → ASet → Prop} {e : Es} {k : List M → Env → Out β} {Q' : γ → Hp → Prop} {Q : List V → Hp → Prop} (hp : PinOf π pin) (s : Stt K mg π B H σ μ S)
    (h : Post K mg pu Rl π B H S σ W Q' ((evalEs C pin e μ).bind k)) (hu : pu = true → e.pure = true)
    (hk : ∀ m μ1 v B1 H1 S1 T, Stt K mg π B1 H1 σ μ1 S1 → RepMs K mg B1 H1 m v T → (∀ x, T x → ¬ S1 x) → Step B H S B1 H1 (fun x => S1 x ∨ T x) → Post K mg pu Rl π B1 H1 S1 σ W Q' (k m μ1) → Post K mg pu Rl π B1 H1 (fun x => S1 x ∨ T x) σ W Q' (k m μ1) → (e.pure = true → Ex H H1) → Q v H1) : tEs K mg C pin e W σ H Q := by
  refine ⟨π, B, μ, S, hp, s, ?_⟩
  cases q : evalEs C pin e μ with
  | stuck => rw [q] at h; exact h
  | err c μ' => rw [q] at h; exact h
  | ok m μ1 =>
    rw [q] at h
    have h : Post K mg pu Rl π B H S σ W Q' (k m μ1) := h
    exact fun v B' H' S' T s' r d x u => hk m μ1 v B' H' S' T s' r d x (h.mono x (fun _ z => .inl z) fun q => u (hu q)) (h.mono x (fun _ z => z) fun q => u (hu q)) u
theorem onDat_dat {γ : Type} {pu : Bool} {Rl : Hp → Hp → M → γ → ASet → Prop} {k : D → Env → Out M} {m : M} {Q' : γ → Hp → Prop} (h : Post K mg pu Rl π B H S σ W Q' (onDat k m μ)) : ∃ d, m = .dat d ∧ Post K mg pu Rl π B H S σ W Q' (k d μ) := by
  cases m with
  | dat d => exact ⟨d, rfl, h⟩
  | lst _ => exact False.elim h
  | dct _ _ => exact False.elim h
  | ins _ _ _ => exact False.elim h
  | tup _ => exact False.elim h
theorem outD_some {γ : Type} {pu : Bool} {Rl : Hp → Hp → M → γ → ASet → Prop} {o : Option D} {Q' : γ → Hp → Prop} (h : Post K mg pu Rl π B H S σ W Q' (outD o μ)) : ∃ d, o = some d ∧ Post K mg pu Rl π B H S σ W Q' (.ok (.dat d) μ) := by
  cases o with
  | none => exact False.elim h
  | some d => exact ⟨d, rfl, h⟩
/-- a frozen answer -/
theorem Post.done {pu : Bool} {d : D} {Q : VK} {v : V} {B' H' : Hp} (h : Post K mg pu (RM K mg) π B H S σ W Q (.ok (.dat d) μ)) (s : Stt K mg π B H σ μ S) (p : PStep B H B' H') (r : Rep K mg B' d v) : Q v H' :=
  h v B' H' S (fun _ => False) (s.pure p) (repM_dat.mpr ⟨r, fun _ z => z⟩) (fun _ z => z.elim) ((p.step S).weak (fun _ z => z) fun _ z => z.elim id False.elim) fun _ => p.ext
end

/-! ### names, constants -/
section
variable {b : Bd} {X : Cx} {x y : Expr} {e e' : E} {pos : Pos}
theorem me_var {i : Nat} {n : Str} (hN : X.N[i]? = some n) (hv : Vis X.env.scope n) (hd : (n == ("__debug__" : Str)) = false := by decide) (hcd : (n == ("__classdict__" : Str)) = false := by decide) : ME b X (.Name n pos) (.var i) := fun W tk =>
  PE.imp (pe_var hN hv hd hcd) fun σ H Q ⟨π, B, μ, S, hp, s, h⟩ => by
    unfold evalE at h
    split at h
    · rename_i d hs
      obtain ⟨v, e1, r⟩ := s.getD hs
      exact ⟨v, e1, h.done s (PStep.refl s.sub) r⟩
    · exact False.elim h
/-- a name's object goes -/
theorem me_mov {i : Nat} {n : Str} (hN : X.N[i]? = some n) (hv : Vis X.env.scope n) (hd : (n == ("__debug__" : Str)) = false := by decide) (hcd : (n == ("__classdict__" : Str)) = false := by decide) : ME b X (.Name n pos) (.mov i) := fun W tk =>
  PE.imp (pe_var hN hv hd hcd) fun σ H Q ⟨π, B, μ, S, hp, s, h⟩ => by
    unfold evalE at h
    split at h
    · rename_i m hs
      obtain ⟨v, T, S', e1, r, s', dj, hS⟩ := s.take hs
      exact ⟨v, e1, h v B H S' T s' r dj ((Step.refl B H S).weak (fun _ z => z) fun a z => (hS a).mpr z) fun q => nomatch q⟩
    · exact False.elim h
/-- what evaluates to data at once -/
theorem me_con {d : D} {v : V} {t : TE} (h : PE X x t) (ht : ∀ σ H (Q : VK), Q v H → t σ H Q) (hr : ∀ B, Rep X.K X.mg B d v) : ME b X x (.con d) := fun W tk =>
  PE.imp h fun σ H Q ⟨π, B, μ, S, hp, s, h⟩ => ht σ H Q (by
    unfold evalE at h
    exact h.done s (PStep.refl s.sub) (hr B))
theorem me_int {i : Int} {j} : ME b X (.Constant (.int i) j pos) (.con (.int i)) := me_con pe_int (fun _ _ _ q => q) fun B => by unfold Rep; rfl
theorem me_str {i : Str} {j} : ME b X (.Constant (.str i) j pos) (.con (.str i)) := me_con pe_str (fun _ _ _ q => q) fun B => by unfold Rep; rfl
theorem me_bl {i : Bool} {j} : ME b X (.Constant (.bool i) j pos) (.con (.bl i)) := me_con pe_bl (fun _ _ _ q => q) fun B => by unfold Rep; rfl
theorem me_non {j} : ME b X (.Constant .none j pos) (.con .non) := me_con pe_non (fun _ _ _ q => q) fun B => by unfold Rep; rfl
/-- a module's constant -/
theorem me_glob {n : Str} {d : D} {v : V} {u : Value} (hg : Gl X n) (hm : X.mg n = some u) (r : RelV v u) (hr : ∀ B, Rep X.K X.mg B d v) (hd : (n == ("__debug__" : Str)) = false := by decide) : ME b X (.Name n pos) (.con d) :=
  me_con (pe_glob hg hm r hd) (fun _ _ _ q => q) hr

/-! ### operators -/
/-- f tells what the operation comes to on data -/
def Imp2 (K : PySem.W.Frag) (mg : Str → Option Value) (f : D → D → Option D) (r : R2) : Prop :=
  ∀ (B H : Hp) (x y : V) (d1 d2 d3 : D) (Q : VK), Ex B H → Rep K mg B d1 x → Rep K mg B d2 y → f d1 d2 = some d3 → (∀ v B' H', PStep B H B' H' → Rep K mg B' d3 v → Q v H') → r x y H Q
def Imp2F (K : PySem.W.Frag) (mg : Str → Option Value) (f : D → D → Option D) (r : R2) : Prop :=
  ∀ (B H : Hp) (x y : V) (d1 d2 d3 : D) (Q : VK), Ex B H → Rep K mg B d1 x → Rep K mg B d2 y → f d1 d2 = some d3 → (∀ p o, H p = none → Fresh K mg B d3 o → Q (.ref p) (upd H p o)) → r x y H Q
def Imp1 (K : PySem.W.Frag) (mg : Str → Option Value) (f : D → Option D) (r : V → Hp → VK → Prop) : Prop :=
  ∀ (B H : Hp) (x : V) (d1 d3 : D) (Q : VK), Ex B H → Rep K mg B d1 x → f d1 = some d3 → (∀ v B' H', PStep B H B' H' → Rep K mg B' d3 v → Q v H') → r x H Q
def ImpN (K : PySem.W.Frag) (mg : Str → Option Value) (f : List D → Option D) (r : List V → Hp → VK → Prop) : Prop :=
  ∀ (B H : Hp) (xs : List V) (ds : List D) (d3 : D) (Q : VK), Ex B H → RepL K mg B ds xs → f ds = some d3 → (∀ v B' H', PStep B H B' H' → Rep K mg B' d3 v → Q v H') → r xs H Q
def ImpNF (K : PySem.W.Frag) (mg : Str → Option Value) (f : List D → Option D) (r : List V → Hp → VK → Prop) : Prop :=
  ∀ (B H : Hp) (xs : List V) (ds : List D) (d3 : D) (Q : VK), Ex B H → RepL K mg B ds xs → f ds = some d3 → (∀ p o, H p = none → Fresh K mg B d3 o → Q (.ref p) (upd H p o)) → r xs H Q
theorem Fresh.rep {K : PySem.W.Frag} {mg : Str → Option Value} {B B' : Hp} {d : D} {o : HO} {p : Addr} (h : Fresh K mg B d o) (e : Ex B B') (hp : B' p = some o) : Rep K mg B' d (.ref p) := by
  rcases h with ⟨ds, vs, rfl, rfl, r⟩ | ⟨ks, ds, vs, rfl, rfl, l, r⟩
  · unfold Rep; exact ⟨p, vs, rfl, .inl (.inl hp), r.mono e⟩
  · unfold Rep; exact ⟨p, vs, rfl, .inl hp, l, r.mono e⟩
theorem Imp2F.imp {K : PySem.W.Frag} {mg : Str → Option Value} {f : D → D → Option D} {r : R2} (h : Imp2F K mg f r) : Imp2 K mg f r := fun B H x y d1 d2 d3 Q e r1 r2 hf k =>
  h B H x y d1 d2 d3 Q e r1 r2 hf fun p o hp fr => k _ _ _ (PStep.new e o hp) (fr.rep (Ex.new (e.none hp)) upd_same)
theorem ImpNF.imp {K : PySem.W.Frag} {mg : Str → Option Value} {f : List D → Option D} {r : List V → Hp → VK → Prop} (h : ImpNF K mg f r) : ImpN K mg f r := fun B H xs ds d3 Q e r1 hf k =>
  h B H xs ds d3 Q e r1 hf fun p o hp fr => k _ _ _ (PStep.new e o hp) (fr.rep (Ex.new (e.none hp)) upd_same)

variable {ex ey : E} {f : D → D → Option D} {g : D → Option D} {fN : List D → Option D} {r : R2}
/-- two operands, then an operation on data -/
theorem two_imp {W : WX} {σ : L2.St} {H : Hp} {Q : VK} (hf : Imp2 X.K X.mg f r) (h : b.tE X (.op2 f ex ey) W σ H Q) : tOp r (b.tE X ex W) (b.tE X ey W) σ H Q := by
  obtain ⟨π, B, μ, S, hp, s, h⟩ := h
  unfold evalE at h
  refine bindE hp s h (fun q => ((Bool.and_eq_true _ _).mp q).1) fun m μ1 v B1 H1 S1 T s1 r1 _ x1 h1 _ _ => ?_
  obtain ⟨d1, rfl, h1⟩ := onDat_dat h1
  refine bindE hp s1 h1 (fun q => ((Bool.and_eq_true _ _).mp q).2) fun m2 μ2 v2 B2 H2 S2 T2 s2 r2 _ x2 h2 _ _ => ?_
  obtain ⟨d2, rfl, h2⟩ := onDat_dat h2
  obtain ⟨d3, hd, h3⟩ := outD_some h2
  exact hf B2 H2 v v2 d1 d2 d3 Q s2.sub ((repM_dat.mp r1).1.mono x2.ex) (repM_dat.mp r2).1 hd fun w B' H' p rw' => h3.done s2 p rw'
theorem me_op {op : Operator} (ho : OpR X (binaryOp op) r) (hf : Imp2 X.K X.mg f r) (hx : ME b X x ex) (hy : ME b X y ey) : ME b X (.BinOp x op y pos) (.op2 f ex ey) := fun W tk =>
  PE.imp (pe_op ho (hx W tk) (hy W tk)) fun σ H Q h => two_imp hf h
theorem me_cmp {op : CmpOp} (ho : OpR X (compareOp op) r) (hf : Imp2 X.K X.mg f r) (hx : ME b X x ex) (hy : ME b X y ey) (hm : behindInMarks op y = false) : ME b X (.Compare x [op] [y] pos) (.op2 f ex ey) := fun W tk =>
  PE.imp (pe_cmpR ho (hx W tk) (hy W tk) hm) fun σ H Q h => two_imp hf h
theorem mt_cmp {op : CmpOp} (ho : OpR X (compareOp op) r) (hf : Imp2 X.K X.mg f r) (hx : ME b X x ex) (hy : ME b X y ey) (hm : behindInMarks op y = false) : MT b X (.Compare x [op] [y] pos) (.op2 f ex ey) := fun W tk =>
  PT.imp (pt_cmpR ho (hx W tk) (hy W tk) hm) fun σ H Q h => two_imp hf h
theorem me_ix (ho : IxR X r) (hf : Imp2 X.K X.mg f r) (hx : ME b X x ex) (hy : ME b X y ey) (hs : PlainIx y) : ME b X (.Subscript x y pos) (.op2 f ex ey) := fun W tk =>
  PE.imp (pe_ix ho (hx W tk) (hy W tk) hs) fun σ H Q h => two_imp hf h
theorem one_imp {ru : V → Hp → VK → Prop} {W : WX} {σ : L2.St} {H : Hp} {Q : VK} (hf : Imp1 X.K X.mg g ru) (h : b.tE X (.op1 g ex) W σ H Q) : tUn ru (b.tE X ex W) σ H Q := by
  obtain ⟨π, B, μ, S, hp, s, h⟩ := h
  unfold evalE at h
  refine bindE hp s h (fun q => q) fun m μ1 v B1 H1 S1 T s1 r1 _ x1 h1 _ _ => ?_
  obtain ⟨d1, rfl, h1⟩ := onDat_dat h1
  obtain ⟨d3, hd, h3⟩ := outD_some h1
  exact hf B1 H1 v d1 d3 Q s1.sub (repM_dat.mp r1).1 hd fun w B' H' p rw' => h3.done s1 p rw'
theorem me_un {op : UnaryOp} {ru : V → Hp → VK → Prop} (ho : UnR X (unaryOp op) ru) (hf : Imp1 X.K X.mg g ru) (hx : ME b X x ex) : ME b X (.UnaryOp op x pos) (.op1 g ex) := fun W tk =>
  PE.imp (pe_un ho (hx W tk)) fun σ H Q h => one_imp hf h

/-! ### argument lists -/
theorem mes_nil : MEs b X [] .nil := fun W tk => PA.imp pa_nil fun σ H Q ⟨π, B, μ, S, hp, s, h⟩ => by
  unfold evalEs at h
  exact h [] B H S (fun _ => False) s (by unfold RMs RepMs; exact ⟨rfl, fun _ z => z⟩) (fun _ z => z.elim) ((Step.refl B H S).weak (fun _ z => z) fun _ z => z.elim id False.elim) fun _ => Ex.refl H
theorem mes_cons {xs : List Expr} {es : Es} (hx : ME b X x e) (hr : MEs b X xs es) (hs : starEach (x :: xs) X.env = (false, eval x X.env) :: starEach xs X.env := by rfl) : MEs b X (x :: xs) (.cons e es) := fun W tk =>
  PA.imp (pa_cons (hx W tk) (hr W tk) hs) fun σ H Q ⟨π, B, μ, S, hp, s, h⟩ => by
    unfold evalEs at h
    refine bindE hp s h (fun q => ((Bool.and_eq_true _ _).mp q).1) fun m μ1 v B1 H1 S1 T s1 r1 d1 x1 h1 h1' _ => ?_
    refine ⟨π, B1, μ1, S1, hp, s1, ?_⟩
    cases q : evalEs b.C b.pin es μ1 with
    | stuck => rw [q] at h1; exact h1
    | err c μ' => rw [q] at h1; exact h1
    | ok ms μ2 =>
      rw [q] at h1'
      intro vs B2 H2 S2 U s2 r2 d2 x2 u2
      have ap : ∀ a, T a → ¬ (S2 a ∨ U a) ∧ B2 a = none ∧ H2 a = H1 a := fun a q => x2.apart (d1 a q) (r1.owned a q).1 (r1.owned a q).2
      refine h1' (v :: vs) B2 H2 S2 (fun a => T a ∨ U a) s2 ?_ (fun a z => z.elim (fun z w => (ap a z).1 (.inl w)) (d2 a)) ?_ ?_
      · unfold RMs RepMs
        exact ⟨v, vs, T, U, rfl, r1.congr (fun a o q => x2.ex a o q) fun a q => ⟨(ap a q).2.2, (ap a q).2.1⟩, r2, fun a q z => (ap a q).1 (.inr z), fun _ => Iff.rfl⟩
      · exact (x2.frame (F := T) fun a q => ⟨d1 a q, (r1.owned a q).1⟩).weak (fun _ z => z) fun a z => z.elim (fun z => .inl (.inl z)) fun z => z.elim .inr fun z => .inl (.inr z)
      · exact fun q => u2 ((Bool.and_eq_true _ _).mp q).2
/-- data alone -/
theorem datsOf_rep {K : PySem.W.Frag} {mg : Str → Option Value} {B H : Hp} : ∀ {ms : List M} {vs : List V} {T : ASet} {ds : List D}, datsOf ms = some ds → RepMs K mg B H ms vs T → RepL K mg B ds vs ∧ ∀ a, ¬ T a
  | [], vs, T, ds, e, h => by
    unfold datsOf at e
    cases e
    unfold RepMs at h
    unfold RepL
    exact ⟨h.1, h.2⟩
  | .dat d :: ms, vs, T, ds, e, h => by
    unfold datsOf at e
    cases q : datsOf ms with
    | none => rw [q] at e; cases e
    | some ds' =>
      rw [q] at e
      cases e
      unfold RepMs at h
      obtain ⟨v, r, T1, T2, rfl, h1, h2, _, h4⟩ := h
      obtain ⟨k1, k2⟩ := datsOf_rep q h2
      unfold RepL
      exact ⟨⟨v, r, rfl, (repM_dat.mp h1).1, k1⟩, fun a z => ((h4 a).mp z).elim ((repM_dat.mp h1).2 a) (k2 a)⟩
  | .lst _ :: _, _, _, _, e, _ => by unfold datsOf at e; cases e
  | .dct _ _ :: _, _, _, _, e, _ => by unfold datsOf at e; cases e
  | .ins _ _ _ :: _, _, _, _, e, _ => by unfold datsOf at e; cases e
  | .tup _ :: _, _, _, _, e, _ => by unfold datsOf at e; cases e
/-- some operands, then an operation on data -/
theorem many_imp {W : WX} {σ : L2.St} {H : Hp} {es : Es} {Q : VK} {rN : List V → Hp → VK → Prop} (hf : ImpN X.K X.mg fN rN) (h : b.tE X (.opN fN es) W σ H Q) : b.tEs X es W σ H fun xs H1 => rN xs H1 Q := by
  obtain ⟨π, B, μ, S, hp, s, h⟩ := h
  unfold evalE at h
  refine bindEs hp s h (fun q => q) fun ms μ1 vs B1 H1 S1 T s1 r1 _ x1 h1 _ _ => ?_
  cases q : datsOf ms with
  | none => simp only [q] at h1; exact h1.elim
  | some ds =>
    simp only [q] at h1
    obtain ⟨d3, hd, h3⟩ := outD_some h1
    obtain ⟨k1, _⟩ := datsOf_rep q r1
    exact hf B1 H1 vs ds d3 Q s1.sub k1 hd fun w B' H' p rw' => h3.done s1 p rw'
def fTup : List D → Option D := fun ds => if ds.length ≤ sizeLine then some (.tup ds) else none
def fLst : List D → Option D := fun ds => if ds.length ≤ sizeLine then some (.lst ds) else none
theorem impN_tup {K : PySem.W.Frag} {mg : Str → Option Value} : ImpN K mg fTup fun xs H Q => xs.length ≤ sizeLine ∧ ∀ p, H p = none → Q (.ref p) (upd H p (.tup xs)) := fun B H xs ds d3 Q e r hf k => by
  unfold fTup at hf
  split at hf
  · rename_i hl
    cases hf
    refine ⟨by rw [← repL_len r]; exact hl, fun p hp => k _ _ _ (PStep.new e _ hp) ?_⟩
    unfold Rep
    exact ⟨p, xs, rfl, .inl (.inl upd_same), r.mono (Ex.new (e.none hp))⟩
  · cases hf
theorem impN_lst {K : PySem.W.Frag} {mg : Str → Option Value} : ImpNF K mg fLst fun xs H Q => xs.length ≤ sizeLine ∧ ∀ p, H p = none → Q (.ref p) (upd H p (.lst xs)) := fun B H xs ds d3 Q e r hf k => by
  unfold fLst at hf
  split at hf
  · rename_i hl
    cases hf
    exact ⟨by rw [← repL_len r]; exact hl, fun p hp => k p _ hp (.inl ⟨ds, xs, rfl, rfl, r⟩)⟩
  · cases hf
theorem me_tup {xs : List Expr} {es : Es} {n : Nat} (h : MEs b X xs es) : ME b X (.Tuple xs n pos) (.opN fTup es) := fun W tk => PE.imp (pe_tup (h W tk)) fun σ H Q q => many_imp impN_tup q
theorem me_lst {xs : List Expr} {es : Es} (h : MEs b X xs es) : ME b X (.List xs pos) (.opN fLst es) := fun W tk => PE.imp (pe_lst (h W tk)) fun σ H Q q => many_imp impN_lst.imp q
/-- a built-in function, a built-in class called -/
theorem me_bi {n : Str} {p : Pos} {id : String} {xs : List Expr} {es : Es} {rN : List V → Hp → VK → Prop} (hc : CallR X (.builtin id) rN) (hf : ImpN X.K X.mg fN rN) (hg : Gl X n) (hm : X.mg n = none) (hv : bootBuiltins n = some (.builtin id)) (ha : MEs b X (x :: xs) es) (hn : n ≠ "__name__" := by decide) (hdb : (n == ("__debug__" : Str)) = false := by decide)
    (he : starEach (x :: xs) X.env = (false, eval x X.env) :: starEach xs X.env := by rfl) (hpl : (backTo pos (starEach xs X.env)).any (·.1) = false := by rfl) : ME b X (.Call (.Name n p) (x :: xs) [] pos) (.opN fN es) := fun W tk =>
  PE.imp (pe_callB hc hg hm hv (ha W tk) hn hdb he hpl) fun σ H Q q => many_imp hf q
theorem me_ty {n : Str} {p : Pos} {T : String} {xs : List Expr} {es : Es} {rN : List V → Hp → VK → Prop} (hc : CallR X (.type T) rN) (hf : ImpN X.K X.mg fN rN) (hg : Gl X n) (hm : X.mg n = none) (hv : bootBuiltins n = some (.type T)) (ha : MEs b X (x :: xs) es) (hn : n ≠ "__name__" := by decide) (hdb : (n == ("__debug__" : Str)) = false := by decide)
    (he : starEach (x :: xs) X.env = (false, eval x X.env) :: starEach xs X.env := by rfl) (hpl : (backTo pos (starEach xs X.env)).any (·.1) = false := by rfl) : ME b X (.Call (.Name n p) (x :: xs) [] pos) (.opN fN es) := fun W tk =>
  PE.imp (pe_callTy hc hg hm hv (ha W tk) hn hdb he hpl) fun σ H Q q => many_imp hf q
/-- a method of a built-in type: the object ahead of the arguments -/
def ImpM (K : PySem.W.Frag) (mg : Str → Option Value) (T : String) (f : List D → Option D) (r : V → List V → Hp → VK → Prop) : Prop :=
  ∀ (B H : Hp) (x : V) (xs : List V) (d : D) (ds : List D) (d3 : D) (Q : VK), Ex B H → Rep K mg B d x → RepL K mg B ds xs → f (d :: ds) = some d3 → (∀ v B' H', PStep B H B' H' → Rep K mg B' d3 v → Q v H') → r x xs H Q

/-! ### and, or, if, tests -/
theorem boolD {K : PySem.W.Frag} {mg : Str → Option Value} {B : Hp} {d : D} {v : V} {c : Bool} (h : Rep K mg B d v) (e : v = .bl c) : d = .bl c := by
  subst e
  cases d with
  | bl b' => unfold Rep at h; cases h; rfl
  | non => unfold Rep at h; cases h
  | int _ => unfold Rep at h; cases h
  | str _ => unfold Rep at h; cases h
  | tup _ => unfold Rep at h; obtain ⟨_, _, h, _⟩ := h; cases h
  | lst _ => unfold Rep at h; obtain ⟨_, _, h, _⟩ := h; cases h
  | dct _ _ => unfold Rep at h; obtain ⟨_, _, h, _⟩ := h; cases h
  | ins _ _ _ => unfold Rep at h; obtain ⟨_, _, h, _⟩ := h; cases h
  | exc _ => unfold Rep at h; obtain ⟨_, h⟩ := h; cases h
theorem rep_bl {K : PySem.W.Frag} {mg : Str → Option Value} {B : Hp} {c : Bool} {v : V} (h : Rep K mg B (.bl c) v) : v = .bl c := by unfold Rep at h; exact h
end
end Mi
/-! Mi5: and, or, if; calls; places; owned things. -/
namespace Mi
open PySem L2
def MW (b : Bd) (X : Cx) (x : Expr) (e : E) : Prop := ∀ W, Takes X W → PW X x (b.tT X e W)
def fNot : D → Option D
  | .bl c => some (.bl !c)
  | _ => none
section
variable {b : Bd} {X : Cx} {x y z : Expr} {ex ey ez : E} {pos : Pos} {rest : List Expr}
theorem PW.imp {X : Cx} {e : Expr} {t t' : TT} (h : PW X e t) (k : ∀ σ H Q, t' σ H Q → t σ H Q) : PW X e t' := ⟨fun wh pins s σ H Q I q => h.run wh pins s σ H Q I (k σ H Q q)⟩
theorem mt_val (h : ME b X x ex) (he : ∀ whole, isTrue x X.env whole = (do let v ← whole; standAt x.pos; holding [v] (truthy v)) := by intro _; rfl) : MT b X x ex := fun W tk => PT.imp (pt_val (h W tk) he) fun σ H Q q => q
theorem MW.mt (h : MW b X x ex) : MT b X x ex := fun W tk => (h W tk).pt
/-- a truth, then more -/
theorem bindB {γ : Type} {pu : Bool} {Rl : Hp → Hp → M → γ → ASet → Prop} {K : PySem.W.Frag} {mg : Str → Option Value} {C : Nat → List M → CR} {pin : List Nat} {π : List (Nat × V)} {B H : Hp} {σ : L2.St} {μ : Env} {S : ASet} {W : WX} {e : E} {k : D → Env → Out M} {Q' : γ → Hp → Prop} {Q : V → Hp → Prop}
    (hp : PinOf π pin) (s : Stt K mg π B H σ μ S) (h : Post K mg pu Rl π B H S σ W Q' ((evalE C pin e μ).bind (onDat k))) (hu : pu = true → e.pure = true) (kb : ∀ d μ1, (∀ c, d ≠ .bl c) → k d μ1 = .stuck)
    (hk : ∀ c μ1 B1 H1 S1, Stt K mg π B1 H1 σ μ1 S1 → Step B H S B1 H1 S1 → (e.pure = true → Ex H H1) → Post K mg pu Rl π B1 H1 S1 σ W Q' (k (.bl c) μ1) → Q (.bl c) H1) : tE K mg C pin e W σ H Q := by
  refine bindE hp s h hu fun m μ1 v B1 H1 S1 T s1 r1 _ x1 h1 _ u1 => ?_
  obtain ⟨d1, rfl, h2⟩ := onDat_dat h1
  have x1' : Step B H S B1 H1 S1 := x1.weak (fun _ z => z) fun _ z => .inl z
  by_cases q : ∃ c, d1 = .bl c
  · obtain ⟨c, rfl⟩ := q
    have e : v = .bl c := rep_bl (repM_dat.mp r1).1
    subst e
    exact hk c μ1 B1 H1 S1 s1 x1' u1 h2
  · rw [kb d1 μ1 fun c e => q ⟨c, e⟩] at h2
    exact h2.elim
theorem boolAns {W : WX} {σ : L2.St} {H : Hp} {Q : Bool → Hp → Prop} (h : b.tT X ex W σ H Q) : b.tE X ex W σ H fun v H' => ∃ c, v = .bl c ∧ Q c H' := h
theorem and_imp {W : WX} {σ : L2.St} {H : Hp} {Q : Bool → Hp → Prop} (h : b.tT X (.and ex ey) W σ H Q) : tAnd (b.tT X ex W) (b.tT X ey W) σ H Q := by
  obtain ⟨π, B, μ, S, hp, s, h⟩ := h
  unfold evalE at h
  refine bindB hp s h (fun q => ((Bool.and_eq_true _ _).mp q).1) (fun d μ1 n => ?_) fun c μ1 B1 H1 S1 s1 x1 u1 h1 => ⟨c, rfl, ?_⟩
  · cases d <;> first | rfl | exact absurd rfl (n _)
  · cases c with
    | true => exact ⟨π, B1, μ1, S1, hp, s1, (h1.mono (Step.refl _ _ _) (fun _ z => z) fun _ => Ex.refl _).pu fun q => ((Bool.and_eq_true _ _).mp q).2⟩
    | false =>
      obtain ⟨c, e, q⟩ := h1.done s1 (PStep.refl s1.sub) (v := .bl false) (by unfold Rep; rfl)
      cases e
      exact q
theorem or_imp {W : WX} {σ : L2.St} {H : Hp} {Q : Bool → Hp → Prop} (h : b.tT X (.or ex ey) W σ H Q) : tOr (b.tT X ex W) (b.tT X ey W) σ H Q := by
  obtain ⟨π, B, μ, S, hp, s, h⟩ := h
  unfold evalE at h
  refine bindB hp s h (fun q => ((Bool.and_eq_true _ _).mp q).1) (fun d μ1 n => ?_) fun c μ1 B1 H1 S1 s1 x1 u1 h1 => ⟨c, rfl, ?_⟩
  · cases d <;> first | rfl | exact absurd rfl (n _)
  · cases c with
    | false => exact ⟨π, B1, μ1, S1, hp, s1, h1.pu fun q => ((Bool.and_eq_true _ _).mp q).2⟩
    | true =>
      obtain ⟨c, e, q⟩ := h1.done s1 (PStep.refl s1.sub) (v := .bl true) (by unfold Rep; rfl)
      cases e
      exact q
theorem mw_and1 (h : MT b X x ex) : MW b X (.BoolOp .And [x] pos) ex := fun W tk => pw_and1 (h W tk)
theorem mw_or1 (h : MT b X x ex) : MW b X (.BoolOp .Or [x] pos) ex := fun W tk => pw_or1 (h W tk)
theorem mw_and (h : MT b X x ex) (hr : MW b X (.BoolOp .And (y :: rest) pos) ey) : MW b X (.BoolOp .And (x :: y :: rest) pos) (.and ex ey) := fun W tk => PW.imp (pw_and (h W tk) (hr W tk)) fun σ H Q q => and_imp q
theorem mw_or (h : MT b X x ex) (hr : MW b X (.BoolOp .Or (y :: rest) pos) ey) : MW b X (.BoolOp .Or (x :: y :: rest) pos) (.or ex ey) := fun W tk => PW.imp (pw_or (h W tk) (hr W tk)) fun σ H Q q => or_imp q
theorem not_imp {W : WX} {σ : L2.St} {H : Hp} {Q : Bool → Hp → Prop} (h : b.tT X (.op1 fNot ex) W σ H Q) : tNot (b.tT X ex W) σ H Q := by
  obtain ⟨π, B, μ, S, hp, s, h⟩ := h
  unfold evalE at h
  refine bindB hp s h (fun q => q) (fun d μ1 n => ?_) fun c μ1 B1 H1 S1 s1 x1 u1 h1 => ⟨c, rfl, ?_⟩
  · cases d <;> first | rfl | exact absurd rfl (n _)
  · obtain ⟨c', e, q⟩ := h1.done (d := .bl !c) s1 (PStep.refl s1.sub) (v := .bl !c) (by unfold Rep; rfl)
    cases e
    exact q
theorem mt_not (h : MT b X x ex) : MT b X (.UnaryOp .Not x pos) (.op1 fNot ex) := fun W tk => PT.imp (pt_not (h W tk)) fun σ H Q q => not_imp q
theorem me_not (h : ME b X x ex) : ME b X (.UnaryOp .Not x pos) (.op1 fNot ex) := fun W tk => PE.imp (pe_not (h W tk)) fun σ H Q q => by
  obtain ⟨π, B, μ, S, hp, s, h⟩ := q
  unfold evalE at h
  refine bindB hp s h (fun q => q) (fun d μ1 n => ?_) fun c μ1 B1 H1 S1 s1 x1 u1 h1 => ⟨c, rfl, ?_⟩
  · cases d <;> first | rfl | exact absurd rfl (n _)
  · exact h1.done (d := .bl !c) s1 (PStep.refl s1.sub) (v := .bl !c) (by unfold Rep; rfl)
theorem me_one {op} (h : ME b X x ex) : ME b X (.BoolOp op [x] pos) ex := fun W tk => pe_one (h W tk)
theorem me_and (h : ME b X x ex) (hr : ME b X (.BoolOp .And (y :: rest) pos) ey) : ME b X (.BoolOp .And (x :: y :: rest) pos) (.and ex ey) := fun W tk => PE.imp (pe_and (h W tk) (hr W tk)) fun σ H Q q => by
  obtain ⟨π, B, μ, S, hp, s, h⟩ := q
  unfold evalE at h
  refine bindB hp s h (fun q => ((Bool.and_eq_true _ _).mp q).1) (fun d μ1 n => ?_) fun c μ1 B1 H1 S1 s1 x1 u1 h1 => ⟨c, rfl, ?_⟩
  · cases d <;> first | rfl | exact absurd rfl (n _)
  · cases c with
    | true => exact ⟨π, B1, μ1, S1, hp, s1, h1.pu fun q => ((Bool.and_eq_true _ _).mp q).2⟩
    | false => exact h1.done s1 (PStep.refl s1.sub) (by unfold Rep; rfl)
theorem me_or (h : ME b X x ex) (hr : ME b X (.BoolOp .Or (y :: rest) pos) ey) : ME b X (.BoolOp .Or (x :: y :: rest) pos) (.or ex ey) := fun W tk => PE.imp (pe_or (h W tk) (hr W tk)) fun σ H Q q => by
  obtain ⟨π, B, μ, S, hp, s, h⟩ := q
  unfold evalE at h
  refine bindB hp s h (fun q => ((Bool.and_eq_true _ _).mp q).1) (fun d μ1 n => ?_) fun c μ1 B1 H1 S1 s1 x1 u1 h1 => ⟨c, rfl, ?_⟩
  · cases d <;> first | rfl | exact absurd rfl (n _)
  · cases c with
    | false => exact ⟨π, B1, μ1, S1, hp, s1, h1.pu fun q => ((Bool.and_eq_true _ _).mp q).2⟩
    | true => exact h1.done s1 (PStep.refl s1.sub) (by unfold Rep; rfl)
theorem me_ite {c : Expr} {ec : E} (hc : MT b X c ec) (hx : ME b X x ex) (hy : ME b X y ey) : ME b X (.IfExp c x y pos) (.ite ec ex ey) := fun W tk => PE.imp (pe_ifExp (hc W tk) (hx W tk) (hy W tk)) fun σ H Q q => by
  obtain ⟨π, B, μ, S, hp, s, h⟩ := q
  unfold evalE at h
  have pr : (E.ite ec ex ey).pure = true → (ec.pure = true ∧ ex.pure = true) ∧ ey.pure = true := fun q => by
    have q1 := (Bool.and_eq_true _ _).mp q
    exact ⟨(Bool.and_eq_true _ _).mp q1.1, q1.2⟩
  refine bindB hp s h (fun q => (pr q).1.1) (fun d μ1 n => ?_) fun c μ1 B1 H1 S1 s1 x1 u1 h1 => ⟨c, rfl, ?_⟩
  · cases d <;> first | rfl | exact absurd rfl (n _)
  · cases c with
    | true => exact ⟨π, B1, μ1, S1, hp, s1, h1.pu fun q => (pr q).1.2⟩
    | false => exact ⟨π, B1, μ1, S1, hp, s1, h1.pu fun q => (pr q).2⟩
end

/-! ### arguments: values and places -/
def PlV (H : Hp) (σ : L2.St) (pl : Pl) (v : V) : Prop := ∃ v0, σ[pl.1]? = some (some v0) ∧ vAt H v0 pl.2 v
def RAs (K : PySem.W.Frag) (mg : Str → Option Value) (fl : Bool) (σ : L2.St) (B H : Hp) : List Ag → List V → ASet → Prop
  | [], vs, T => vs = [] ∧ ∀ a, ¬ T a
  | .val m :: r, vs, T => ∃ v r' T1 T2, vs = v :: r' ∧ RepM K mg B H m v T1 ∧ RAs K mg fl σ B H r r' T2 ∧ (∀ a, T1 a → ¬ T2 a) ∧ ∀ a, T a ↔ T1 a ∨ T2 a
  | .ref pl :: r, vs, T => ∃ v r', vs = v :: r' ∧ ((pl.2 = [] ∨ fl = true) → PlV H σ pl v) ∧ RAs K mg fl σ B H r r' T
def OutRep (K : PySem.W.Frag) (mg : Str → Option Value) (B H : Hp) : List (Option M) → List V → ASet → Prop
  | [], _, T => ∀ a, ¬ T a
  | none :: r, vs, T => OutRep K mg B H r vs.tail T
  | some m :: r, vs, T => ∃ v T1 T2, vs.head? = some v ∧ RepM K mg B H m v T1 ∧ OutRep K mg B H r vs.tail T2 ∧ (∀ a, T1 a → ¬ T2 a) ∧ ∀ a, T a ↔ T1 a ∨ T2 a
section
variable {K : PySem.W.Frag} {mg : Str → Option Value} {π : List (Nat × V)} {B H : Hp} {σ : L2.St} {fl : Bool}
theorem RAs.owned : ∀ {ags : List Ag} {vs : List V} {T : ASet}, RAs K mg fl σ B H ags vs T → ∀ a, T a → H a ≠ none ∧ B a = none
  | [], _, _, h, a, q => by unfold RAs at h; exact absurd q (h.2 a)
  | .val m :: r, _, _, h, a, q => by
    unfold RAs at h
    obtain ⟨v, r', T1, T2, _, h1, h2, _, h4⟩ := h
    exact ((h4 a).mp q).elim (h1.owned a) (h2.owned a)
  | .ref pl :: r, _, _, h, a, q => by
    unfold RAs at h
    obtain ⟨v, r', _, _, h2⟩ := h
    exact h2.owned a q
theorem nodupB_not {i : Nat} {r : List Nat} (h : nodupB (i :: r) = true) : i ∉ r ∧ nodupB r = true := by
  unfold nodupB at h
  have q := (Bool.and_eq_true _ _).mp h
  refine ⟨fun z => ?_, q.2⟩
  have w := q.1
  simp [z] at w
theorem atPl_set {μ : Env} {p : Pl} {i : Nat} {o : Option M} (h : p.1 ≠ i) : atPl (μ.set i o) p = atPl μ p := by
  unfold atPl; rw [slot_set_ne (fun e => h e.symm)]
theorem argMs_set {μ : Env} {i : Nat} {o : Option M} : ∀ {ags : List Ag}, i ∉ Ag.roots ags → argMs ags (μ.set i o) = argMs ags μ
  | [], _ => rfl
  | .val m :: r, h => by
    show (argMs r _).map _ = (argMs r _).map _
    rw [argMs_set (ags := r) h]
  | .ref p :: r, h => by
    have h' : i ≠ p.1 ∧ i ∉ Ag.roots r := by simpa [Ag.roots] using h
    show (match atPl (μ.set i o) p with | some m => (argMs r (μ.set i o)).map (m :: ·) | none => none) = _
    rw [atPl_set (fun e => h'.1 e.symm), argMs_set (ags := r) h'.2]
    rfl
theorem putPl_set {μ : Env} {p : Pl} {i : Nat} {o : Option M} {x : M} (h : p.1 ≠ i) : putPl (μ.set i o) p x = (putPl μ p x).set i o := by
  unfold putPl
  rw [slot_set_ne (fun e => h e.symm)]
  cases slot μ p.1 with
  | none => rfl
  | some m => exact List.set_comm _ _ (fun e => h e.symm)
theorem backAs_set {i : Nat} {o : Option M} : ∀ {ags : List Ag} {os : List (Option M)} {μ : Env}, i ∉ Ag.roots ags → backAs ags os (μ.set i o) = (backAs ags os μ).map fun μ' => μ'.set i o
  | [], _, _, _ => rfl
  | .val m :: r, [], _, _ => rfl
  | .val m :: r, _ :: os, μ, h => backAs_set (ags := r) (os := os) h
  | .ref p :: r, [], _, _ => rfl
  | .ref p :: r, none :: os, _, _ => rfl
  | .ref p :: r, some x :: os, μ, h => by
    have h' : i ≠ p.1 ∧ i ∉ Ag.roots r := by simpa [Ag.roots] using h
    show backAs r os (putPl (μ.set i o) p x) = _
    rw [putPl_set (fun e => h'.1 e.symm)]
    exact backAs_set (ags := r) h'.2
theorem putPl_len {μ : Env} {p : Pl} {x : M} : (putPl μ p x).length = μ.length := by
  unfold putPl
  split
  · rw [List.length_set]
  · rfl
/-- the callee's arguments; and back -/
theorem refs_ok : ∀ {ags : List Ag} {μ : Env} {S T : ASet} {vs : List V} {ms : List M}, Stt K mg π B H σ μ S → RAs K mg fl σ B H ags vs T → (∀ a, T a → ¬ S a) → nodupB (Ag.roots ags) = true → (Ag.flat ags = true ∨ fl = true) → argMs ags μ = some ms →
    ∃ A : ASet, RepMs K mg B H ms vs A ∧ (∀ a, A a → S a ∨ T a) ∧ (∀ a, T a → A a) ∧
      ∀ (B' H' : Hp) (outs : List (Option M)) (So : ASet) (μ' : Env), Ex B B' → Ex B' H' → (∀ a, (S a ∨ T a) → ¬ A a → H' a = H a ∧ B' a = none) → OutRep K mg B' H' outs vs So → (∀ a, So a → S a → A a) → backAs ags outs μ = some μ' →
        ∃ S', Stt K mg π B' H' σ μ' S' ∧ ∀ a, S' a → (S a ∧ ¬ A a) ∨ So a
  | [], μ, S, T, vs, ms, s, h, d, _, _, e => by
    unfold RAs at h
    unfold argMs at e
    cases e
    refine ⟨fun _ => False, by unfold RepMs; exact ⟨h.1, fun _ z => z⟩, fun _ z => z.elim, fun a z => (h.2 a z).elim, fun B' H' outs So μ' ex sub keep ho dj e => ?_⟩
    have e : μ = μ' := by simpa [backAs] using e
    subst e
    exact ⟨S, s.congr ex sub fun a q => keep a (.inl q) fun z => z, fun a q => .inl ⟨q, fun z => z⟩⟩
  | .val m :: r, μ, S, T, vs, ms, s, h, d, nd, fo, e => by
    unfold RAs at h
    obtain ⟨v, r', T1, T2, rfl, h1, h2, h3, h4⟩ := h
    have e : (argMs r μ).map (m :: ·) = some ms := e
    cases q : argMs r μ with
    | none => rw [q] at e; cases e
    | some ms' =>
      rw [q] at e
      cases e
      obtain ⟨A, k1, k2, k3, k4⟩ := refs_ok (ags := r) s h2 (fun a z => d a ((h4 a).mpr (.inr z))) nd fo q
      have t1A : ∀ a, T1 a → ¬ A a := fun a z w => (k2 a w).elim (d a ((h4 a).mpr (.inl z))) (h3 a z)
      refine ⟨fun a => T1 a ∨ A a, by unfold RepMs; exact ⟨v, r', T1, A, rfl, h1, k1, t1A, fun _ => Iff.rfl⟩, fun a z => z.elim (fun z => .inr ((h4 a).mpr (.inl z))) fun z => (k2 a z).imp id fun z => (h4 a).mpr (.inr z),
        fun a z => ((h4 a).mp z).imp id (k3 a), fun B' H' outs So μ' ex sub keep ho dj e => ?_⟩
      have keep' : ∀ a, (S a ∨ T2 a) → ¬ A a → H' a = H a ∧ B' a = none := fun a z n => keep a (z.imp id fun z => (h4 a).mpr (.inr z)) fun w => w.elim (fun w => z.elim (fun z => d a ((h4 a).mpr (.inl w)) z) fun z => h3 a w z) n
      cases outs with
      | nil => simp [backAs] at e
      | cons o outs =>
        have e : backAs r outs μ = some μ' := e
        have go : ∀ So2 : ASet, OutRep K mg B' H' outs r' So2 → (∀ a, So2 a → So a) → ∃ S', Stt K mg π B' H' σ μ' S' ∧ ∀ a, S' a → (S a ∧ ¬ (T1 a ∨ A a)) ∨ So a := fun So2 ho2 hs => by
          obtain ⟨S', s', hS⟩ := k4 B' H' outs So2 μ' ex sub keep' ho2 (fun a z w => (dj a (hs a z) w).elim (fun z' => absurd w (d a ((h4 a).mpr (.inl z')))) id) e
          exact ⟨S', s', fun a z => (hS a z).imp (fun z => ⟨z.1, fun w => w.elim (fun w => d a ((h4 a).mpr (.inl w)) z.1) z.2⟩) (hs a)⟩
        cases o with
        | none => exact go So ho fun _ z => z
        | some m' =>
          obtain ⟨_, _, T4, _, _, ho2, _, ho4⟩ := ho
          exact go T4 ho2 fun a z => (ho4 a).mpr (.inr z)
  | .ref pl :: r, μ, S, T, vs, ms, s, h, d, nd, fo, e => by
    unfold RAs at h
    obtain ⟨v, r', rfl, hv, h2⟩ := h
    obtain ⟨nr, nd'⟩ := nodupB_not (i := pl.1) (r := Ag.roots r) nd
    have hpv : PlV H σ pl v := hv (fo.imp (fun z => by
      have z' : (pl.2.isEmpty && Ag.flat r) = true := z
      have z2 := ((Bool.and_eq_true _ _).mp z').1
      exact List.isEmpty_iff.mp z2) id)
    have fo' : Ag.flat r = true ∨ fl = true := fo.imp (fun z => ((Bool.and_eq_true _ _).mp (show (pl.2.isEmpty && Ag.flat r) = true from z)).2) id
    have e : (match atPl μ pl with | some m => (argMs r μ).map (m :: ·) | none => none) = some ms := e
    cases q1 : atPl μ pl with
    | none => rw [q1] at e; cases e
    | some m =>
      rw [q1] at e
      have e : (argMs r μ).map (m :: ·) = some ms := e
      cases q : argMs r μ with
      | none => rw [q] at e; cases e
      | some ms' =>
        rw [q] at e
        cases e
        -- the slot taken out
        have q1' := q1
        unfold atPl at q1'
        cases es : slot μ pl.1 with
        | none => rw [es] at q1'; cases q1'
        | some m0 =>
          rw [es] at q1'
          have q1' : m0.at pl.2 = some m := q1'
          obtain ⟨v0, Ts, S0, hv0, rs, s0, djs, hS⟩ := s.take es
          obtain ⟨v1, T1, r1, sub1, va, put1⟩ := rs.at pl.2 q1'
          obtain ⟨v0', e0, va'⟩ := hpv
          rw [hv0] at e0
          cases e0
          have ev : v1 = v := va.det va'
          subst ev
          obtain ⟨A, k1, k2, k3, k4⟩ := refs_ok (ags := r) s0 h2 (fun a z w => d a z ((hS a).mpr (.inl w))) nd' fo' (by rw [argMs_set nr]; exact q)
          have tS : ∀ a, T1 a → S a := fun a z => (hS a).mpr (.inr (sub1 a z))
          have t1A : ∀ a, T1 a → ¬ A a := fun a z w => (k2 a w).elim (djs a (sub1 a z)) fun w => d a w (tS a z)
          refine ⟨fun a => T1 a ∨ A a, by unfold RepMs; exact ⟨v1, r', T1, A, rfl, r1, k1, t1A, fun _ => Iff.rfl⟩, fun a z => z.elim (fun z => .inl (tS a z)) fun z => (k2 a z).imp (fun z => (hS a).mpr (.inl z)) id,
            fun a z => .inr (k3 a z), fun B' H' outs So μ' ex sub keep ho dj e => ?_⟩
          have keep' : ∀ a, (S0 a ∨ T a) → ¬ A a → H' a = H a ∧ B' a = none := fun a z n => keep a (z.imp (fun z => (hS a).mpr (.inl z)) id) fun w => w.elim (fun w => z.elim (fun z => djs a (sub1 a w) z) fun z => d a z (tS a w)) n
          cases outs with
          | nil => simp [backAs] at e
          | cons o outs =>
            cases o with
            | none => simp [backAs] at e
            | some m' =>
              obtain ⟨v2, U1, U2, hh, ho1, ho2, ho3, ho4⟩ := ho
              cases hh
              have e : backAs r outs (putPl μ pl m') = some μ' := e
              have ep : putPl μ pl m' = (μ.set pl.1 none).set pl.1 (some (m0.put pl.2 m')) := by unfold putPl; rw [es, List.set_set]
              rw [ep, backAs_set nr] at e
              cases eb : backAs r outs (μ.set pl.1 none) with
              | none => rw [eb] at e; cases e
              | some μ0 =>
                rw [eb] at e
                cases e
                obtain ⟨S', s', hS'⟩ := k4 B' H' outs U2 μ0 ex sub keep' ho2 (fun a z w => (dj a ((ho4 a).mpr (.inr z)) ((hS a).mpr (.inl w))).elim (fun z' => absurd w (djs a (sub1 a z'))) id) eb
                obtain ⟨Tn, p1, p2⟩ := put1 B' H' m' U1 ex (fun a z n => keep a (.inl ((hS a).mpr (.inr z))) fun w => w.elim n fun w => (k2 a w).elim (djs a z) fun w => d a w ((hS a).mpr (.inr z))) ho1
                  fun a z w => (dj a ((ho4 a).mpr (.inl z)) ((hS a).mpr (.inr w))).elim id fun z' => ((k2 a z').elim (fun q => absurd q (djs a w)) fun q => absurd ((hS a).mpr (.inr w)) (d a q))
                obtain ⟨S2, s2, hS2⟩ := s'.refill hv0 p1 fun a z w => by
                  rcases (p2 a).mp z with z | z
                  · rcases hS' a w with w | w
                    · exact djs a z.1 w.1
                    · have := dj a ((ho4 a).mpr (.inr w)) ((hS a).mpr (.inr z.1))
                      exact this.elim z.2 fun q => (k2 a q).elim (djs a z.1) fun q => d a q ((hS a).mpr (.inr z.1))
                  · rcases hS' a w with w | w
                    · have := dj a ((ho4 a).mpr (.inl z)) ((hS a).mpr (.inl w.1))
                      exact this.elim (fun q => djs a (sub1 a q) w.1) w.2
                    · exact ho3 a z w
                refine ⟨S2, s2, fun a z => ?_⟩
                rcases hS2 a z with z | z
                · rcases hS' a z with z | z
                  · exact .inl ⟨(hS a).mpr (.inl z.1), fun w => w.elim (fun w => djs a (sub1 a w) z.1) z.2⟩
                  · exact .inr ((ho4 a).mpr (.inr z))
                · rcases (p2 a).mp z with z | z
                  · exact .inl ⟨(hS a).mpr (.inr z.1), fun w => w.elim z.2 fun q => (k2 a q).elim (djs a z.1) fun q => d a q ((hS a).mpr (.inr z.1))⟩
                  · exact .inr ((ho4 a).mpr (.inl z))
end
end Mi
/-! Mi6: calls. -/
namespace Mi
open PySem L2
section
variable (K : PySem.W.Frag) (mg : Str → Option Value)
/-- what a function promises -/
def spF (cf : List M → CR) : Sp := fun vs H Q E => ∃ B A ms, Ex B H ∧ RepMs K mg B H ms vs A ∧ match cf ms with
  | .stuck => False
  | .err c outs => ∀ B' H' So, Ex B' H' → Step B H A B' H' So → OutRep K mg B' H' outs vs So → ∀ C, mg c = some (.ref C) → E (.ref C) none H'
  | .ok m outs => ∀ v B' H' So T, Ex B' H' → OutRep K mg B' H' outs vs So → RepM K mg B' H' m v T → (∀ a, T a → ¬ So a) → Step B H A B' H' (fun a => So a ∨ T a) → Q v H'
def tAs (C : Nat → List M → CR) (pin : List Nat) (as : As) (W : WX) : TA := fun σ H Q => ∃ π B μ S, PinOf π pin ∧ Stt K mg π B H σ μ S ∧ Post K mg as.vals (fun B H ags vs T => RAs K mg as.vals σ B H ags vs T) π B H S σ W Q (evalAs C pin as μ)
def tP (C : Nat → List M → CR) (pin : List Nat) (p : Path) : TE := fun σ H Q => ∃ π B μ S, PinOf π pin ∧ Stt K mg π B H σ μ S ∧ ∃ pl, evalP C pin p μ = some pl ∧ ∀ v B' H', PStep B H B' H' → PlV H' σ pl v → Q v H'
end
def MAs (b : Bd) (X : Cx) (x : List Expr) (as : As) : Prop := ∀ W, Takes X W → PA X x (tAs X.K X.mg b.C b.pin as W)
def MP (b : Bd) (X : Cx) (x : Expr) (p : Path) : Prop := PE X x (tP X.K X.mg b.C b.pin p)
theorem PlV.mono {H H' : Hp} {σ : L2.St} {pl : Pl} {v : V} (e : Ex H H') (h : PlV H σ pl v) : PlV H' σ pl v := by
  obtain ⟨v0, h1, h2⟩ := h
  exact ⟨v0, h1, h2.mono e⟩
section
variable {b : Bd} {X : Cx} {x : Expr} {ex : E} {xs : List Expr} {as : As} {p : Path} {pos : Pos}
theorem mas_nil : MAs b X [] .nil := fun W tk => PA.imp pa_nil fun σ H Q ⟨π, B, μ, S, hp, s, h⟩ => by
  unfold evalAs at h
  exact h [] B H S (fun _ => False) s (by unfold RAs; exact ⟨rfl, fun _ z => z⟩) (fun _ z => z.elim) ((Step.refl B H S).weak (fun _ z => z) fun _ z => z.elim id False.elim) fun _ => Ex.refl H
theorem RAs.fl {K : PySem.W.Frag} {mg : Str → Option Value} {fl fl' : Bool} {σ : L2.St} {B H : Hp} (k : fl' = true → fl = true) : ∀ {ags : List Ag} {vs : List V} {T : ASet}, RAs K mg fl σ B H ags vs T → RAs K mg fl' σ B H ags vs T
  | [], _, _, h => by unfold RAs at *; exact h
  | .val m :: r, _, _, h => by
    unfold RAs at *
    obtain ⟨v, r', T1, T2, h0, h1, h2, h3⟩ := h
    exact ⟨v, r', T1, T2, h0, h1, h2.fl k, h3⟩
  | .ref pl :: r, _, _, h => by
    unfold RAs at *
    obtain ⟨v, r', h0, h1, h2⟩ := h
    exact ⟨v, r', h0, fun q => h1 (q.imp id k), h2.fl k⟩
theorem mas_val (hx : ME b X x ex) (hr : MAs b X xs as) (hs : starEach (x :: xs) X.env = (false, eval x X.env) :: starEach xs X.env := by rfl) : MAs b X (x :: xs) (.val ex as) := fun W tk =>
  PA.imp (pa_cons (hx W tk) (hr W tk) hs) fun σ H Q ⟨π, B, μ, S, hp, s, h⟩ => by
    unfold evalAs at h
    have pr : (As.val ex as).vals = true → ex.pure = true ∧ as.vals = true := fun q => (Bool.and_eq_true _ _).mp q
    refine bindE hp s h (fun q => (pr q).1) fun m μ1 v B1 H1 S1 T s1 r1 d1 x1 h1 h1' _ => ?_
    refine ⟨π, B1, μ1, S1, hp, s1, ?_⟩
    cases q : evalAs b.C b.pin as μ1 with
    | stuck => rw [q] at h1; exact h1
    | err c μ' => rw [q] at h1; exact h1
    | ok ms μ2 =>
      rw [q] at h1'
      intro vs B2 H2 S2 U s2 r2 d2 x2 u2
      have ap : ∀ a, T a → ¬ (S2 a ∨ U a) ∧ B2 a = none ∧ H2 a = H1 a := fun a q => x2.apart (d1 a q) (r1.owned a q).1 (r1.owned a q).2
      refine h1' (v :: vs) B2 H2 S2 (fun a => T a ∨ U a) s2 ?_ (fun a z => z.elim (fun z w => (ap a z).1 (.inl w)) (d2 a)) ?_ ?_
      · unfold RAs
        exact ⟨v, vs, T, U, rfl, r1.congr (fun a o q => x2.ex a o q) fun a q => ⟨(ap a q).2.2, (ap a q).2.1⟩, r2.fl fun q => (pr q).2, fun a q z => (ap a q).1 (.inr z), fun _ => Iff.rfl⟩
      · exact (x2.frame (F := T) fun a q => ⟨d1 a q, (r1.owned a q).1⟩).weak (fun _ z => z) fun a z => z.elim (fun z => .inl (.inl z)) fun z => z.elim .inr fun z => .inl (.inr z)
      · exact fun q => u2 (pr q).2
theorem mas_ref (hx : MP b X x p) (hr : MAs b X xs as) (hs : starEach (x :: xs) X.env = (false, eval x X.env) :: starEach xs X.env := by rfl) : MAs b X (x :: xs) (.ref p as) := fun W tk =>
  PA.imp (pa_cons hx (hr W tk) hs) fun σ H Q ⟨π, B, μ, S, hp, s, h⟩ => by
    unfold evalAs at h
    cases q0 : evalP b.C b.pin p μ with
    | none => simp only [q0] at h; exact h.elim
    | some pl =>
      simp only [q0] at h
      refine ⟨π, B, μ, S, hp, s, pl, q0, fun v B1 H1 p1 hv => ?_⟩
      have h1 := h.mono (p1.step S) (fun _ z => z) fun _ => p1.ext
      refine ⟨π, B1, μ, S, hp, s.pure p1, ?_⟩
      cases q : evalAs b.C b.pin as μ with
      | stuck => rw [q] at h1; exact h1
      | err c μ' => rw [q] at h1; exact h1
      | ok ms μ2 =>
        rw [q] at h1
        intro vs B2 H2 S2 U s2 r2 d2 x2 u2
        refine h1 (v :: vs) B2 H2 S2 U s2 ?_ d2 x2 u2
        show RAs X.K X.mg _ σ B2 H2 (Ag.ref pl :: ms) _ _
        unfold RAs
        refine ⟨v, vs, rfl, fun q => ?_, r2⟩
        rcases q with q | q
        · obtain ⟨v0, e1, e2⟩ := hv
          rw [q] at e2
          exact ⟨v0, e1, by rw [q]; exact e2⟩
        · exact hv.mono (u2 q)
theorem mp_root {i : Nat} {n : Str} (hN : X.N[i]? = some n) (hv : Vis X.env.scope n) (hd : (n == ("__debug__" : Str)) = false := by decide) (hcd : (n == ("__classdict__" : Str)) = false := by decide) : MP b X (.Name n pos) (.root i) :=
  PE.imp (pe_var hN hv hd hcd) fun σ H Q ⟨π, B, μ, S, hp, s, pl, e, h⟩ => by
    unfold evalP at e
    cases q : slot μ i with
    | none => rw [q] at e; cases e
    | some m =>
      rw [q] at e
      cases e
      obtain ⟨v, T, e1, r, _⟩ := s.get q
      exact ⟨v, e1, h v B H (PStep.refl s.sub) ⟨v, e1, rfl⟩⟩
/-- behind the arguments: the callee, then back -/
theorem call_ok {cf : List M → CR} {W : WX} {σ : L2.St} {H : Hp} {Q : VK} {π : List (Nat × V)} {B : Hp} {μ : Env} {S T : ASet} {ags : List Ag} {vs : List V} {fl pu o : Bool} (s : Stt X.K X.mg π B H σ μ S) (r : RAs X.K X.mg fl σ B H ags vs T) (d : ∀ a, T a → ¬ S a)
    (hu : pu = true → o = false ∧ ∀ ms, argMs ags μ = some ms → ∃ ds, datsOf ms = some ds)
    (h : Post X.K X.mg pu (RM X.K X.mg) π B H (fun a => S a ∨ T a) σ W Q (if (nodupB (Ag.roots ags) && (Ag.flat ags || fl)) = true then
      match argMs ags μ with
      | some ms => callEnd o ags μ (cf ms)
      | none => .stuck
    else .stuck)) : spF X.K X.mg cf vs H Q (WE W σ) := by
  by_cases g : (nodupB (Ag.roots ags) && (Ag.flat ags || fl)) = true
  · rw [if_pos g] at h
    obtain ⟨g1, g2⟩ := (Bool.and_eq_true _ _).mp g
    cases e : argMs ags μ with
    | none => rw [e] at h; exact h.elim
    | some ms =>
      rw [e] at h
      dsimp only at h
      obtain ⟨A, k1, k2, k3, k4⟩ := refs_ok s r d g1 ((Bool.or_eq_true _ _).mp g2) e
      refine ⟨B, A, ms, s.sub, k1, ?_⟩
      have own : ∀ a, (S a ∨ T a) → H a ≠ none ∧ B a = none := fun a z => z.elim (s.owned a) (r.owned a)
      have st : ∀ {B' H' : Hp} {S' So T' : ASet}, Step B H A B' H' (fun a => So a ∨ T' a) → (∀ a, S' a → (S a ∧ ¬ A a) ∨ So a) → Step B H (fun a => S a ∨ T a) B' H' (fun a => S' a ∨ T' a) := fun {B' H' S' So T'} x hS' => by
        have y := x.frame (F := fun a => (S a ∨ T a) ∧ ¬ A a) fun a z => ⟨z.2, (own a z.1).1⟩
        refine y.weak (fun a z => z.elim (k2 a) fun z => z.1) fun a z => ?_
        rcases z with z | z
        · exact (hS' a z).elim (fun z => .inr ⟨.inl z.1, z.2⟩) fun z => .inl (.inl z)
        · exact .inl (.inr z)
      cases ec : cf ms with
      | stuck => rw [ec] at h; exact h.elim
      | err c outs =>
        rw [ec] at h
        intro B' H' So sub x ho C hC
        cases eb : backAs ags outs μ with
        | none => simp only [callEnd, eb] at h; exact h.elim
        | some μ' =>
          simp only [callEnd, eb] at h
          obtain ⟨S', s', hS'⟩ := k4 B' H' outs So μ' x.ex sub (fun a z n => let w := x.apart n (own a z).1 (own a z).2; ⟨w.2.2, w.2.1⟩) ho (fun a z w => (x.ow a z).elim id fun z => absurd z (own a (.inl w)).1) eb
          have y := st (T' := fun _ => False) (x.weak (fun _ z => z) fun a z => z.elim id False.elim) hS'
          exact h B' H' S' s' (y.weak (fun _ z => z) fun _ z => .inl z) C hC
      | ok m outs =>
        rw [ec] at h
        intro v B' H' So T' sub ho rm dj x
        cases eb : backAs ags outs μ with
        | none => simp only [callEnd, eb] at h; exact h.elim
        | some μ' =>
          simp only [callEnd, eb] at h
          obtain ⟨S', s', hS'⟩ := k4 B' H' outs So μ' x.ex sub (fun a z n => let w := x.apart n (own a z).1 (own a z).2; ⟨w.2.2, w.2.1⟩) ho (fun a z w => (x.ow a (.inl z)).elim id fun z => absurd z (own a (.inl w)).1) eb
          have dj' : ∀ a, T' a → ¬ S' a := fun a z w => by
            rcases hS' a w with w | w
            · exact (x.ow a (.inr z)).elim w.2 fun z => (own a (.inl w.1)).1 z
            · exact dj a z w
          have hpu : pu = true → Ex H H' := fun q => by
            obtain ⟨ds, hd⟩ := (hu q).2 ms e
            have nA := (datsOf_rep hd k1).2
            exact fun a u z => x.fr a u z (nA a)
          have y := st x hS'
          cases o with
          | true => exact h v B' H' S' T' s' rm dj' y hpu
          | false =>
            -- the answer is frozen
            have ow' := rm.owned
            have fe : Ex B' (frz B' H' T') := frz_ex fun a q => (ow' a q).2
            have r2 : Rep X.K X.mg (frz B' H' T') m.toD v := rm.freeze fe fun a q => frz_in q
            have s2 : Stt X.K X.mg π (frz B' H' T') H' σ μ' S' := s'.congr fe (frz_sub sub) fun a q => ⟨rfl, by rw [frz_out fun z => dj' a z q]; exact (s'.owned a q).2⟩
            refine h v (frz B' H' T') H' S' (fun _ => False) s2 (repM_dat.mpr ⟨r2, fun _ z => z⟩) (fun _ z => z.elim) ⟨y.ex.trans fe, y.fr, y.dom, fun a q => y.ow a (q.imp id False.elim), fun a q => ?_⟩ hpu
            by_cases z : T' a
            · exact .inr (y.ow a (.inr z))
            · rw [frz_out z] at q; exact y.fz a q
  · rw [if_neg g] at h; exact h.elim
end

/-! ### what has no effects gives data -/
mutual
theorem pureE {C : Nat → List M → CR} {pin : List Nat} : ∀ {e : E} {μ μ' : Env} {m : M}, e.pure = true → evalE C pin e μ = .ok m μ' → ∃ d, m = .dat d
  | .var i, μ, μ', m, _, h => by
    unfold evalE at h
    split at h
    · cases h; exact ⟨_, rfl⟩
    · cases h
  | .con d, μ, μ', m, _, h => by unfold evalE at h; cases h; exact ⟨_, rfl⟩
  | .op1 f a, μ, μ', m, _, h => by
    unfold evalE at h
    cases q : evalE C pin a μ with
    | stuck => rw [q] at h; cases h
    | err c μ1 => rw [q] at h; cases h
    | ok m1 μ1 =>
      rw [q] at h
      cases m1 with
      | dat d =>
        cases q2 : f d with
        | none => simp [onDat, outD, q2] at h
        | some d' => simp [onDat, outD, q2] at h; exact ⟨d', h.1.symm⟩
      | _ => cases h
  | .op2 f a b, μ, μ', m, _, h => by
    unfold evalE at h
    cases q : evalE C pin a μ with
    | stuck => rw [q] at h; cases h
    | err c μ1 => rw [q] at h; cases h
    | ok m1 μ1 =>
      rw [q] at h
      cases m1 with
      | dat d =>
        cases q2 : evalE C pin b μ1 with
        | stuck => simp [onDat, q2] at h
        | err c μ1 => simp [onDat, q2] at h
        | ok m2 μ2 =>
          cases m2 with
          | dat d2 =>
            cases q3 : f d d2 with
            | none => simp [onDat, outD, q2, q3] at h
            | some d' => simp [onDat, outD, q2, q3] at h; exact ⟨d', h.1.symm⟩
          | _ => simp [onDat, q2] at h
      | _ => cases h
  | .opN f as, μ, μ', m, _, h => by
    unfold evalE at h
    cases q : evalEs C pin as μ with
    | stuck => rw [q] at h; cases h
    | err c μ1 => rw [q] at h; cases h
    | ok ms μ1 =>
      rw [q] at h
      cases q2 : datsOf ms with
      | none => simp [q2] at h
      | some ds =>
        cases q3 : f ds with
        | none => simp [outD, q2, q3] at h
        | some d' => simp [outD, q2, q3] at h; exact ⟨d', h.1.symm⟩
  | .and a b, μ, μ', m, p, h => by
    have pb : b.pure = true := ((Bool.and_eq_true _ _).mp p).2
    unfold evalE at h
    cases q : evalE C pin a μ with
    | stuck => rw [q] at h; cases h
    | err c μ1 => rw [q] at h; cases h
    | ok m1 μ1 =>
      rw [q] at h
      cases m1 with
      | dat d =>
        cases d with
        | bl c =>
          cases c with
          | true => exact pureE pb h
          | false => simp [onDat] at h; exact ⟨_, h.1.symm⟩
        | _ => cases h
      | _ => cases h
  | .or a b, μ, μ', m, p, h => by
    have pb : b.pure = true := ((Bool.and_eq_true _ _).mp p).2
    unfold evalE at h
    cases q : evalE C pin a μ with
    | stuck => rw [q] at h; cases h
    | err c μ1 => rw [q] at h; cases h
    | ok m1 μ1 =>
      rw [q] at h
      cases m1 with
      | dat d =>
        cases d with
        | bl c =>
          cases c with
          | false => exact pureE pb h
          | true => simp [onDat] at h; exact ⟨_, h.1.symm⟩
        | _ => cases h
      | _ => cases h
  | .ite c a b, μ, μ', m, p, h => by
    have pb := (Bool.and_eq_true _ _).mp p
    have pa := (Bool.and_eq_true _ _).mp pb.1
    unfold evalE at h
    cases q : evalE C pin c μ with
    | stuck => rw [q] at h; cases h
    | err c μ1 => rw [q] at h; cases h
    | ok m1 μ1 =>
      rw [q] at h
      cases m1 with
      | dat d =>
        cases d with
        | bl c =>
          cases c with
          | false => exact pureE pb.2 h
          | true => exact pureE pa.2 h
        | _ => cases h
      | _ => cases h
  | .call o g as, μ, μ', m, p, h => by
    have po : o = false := by
      have := ((Bool.and_eq_true _ _).mp p).1
      simpa using this
    unfold evalE at h
    cases q : evalAs C pin as μ with
    | stuck => rw [q] at h; cases h
    | err c μ1 => rw [q] at h; cases h
    | ok ags μ1 =>
      rw [q] at h
      simp only [Out.bind] at h
      split at h
      · split at h
        · rename_i ms _
          cases q2 : C g ms with
          | stuck => rw [q2] at h; cases h
          | err c outs =>
            rw [q2] at h
            simp only [callEnd] at h
            split at h <;> cases h
          | ok m' outs =>
            rw [q2] at h
            simp only [callEnd] at h
            split at h
            · cases h
              rw [po]
              exact ⟨_, rfl⟩
            · cases h
        · cases h
      · cases h
  | .comp x own t f src c e, μ, μ', m, _, h => by
    unfold evalE at h
    split at h
    · cases q : evalEs C pin src μ with
      | stuck => rw [q] at h; cases h
      | err c μ1 => rw [q] at h; cases h
      | ok ms μ1 =>
        rw [q] at h
        simp only [Out.bind] at h
        split at h
        · split at h
          · split at h
            · cases h
            · cases h
            · split at h
              · cases h; exact ⟨_, rfl⟩
              · cases h
          · cases h
        · cases h
    · cases h
  | .pth p, μ, μ', m, _, h => by
    unfold evalE at h
    split at h
    · split at h
      · cases h; exact ⟨_, rfl⟩
      · cases h
    · cases h
  | .view e, μ, μ', m, _, h => by
    unfold evalE at h
    split at h
    · split at h
      · split at h
        · cases h; exact ⟨_, rfl⟩
        · cases h
      · cases h
    · cases h
  | .viewF e, μ, μ', m, _, h => by
    unfold evalE at h
    split at h
    · split at h
      · split at h
        · cases h; exact ⟨_, rfl⟩
        · cases h
      · cases h
    · cases h
end
theorem pureAs {C : Nat → List M → CR} {pin : List Nat} : ∀ {as : As} {μ μ' : Env} {ags : List Ag}, as.pure = true → evalAs C pin as μ = .ok ags μ' → ∀ μ2 ms, argMs ags μ2 = some ms → ∃ ds, datsOf ms = some ds
  | .nil, μ, μ', ags, _, h, μ2, ms, e => by
    unfold evalAs at h
    cases h
    unfold argMs at e
    cases e
    exact ⟨[], rfl⟩
  | .val a r, μ, μ', ags, p, h, μ2, ms, e => by
    have pp := (Bool.and_eq_true _ _).mp p
    unfold evalAs at h
    cases q : evalE C pin a μ with
    | stuck => rw [q] at h; cases h
    | err c μ1 => rw [q] at h; cases h
    | ok m μ1 =>
      rw [q] at h
      simp only [Out.bind] at h
      cases q2 : evalAs C pin r μ1 with
      | stuck => rw [q2] at h; cases h
      | err c μ1 => rw [q2] at h; cases h
      | ok ags' μ2' =>
        rw [q2] at h
        cases h
        have e : (argMs ags' μ2).map (m :: ·) = some ms := e
        cases q3 : argMs ags' μ2 with
        | none => rw [q3] at e; cases e
        | some ms' =>
          rw [q3] at e
          cases e
          obtain ⟨d, rfl⟩ := pureE pp.1 q
          obtain ⟨ds, hd⟩ := pureAs pp.2 q2 μ2 ms' q3
          exact ⟨d :: ds, by show (datsOf ms').map (d :: ·) = _; rw [hd]; rfl⟩
end Mi
/-! Mi7: calls, owned things, what is walked, comprehensions. -/
namespace Mi
open PySem L2
section
variable {b : Bd} {X : Cx} {x y : Expr} {ex ey e : E} {xs : List Expr} {as : As} {es : Es} {p : Path} {pos ppos : Pos} {n : Str}
theorem me_call {k g : Nat} {o : Bool} {f : Addr} {fd : FuncData} {ps : List Str} (G : FnOk X.prog X.w X.K X.mg X.base (L2.CX X.prog X.w) k f fd ps (spF X.K X.mg (b.C g))) (hr : Room k X.A) (hg : Gl X n) (hm : X.mg n = some (.ref f)) (hk : PySem.W.keepIn X.K (.ref f) = true) (hb : Binds X.K fd ps [])
    (ha : MAs b X (x :: xs) as) (hdb : (n == ("__debug__" : Str)) = false := by decide) (he : starEach (x :: xs) X.env = (false, eval x X.env) :: starEach xs X.env := by rfl) (hpl : (backTo pos (starEach xs X.env)).any (·.1) = false := by rfl) :
    ME b X (.Call (.Name n ppos) (x :: xs) [] pos) (.call o g as) := fun W tk =>
  PE.imp (pe_callS G hr hg hm hk hb (fun σ => passAt tk σ) (ha W tk) hdb he hpl) fun σ H Q ⟨π, B, μ, S, hp, s, h⟩ => by
    unfold evalE at h
    refine ⟨π, B, μ, S, hp, s, ?_⟩
    cases q : evalAs b.C b.pin as μ with
    | stuck => rw [q] at h; exact h
    | err c μ' => rw [q] at h; exact h
    | ok ags μ1 =>
      rw [q] at h
      intro vs B1 H1 S1 T s1 r1 d1 x1 u1
      have pr : (E.call o g as).pure = true → o = false ∧ as.pure = true := fun q => by
        have q1 := (Bool.and_eq_true _ _).mp q
        exact ⟨by simpa using q1.1, q1.2⟩
      exact call_ok s1 r1 d1 (fun q' => ⟨(pr q').1, fun ms e => pureAs (pr q').2 q μ1 ms e⟩) (h.mono x1 (fun _ z => z) fun q' => u1 (pureVals (pr q').2))
where pureVals : ∀ {as : As}, as.pure = true → as.vals = true
  | .nil, _ => rfl
  | .val e r, h => (Bool.and_eq_true _ _).mpr ⟨((Bool.and_eq_true _ _).mp h).1, pureVals ((Bool.and_eq_true _ _).mp h).2⟩

/-! ### new things -/
/-- frozen at once -/
theorem MF.me (h : MF b X x e) : ME b X x e := fun W tk => PE.imp (h W tk) fun σ H Q ⟨π, B, μ, S, hp, s, k⟩ => ⟨π, B, μ, S, hp, s, by
  cases q : evalE b.C b.pin e μ with
  | stuck => rw [q] at k; exact k
  | err c μ' => rw [q] at k; exact k
  | ok m μ' =>
    rw [q] at k
    cases m with
    | dat d =>
      intro p o B' H' S' s' x' u' hp' fr
      have ps := PStep.new s'.sub o hp'
      exact k (.ref p) _ _ S' (fun _ => False) (s'.pure ps) (repM_dat.mpr ⟨fr.rep ps.ex upd_same, fun _ z => z⟩) (fun _ z => z.elim) (x'.trans ((ps.step S').weak (fun _ z => z) fun _ z => z.elim id False.elim)) fun q => (u' q).trans ps.ext
    | _ => trivial⟩
theorem repMs_dats {K : PySem.W.Frag} {mg : Str → Option Value} {B H : Hp} : ∀ {ds : List D} {vs : List V}, RepL K mg B ds vs → RepMs K mg B H (ds.map .dat) vs fun _ => False
  | [], vs, h => by
    unfold RepL at h
    show RepMs K mg B H [] vs _
    unfold RepMs
    exact ⟨h, fun _ z => z⟩
  | d :: ds, vs, h => by
    unfold RepL at h
    obtain ⟨v, r, rfl, h1, h2⟩ := h
    show RepMs K mg B H (.dat d :: ds.map .dat) _ _
    unfold RepMs
    exact ⟨v, r, fun _ => False, fun _ => False, rfl, repM_dat.mpr ⟨h1, fun _ z => z⟩, repMs_dats h2, fun _ z => z.elim, fun _ => ⟨fun z => z.elim, fun z => z.elim id id⟩⟩
/-- a new object with what it holds; all else as it was -/
theorem Stt.new {K : PySem.W.Frag} {mg : Str → Option Value} {π : List (Nat × V)} {B H : Hp} {σ : L2.St} {μ : Env} {S : ASet} (s : Stt K mg π B H σ μ S) {p : Addr} {o : HO} (hp : H p = none) : Stt K mg π B (upd H p o) σ μ S :=
  s.congr (Ex.refl B) (s.sub.trans (Ex.new hp)) fun a q => ⟨upd_ne fun e => by rw [e] at q; exact (s.owned p q).1 hp, (s.owned a q).2⟩
theorem Step.new {B H : Hp} {S : ASet} {p : Addr} {o : HO} (hp : H p = none) : Step B H S B (upd H p o) fun a => S a ∨ a = p where
  ex := Ex.refl B
  fr := fun a u e _ => by rw [upd_ne (ne_of_none e hp)]; exact e
  dom := fun a e => (Ex.new hp).none e
  ow := fun a q => q.imp id fun e => by rw [e]; exact hp
  fz := fun a q => .inl q
/-- owned from the start -/
theorem me_own (h : MF b X x e) : ME b X x (.own e) := fun W tk => PE.imp (h W tk) fun σ H Q ⟨π, B, μ, S, hp, s, k⟩ => ⟨π, B, μ, S, hp, s, by
  unfold evalE at k
  cases q : evalE b.C b.pin e μ with
  | stuck => rw [q] at k; exact k
  | err c μ' => rw [q] at k; exact k
  | ok m μ' =>
    rw [q] at k
    cases m with
    | dat d =>
      intro p o B' H' S' s' x' u' hp' fr
      have bp : B' p = none := s'.sub.none hp'
      have nS : ∀ a, a = p → ¬ S' a := fun a e q => by rw [e] at q; exact (s'.owned p q).1 hp'
      have y : Step B H S B' (upd H' p o) fun a => S' a ∨ a = p := x'.trans (Step.new hp')
      rcases fr with ⟨ds, vs, rfl, rfl, r⟩ | ⟨ks, ds, vs, rfl, rfl, l, r⟩
      · refine k (.ref p) B' _ S' (fun a => a = p) (s'.new hp') ?_ nS y fun q => nomatch q
        show RepM X.K X.mg B' _ (.lst (ds.map .dat)) _ _
        unfold RepM
        exact ⟨p, vs, fun _ => False, rfl, upd_same, bp, repMs_dats r, fun z => z, fun a => ⟨.inl, fun z => z.elim id False.elim⟩⟩
      · refine k (.ref p) B' _ S' (fun a => a = p) (s'.new hp') ?_ nS y fun q => nomatch q
        show RepM X.K X.mg B' _ (.dct ks (ds.map .dat)) _ _
        unfold RepM
        exact ⟨p, vs, fun _ => False, rfl, ⟨upd_same, l⟩, bp, repMs_dats r, fun z => z, fun a => ⟨.inl, fun z => z.elim id False.elim⟩⟩
    | _ => trivial⟩
theorem twoF_imp {f : D → D → Option D} {r : R2} {W : WX} {σ : L2.St} {H : Hp} {Q : VK} (hf : Imp2F X.K X.mg f r) (h : b.tF X (.op2 f ex ey) W σ H Q) : tOp r (b.tE X ex W) (b.tE X ey W) σ H Q := by
  obtain ⟨π, B, μ, S, hp, s, h⟩ := h
  have pr : (E.op2 f ex ey).pure = true → ex.pure = true ∧ ey.pure = true := fun q => (Bool.and_eq_true _ _).mp q
  unfold evalE at h
  refine ⟨π, B, μ, S, hp, s, ?_⟩
  cases q : evalE b.C b.pin ex μ with
  | stuck => rw [q] at h; exact h
  | err c μ' => rw [q] at h; exact h
  | ok m1 μ1 =>
    rw [q] at h
    intro v B1 H1 S1 T1 s1 r1 d1 x1 u1
    cases m1 with
    | dat d1 =>
      refine ⟨π, B1, μ1, S1, hp, s1, ?_⟩
      have x1' : Step B H S B1 H1 S1 := x1.weak (fun _ z => z) fun _ z => .inl z
      dsimp only [Out.bind, onDat] at h
      cases q2 : evalE b.C b.pin ey μ1 with
      | stuck => rw [q2] at h; exact h
      | err c μ' =>
        rw [q2] at h
        exact fun B' H' S' s' x' C hC => h B' H' S' s' (x1'.trans x') C hC
      | ok m2 μ2 =>
        rw [q2] at h
        intro w B2 H2 S2 T2 s2 r2 d2 x2 u2
        cases m2 with
        | dat d2 =>
          dsimp only [Out.bind, onDat] at h
          cases q3 : f d1 d2 with
          | none => rw [q3] at h; exact h.elim
          | some d3 =>
            rw [q3] at h
            exact hf B2 H2 v w d1 d2 d3 Q s2.sub ((repM_dat.mp r1).1.mono x2.ex) (repM_dat.mp r2).1 q3 fun p o hp fr => h p o B2 H2 S2 s2 (x1'.trans (x2.weak (fun _ z => z) fun _ z => .inl z)) (fun q => (u1 (pr q).1).trans (u2 (pr q).2)) hp fr
        | _ => exact h.elim
    | _ => exact h.elim
theorem manyF_imp {fN : List D → Option D} {rN : List V → Hp → VK → Prop} {W : WX} {σ : L2.St} {H : Hp} {Q : VK} (hf : ImpNF X.K X.mg fN rN) (h : b.tF X (.opN fN es) W σ H Q) : b.tEs X es W σ H fun xs H1 => rN xs H1 Q := by
  obtain ⟨π, B, μ, S, hp, s, h⟩ := h
  unfold evalE at h
  refine ⟨π, B, μ, S, hp, s, ?_⟩
  cases q : evalEs b.C b.pin es μ with
  | stuck => rw [q] at h; exact h
  | err c μ' => rw [q] at h; exact h
  | ok ms μ1 =>
    rw [q] at h
    intro vs B1 H1 S1 T1 s1 r1 d1 x1 u1
    dsimp only [Out.bind] at h
    cases q2 : datsOf ms with
    | none => rw [q2] at h; exact h.elim
    | some ds =>
      rw [q2] at h
      dsimp only at h
      cases q3 : fN ds with
      | none => rw [q3] at h; exact h.elim
      | some d3 =>
        rw [q3] at h
        exact hf B1 H1 vs ds d3 Q s1.sub (datsOf_rep q2 r1).1 q3 fun p o hp fr => h p o B1 H1 S1 s1 (x1.weak (fun _ z => z) fun _ z => .inl z) u1 hp fr
theorem mf_lst (h : MEs b X xs es) : MF b X (.List xs pos) (.opN fLst es) := fun W tk => PE.imp (pe_lst (h W tk)) fun σ H Q q => manyF_imp impN_lst q
theorem mf_op {op : Operator} {f : D → D → Option D} {r : R2} (ho : OpR X (binaryOp op) r) (hf : Imp2F X.K X.mg f r) (hx : ME b X x ex) (hy : ME b X y ey) : MF b X (.BinOp x op y pos) (.op2 f ex ey) := fun W tk => PE.imp (pe_op ho (hx W tk) (hy W tk)) fun σ H Q h => twoF_imp hf h
theorem mf_ty {T : String} {fN : List D → Option D} {rN : List V → Hp → VK → Prop} (hc : CallR X (.type T) rN) (hf : ImpNF X.K X.mg fN rN) (hg : Gl X n) (hm : X.mg n = none) (hv : bootBuiltins n = some (.type T)) (ha : MEs b X (x :: xs) es) (hn : n ≠ "__name__" := by decide) (hdb : (n == ("__debug__" : Str)) = false := by decide)
    (he : starEach (x :: xs) X.env = (false, eval x X.env) :: starEach xs X.env := by rfl) (hpl : (backTo pos (starEach xs X.env)).any (·.1) = false := by rfl) : MF b X (.Call (.Name n ppos) (x :: xs) [] pos) (.opN fN es) := fun W tk =>
  PE.imp (pe_callTy hc hg hm hv (ha W tk) hn hdb he hpl) fun σ H Q q => manyF_imp hf q
theorem mf_bi {id : String} {fN : List D → Option D} {rN : List V → Hp → VK → Prop} (hc : CallR X (.builtin id) rN) (hf : ImpNF X.K X.mg fN rN) (hg : Gl X n) (hm : X.mg n = none) (hv : bootBuiltins n = some (.builtin id)) (ha : MEs b X (x :: xs) es) (hn : n ≠ "__name__" := by decide) (hdb : (n == ("__debug__" : Str)) = false := by decide)
    (he : starEach (x :: xs) X.env = (false, eval x X.env) :: starEach xs X.env := by rfl) (hpl : (backTo pos (starEach xs X.env)).any (·.1) = false := by rfl) : MF b X (.Call (.Name n ppos) (x :: xs) [] pos) (.opN fN es) := fun W tk =>
  PE.imp (pe_callB hc hg hm hv (ha W tk) hn hdb he hpl) fun σ H Q q => manyF_imp hf q
/-- {} -/
theorem mf_dct0 : MF b X (.Dict [] [] pos) (.con (.dct [] [])) := fun W tk => PE.imp pe_dnewK fun σ H Q ⟨π, B, μ, S, hp, s, h⟩ => by
  unfold evalE at h
  exact fun p hp' => h p _ B H S s (Step.refl B H S) (fun _ => Ex.refl H) hp' (.inr ⟨[], [], [], rfl, rfl, rfl, by unfold RepL; rfl⟩)
/-- a list of owned things -/
theorem me_ml (h : MEs b X xs es) : ME b X (.List xs pos) (.ml es) := fun W tk => PE.imp (pe_lst (h W tk)) fun σ H Q ⟨π, B, μ, S, hp, s, h⟩ => by
  unfold evalE at h
  refine ⟨π, B, μ, S, hp, s, ?_⟩
  cases q : evalEs b.C b.pin es μ with
  | stuck => rw [q] at h; exact h
  | err c μ' => rw [q] at h; exact h
  | ok ms μ1 =>
    rw [q] at h
    intro vs B1 H1 S1 T1 s1 r1 d1 x1 u1
    dsimp only [Out.bind] at h
    split at h
    · rename_i hl
      refine ⟨by rw [← repMs_len r1]; exact hl, fun p hp' => ?_⟩
      have nT : ¬ T1 p := fun z => (r1.owned p z).1 hp'
      refine h (.ref p) B1 _ S1 (fun a => a = p ∨ T1 a) (s1.new hp') ?_ (fun a z w => z.elim (fun e => by rw [e] at w; exact (s1.owned p w).1 hp') fun z => d1 a z w) ?_ fun q => nomatch q
      · show RepM X.K X.mg B1 _ (.lst ms) _ _
        unfold RepM
        exact ⟨p, vs, T1, rfl, upd_same, s1.sub.none hp', r1.congr (Ex.refl B1) fun a z => ⟨upd_ne fun e => by rw [e] at z; exact nT z, (r1.owned a z).2⟩, nT, fun a => Iff.rfl⟩
      · exact (x1.trans (Step.new hp')).weak (fun _ z => z) fun a z => z.elim (fun z => .inl (.inl z)) fun z => z.elim .inr fun z => .inl (.inr z)
    · exact h.elim
end

/-! ### what a loop walks -/
theorem PI.imp {X : Cx} {tg it : Expr} {w w' : TI} (h : PI X tg it w) (k : ∀ σ H R, w' σ H R → w σ H R) : PI X tg it w' := ⟨fun pins s σ H R I q => h.run pins s σ H R I (k σ H R q)⟩
theorem PI.or {X : Cx} {tg it : Expr} {w w' : TI} (h : PI X tg it w) (h' : PI X tg it w') : PI X tg it (fun σ H R => w σ H R ∨ w' σ H R) := ⟨fun pins s σ H R I q => q.elim (h.run pins s σ H R I) (h'.run pins s σ H R I)⟩
/-- J gives these, whatever goes on beside -/
def Walks (K : PySem.W.Frag) (mg : Str → Option Value) (B : Hp) (J : It) (ds : List D) : Prop := ∀ i B' H', Ex B B' → Ex B' H' →
  (∀ d, ds[i]? = some d → J.go i H' ∧ ∀ x H'', J.yld i H' x H'' → ∃ B'', PStep B' H' B'' H'' ∧ Rep K mg B'' d x) ∧ (ds[i]? = none → i ≤ ds.length → J.stop i H')
def tI (K : PySem.W.Frag) (mg : Str → Option Value) (C : Nat → List M → CR) (pin : List Nat) (f : List D → Option (List D)) (src : Es) (W : WX) : TI := fun σ H R => ∃ π B μ S, PinOf π pin ∧ Stt K mg π B H σ μ S ∧
  match evalEs C pin src μ with
  | .stuck => False
  | .err c μ' => ∀ B' H' S', Stt K mg π B' H' σ μ' S' → Step B H S B' H' S' → ∀ C, mg c = some (.ref C) → W (.ref C) none σ H'
  | .ok ms μ' => ∃ ds xs, datsOf ms = some ds ∧ f ds = some xs ∧ ∀ J B' H' S', Stt K mg π B' H' σ μ' S' → Step B H S B' H' S' → (src.pure = true → Ex H H') → Walks K mg B' J xs → R J H'
def MI (b : Bd) (X : Cx) (tg it : Expr) (f : List D → Option (List D)) (src : Es) : Prop := ∀ W, Takes X W → PI X tg it (tI X.K X.mg b.C b.pin f src W)
def fSeq : List D → Option (List D)
  | [.lst xs] => some xs
  | [.tup xs] => some xs
  | [.str s] => some (s.cps.toList.map fun c => .str ⟨#[c]⟩)
  | _ => none
section
variable {K : PySem.W.Frag} {mg : Str → Option Value} {B : Hp}
theorem repL_get : ∀ {ds : List D} {vs : List V} {i : Nat}, RepL K mg B ds vs → (∀ d, ds[i]? = some d → ∃ v, vs[i]? = some v ∧ Rep K mg B d v) ∧ (ds[i]? = none → vs[i]? = none)
  | [], vs, i, h => by
    unfold RepL at h
    subst h
    exact ⟨fun d e => by simp at e, fun _ => by simp⟩
  | d :: ds, vs, i, h => by
    unfold RepL at h
    obtain ⟨v, r, rfl, h1, h2⟩ := h
    cases i with
    | zero => exact ⟨fun d' e => ⟨v, rfl, by simp at e; subst e; exact h1⟩, fun e => by simp at e⟩
    | succ i =>
      have q := repL_get (i := i) h2
      exact ⟨fun d' e => by
        obtain ⟨w, e1, r1⟩ := q.1 d' (by simpa using e)
        exact ⟨w, by simpa using e1, r1⟩, fun e => by simpa using q.2 (by simpa using e)⟩
end
/-- what is read of one list stays one: two readings are one -/
def OneL (K : PySem.W.Frag) (H : Hp) (a : Addr) (vs : List V) : Prop := ∀ ys, SqL K H a ys → ys = vs
end Mi
/-! Mi8: what is walked; comprehensions. -/
namespace Mi
open PySem L2
section
variable {K : PySem.W.Frag} {mg : Str → Option Value} {B : Hp}
theorem walks_list {a : Addr} {vs : List V} {ds : List D} (h : SqL K B a vs) (r : RepL K mg B ds vs) : Walks K mg B (Itl K a) ds := fun i B' H' e1 e2 => by
  have q := (e1.trans e2).l h
  have g := repL_get (i := i) r
  refine ⟨fun d e => ?_, fun e hl => ⟨vs, q, ?_⟩⟩
  · obtain ⟨v, e3, r3⟩ := g.1 d e
    refine ⟨⟨vs, v, q, e3⟩, fun x H'' y => ?_⟩
    obtain ⟨rfl, y⟩ := y
    have e4 := y vs q
    rw [e3] at e4
    cases e4
    exact ⟨B', PStep.refl e2, r3.mono e1⟩
  · exact List.getElem?_eq_none_iff.mp (g.2 e)
theorem walks_tup {a : Addr} {vs : List V} {ds : List D} (h : SqT K B a vs) (r : RepL K mg B ds vs) : Walks K mg B (Itt K a) ds := fun i B' H' e1 e2 => by
  have q := (e1.trans e2).t h
  have g := repL_get (i := i) r
  refine ⟨fun d e => ?_, fun e hl => ⟨vs, q, ?_⟩⟩
  · obtain ⟨v, e3, r3⟩ := g.1 d e
    refine ⟨⟨vs, v, q, e3⟩, fun x H'' y => ?_⟩
    obtain ⟨rfl, y⟩ := y
    have e4 := y vs q
    rw [e3] at e4
    cases e4
    exact ⟨B', PStep.refl e2, r3.mono e1⟩
  · exact List.getElem?_eq_none_iff.mp (g.2 e)
theorem walks_range {lo : Int} {n : Nat} : Walks K mg B (Itr lo n) ((List.range n).map fun i => .int (lo + (i : Nat))) := fun i B' H' e1 e2 => by
  refine ⟨fun d e => ?_, fun e hl => ?_⟩
  · have hi : i < n := by
      have := (List.getElem?_eq_some_iff.mp e).1
      simpa using this
    refine ⟨hi, fun x H'' y => ?_⟩
    obtain ⟨rfl, rfl⟩ := y
    simp [hi] at e
    subst e
    exact ⟨B', PStep.refl e2, by unfold Rep; rfl⟩
  · have := List.getElem?_eq_none_iff.mp e
    show n ≤ i
    simpa using this
def enumD (ds : List D) : List D := (List.range ds.length).map fun i => .tup [.int (i : Nat), ds.getD i .non]
theorem enumD_get {ds : List D} {i : Nat} : (enumD ds)[i]? = (ds[i]?).map fun d => .tup [.int (i : Nat), d] := by
  unfold enumD
  by_cases h : i < ds.length
  · simp [h]
  · rw [List.getElem?_eq_none (by simpa using h), List.getElem?_eq_none (by simpa using h)]
    rfl
theorem walks_enum {a : Addr} {vs : List V} {ds : List D} (h : SqL K B a vs) (r : RepL K mg B ds vs) : Walks K mg B (Ite K a) (enumD ds) := fun i B' H' e1 e2 => by
  have q := (e1.trans e2).l h
  have g := repL_get (i := i) r
  refine ⟨fun d e => ?_, fun e hl => ⟨vs, q, ?_⟩⟩
  · rw [enumD_get] at e
    cases ed : ds[i]? with
    | none => rw [ed] at e; cases e
    | some d0 =>
      rw [ed] at e
      cases e
      obtain ⟨v, e3, r3⟩ := g.1 d0 ed
      refine ⟨⟨vs, v, q, e3⟩, fun x H'' y => ?_⟩
      obtain ⟨T, x', rfl, hT, rfl, y⟩ := y
      have e4 := y vs q
      rw [e3] at e4
      cases e4
      have ps := PStep.new e2 (.tup [.int (i : Nat), v]) hT
      refine ⟨_, ps, ?_⟩
      unfold Rep RepL RepL RepL
      refine ⟨T, _, rfl, .inl (.inl upd_same), _, _, rfl, by unfold Rep; rfl, _, _, rfl, r3.mono (e1.trans ps.ex), rfl⟩
  · have z : ds[i]? = none := by
      rw [enumD_get] at e
      cases ed : ds[i]? with
      | none => rfl
      | some d0 => rw [ed] at e; cases e
    exact List.getElem?_eq_none_iff.mp (g.2 z)
theorem walks_str {s : Str} : Walks K mg B (Its s) (s.cps.toList.map fun c => .str ⟨#[c]⟩) := fun i B' H' e1 e2 => by
  refine ⟨fun d e => ?_, fun e hl => ?_⟩
  · have hi : i < s.cps.size := by
      have := (List.getElem?_eq_some_iff.mp e).1
      simpa using this
    refine ⟨hi, fun x H'' y => ?_⟩
    obtain ⟨rfl, c, hc, rfl⟩ := y
    rw [List.getElem?_map] at e
    have hc' : s.cps.toList[i]? = some c := by simpa using hc
    rw [hc'] at e
    cases e
    exact ⟨B', PStep.refl e2, by unfold Rep; rfl⟩
  · have := List.getElem?_eq_none_iff.mp e
    show s.cps.size ≤ i
    simpa using this
def zipD (xs ys : List D) : List D := (xs.zip ys).map fun p => .tup [p.1, p.2]
theorem zipD_get {xs ys : List D} {i : Nat} : (zipD xs ys)[i]? = (xs[i]?).bind fun x => (ys[i]?).map fun y => .tup [x, y] := by
  unfold zipD
  rw [List.getElem?_map, List.zip, List.getElem?_zipWith]
  cases xs[i]? with
  | none => rfl
  | some x => cases ys[i]? <;> rfl
theorem walks_zip {a c : Addr} {vs ws : List V} {ds es : List D} (h : SqL K B a vs) (r : RepL K mg B ds vs) (h' : SqL K B c ws) (r' : RepL K mg B es ws) : Walks K mg B (Itz K a c) (zipD ds es) := fun i B' H' e1 e2 => by
  have q := (e1.trans e2).l h
  have q' := (e1.trans e2).l h'
  have g := repL_get (i := i) r
  have g' := repL_get (i := i) r'
  refine ⟨fun d e => ?_, fun e hl => ⟨vs, ws, q, q', ?_⟩⟩
  · rw [zipD_get] at e
    cases ed : ds[i]? with
    | none => rw [ed] at e; cases e
    | some d0 =>
      cases ee : es[i]? with
      | none => rw [ed, ee] at e; cases e
      | some d1 =>
        rw [ed, ee] at e
        cases e
        obtain ⟨v, e3, r3⟩ := g.1 d0 ed
        obtain ⟨w, e3', r3'⟩ := g'.1 d1 ee
        refine ⟨⟨vs, ws, v, w, q, q', e3, e3'⟩, fun x H'' y => ?_⟩
        obtain ⟨T, x', y', rfl, hT, rfl, y1, y2⟩ := y
        have e4 := y1 vs q
        rw [e3] at e4
        cases e4
        have e5 := y2 ws q'
        rw [e3'] at e5
        cases e5
        have ps := PStep.new e2 (.tup [v, w]) hT
        refine ⟨_, ps, ?_⟩
        unfold Rep RepL RepL RepL
        exact ⟨T, _, rfl, .inl (.inl upd_same), _, _, rfl, r3.mono (e1.trans ps.ex), _, _, rfl, r3'.mono (e1.trans ps.ex), rfl⟩
  · rw [zipD_get] at e
    cases ed : ds[i]? with
    | none => exact .inl (List.getElem?_eq_none_iff.mp (g.2 ed))
    | some d0 =>
      cases ee : es[i]? with
      | none => exact .inr (List.getElem?_eq_none_iff.mp (g'.2 ee))
      | some d1 => rw [ed, ee] at e; cases e
end
section
variable {b : Bd} {X : Cx} {x y tg : Expr} {e e' : E} {pos ppos : Pos} {es : Es}
/-- one operand of a loop -/
theorem iter1 {f : List D → Option (List D)} {W : WX} {σ : L2.St} {H : Hp} {R : It → Hp → Prop} {Q : V → Hp → Prop} (h : tI X.K X.mg b.C b.pin f (.cons e .nil) W σ H R)
    (k : ∀ (d : D) xs B1 H1 v, f [d] = some xs → Ex B1 H1 → Rep X.K X.mg B1 d v → (∀ J, Walks X.K X.mg B1 J xs → R J H1) → Q v H1) : b.tE X e W σ H Q := by
  obtain ⟨π, B, μ, S, hp, s, h⟩ := h
  refine ⟨π, B, μ, S, hp, s, ?_⟩
  simp only [evalEs] at h
  cases q : evalE b.C b.pin e μ with
  | stuck => rw [q] at h; exact h
  | err c μ' => rw [q] at h; exact h
  | ok m μ1 =>
    rw [q] at h
    dsimp only [Out.bind] at h
    obtain ⟨ds, xs, e1, e2, h⟩ := h
    cases m with
    | dat d =>
      have e3 : ds = [d] := by
        unfold datsOf datsOf at e1
        cases e1; rfl
      subst e3
      intro v B1 H1 S1 T s1 r1 d1 x1 u1
      exact k d xs B1 H1 v e2 s1.sub (repM_dat.mp r1).1 fun J w => h J B1 H1 S1 s1 (x1.weak (fun _ z => z) fun _ z => .inl z) (fun q => u1 ((Bool.and_eq_true _ _).mp q).1) w
    | _ => unfold datsOf at e1; cases e1
theorem mi_list (h : ME b X x e) : MI b X tg x fSeq (.cons e .nil) := fun W tk =>
  PI.imp (PI.or (pi_list (h W tk)) (PI.or (pi_tup (h W tk)) (pi_str (h W tk)))) fun σ H R k => by
    have k0 := k
    obtain ⟨π, B, μ, S, hp, s, k1⟩ := k0
    -- which it is
    have it : ∀ d μ', evalE b.C b.pin e μ = .ok (.dat d) μ' → (∃ xs, d = .lst xs) ∨ (∃ xs, d = .tup xs) ∨ ∃ z, d = .str z := fun d μ' q => by
      simp only [evalEs] at k1
      rw [q] at k1
      dsimp only [Out.bind] at k1
      obtain ⟨ds, xs, e1, e2, _⟩ := k1
      have e3 : ds = [d] := by
        unfold datsOf datsOf at e1
        cases e1; rfl
      subst e3
      cases d <;> first | exact .inl ⟨_, rfl⟩ | exact .inr (.inl ⟨_, rfl⟩) | exact .inr (.inr ⟨_, rfl⟩) | (exact absurd e2 (by unfold fSeq; intro q; cases q))
    cases q : evalE b.C b.pin e μ with
    | stuck => exact absurd k1 (by simp only [evalEs]; rw [q]; exact id)
    | err c μ' =>
      refine .inl ⟨π, B, μ, S, hp, s, ?_⟩
      rw [q]
      simp only [evalEs] at k1
      rw [q] at k1
      exact k1
    | ok m μ1 =>
      simp only [evalEs] at k1
      rw [q] at k1
      dsimp only [Out.bind] at k1
      obtain ⟨ds, xs, e1, e2, k1⟩ := k1
      cases m with
      | dat d =>
        have e3 : ds = [d] := by
          unfold datsOf datsOf at e1
          cases e1; rfl
        subst e3
        have fin : ∀ (B1 H1 : Hp) (S1 T : ASet), Stt X.K X.mg π B1 H1 σ μ1 S1 → (∀ z, T z → ¬ S1 z) → Step B H S B1 H1 (fun z => S1 z ∨ T z) → (e.pure = true → Ex H H1) → ∀ J, Walks X.K X.mg B1 J xs → R J H1 := fun B1 H1 S1 T s1 d1 x1 u1 J w =>
          k1 J B1 H1 S1 s1 (x1.weak (fun _ z => z) fun _ z => .inl z) (fun q => u1 ((Bool.and_eq_true _ _).mp q).1) w
        rcases it d μ1 q with ⟨zs, rfl⟩ | ⟨zs, rfl⟩ | ⟨z, rfl⟩
        · refine .inl ⟨π, B, μ, S, hp, s, ?_⟩
          rw [q]
          intro v B1 H1 S1 T s1 r1 d1 x1 u1
          have r2 := (repM_dat.mp r1).1
          unfold Rep at r2
          obtain ⟨a, vs, rfl, r3, r4⟩ := r2
          cases e2
          exact ⟨a, rfl, ⟨vs, s1.sub.l r3⟩, fin B1 H1 S1 T s1 d1 x1 u1 _ (walks_list r3 r4)⟩
        · refine .inr (.inl ⟨π, B, μ, S, hp, s, ?_⟩)
          rw [q]
          intro v B1 H1 S1 T s1 r1 d1 x1 u1
          have r2 := (repM_dat.mp r1).1
          unfold Rep at r2
          obtain ⟨a, vs, rfl, r3, r4⟩ := r2
          cases e2
          exact ⟨a, rfl, ⟨vs, s1.sub.t r3⟩, fin B1 H1 S1 T s1 d1 x1 u1 _ (walks_tup r3 r4)⟩
        · refine .inr (.inr ⟨π, B, μ, S, hp, s, ?_⟩)
          rw [q]
          intro v B1 H1 S1 T s1 r1 d1 x1 u1
          have r2 := (repM_dat.mp r1).1
          unfold Rep at r2
          subst r2
          cases e2
          exact ⟨z, rfl, fin B1 H1 S1 T s1 d1 x1 u1 _ walks_str⟩
      | _ => unfold datsOf at e1; cases e1
/-- the operands of a loop -/
theorem iterN {f : List D → Option (List D)} {W : WX} {σ : L2.St} {H : Hp} {R : It → Hp → Prop} {Q : List V → Hp → Prop} (h : tI X.K X.mg b.C b.pin f es W σ H R)
    (k : ∀ (ds : List D) xs B1 H1 vs, f ds = some xs → Ex B1 H1 → RepL X.K X.mg B1 ds vs → (∀ J, Walks X.K X.mg B1 J xs → R J H1) → Q vs H1) : b.tEs X es W σ H Q := by
  obtain ⟨π, B, μ, S, hp, s, h⟩ := h
  refine ⟨π, B, μ, S, hp, s, ?_⟩
  cases q : evalEs b.C b.pin es μ with
  | stuck => rw [q] at h; exact h
  | err c μ' => rw [q] at h; exact h
  | ok m μ1 =>
    rw [q] at h
    obtain ⟨ds, xs, e1, e2, h⟩ := h
    intro v B1 H1 S1 T s1 r1 d1 x1 u1
    exact k ds xs B1 H1 v e2 s1.sub (datsOf_rep e1 r1).1 fun J w => h J B1 H1 S1 s1 (x1.weak (fun _ z => z) fun _ z => .inl z) u1 w
def fRange1 : List D → Option (List D)
  | [.int j] => if -(2 ^ 62) ≤ j ∧ j < 2 ^ 62 then some ((List.range j.toNat).map fun i => .int (0 + (i : Nat))) else none
  | _ => none
def fRange2 : List D → Option (List D)
  | [.int i, .int j] => if (-(2 ^ 62) ≤ i ∧ i < 2 ^ 62) ∧ -(2 ^ 62) ≤ j ∧ j < 2 ^ 62 then some ((List.range (j - i).toNat).map fun k => .int (i + (k : Nat))) else none
  | _ => none
def fEnum : List D → Option (List D)
  | [.lst xs] => some (enumD xs)
  | _ => none
def fZip : List D → Option (List D)
  | [.lst xs, .lst ys] => some (zipD xs ys)
  | _ => none
theorem repL1 {K : PySem.W.Frag} {mg : Str → Option Value} {B : Hp} {d : D} {vs : List V} (h : RepL K mg B [d] vs) : ∃ v, vs = [v] ∧ Rep K mg B d v := by
  unfold RepL RepL at h
  obtain ⟨v, r, rfl, h1, rfl⟩ := h
  exact ⟨v, rfl, h1⟩
theorem repL2 {K : PySem.W.Frag} {mg : Str → Option Value} {B : Hp} {d d' : D} {vs : List V} (h : RepL K mg B [d, d'] vs) : ∃ v w, vs = [v, w] ∧ Rep K mg B d v ∧ Rep K mg B d' w := by
  unfold RepL at h
  obtain ⟨v, r, rfl, h1, h2⟩ := h
  obtain ⟨w, rfl, h3⟩ := repL1 h2
  exact ⟨v, w, rfl, h1, h3⟩
theorem rep_int {K : PySem.W.Frag} {mg : Str → Option Value} {B : Hp} {i : Int} {v : V} (h : Rep K mg B (.int i) v) : v = .int i := by unfold Rep at h; exact h
theorem rep_str {K : PySem.W.Frag} {mg : Str → Option Value} {B : Hp} {i : Str} {v : V} (h : Rep K mg B (.str i) v) : v = .str i := by unfold Rep at h; exact h
theorem rep_lst {K : PySem.W.Frag} {mg : Str → Option Value} {B : Hp} {xs : List D} {v : V} (h : Rep K mg B (.lst xs) v) : ∃ a vs, v = .ref a ∧ SqL K B a vs ∧ RepL K mg B xs vs := by unfold Rep at h; exact h
theorem rep_tup {K : PySem.W.Frag} {mg : Str → Option Value} {B : Hp} {xs : List D} {v : V} (h : Rep K mg B (.tup xs) v) : ∃ a vs, v = .ref a ∧ SqT K B a vs ∧ RepL K mg B xs vs := by unfold Rep at h; exact h
theorem mi_range1 (hg : Gl X "range") (hm : X.mg "range" = none) (h : MEs b X [x] es) (hs : starEach [x] X.env = [(false, eval x X.env)] := by rfl) : MI b X tg (.Call (.Name "range" ppos) [x] [] pos) fRange1 es := fun W tk =>
  PI.imp (pi_range1 hg hm (h W tk) hs) fun σ H R k => iterN k fun ds xs B1 H1 vs hf e1 r w => by
    unfold fRange1 at hf
    split at hf
    · split at hf
      · rename_i j hb
        cases hf
        obtain ⟨v, rfl, r1⟩ := repL1 r
        rw [rep_int r1]
        exact ⟨j, rfl, hb.1, hb.2, w _ walks_range⟩
      · cases hf
    · cases hf
theorem mi_range2 (hg : Gl X "range") (hm : X.mg "range" = none) (h : MEs b X [x, y] es) (hs : starEach [x, y] X.env = [(false, eval x X.env), (false, eval y X.env)] := by rfl) (hs2 : starEach [y] X.env = [(false, eval y X.env)] := by rfl) : MI b X tg (.Call (.Name "range" ppos) [x, y] [] pos) fRange2 es := fun W tk =>
  PI.imp (pi_range2 hg hm (h W tk) hs hs2) fun σ H R k => iterN k fun ds xs B1 H1 vs hf e1 r w => by
    unfold fRange2 at hf
    split at hf
    · split at hf
      · rename_i i j hb
        cases hf
        obtain ⟨v, u, rfl, r1, r2⟩ := repL2 r
        rw [rep_int r1, rep_int r2]
        exact ⟨i, j, rfl, ⟨hb.1.1, hb.1.2, hb.2.1, hb.2.2⟩, w _ walks_range⟩
      · cases hf
    · cases hf
theorem mi_enum {elts : List Expr} {kk : Nat} {tpos : Pos} (hg : Gl X "enumerate") (hm : X.mg "enumerate" = none) (h : MEs b X [x] es) (hs : starEach [x] X.env = [(false, eval x X.env)] := by rfl) : MI b X (.Tuple elts kk tpos) (.Call (.Name "enumerate" ppos) [x] [] pos) fEnum es := fun W tk =>
  PI.imp (pi_enum hg hm (h W tk) hs) fun σ H R k => iterN k fun ds xs B1 H1 vs hf e1 r w => by
    unfold fEnum at hf
    split at hf
    · cases hf
      obtain ⟨v, rfl, r1⟩ := repL1 r
      obtain ⟨a, us, rfl, r2, r3⟩ := rep_lst r1
      exact ⟨a, us, rfl, e1.l r2, w _ (walks_enum r2 r3)⟩
    · cases hf
theorem mi_zip {elts : List Expr} {kk : Nat} {tpos : Pos} (hg : Gl X "zip") (hm : X.mg "zip" = none) (h : MEs b X [x, y] es) (hs : starEach [x, y] X.env = (false, eval x X.env) :: starEach [y] X.env := by rfl) (hpl : (backTo pos (starEach [y] X.env)).any (·.1) = false := by rfl) : MI b X (.Tuple elts kk tpos) (.Call (.Name "zip" ppos) [x, y] [] pos) fZip es := fun W tk =>
  PI.imp (pi_zip hg hm (h W tk) hs hpl) fun σ H R k => iterN k fun ds xs B1 H1 vs hf e1 r w => by
    unfold fZip at hf
    split at hf
    · cases hf
      obtain ⟨v, u, rfl, r1, r2⟩ := repL2 r
      obtain ⟨a, us, rfl, r3, r4⟩ := rep_lst r1
      obtain ⟨c, ws, rfl, r5, r6⟩ := rep_lst r2
      exact ⟨a, c, us, ws, rfl, e1.l r3, e1.l r5, w _ (walks_zip r3 r4 r5 r6)⟩
    · cases hf
end

/-! ### targets -/
def tG (K : PySem.W.Frag) (mg : Str → Option Value) (pin : List Nat) (t : Tg) : TG := fun v σ H Q => ∃ π B μ S T m, PinOf π pin ∧ (∀ i ∈ t.slots, i ∉ pin) ∧ Stt K mg π B H σ μ S ∧ RepM K mg B H m v T ∧ (∀ a, T a → ¬ S a) ∧
  ∃ μ', setTg t m μ = some μ' ∧ ∀ σ' S', Stt K mg π B H σ' μ' S' → (∀ a, S' a → S a ∨ T a) → (∀ i, i ∉ t.slots → σ'[i]? = σ[i]?) → Q σ' H
def MG (b : Bd) (X : Cx) (tg : Expr) (t : Tg) : Prop := PG X tg (tG X.K X.mg b.pin t)
theorem PG.imp {X : Cx} {tg : Expr} {t t' : TG} (h : PG X tg t) (k : ∀ v σ H Q, t' v σ H Q → t v σ H Q) : PG X tg t' := ⟨fun pins s σ H v u Q I r q => h.run pins s σ H v u Q I r (k v σ H Q q)⟩
section
variable {b : Bd} {X : Cx} {x y tg : Expr} {e : E} {pos ppos : Pos} {es : Es} {n : Str}
theorem mg_name {i : Nat} (hN : X.N.Nodup) (hi : X.N[i]? = some n) (hx : Loc X.env.scope n) (hf : X.fn n = true ∨ X.env.scope.names.lookup n = some .local := by first | exact .inl rfl | exact .inr rfl | assumption) : MG b X (.Name n pos) (.one i) :=
  PG.imp (pg_name hN hi hx hf) fun v σ H Q ⟨π, B, μ, S, T, m, hp, np, s, r, d, μ', e, k⟩ => by
    have e : (if i < μ.length then some (μ.set i (some m)) else none) = some μ' := e
    split at e
    · rename_i hl
      cases e
      obtain ⟨S', s', hS⟩ := s.fill hl r d fun p hp' q => np i (by simp [Tg.slots]) (by rw [← q]; exact hp p hp')
      exact k _ S' s' hS fun j hj => List.getElem?_set_ne fun e => hj (by simp [Tg.slots, e])
    · cases e
/-- the slots of a written tuple's targets -/
def MGs (X : Cx) (es : List Expr) (is : List Nat) : Prop := ∃ t : TGs, PGs X es t ∧ ∀ vs (σ : L2.St) (H : Hp) (Q : L2.St → Hp → Prop), vs.length = is.length → Q ((is.zip vs).foldl (fun σ p => σ.set p.1 (some p.2)) σ) H → t vs σ H Q
theorem mgs_nil : MGs X [] [] := ⟨gNil, pgs_nil, fun vs σ H Q hl q => by
  have e : vs = [] := List.eq_nil_of_length_eq_zero hl
  subst e
  exact ⟨rfl, q⟩⟩
theorem mgs_cons {i : Nat} {is : List Nat} {xs : List Expr} (hN : X.N.Nodup) (hi : X.N[i]? = some n) (hx : Loc X.env.scope n) (hr : MGs X xs is) (hf : X.fn n = true ∨ X.env.scope.names.lookup n = some .local := by first | exact .inl rfl | exact .inr rfl | assumption)
    (hs : (assignEach (.Name n pos :: xs) X.env).map (·.2) = assign (.Name n pos) X.env :: (assignEach xs X.env).map (·.2) := by rfl) : MGs X (.Name n pos :: xs) (i :: is) := by
  obtain ⟨t, ht, k⟩ := hr
  refine ⟨gCons (gName i) t, pgs_cons (pg_name hN hi hx hf) ht hs, fun vs σ H Q hl q => ?_⟩
  cases vs with
  | nil => cases hl
  | cons v r => exact ⟨v, r, rfl, k r _ H Q (by simpa using hl) q⟩
theorem set_many {K : PySem.W.Frag} {mg : Str → Option Value} {pin : List Nat} {π : List (Nat × V)} {B H : Hp} (hp : PinOf π pin) : ∀ {is : List Nat} {ds : List D} {vs : List V} {σ : L2.St} {μ μ' : Env} {S : ASet}, (∀ i ∈ is, i ∉ pin) → Stt K mg π B H σ μ S → RepL K mg B ds vs → setMany is ds μ = some μ' →
    vs.length = is.length ∧ ∃ S', Stt K mg π B H ((is.zip vs).foldl (fun σ p => σ.set p.1 (some p.2)) σ) μ' S' ∧ (∀ a, S' a → S a) ∧ ∀ j, j ∉ is → ((is.zip vs).foldl (fun σ p => σ.set p.1 (some p.2)) σ)[j]? = σ[j]?
  | [], [], vs, σ, μ, μ', S, _, s, r, e => by
    unfold RepL at r
    subst r
    have e : μ = μ' := by simpa [setMany] using e
    subst e
    exact ⟨rfl, S, s, fun _ z => z, fun _ _ => rfl⟩
  | [], _ :: _, _, _, _, _, _, _, _, _, e => by simp [setMany] at e
  | _ :: _, [], _, _, _, _, _, _, _, _, e => by simp [setMany] at e
  | i :: is, d :: ds, vs, σ, μ, μ', S, np, s, r, e => by
    unfold RepL at r
    obtain ⟨v, r', rfl, r1, r2⟩ := r
    have e : (if i < μ.length then setMany is ds (μ.set i (some (.dat d))) else none) = some μ' := e
    split at e
    · rename_i hl
      obtain ⟨S1, s1, h1⟩ := s.fill (T := fun _ => False) hl (repM_dat.mpr ⟨r1, fun _ z => z⟩) (fun _ z => z.elim) fun p hp' q => np i List.mem_cons_self (by rw [← q]; exact hp p hp')
      obtain ⟨h2, S2, s2, h3, h4⟩ := set_many hp (fun j hj => np j (List.mem_cons_of_mem _ hj)) s1 r2 e
      refine ⟨by simp [h2], S2, s2, fun a z => (h1 a (h3 a z)).elim id False.elim, fun j hj => ?_⟩
      have hj' : j ≠ i ∧ j ∉ is := by simpa using hj
      show ((is.zip r').foldl (fun σ p => σ.set p.1 (some p.2)) (σ.set i (some v)))[j]? = _
      rw [h4 j hj'.2]
      exact List.getElem?_set_ne fun e => hj'.1 e.symm
    · cases e
theorem mg_tup {xs : List Expr} {k : Nat} {is : List Nat} (hc : X.calm = true) (h : MGs X xs is) (hn : (assignEach xs X.env).length = is.length := by rfl) (hst : (assignEach xs X.env).findIdx? (·.1) = none := by rfl) : MG b X (.Tuple xs k pos) (.many is) := by
  obtain ⟨t, ht, kt⟩ := h
  refine PG.imp (pg_tup hc ht hn hst) fun v σ H Q ⟨π, B, μ, S, T, m, hp, np, s, r, d, μ', e, kk⟩ => ?_
  cases m with
  | dat dd =>
    cases dd with
    | tup ds =>
      have e : setMany is ds μ = some μ' := e
      obtain ⟨a, vs, rfl, r1, r2⟩ := rep_tup (repM_dat.mp r).1
      obtain ⟨hl, S', s', h1, h2⟩ := set_many hp np s r2 e
      exact ⟨a, vs, rfl, s.sub.t r1, hl, kt vs σ H Q hl (kk _ S' s' (fun a z => .inl (h1 a z)) h2)⟩
    | _ => cases e
  | _ => cases e
end
end Mi
/-! Mi9: comprehensions. -/
namespace Mi
open PySem L2
theorem wipe_in {σ : L2.St} {i : Nat} : ∀ {vs : List Nat}, i ∈ vs → i < σ.length → (wipe σ vs)[i]? = some none
  | v :: vs, h, hl => by
    unfold wipe
    by_cases e : v = i
    · subst e; exact List.getElem?_set_self (by rw [wipe_length]; exact hl)
    · rw [List.getElem?_set_ne e]
      exact wipe_in (by rcases List.mem_cons.mp h with q | q; exact absurd q.symm e; exact q) hl
theorem wipe_not {σ : L2.St} {i : Nat} : ∀ {vs : List Nat}, i ∉ vs → (wipe σ vs)[i]? = σ[i]?
  | [], _ => rfl
  | v :: vs, h => by
    unfold wipe
    have h' : i ≠ v ∧ i ∉ vs := by simpa using h
    rw [List.getElem?_set_ne (fun e => h'.1 e.symm)]
    exact wipe_not h'.2
theorem wipe_again {σ σ2 : L2.St} {vs : List Nat} (hl : σ2.length = σ.length) (h : ∀ i, i ∉ vs → σ2[i]? = (wipe σ vs)[i]?) : wipe σ2 vs = wipe σ vs := by
  apply List.ext_getElem?
  intro j
  by_cases e : j ∈ vs
  · by_cases q : j < σ.length
    · rw [wipe_in e q, wipe_in e (by rw [hl]; exact q)]
    · rw [List.getElem?_eq_none (by rw [wipe_length]; omega), List.getElem?_eq_none (by rw [wipe_length]; omega)]
  · rw [wipe_not e, h j e]
theorem slot_wipe {μ : Env} {i : Nat} : ∀ {vs : List Nat}, slot (wipeE vs μ) i = if i ∈ vs then none else slot μ i
  | [] => by simp [wipeE]
  | v :: vs => by
    show slot ((wipeE vs μ).set v none) i = _
    rw [slot_set_none, slot_wipe (vs := vs)]
    by_cases e : v = i
    · subst e; simp
    · have e' : i ≠ v := fun q => e q.symm
      simp [e, e']
theorem wipeE_len {μ : Env} : ∀ {vs : List Nat}, (wipeE vs μ).length = μ.length
  | [] => rfl
  | v :: vs => by
    show ((wipeE vs μ).set v none).length = _
    rw [List.length_set, wipeE_len]
section
variable {K : PySem.W.Frag} {mg : Str → Option Value} {π : List (Nat × V)} {B H : Hp} {σ σ' : L2.St} {μ μ' : Env} {S : ASet}
/-- fewer slots -/
theorem Stt.less (s : Stt K mg π B H σ μ S) (hl : σ'.length = σ.length) (hl' : μ'.length = μ.length) (h : ∀ i m, slot μ' i = some m → slot μ i = some m ∧ σ'[i]? = σ[i]?) (hp : ∀ p ∈ π, σ'[p.1]? = σ[p.1]?) : ∃ S', Stt K mg π B H σ' μ' S' ∧ ∀ a, S' a → S a := by
  obtain ⟨F, h1, h2, h3, h4⟩ := s.slots
  refine ⟨fun a => ∃ i, slot μ' i ≠ none ∧ F i a, ⟨s.sub, by rw [hl, hl']; exact s.len, ⟨fun i a => slot μ' i ≠ none ∧ F i a, fun i m e => ?_, fun i e a q => q.1 e, fun i j a n q z => h3 i j a n q.2 z.2, fun a => Iff.rfl⟩, fun p q => by rw [hp p q]; exact s.pins p q⟩, fun a ⟨i, _, q⟩ => (h4 a).mpr ⟨i, q⟩⟩
  obtain ⟨e1, e2⟩ := h i m e
  obtain ⟨v, e3, r⟩ := h1 i m e1
  exact ⟨v, by rw [e2]; exact e3, r.cast fun a => ⟨fun q => ⟨by rw [e]; simp, q⟩, fun q => q.2⟩⟩
end
def MTs (b : Bd) (X : Cx) (ifs : List Expr) (c : E) : Prop := ∀ W, Takes X W → PTs X ifs (b.tT X c W)
theorem PTs.imp {X : Cx} {ifs : List Expr} {t t' : TT} (h : PTs X ifs t) (k : ∀ σ H Q, t' σ H Q → t σ H Q) : PTs X ifs t' := ⟨fun pins s σ H Q I q => h.run pins s σ H Q I (k σ H Q q)⟩
theorem mts_nil {b : Bd} {X : Cx} : MTs b X [] (.con (.bl true)) := fun W tk => PTs.imp pts_nil fun σ H Q ⟨π, B, μ, S, hp, s, h⟩ => by
  unfold evalE at h
  obtain ⟨c, e, q⟩ := h.done (v := .bl true) s (PStep.refl s.sub) (by unfold Rep; rfl)
  cases e
  exact q
theorem mts_one {b : Bd} {X : Cx} {c : Expr} {e : E} (h : MT b X c e) : MTs b X [c] e := fun W tk => pts_one (h W tk)
theorem compLoop_len {own : List Nat} {t : Tg} {c e : Env → Out D} : ∀ {xs : List D} {acc : List D} {μ μ' : Env} {ys : List D}, compLoop own t c e xs acc μ = .ok ys μ' → acc.length ≤ ys.length
  | [], acc, μ, μ', ys, h => by unfold compLoop at h; cases h; exact Nat.le_refl _
  | d :: ds, acc, μ, μ', ys, h => by
    unfold compLoop at h
    split at h
    · cases h
    · rename_i μ1 _
      cases q : c μ1 with
      | stuck => rw [q] at h; cases h
      | err x y => rw [q] at h; cases h
      | ok bb μ2 =>
        rw [q] at h
        dsimp only [Out.bind] at h
        split at h
        · exact compLoop_len h
        · cases q2 : e μ2 with
          | stuck => rw [q2] at h; cases h
          | err x y => rw [q2] at h; cases h
          | ok y μ3 =>
            rw [q2] at h
            have := compLoop_len h
            rw [List.length_append, List.length_singleton] at this
            omega
        · cases h
theorem setMany_len : ∀ {is : List Nat} {ds : List D} {μ μ' : Env}, setMany is ds μ = some μ' → μ'.length = μ.length
  | [], [], μ, μ', h => by simp [setMany] at h; rw [h]
  | [], _ :: _, _, _, h => by simp [setMany] at h
  | _ :: _, [], _, _, h => by simp [setMany] at h
  | i :: is, d :: ds, μ, μ', h => by
    have h : (if i < μ.length then setMany is ds (μ.set i (some (.dat d))) else none) = some μ' := h
    split at h
    · rw [setMany_len h, List.length_set]
    · cases h
theorem setTg_len {t : Tg} {m : M} {μ μ' : Env} (h : setTg t m μ = some μ') : μ'.length = μ.length := by
  cases t with
  | one i =>
    have h : (if i < μ.length then some (μ.set i (some m)) else none) = some μ' := h
    split at h
    · cases h; rw [List.length_set]
    · cases h
  | many is =>
    cases m with
    | dat d =>
      cases d with
      | tup ds =>
        have h : setMany is ds μ = some μ' := h
        exact setMany_len h
      | _ => cases h
    | _ => cases h
theorem repL_snoc {K : PySem.W.Frag} {mg : Str → Option Value} {B : Hp} {d : D} {v : V} : ∀ {ds : List D} {vs : List V}, RepL K mg B ds vs → Rep K mg B d v → RepL K mg B (ds ++ [d]) (vs ++ [v])
  | [], vs, h, r => by
    unfold RepL at h
    subst h
    show RepL K mg B [d] [v]
    unfold RepL RepL
    exact ⟨v, [], rfl, r, rfl⟩
  | d0 :: ds, vs, h, r => by
    unfold RepL at h
    obtain ⟨w, r', rfl, h1, h2⟩ := h
    show RepL K mg B (d0 :: (ds ++ [d])) (w :: (r' ++ [v]))
    unfold RepL
    exact ⟨w, r' ++ [v], rfl, h1, repL_snoc h2 r⟩
section
variable {b : Bd} {X : Cx} {elt tg iter : Expr} {ifs : List Expr} {scope : Scope} {own : List (Str × Nat)} {pos : Pos} {t : Tg} {f : List D → Option (List D)} {src : Es} {c e : E}
theorem comp_impG {W Wc : WX} {xx : Bool} {σ : L2.St} {H : Hp} {Q : VK} (hW : xx = true → Wc = fun c d _ H => W c d σ H) (h : b.tF X (.comp xx (own.map (·.2)) t f src c e) W σ H Q) :
    tLc (tI X.K X.mg b.C b.pin f src W) (tG X.K X.mg b.pin t) (b.tT X c Wc) (b.tE X e Wc) (own.map (·.2)) σ H Q := by
  obtain ⟨π, B, μ, S, hp, s, k⟩ := h
  generalize how : own.map (·.2) = ow at *
  unfold evalE at k
  split at k
  rotate_left
  · exact k.elim
  rename_i hg
  simp only [Bool.and_eq_true, decide_eq_true_eq] at hg
  have npin : ∀ i ∈ ow, i ∉ b.pin := fun i hi => by
    have := List.all_eq_true.mp hg.1 i hi
    simpa using this
  have tsub : ∀ i ∈ t.slots, i ∈ ow := fun i hi => by
    have := List.all_eq_true.mp hg.2 i hi
    simpa using this
  refine ⟨π, B, μ, S, hp, s, ?_⟩
  cases q : evalEs b.C b.pin src μ with
  | stuck => rw [q] at k; exact k
  | err x μ' => rw [q] at k; exact k
  | ok ms μ1 =>
    rw [q] at k
    dsimp only [Out.bind] at k
    cases q1 : datsOf ms with
    | none => rw [q1] at k; exact k.elim
    | some ds =>
      rw [q1] at k
      dsimp only at k
      cases q2 : f ds with
      | none => rw [q2] at k; exact k.elim
      | some xs =>
        rw [q2] at k
        dsimp only at k
        refine ⟨ds, xs, q1, q2, fun J B1 H1 S1 s1 x1 u1 wk D hD => ?_⟩
        generalize hO : compLoop ow t (fun μ => datOf (evalE b.C b.pin c μ)) (fun μ => datOf (evalE b.C b.pin e μ)) xs [] (wipeE ow μ1) = O at k
        have nst : O ≠ .stuck := fun z => by rw [z] at k; exact k.elim
        -- an error, told by W
        have out : ∀ x y, O = .err x y → xs.length ≤ sizeLine ∧ ∀ B' H' S', Stt X.K X.mg π B' H' σ (wipeE ow y) S' → Step B1 H1 S1 B' H' S' → ∀ C, X.mg x = some (.ref C) → ∀ σ', Wc (.ref C) none σ' H' := fun x y z => by
          rw [z] at k
          dsimp only [Out.lets] at k
          by_cases g : xx = true ∧ xs.length ≤ sizeLine
          · rw [if_pos g] at k
            refine ⟨g.2, fun B' H' S' s' x' C hC σ' => ?_⟩
            rw [hW g.1]
            exact k B' H' S' s' (x1.trans x') C hC
          · rw [if_neg g] at k
            exact k.elim
        have bnd : ∀ {acc : List Mi.D} {l : List Mi.D} {μi : Env} {d : Mi.D}, compLoop ow t (fun μ => datOf (evalE b.C b.pin c μ)) (fun μ => datOf (evalE b.C b.pin e μ)) l (acc ++ [d]) μi = O → acc.length < xs.length → acc.length < sizeLine := fun {acc l μi d} hl hlt => by
          cases O with
          | stuck => exact absurd rfl nst
          | err x y => exact Nat.lt_of_lt_of_le hlt (out x y rfl).1
          | ok ys μ2 =>
            have q := compLoop_len hl
            rw [List.length_append, List.length_singleton] at q
            have q2 : ys.length ≤ sizeLine := by
              dsimp only [Out.lets, Out.bind] at k
              split at k
              · rename_i w; exact w
              · exact k.elim
            omega
        · -- pins stay
          have npin' : ∀ p ∈ π, p.1 ∉ ow := fun p hp' z => npin p.1 z (hp p hp')
          have pinσ : ∀ p ∈ π, (wipe σ ow)[p.1]? = σ[p.1]? := fun p hp' => wipe_not fun z => npin p.1 z (hp p hp')
          obtain ⟨S2, s2, hS2⟩ := s1.less (σ' := wipe σ ow) (μ' := wipeE ow μ1) (wipe_length σ ow) wipeE_len (fun i m e => by
            rw [slot_wipe] at e
            split at e
            · cases e
            · rename_i n; exact ⟨e, wipe_not n⟩) pinσ
          refine ⟨fun i m H' => m = xs.length - i ∧ i ≤ xs.length ∧ ∃ acc μi Bi Si vs, Stt X.K X.mg π Bi H' (wipe σ ow) μi Si ∧ (∀ j ∈ ow, slot μi j = none) ∧ H' D = some (.lst vs) ∧ ¬ Si D ∧ Bi D = none ∧ RepL X.K X.mg Bi acc vs ∧
            Step B1 H1 S1 Bi H' (fun a => Si a ∨ a = D) ∧ ((E.comp xx ow t f src c e).pure = true → Ex H1 H') ∧
            compLoop ow t (fun μ => datOf (evalE b.C b.pin c μ)) (fun μ => datOf (evalE b.C b.pin e μ)) (xs.drop i) acc μi = O ∧ acc.length ≤ i, ⟨xs.length, by simp, Nat.zero_le _, [], _, B1, S2, [], s2.new hD, fun j hj => by rw [slot_wipe, if_pos hj], upd_same, fun z => (s2.owned D z).1 hD, s1.sub.none hD, by unfold RepL; rfl,
              (Step.new hD).weak (fun _ z => z) fun a z => z.imp (hS2 a) id, fun _ => Ex.new hD, by rw [List.drop_zero]; exact hO, Nat.le_refl _⟩, ?_⟩
          rintro i m H' ⟨rfl, hi, acc, μi, Bi, Si, vs, si, hno, hHD, hSD, hBD, hr, hst, hex, hlp, hai⟩
          by_cases hlt : i < xs.length
          · -- a turn
            have hd : xs[i]? = some xs[i] := by simp [hlt]
            have hdrop : xs.drop i = xs[i] :: xs.drop (i + 1) := List.drop_eq_getElem_cons hlt
            rw [hdrop] at hlp
            unfold compLoop at hlp
            cases qt : setTg t (.dat xs[i]) μi with
            | none => rw [qt] at hlp; exact absurd hlp.symm nst
            | some μt =>
              rw [qt] at hlp
              dsimp only at hlp
              obtain ⟨hgo, hyld⟩ := (wk i Bi H' hst.ex si.sub).1 _ hd
              refine .inr ⟨hgo, fun H3 => ∃ acc μi Bi Si vs, Stt X.K X.mg π Bi H3 (wipe σ ow) μi Si ∧ (∀ j ∈ ow, slot μi j = none) ∧ H3 D = some (.lst vs) ∧ ¬ Si D ∧ Bi D = none ∧ RepL X.K X.mg Bi acc vs ∧
                Step B1 H1 S1 Bi H3 (fun a => Si a ∨ a = D) ∧ ((E.comp xx ow t f src c e).pure = true → Ex H1 H3) ∧
                compLoop ow t (fun μ => datOf (evalE b.C b.pin c μ)) (fun μ => datOf (evalE b.C b.pin e μ)) (xs.drop (i + 1)) acc μi = O ∧ acc.length ≤ i + 1, fun H3 n3 => ⟨xs.length - (i + 1), by omega, rfl, hlt, n3⟩, fun x H'' y => ?_⟩
              obtain ⟨B'', ps, rx⟩ := hyld x H'' y
              have sx := si.pure ps
              refine ⟨π, B'', μi, Si, fun _ => False, .dat xs[i], hp, fun j hj => npin j (tsub j hj), sx, repM_dat.mpr ⟨rx, fun _ z => z⟩, fun _ z => z.elim, μt, qt, fun σ2 S3 s3 hS3 hσ => ⟨?_, ?_⟩⟩
              · refine wipe_again ?_ fun j hj => hσ j fun z => hj (tsub j z)
                have := s3.len
                have := si.len
                have e1 : μt.length = μi.length := setTg_len qt
                rw [wipe_length] at *
                omega
              -- what holds of D along the turn
              have hD1 : H'' D = some (.lst vs) := ps.ext _ _ hHD
              have hB1 : B'' D = none := by
                cases z : B'' D with
                | none => rfl
                | some u => exact absurd ((ps.fz D (by rw [z]; simp)).elim (fun w => w hBD) fun w => by rw [w] at hHD; cases hHD) id
              have hS1 : ¬ S3 D := fun z => (hS3 D z).elim hSD id
              have pc : (E.comp xx ow t f src c e).pure = true → c.pure = true ∧ e.pure = true := fun z => by
                have z1 := (Bool.and_eq_true _ _).mp z
                exact ⟨((Bool.and_eq_true _ _).mp z1.1).2, z1.2⟩
              have back : ∀ {Sn : ASet} {Bn Hn : Hp} {μn : Env}, Stt X.K X.mg π Bn Hn σ2 μn Sn → ∀ σ0 : L2.St, σ0.length = σ.length → (∀ j, j ∉ ow → σ0[j]? = σ[j]?) → ∃ S', Stt X.K X.mg π Bn Hn σ0 (wipeE ow μn) S' ∧ ∀ a, S' a → Sn a := fun {Sn Bn Hn μn} sn σ0 l0 h0 => by
                have el : σ0.length = σ2.length := by
                  have e1 := s3.len
                  have e2 : μt.length = μi.length := setTg_len qt
                  have e3 := si.len
                  rw [wipe_length] at e3
                  omega
                have ag : ∀ j, j ∉ ow → σ0[j]? = σ2[j]? := fun j n => by
                  rw [h0 j n, hσ j fun z => n (tsub j z), wipe_not n]
                refine sn.less el wipeE_len (fun j m ej => ?_) fun p hp' => ag p.1 (npin' p hp')
                rw [slot_wipe] at ej
                split at ej
                · cases ej
                · rename_i n
                  exact ⟨ej, ag j n⟩
              have wp : ∀ {Sn : ASet} {Bn Hn : Hp} {μn : Env}, Stt X.K X.mg π Bn Hn σ2 μn Sn → ∃ S', Stt X.K X.mg π Bn Hn (wipe σ ow) (wipeE ow μn) S' ∧ ∀ a, S' a → Sn a := fun {Sn Bn Hn μn} sn =>
                back sn _ (wipe_length σ ow) fun j n => wipe_not n
              have base : Step B1 H1 S1 B'' H'' (fun a => Si a ∨ a = D) := hst.trans (ps.step _)
              have base3 : Step B1 H1 S1 B'' H'' (fun a => S3 a ∨ a = D) := base.weak (fun _ z => z) fun a z => z.imp (fun z => (hS3 a z).elim id False.elim) id
              refine ⟨π, B'', μt, S3, hp, s3, ?_⟩
              cases qc : evalE b.C b.pin c μt with
              | stuck => rw [qc] at hlp; exact absurd hlp.symm nst
              | err x' y' =>
                rw [qc] at hlp
                intro B4 H4 S4 s4 x4 C hC
                obtain ⟨S5, s5, h5⟩ := back s4 σ rfl fun _ _ => rfl
                have x4' : Step B'' H'' (fun a => S3 a ∨ a = D) B4 H4 (fun a => S4 a) := x4.weak (fun _ z => .inl z) fun _ z => z
                exact (out x' y' hlp.symm).2 B4 H4 S5 s5 ((base3.trans x4').weak (fun _ z => z) h5) C hC σ2
              | ok mc μc =>
                rw [qc] at hlp
                cases mc with
                | dat dc =>
                  dsimp only [datOf, Out.bind] at hlp
                  intro v B4 H4 S4 T4 s4 r4 d4 x4 u4
                  have x4' : Step B'' H'' S3 B4 H4 S4 := x4.weak (fun _ z => z) fun _ z => .inl z
                  obtain ⟨hS4, hB4, hH4⟩ := x4'.apart hS1 (by rw [hD1]; simp) hB1
                  have base4 : Step B1 H1 S1 B4 H4 (fun a => S4 a ∨ a = D) := base3.trans (x4'.frame (F := fun a => a = D) fun a z => by subst z; exact ⟨hS1, by rw [hD1]; simp⟩)
                  split at hlp
                  · -- not kept
                    have ev := rep_bl (repM_dat.mp r4).1
                    refine ⟨false, ev, ?_⟩
                    refine Eq.mpr (if_neg Bool.false_ne_true) ?_
                    obtain ⟨S5, s5, h5⟩ := wp s4
                    exact ⟨acc, _, B4, S5, vs, s5, fun j hj => by rw [slot_wipe, if_pos hj], by rw [hH4]; exact hD1, fun z => hS4 (h5 D z), hB4, (hr.mono ps.ex).mono x4'.ex, base4.weak (fun _ z => z) fun a z => z.imp (h5 a) id, fun z => ((hex z).trans ps.ext).trans (u4 (pc z).1), hlp, Nat.le_succ_of_le hai⟩
                  · -- kept
                    have ev := rep_bl (repM_dat.mp r4).1
                    refine ⟨true, ev, ?_⟩
                    refine Eq.mpr (if_pos rfl) ?_
                    refine ⟨π, B4, μc, S4, hp, s4, ?_⟩
                    cases qe : evalE b.C b.pin e μc with
                    | stuck => rw [qe] at hlp; exact absurd hlp.symm nst
                    | err x' y' =>
                      rw [qe] at hlp
                      intro B5 H5 S5 s5 x5 C hC
                      obtain ⟨S6, s6, h6⟩ := back s5 σ rfl fun _ _ => rfl
                      have x5' : Step B4 H4 (fun a => S4 a ∨ a = D) B5 H5 (fun a => S5 a) := x5.weak (fun _ z => .inl z) fun _ z => z
                      exact (out x' y' hlp.symm).2 B5 H5 S6 s6 ((base4.trans x5').weak (fun _ z => z) h6) C hC σ2
                    | ok me μe =>
                      rw [qe] at hlp
                      cases me with
                      | dat de =>
                        dsimp only [datOf, Out.bind] at hlp
                        intro w B5 H5 S5 T5 s5 r5 d5 x5 u5
                        have x5' : Step B4 H4 S4 B5 H5 S5 := x5.weak (fun _ z => z) fun _ z => .inl z
                        have hD4 : H4 D = some (.lst vs) := by rw [hH4]; exact hD1
                        obtain ⟨hS5, hB5, hH5⟩ := x5'.apart hS4 (by rw [hD4]; simp) hB4
                        have hD5 : H5 D = some (.lst vs) := by rw [hH5]; exact hD4
                        have base5 : Step B1 H1 S1 B5 H5 (fun a => S5 a ∨ a = D) := base4.trans (x5'.frame (F := fun a => a = D) fun a z => by subst z; exact ⟨hS4, by rw [hD4]; simp⟩)
                        obtain ⟨S6, s6, h6⟩ := wp s5
                        have hl : vs.length = acc.length := (repL_len hr).symm
                        have hle := bnd hlp (by omega)
                        have hra : RepL X.K X.mg B5 acc vs := ((hr.mono ps.ex).mono x4'.ex).mono x5'.ex
                        refine ⟨vs, hD5, by omega, acc ++ [de], _, B5, S6, vs ++ [w], ?_, fun j hj => by rw [slot_wipe, if_pos hj], upd_same, fun z => hS5 (h6 D z), hB5, repL_snoc hra (repM_dat.mp r5).1, ?_, fun z => ?_, hlp, by rw [List.length_append, List.length_singleton]; omega⟩
                        · exact s6.congr (Ex.refl _) (fun a o z => by rw [upd_ne fun z' => by rw [z', hB5] at z; cases z]; exact s6.sub a o z) fun a z => ⟨upd_ne fun z' => hS5 (by rw [← z']; exact h6 a z), (s6.owned a z).2⟩
                        · have y : Step B1 H1 S1 B5 (upd H5 D (.lst (vs ++ [w]))) (fun a => S5 a ∨ a = D) := ⟨base5.ex, fun a u z n => by
                            rw [upd_ne fun z' => by subst z'; rw [hD] at z; cases z]
                            exact base5.fr a u z n, fun a z => by
                            by_cases z' : a = D
                            · subst z'; rw [upd_same] at z; cases z
                            · rw [upd_ne z'] at z; exact base5.dom a z, base5.ow, base5.fz⟩
                          exact y.weak (fun _ z => z) fun a z => z.imp (h6 a) id
                        · have y := (((hex z).trans ps.ext).trans (u4 (pc z).1)).trans (u5 (pc z).2)
                          exact fun a o z => by
                            rw [upd_ne fun z' => by subst z'; rw [hD] at z; cases z]
                            exact y a o z
                      | _ => exact absurd hlp.symm nst
                  · exact absurd hlp.symm nst
                | _ => exact absurd hlp.symm nst
          · -- the end
            have e1 : i = xs.length := by omega
            subst e1
            rw [List.drop_length] at hlp
            unfold compLoop at hlp
            subst hlp
            dsimp only [Out.lets, Out.bind] at k
            split at k
            rotate_left
            · exact k.elim
            refine .inl ⟨(wk xs.length Bi H' hst.ex si.sub).2 (by simp) (Nat.le_refl _), ?_⟩
            obtain ⟨S7, s7, h7⟩ := si.less (σ' := σ) (μ' := μi) (by rw [wipe_length]) rfl (fun j m ej => ⟨ej, (wipe_not fun z => by rw [hno j z] at ej; cases ej).symm⟩) fun p hp' => (pinσ p hp').symm
            -- the heap without the new list
            have hD' : ∀ {a : Addr}, a ≠ D → (fun a => if a = D then none else H' a : Hp) a = H' a := fun {a} n => if_neg n
            have e2 : upd (fun a => if a = D then none else H' a) D (.lst vs) = H' := by
              funext a
              by_cases z : a = D
              · subst z; rw [upd_same]; exact hHD.symm
              · rw [upd_ne z]; exact hD' z
            have k' := k D (.lst vs) Bi (fun a => if a = D then none else H' a) S7 ?_ ?_ ?_ (if_pos rfl) (.inl ⟨acc, vs, rfl, rfl, hr⟩)
            · rw [e2] at k'; exact k'
            · exact s7.congr (Ex.refl _) (fun a o z => by
                show (if a = D then none else H' a) = some o
                rw [if_neg fun z' => by rw [z', hBD] at z; cases z]
                exact s7.sub a o z) fun a z => ⟨hD' fun z' => hSD (by rw [← z']; exact h7 a z), (s7.owned a z).2⟩
            · have hHn : H D = none := x1.dom D hD
              have y := x1.trans hst
              exact ⟨y.ex, fun a u z n => by
                show (if a = D then none else H' a) = some u
                rw [if_neg fun z' => by rw [z', hHn] at z; cases z]
                exact y.fr a u z n, fun a z => by
                by_cases z' : a = D
                · rw [z']; exact hHn
                · have z : (if a = D then none else H' a) = none := z
                  rw [if_neg z'] at z; exact y.dom a z, fun a z => y.ow a (.inl (h7 a z)), y.fz⟩
            · intro z
              have pc : src.pure = true := by
                have z1 := (Bool.and_eq_true _ _).mp z
                exact ((Bool.and_eq_true _ _).mp z1.1).1
              have y := (u1 pc).trans (hex z)
              exact fun a o w => by
                show (if a = D then none else H' a) = some o
                rw [if_neg fun z' => by rw [z', x1.dom D hD] at w; cases w]
                exact y a o w
theorem comp_imp {W : WX} {σ : L2.St} {H : Hp} {Q : VK} (h : b.tF X (.comp false (own.map (·.2)) t f src c e) W σ H Q) :
    tLc (tI X.K X.mg b.C b.pin f src W) (tG X.K X.mg b.pin t) (b.tT X c fun _ _ _ _ => False) (b.tE X e fun _ _ _ _ => False) (own.map (·.2)) σ H Q := comp_impG (xx := false) (fun z => absurd z Bool.false_ne_true) h
theorem mf_comp (hc : X.calm = true) (hN : X.N.Nodup) (hi : MI b X tg iter f src) (ok : BlkOk X.N X.env.scope scope own)
    (hg : ∀ (s : Shared) (H : Hp) (C : Addr) (cl : List (Str × Addr)) (fp : List Addr), MG b (X.blk s H scope (compEnvC scope cl C X.env) fp) tg t)
    (ht : ∀ (s : Shared) (H : Hp) (C : Addr) (cl : List (Str × Addr)) (fp : List Addr), MTs b (X.blk s H scope (compEnvC scope cl C X.env) fp) ifs c)
    (he : ∀ (s : Shared) (H : Hp) (C : Addr) (cl : List (Str × Addr)) (fp : List Addr), ME b (X.blk s H scope (compEnvC scope cl C X.env) fp) elt e)
    (hs : ∀ x, foldedSetIterable iter X.env x = pure x := by intro _; rfl) : MF b X (.ListComp elt [⟨tg, iter, ifs, 0⟩] scope pos) (.comp false (own.map (·.2)) t f src c e) := fun W tk =>
  PE.imp (pe_lc (g := tG X.K X.mg b.pin t) hc hN (hi W tk) ok (fun s H C cl fp => hg s H C cl fp) (fun s H C cl fp => ht s H C cl fp _ takes0) (fun s H C cl fp => he s H C cl fp _ takes0) hs) fun σ H Q q => comp_imp q
end
end Mi
/-! Mi10: statements. -/
namespace Mi
open PySem L2
section
variable (K : PySem.W.Frag) (mg : Str → Option Value)
def PostS (π : List (Nat × V)) (B H : Hp) (S : ASet) (W : WX) (D : Ends) : Res → Prop
  | .stuck => False
  | .err c μ' => ∀ B' H' σ' S', Stt K mg π B' H' σ' μ' S' → Step B H S B' H' S' → ∀ C, mg c = some (.ref C) → W (.ref C) none σ' H'
  | .nx μ' => ∀ B' H' σ' S', Stt K mg π B' H' σ' μ' S' → Step B H S B' H' S' → D.nx σ' H'
  | .brk μ' => ∀ B' H' σ' S', Stt K mg π B' H' σ' μ' S' → Step B H S B' H' S' → D.bk σ' H'
  | .cont μ' => ∀ B' H' σ' S', Stt K mg π B' H' σ' μ' S' → Step B H S B' H' S' → D.ct σ' H'
  | .ret m μ' => ∀ v B' H' σ' S' T, Stt K mg π B' H' σ' μ' S' → RepM K mg B' H' m v T → (∀ x, T x → ¬ S' x) → Step B H S B' H' (fun x => S' x ∨ T x) → D.rt v H'
variable {K mg}
theorem PostS.mono {π : List (Nat × V)} {B H B1 H1 : Hp} {S S1 T : ASet} {W : WX} {D : Ends} {r : Res} (h : PostS K mg π B H S W D r) (x : Step B H S B1 H1 T) (hs : ∀ a, S1 a → T a) : PostS K mg π B1 H1 S1 W D r := by
  cases r with
  | stuck => exact h
  | err c μ' => exact fun B' H' σ' S' s y C hC => h B' H' σ' S' s (x.trans (y.weak hs fun _ q => q)) C hC
  | nx μ' => exact fun B' H' σ' S' s y => h B' H' σ' S' s (x.trans (y.weak hs fun _ q => q))
  | brk μ' => exact fun B' H' σ' S' s y => h B' H' σ' S' s (x.trans (y.weak hs fun _ q => q))
  | cont μ' => exact fun B' H' σ' S' s y => h B' H' σ' S' s (x.trans (y.weak hs fun _ q => q))
  | ret m μ' => exact fun v B' H' σ' S' T' s r d y => h v B' H' σ' S' T' s r d (x.trans (y.weak hs fun _ q => q))
end
abbrev Bd.exS (b : Bd) (s : S) (μ : Env) : Res := execS b.sub b.C b.pin b.N s μ
abbrev Bd.exSs (b : Bd) (s : Ss) (μ : Env) : Res := execSs b.sub b.C b.pin b.N s μ
def tS (b : Bd) (K : PySem.W.Frag) (mg : Str → Option Value) (s : S) (W : WX) : TS := fun D σ H => ∃ π B μ S, PinOf π b.pin ∧ Stt K mg π B H σ μ S ∧ PostS K mg π B H S W D (b.exS s μ)
def tSs (b : Bd) (K : PySem.W.Frag) (mg : Str → Option Value) (s : Ss) (W : WX) : TS := fun D σ H => ∃ π B μ S, PinOf π b.pin ∧ Stt K mg π B H σ μ S ∧ PostS K mg π B H S W D (b.exSs s μ)
def MS (b : Bd) (X : Cx) (st : Stmt) (s : S) : Prop := ∀ W, Takes X W → PS X st (tS b X.K X.mg s W)
def MSs (b : Bd) (X : Cx) (st : List Stmt) (s : Ss) : Prop := ∀ W, Takes X W → PSs X st (tSs b X.K X.mg s W)
theorem PS.imp {X : Cx} {st : Stmt} {t t' : TS} (h : PS X st t) (k : ∀ D σ H, t' D σ H → t D σ H) : PS X st t' := ⟨fun pins s σ H D I q => h.run pins s σ H D I (k D σ H q)⟩
theorem PSs.imp {X : Cx} {st : List Stmt} {t t' : TS} (h : PSs X st t) (k : ∀ D σ H, t' D σ H → t D σ H) : PSs X st t' := ⟨fun pins s σ H D I q => h.run pins s σ H D I (k D σ H q)⟩
section
variable {b : Bd} {X : Cx} {st : Stmt} {rest body sts els : List Stmt} {x c tg it : Expr} {e ec : E} {s s' : S} {ss bs as : Ss} {pos : Pos} {t : Tg} {n : Str}
theorem mss_nil : MSs b X [] .nil := fun W tk => PSs.imp pss_nil fun D σ H ⟨π, B, μ, S, hp, s, h⟩ => by
  have h : PostS X.K X.mg π B H S W D (execSs b.sub b.C b.pin b.N .nil μ) := h
  unfold execSs at h
  exact h B H σ S s (Step.refl B H S)
theorem mss_cons (h1 : MS b X st s) (h2 : MSs b X rest ss) : MSs b X (st :: rest) (.cons s ss) := fun W tk => PSs.imp (pss_cons (h1 W tk) (h2 W tk)) fun D σ H ⟨π, B, μ, S, hp, st, h⟩ => by
  have h : PostS X.K X.mg π B H S W D (execSs b.sub b.C b.pin b.N (.cons s ss) μ) := h
  unfold execSs at h
  refine ⟨π, B, μ, S, hp, st, ?_⟩
  show PostS X.K X.mg π B H S W _ (execS b.sub b.C b.pin b.N s μ)
  cases q : execS b.sub b.C b.pin b.N s μ with
  | stuck => rw [q] at h; exact h
  | err c μ' => rw [q] at h; exact h
  | brk μ' => rw [q] at h; exact h
  | cont μ' => rw [q] at h; exact h
  | ret m μ' => rw [q] at h; exact h
  | nx μ1 =>
    rw [q] at h
    exact fun B1 H1 σ1 S1 s1 x1 => ⟨π, B1, μ1, S1, hp, s1, h.mono x1 fun _ z => z⟩
/-- an expression ahead of more -/
theorem bindS {W : WX} {D : Ends} {σ : L2.St} {H : Hp} {π : List (Nat × V)} {B : Hp} {μ : Env} {S : ASet} {k : M → Env → Res} {Q : VK} (hp : PinOf π b.pin) (st : Stt X.K X.mg π B H σ μ S) (h : PostS X.K X.mg π B H S W D ((evalE b.C b.pin e μ).res k))
    (hk : ∀ m μ1 v B1 H1 S1 T, Stt X.K X.mg π B1 H1 σ μ1 S1 → RepM X.K X.mg B1 H1 m v T → (∀ x, T x → ¬ S1 x) → Step B H S B1 H1 (fun x => S1 x ∨ T x) → PostS X.K X.mg π B1 H1 S1 W D (k m μ1) → PostS X.K X.mg π B1 H1 (fun x => S1 x ∨ T x) W D (k m μ1) → Q v H1) : b.tE X e W σ H Q := by
  refine ⟨π, B, μ, S, hp, st, ?_⟩
  cases q : evalE b.C b.pin e μ with
  | stuck => rw [q] at h; exact h
  | err c μ' => rw [q] at h; exact fun B' H' S' => h B' H' σ S'
  | ok m μ1 =>
    rw [q] at h
    have h : PostS X.K X.mg π B H S W D (k m μ1) := h
    exact fun v B' H' S' T s' r d x u => hk m μ1 v B' H' S' T s' r d x (h.mono x fun _ z => .inl z) (h.mono x fun _ z => z)
theorem ms_expr (he : ME b X x e) (hs : swapsWith x none pos.line X.env = pure false := by rfl) : MS b X (.Expr x pos) (.expr e) := fun W tk => PS.imp (ps_expr (he W tk) hs) fun D σ H ⟨π, B, μ, S, hp, st, h⟩ => by
  have h : PostS X.K X.mg π B H S W D (execS b.sub b.C b.pin b.N (.expr e) μ) := h
  unfold execS at h
  exact bindS hp st h fun m μ1 v B1 H1 S1 T s1 r1 d1 x1 h1 _ => h1 B1 H1 σ S1 s1 (Step.refl _ _ _)
theorem ms_doc {y j pos pos'} : MS b X (.Expr (.Constant (.str y) j pos) pos') .pass := fun W tk => PS.imp ps_doc fun D σ H ⟨π, B, μ, S, hp, st, h⟩ => by
  have h : PostS X.K X.mg π B H S W D (execS b.sub b.C b.pin b.N .pass μ) := h
  unfold execS at h
  exact h B H σ S st (Step.refl _ _ _)
theorem ms_pass : MS b X (.Pass pos) .pass := fun W tk => PS.imp ps_pass fun D σ H ⟨π, B, μ, S, hp, st, h⟩ => by
  have h : PostS X.K X.mg π B H S W D (execS b.sub b.C b.pin b.N .pass μ) := h
  unfold execS at h
  exact h B H σ S st (Step.refl _ _ _)
theorem ms_break : MS b X (.Break pos) .brk := fun W tk => PS.imp ps_break fun D σ H ⟨π, B, μ, S, hp, st, h⟩ => by
  have h : PostS X.K X.mg π B H S W D (execS b.sub b.C b.pin b.N .brk μ) := h
  unfold execS at h
  exact h B H σ S st (Step.refl _ _ _)
theorem ms_continue : MS b X (.Continue pos) .cont := fun W tk => PS.imp ps_continue fun D σ H ⟨π, B, μ, S, hp, st, h⟩ => by
  have h : PostS X.K X.mg π B H S W D (execS b.sub b.C b.pin b.N .cont μ) := h
  unfold execS at h
  exact h B H σ S st (Step.refl _ _ _)
theorem ms_ret (he : ME b X x e) : MS b X (.Return (some x) pos) (.ret e) := fun W tk => PS.imp (ps_ret (he W tk)) fun D σ H ⟨π, B, μ, S, hp, st, h⟩ => by
  have h : PostS X.K X.mg π B H S W D (execS b.sub b.C b.pin b.N (.ret e) μ) := h
  unfold execS at h
  exact bindS hp st h fun m μ1 v B1 H1 S1 T s1 r1 d1 x1 _ h1 => h1 v B1 H1 σ S1 T s1 r1 d1 (Step.refl _ _ _)
theorem ms_retN : MS b X (.Return none pos) (.ret (.con .non)) := fun W tk => PS.imp ps_retN fun D σ H ⟨π, B, μ, S, hp, st, h⟩ => by
  have h : PostS X.K X.mg π B H S W D (execS b.sub b.C b.pin b.N (.ret (.con .non)) μ) := h
  unfold execS evalE at h
  exact h .non B H σ S (fun _ => False) st (repM_dat.mpr ⟨by unfold Rep; rfl, fun _ z => z⟩) (fun _ z => z.elim) ((Step.refl B H S).weak (fun _ z => z) fun _ z => z.elim id False.elim)
/-- target = value -/
theorem set_imp {W : WX} {D : Ends} {σ : L2.St} {H : Hp} (h : tS b X.K X.mg (.set t e) W D σ H) : tAsg (b.tE X e W) (tG X.K X.mg b.pin t) D σ H := by
  obtain ⟨π, B, μ, S, hp, st, h⟩ := h
  have h : PostS X.K X.mg π B H S W D (execS b.sub b.C b.pin b.N (.set t e) μ) := h
  unfold execS at h
  refine bindS hp st h fun m μ1 v B1 H1 S1 T s1 r1 d1 x1 _ h1 => ?_
  split at h1
  · rename_i g
    cases q : setTg t m μ1 with
    | none => rw [q] at h1; exact h1.elim
    | some μ2 =>
      rw [q] at h1
      refine ⟨π, B1, μ1, S1, T, m, hp, fun i hi => by have := List.all_eq_true.mp g i hi; simpa using this, s1, r1, d1, μ2, q, fun σ' S' s' hS' _ => ?_⟩
      exact h1 B1 H1 σ' S' s' ((Step.refl _ _ _).weak (fun _ z => z) fun a z => hS' a z)
  · exact h1.elim
theorem ms_asg (he : ME b X x e) (hg : MG b X tg t) (hs : swapsWithSole [tg] x pos.line X.env = pure false := by rfl) (hw : swappedStores [tg] x X.env = pure none := by rfl)
    (h1 : (assignEach [tg] X.env).map (·.2) = [assign tg X.env] := by rfl) : MS b X (.Assign [tg] x pos) (.set t e) := fun W tk => PS.imp (ps_asg (he W tk) hg hs hw h1) fun D σ H h => set_imp h
theorem ms_if (hc : MT b X c ec) (ha : MSs b X sts ss) (hb : MSs b X els bs) : MS b X (.If c sts els pos) (.ite ec ss bs) := fun W tk => PS.imp (ps_if (hc W tk) (ha W tk) (hb W tk)) fun D σ H ⟨π, B, μ, S, hp, st, h⟩ => by
  have h : PostS X.K X.mg π B H S W D (execS b.sub b.C b.pin b.N (.ite ec ss bs) μ) := h
  unfold execS at h
  refine bindS hp st h fun m μ1 v B1 H1 S1 T s1 r1 d1 x1 h1 _ => ?_
  split at h1
  · have ev := rep_bl (repM_dat.mp r1).1
    exact ⟨true, ev, ⟨π, B1, μ1, S1, hp, s1, h1⟩⟩
  · have ev := rep_bl (repM_dat.mp r1).1
    exact ⟨false, ev, ⟨π, B1, μ1, S1, hp, s1, h1⟩⟩
  · exact h1.elim
theorem ms_frz {i : Nat} (h : MS b X st s) : MS b X st (.frz i s) := fun W tk => PS.imp (h W tk) fun D σ H ⟨π, B, μ, S, hp, st, h⟩ => by
  have h : PostS X.K X.mg π B H S W D (execS b.sub b.C b.pin b.N (.frz i s) μ) := h
  unfold execS at h
  cases q : slot μ i with
  | none => rw [q] at h; exact h.elim
  | some m =>
    rw [q] at h
    obtain ⟨v, T, S', e1, r, s', dj, hS⟩ := st.take q
    have own := r.owned
    have fe : Ex B (frz B H T) := frz_ex fun a z => (own a z).2
    have s2 : Stt X.K X.mg π (frz B H T) H σ (μ.set i none) S' := s'.congr fe (frz_sub st.sub) fun a z => ⟨rfl, by rw [frz_out fun w => dj a w z]; exact (s'.owned a z).2⟩
    obtain ⟨S3, s3, h3⟩ := s2.refill (T := fun _ => False) e1 (repM_dat.mpr ⟨r.freeze fe fun a z => frz_in z, fun _ z => z⟩) fun _ z => z.elim
    rw [List.set_set] at s3
    refine ⟨π, _, _, S3, hp, s3, h.mono (T := S3) ⟨fe, fun a u z _ => z, fun a z => z, fun a z => .inl ((hS a).mpr (.inl ((h3 a z).elim id False.elim))), fun a z => ?_⟩ fun _ z => z⟩
    by_cases w : T a
    · exact .inr (.inl ((hS a).mpr (.inr w)))
    · rw [frz_out w] at z; exact .inl z
theorem ms_while (hp : ∀ W, Takes X W → PassesOwn (model X.prog X.w) X.A X.env X.xe) (hc : MT b X c ec) (hb : MSs b X body bs) : MS b X (.While c body [] pos) (.wh ec bs) := fun W tk => PS.imp (ps_while (hp W tk) (hc W tk) (hb W tk)) fun D σ H ⟨π, B, μ, S, hpi, st, h⟩ => by
  have h : PostS X.K X.mg π B H S W D (execS b.sub b.C b.pin b.N (.wh ec bs) μ) := h
  unfold execS at h
  refine ⟨fun m σ' H' => ∃ μi Bi Si, Stt X.K X.mg π Bi H' σ' μi Si ∧ PostS X.K X.mg π Bi H' Si W D (whLoop (evalE b.C b.pin ec) (execSs b.sub b.C b.pin b.N bs) m μi), ⟨b.N, μ, B, S, st, h⟩, ?_⟩
  rintro m σ1 H1 ⟨μi, Bi, Si, si, hi⟩
  cases m with
  | zero => unfold whLoop at hi; exact hi.elim
  | succ m =>
    unfold whLoop at hi
    refine bindS hpi si hi fun mm μ1 v B1 H2 S1 T s1 r1 d1 x1 h1 _ => ?_
    split at h1
    · have ev := rep_bl (repM_dat.mp r1).1
      exact ⟨false, ev, Eq.mpr (if_neg Bool.false_ne_true) (h1 B1 H2 σ1 S1 s1 (Step.refl _ _ _))⟩
    · have ev := rep_bl (repM_dat.mp r1).1
      refine ⟨true, ev, Eq.mpr (if_pos rfl) ⟨fun σ' H' => ∃ μi Bi Si, Stt X.K X.mg π Bi H' σ' μi Si ∧ PostS X.K X.mg π Bi H' Si W D (whLoop (evalE b.C b.pin ec) (execSs b.sub b.C b.pin b.N bs) m μi), fun σ' H' n => ⟨m, Nat.lt_succ_self _, n⟩, π, B1, μ1, S1, hpi, s1, ?_⟩⟩
      show PostS X.K X.mg π B1 H2 S1 W _ (execSs b.sub b.C b.pin b.N bs μ1)
      cases q : execSs b.sub b.C b.pin b.N bs μ1 with
      | stuck => rw [q] at h1; exact h1
      | err c μ' => rw [q] at h1; exact h1
      | ret m μ' => rw [q] at h1; exact h1
      | brk μ2 => rw [q] at h1; exact h1
      | nx μ2 =>
        rw [q] at h1
        exact fun B' H' σ' S' s y => ⟨μ2, B', S', s, h1.mono y fun _ z => z⟩
      | cont μ2 =>
        rw [q] at h1
        exact fun B' H' σ' S' s y => ⟨μ2, B', S', s, h1.mono y fun _ z => z⟩
    · exact h1.elim
theorem ms_for {f : List D → Option (List D)} {src : Es} (hp : ∀ W, Takes X W → PassesOwn (model X.prog X.w) X.A X.env X.xe) (hc : X.calm = true) (hi : MI b X tg it f src) (hg : MG b X tg t) (hb : MSs b X body bs)
    (hs : ∀ x, foldedSetIterable it X.env x = pure x := by intro _; rfl) : MS b X (.For tg it body [] pos) (.for_ t f src bs) := fun W tk => PS.imp (ps_for (hp W tk) hc (hi W tk) hg (hb W tk) hs) fun D σ H ⟨π, B, μ, S, hpi, st, h⟩ => by
  have h : PostS X.K X.mg π B H S W D (execS b.sub b.C b.pin b.N (.for_ t f src bs) μ) := h
  unfold execS at h
  split at h
  rotate_left
  · exact h.elim
  rename_i g
  have np : ∀ i ∈ t.slots, i ∉ b.pin := fun i hi => by have := List.all_eq_true.mp g i hi; simpa using this
  refine ⟨π, B, μ, S, hpi, st, ?_⟩
  cases q : evalEs b.C b.pin src μ with
  | stuck => rw [q] at h; exact h
  | err c μ' => rw [q] at h; exact fun B' H' S' => h B' H' σ S'
  | ok ms μ1 =>
    rw [q] at h
    dsimp only [Out.res] at h
    cases q1 : datsOf ms with
    | none => rw [q1] at h; exact h.elim
    | some ds =>
      rw [q1] at h
      dsimp only at h
      cases q2 : f ds with
      | none => rw [q2] at h; exact h.elim
      | some xs =>
        rw [q2] at h
        dsimp only at h
        refine ⟨ds, xs, q1, q2, fun J B1 H1 S1 s1 x1 u1 wk => ?_⟩
        refine ⟨fun i m σ' H' => m = xs.length - i ∧ i ≤ xs.length ∧ ∃ μi Bi Si, Stt X.K X.mg π Bi H' σ' μi Si ∧ Ex B1 Bi ∧ PostS X.K X.mg π Bi H' Si W D (forLoop t (execSs b.sub b.C b.pin b.N bs) (xs.drop i) μi),
          ⟨xs.length, by simp, Nat.zero_le _, μ1, B1, S1, s1, Ex.refl _, h.mono x1 fun _ z => z⟩, ?_⟩
        rintro i m σ2 H2 ⟨rfl, hle, μi, Bi, Si, si, ei, hl⟩
        by_cases hlt : i < xs.length
        · have hd : xs[i]? = some xs[i] := by simp [hlt]
          rw [List.drop_eq_getElem_cons hlt] at hl
          unfold forLoop at hl
          cases qt : setTg t (.dat xs[i]) μi with
          | none => rw [qt] at hl; exact hl.elim
          | some μt =>
            rw [qt] at hl
            dsimp only at hl
            obtain ⟨hgo, hyld⟩ := (wk i Bi H2 ei si.sub).1 _ hd
            refine .inr ⟨hgo, fun σ' H' => ∃ μi Bi Si, Stt X.K X.mg π Bi H' σ' μi Si ∧ Ex B1 Bi ∧ PostS X.K X.mg π Bi H' Si W D (forLoop t (execSs b.sub b.C b.pin b.N bs) (xs.drop (i + 1)) μi),
              fun σ' H' n => ⟨xs.length - (i + 1), by omega, rfl, hlt, n⟩, fun x H'' y => ?_⟩
            obtain ⟨B'', ps, rx⟩ := hyld x H'' y
            have sx := si.pure ps
            refine ⟨π, B'', μi, Si, fun _ => False, .dat xs[i], hpi, np, sx, repM_dat.mpr ⟨rx, fun _ z => z⟩, fun _ z => z.elim, μt, qt, fun σ3 S3 s3 hS3 _ => ?_⟩
            have hl3 := hl.mono (S1 := S3) ((ps.step Si).weak (T' := Si) (fun _ z => z) fun _ z => z) fun a z => (hS3 a z).elim id False.elim
            refine ⟨π, B'', μt, S3, hpi, s3, ?_⟩
            show PostS X.K X.mg π B'' H'' S3 W _ (execSs b.sub b.C b.pin b.N bs μt)
            cases qb : execSs b.sub b.C b.pin b.N bs μt with
            | stuck => rw [qb] at hl3; exact hl3
            | err c μ' => rw [qb] at hl3; exact hl3
            | ret m μ' => rw [qb] at hl3; exact hl3
            | brk μ2 => rw [qb] at hl3; exact hl3
            | nx μ2 =>
              rw [qb] at hl3
              exact fun B' H' σ' S' s y => ⟨μ2, B', S', s, (ei.trans ps.ex).trans y.ex, hl3.mono y fun _ z => z⟩
            | cont μ2 =>
              rw [qb] at hl3
              exact fun B' H' σ' S' s y => ⟨μ2, B', S', s, (ei.trans ps.ex).trans y.ex, hl3.mono y fun _ z => z⟩
        · have e1 : i = xs.length := by omega
          subst e1
          rw [List.drop_length] at hl
          unfold forLoop at hl
          exact .inl ⟨(wk xs.length Bi H2 ei si.sub).2 (by simp) (Nat.le_refl _), hl Bi H2 σ2 Si si (Step.refl _ _ _)⟩
/-- x op= e, x a name -/
theorem ms_aug {op : Operator} {f : D → D → Option D} {r : R2} {i : Nat} {ppos : Pos} (hN : X.N.Nodup) (hi : X.N[i]? = some n) (hx : Loc X.env.scope n) (he : ME b X x e) (ho : OpR X (inplaceOp op) r) (hf : Imp2 X.K X.mg f r)
    (hf' : X.fn n = true ∨ X.env.scope.names.lookup n = some .local := by first | exact .inl rfl | exact .inr rfl | assumption) : MS b X (.AugAssign (.Name n ppos) op x pos) (.set (.one i) (.op2 f (.var i) e)) := fun W tk => by
  exact PS.imp (ps_aug (ti := r) hN hi hx (he W tk) ho hf') fun D σ H ⟨π, B, μ, S, hp, st, h⟩ => by
    have h : PostS X.K X.mg π B H S W D (execS b.sub b.C b.pin b.N (.set (.one i) (.op2 f (.var i) e)) μ) := h
    have e0 : evalE b.C b.pin (.op2 f (.var i) e) μ = (evalE b.C b.pin (.var i) μ).bind (onDat fun x μ1 => (evalE b.C b.pin e μ1).bind (onDat fun y μ2 => outD (f x y) μ2)) := rfl
    have e1 : evalE b.C b.pin (.var i) μ = (match slot μ i with | some (.dat d) => .ok (.dat d) μ | _ => .stuck) := rfl
    unfold execS at h
    rw [e0, e1] at h
    cases q : slot μ i with
    | none => rw [q] at h; exact h.elim
    | some m =>
      rw [q] at h
      cases m with
      | dat d1 =>
        dsimp only [Out.bind, onDat] at h
        obtain ⟨v, e1, r1⟩ := st.getD q
        refine ⟨v, e1, π, B, μ, S, hp, st, ?_⟩
        cases q2 : evalE b.C b.pin e μ with
        | stuck => rw [q2] at h; exact h
        | err c μ' => rw [q2] at h; exact fun B' H' S' => h B' H' σ S'
        | ok m2 μ1 =>
          rw [q2] at h
          intro w B1 H1 S1 T s1 r2 d1' x1 u1
          cases m2 with
          | dat d2 =>
            dsimp only at h
            cases q3 : f d1 d2 with
            | none => rw [q3] at h; exact h.elim
            | some d3 =>
              rw [q3] at h
              dsimp only [outD, Out.res] at h
              refine hf B1 H1 v w d1 d2 d3 _ s1.sub (r1.mono x1.ex) (repM_dat.mp r2).1 q3 fun z B2 H2 ps rz => ?_
              split at h
              · rename_i g
                have s2 := s1.pure ps
                have e3 : (if i < μ1.length then some (μ1.set i (some (.dat d3))) else none) = setTg (.one i) (.dat d3) μ1 := rfl
                rw [← e3] at h
                split at h
                · rename_i μ2 h2
                  split at h2
                  · rename_i hl
                    cases h2
                    obtain ⟨S3, s3, h3⟩ := s2.fill (T := fun _ => False) hl (repM_dat.mpr ⟨rz, fun _ z => z⟩) (fun _ z => z.elim) fun p hp' e => by
                      have := List.all_eq_true.mp g i (by simp [Tg.slots])
                      have n : i ∉ b.pin := by simpa using this
                      exact n (by rw [← e]; exact hp p hp')
                    exact h B2 H2 _ S3 s3 ((x1.trans ((ps.step _).weak (T' := S1) (fun _ z => z) fun _ z => .inl z)).weak (fun _ z => z) fun a z => (h3 a z).elim id False.elim)
                  · cases h2
                · exact h.elim
              · exact h.elim
          | _ => exact h.elim
      | _ => exact h.elim
/-- raise C('..') -/
theorem ms_raise {cn : Str} {C : Addr} {y : Expr} (hc : X.calm = true) (hm : PMk X y fun _ H Q => Q (.ref C) none H) (hC : X.mg cn = some (.ref C)) : MS b X (.Raise (some y) none pos) (.raise cn) := fun W tk => PS.imp (ps_raise hc tk hm) fun D σ H ⟨π, B, μ, S, hp, st, h⟩ => by
  have h : PostS X.K X.mg π B H S W D (execS b.sub b.C b.pin b.N (.raise cn) μ) := h
  unfold execS at h
  exact h B H σ S st (Step.refl _ _ _) C hC
end

/-! ### a function -/
section
variable {P : Program} {w : World} {K : PySem.W.Frag} {mg : Str → Option Value} {base : Heap}
theorem start_get {N : List Str} {vs : List V} {i : Nat} : (L2.start N vs)[i]? = if i < vs.length then (vs[i]?).map some else if i < N.length then some none else none := by
  unfold L2.start
  by_cases h : i < vs.length
  · rw [if_pos h, List.getElem?_append_left (by simpa using h), List.getElem?_map]
  · rw [if_neg h, List.getElem?_append_right (by simpa using h), List.getElem?_replicate]
    simp only [List.length_map]
    by_cases h2 : i < N.length
    · rw [if_pos h2, if_pos (by omega)]
    · rw [if_neg h2, if_neg (by omega)]
theorem startE_slot {fn : Fn} {ms : List M} {i : Nat} : slot (startE fn ms) i = ms[i]? := by
  unfold slot startE
  by_cases h : i < ms.length
  · rw [List.getElem?_append_left (by simpa using h), List.getElem?_map]
    cases ms[i]? <;> rfl
  · rw [List.getElem?_append_right (by simpa using h), List.getElem?_replicate]
    rw [List.getElem?_eq_none (l := ms) (by omega)]
    split <;> rfl
/-- some owned things, each its own -/
theorem repMs_split {B H : Hp} : ∀ {ms : List M} {vs : List V} {A : ASet}, RepMs K mg B H ms vs A → ∃ F : Nat → ASet, (∀ i m, ms[i]? = some m → ∃ v, vs[i]? = some v ∧ RepM K mg B H m v (F i)) ∧ (∀ i, ms[i]? = none → ∀ a, ¬ F i a) ∧ (∀ i j a, i ≠ j → F i a → ¬ F j a) ∧ ∀ a, A a ↔ ∃ i, F i a
  | [], vs, A, h => by
    unfold RepMs at h
    exact ⟨fun _ _ => False, fun i m e => by simp at e, fun _ _ _ z => z, fun _ _ _ _ z => z.elim, fun a => ⟨fun z => (h.2 a z).elim, fun ⟨_, z⟩ => z.elim⟩⟩
  | m :: ms, vs, A, h => by
    unfold RepMs at h
    obtain ⟨v, r, T1, T2, rfl, h1, h2, h3, h4⟩ := h
    obtain ⟨F, k1, k2, k3, k4⟩ := repMs_split h2
    refine ⟨fun i => match i with | 0 => T1 | i + 1 => F i, fun i m' e => ?_, fun i e a z => ?_, fun i j a n z y => ?_, fun a => ?_⟩
    · cases i with
      | zero => simp at e; subst e; exact ⟨v, rfl, h1⟩
      | succ i =>
        obtain ⟨u, e1, r1⟩ := k1 i m' (by simpa using e)
        exact ⟨u, by simpa using e1, r1⟩
    · cases i with
      | zero => simp at e
      | succ i => exact k2 i (by simpa using e) a z
    · cases i with
      | zero =>
        cases j with
        | zero => exact n rfl
        | succ j => exact h3 a z ((k4 a).mpr ⟨j, y⟩)
      | succ i =>
        cases j with
        | zero => exact h3 a y ((k4 a).mpr ⟨i, z⟩)
        | succ j => exact k3 i j a (fun e => n (by rw [e])) z y
    · rw [h4, k4]
      refine ⟨fun z => z.elim (fun z => ⟨0, z⟩) fun ⟨i, z⟩ => ⟨i + 1, z⟩, fun ⟨i, z⟩ => ?_⟩
      cases i with
      | zero => exact .inl z
      | succ i => exact .inr ⟨i, z⟩
def pinsOf (vs : List V) (pin : List Nat) : List (Nat × V) := pin.filterMap fun i => (vs[i]?).map fun v => (i, v)
theorem stt_start {B H : Hp} {fn : Fn} {N : List Str} {ms : List M} {vs : List V} {A : ASet} (hB : Ex B H) (h : RepMs K mg B H ms vs A) (hn : N.length = fn.n) (hl : ms.length = fn.np) (hle : fn.np ≤ fn.n) : Stt K mg (pinsOf vs fn.pin) B H (L2.start N vs) (startE fn ms) A := by
  have hlv := repMs_len h
  obtain ⟨F, k1, k2, k3, k4⟩ := repMs_split h
  refine ⟨hB, ?_, ⟨F, fun i m e => ?_, fun i e a z => ?_, k3, k4⟩, fun p hp => ?_⟩
  · unfold L2.start startE
    simp only [List.length_append, List.length_map, List.length_replicate]
    omega
  · rw [startE_slot] at e
    obtain ⟨v, e1, r⟩ := k1 i m e
    refine ⟨v, ?_, r⟩
    have hi : i < vs.length := (List.getElem?_eq_some_iff.mp e1).1
    rw [start_get, if_pos hi, e1]
    rfl
  · rw [startE_slot] at e
    exact k2 i e a z
  · obtain ⟨i, hi, e⟩ := List.mem_filterMap.mp hp
    cases ev : vs[i]? with
    | none => rw [ev] at e; cases e
    | some v =>
      rw [ev] at e
      cases e
      have hi : i < vs.length := (List.getElem?_eq_some_iff.mp ev).1
      show (L2.start N vs)[i]? = _
      rw [start_get, if_pos hi, ev]
      rfl
/-- the parameters' objects at the end -/
theorem outs_rep {B H : Hp} {fn : Fn} {σ : L2.St} {μ : Env} {S : ASet} {vs : List V} (s : Stt K mg (pinsOf vs fn.pin) B H σ μ S) (hl : vs.length = fn.np) : ∃ So, OutRep K mg B H (outsOf fn μ) vs So ∧ ∀ a, So a → S a := by
  obtain ⟨F, h1, h2, h3, h4⟩ := s.slots
  have go : ∀ (n off : Nat) (ws : List V), ws.length = n → (∀ j, j < n → ws[j]? = vs[off + j]?) → ∃ So, OutRep K mg B H ((List.range' off n).map fun j => if fn.pin.contains j then slot μ j else none) ws So ∧ ∀ a, So a → ∃ j, off ≤ j ∧ F j a := by
    intro n
    induction n with
    | zero =>
      intro off ws hw _
      exact ⟨fun _ => False, fun _ z => z, fun _ z => z.elim⟩
    | succ n ih =>
      intro off ws hw hv
      cases ws with
      | nil => cases hw
      | cons v ws =>
        obtain ⟨So, k1, k2⟩ := ih (off + 1) ws (by simpa using hw) fun j hj => by
          have := hv (j + 1) (by omega)
          rw [List.getElem?_cons_succ] at this
          rw [this]
          congr 1
          omega
        have k2' : ∀ a, So a → ∃ j, off ≤ j ∧ F j a := fun a z => let ⟨j, e, w⟩ := k2 a z; ⟨j, by omega, w⟩
        rw [List.range'_succ, List.map_cons]
        by_cases hp : fn.pin.contains off = true
        · rw [if_pos hp]
          cases e : slot μ off with
          | none => exact ⟨So, k1, k2'⟩
          | some m =>
            obtain ⟨u, e1, r⟩ := h1 off m e
            have hv0 : vs[off]? = some v := by
              have := hv 0 (by omega)
              rw [List.getElem?_cons_zero] at this
              exact this.symm
            have hm : (off, v) ∈ pinsOf vs fn.pin := List.mem_filterMap.mpr ⟨off, by simpa using hp, by rw [hv0]; rfl⟩
            have e2 := s.pins _ hm
            rw [e1] at e2
            cases e2
            refine ⟨fun a => F off a ∨ So a, ⟨v, F off, So, rfl, r, k1, fun a z w => ?_, fun a => Iff.rfl⟩, fun a z => z.elim (fun z => ⟨off, Nat.le_refl _, z⟩) (k2' a)⟩
            obtain ⟨j, hj, y⟩ := k2 a w
            exact h3 off j a (by omega) z y
        · rw [if_neg hp]
          exact ⟨So, k1, k2'⟩
  obtain ⟨So, k1, k2⟩ := go fn.np 0 vs hl fun j _ => by rw [Nat.zero_add]
  refine ⟨So, ?_, fun a z => let ⟨j, _, w⟩ := k2 a z; (h4 a).mpr ⟨j, w⟩⟩
  have e : outsOf fn μ = (List.range' 0 fn.np).map fun j => if fn.pin.contains j then slot μ j else none := by
    unfold outsOf; rw [List.range_eq_range']
  rw [e]; exact k1
theorem execS_no {b : Bd} : True := trivial
open PyProof.Rows PySem.Spec in
/-- THE RULE: a def, by its body -/
theorem fn_ok {name qual : Str} {st : Stmt} {f : Addr} {fd : FuncData} {N ps : List Str} {k : Nat} {fn : Fn} {C : Nat → List M → CR} {sub : Str → Str → Bool} {NN : Nat} {cf : List M → CR} (F : Fun K name qual st f fd) (S : FnScope N ps (defScope st))
    (hcf : ∀ ms, cf ms = if ms.length = fn.np then fnEnd fn (execSs sub C fn.pin NN fn.body (startE fn ms)) else .stuck) (hn : N.length = fn.n) (hp : ps.length = fn.np) (hle : fn.np ≤ fn.n)
    (hb : ∀ (cdv : Value) (A : Around) (outer : List PySem.Env) (s : Shared) (H : Hp) (E : XK), Room k (A.deeper (envOfC qual (defScope st) s.heap.objs.size f cdv)) →
      MSs ⟨C, fn.pin, sub, NN⟩ (cxOf (L2.CX P w) P w K mg base N qual (defScope st) f cdv A outer s H E) (defBody st) fn.body) : FnOk P w K mg base (L2.CX P w) (k + 1) f fd ps (spF K mg cf) := by
  have len : ∀ {vs : List V} {H : Hp} {Q : VK} {E : XK} {B : Hp} {A : ASet} {ms : List M}, RepMs K mg B H ms vs A → (match cf ms with
      | .stuck => False
      | .err c outs => ∀ B' H' So, Ex B' H' → Step B H A B' H' So → OutRep K mg B' H' outs vs So → ∀ C, mg c = some (.ref C) → E (.ref C) none H'
      | .ok m outs => ∀ v B' H' So T, Ex B' H' → OutRep K mg B' H' outs vs So → RepM K mg B' H' m v T → (∀ a, T a → ¬ So a) → Step B H A B' H' (fun a => So a ∨ T a) → Q v H') → ms.length = fn.np := fun {vs H Q E B A ms} _ h => by
    rw [hcf ms] at h
    by_cases e : ms.length = fn.np
    · exact e
    · rw [if_neg e] at h; exact h.elim
  refine F.okX S (fun vs H Q E h => ?_) fun cdv A outer s H vs Q E hr h => ?_
  · obtain ⟨B, A, ms, _, h1, h2⟩ := h
    rw [← repMs_len h1, len h1 h2, hp]
  · obtain ⟨B, O, ms, hB, h1, h2⟩ := h
    have hl := len h1 h2
    have hlv : vs.length = fn.np := by rw [← repMs_len h1]; exact hl
    have tk : Takes (cxOf (L2.CX P w) P w K mg base N qual (defScope st) f cdv A outer s H E) (fun cls d _ H => E cls d H) := takes_of rfl rfl rfl rfl
    refine ⟨_, hb cdv A outer s H E hr _ tk, pinsOf vs fn.pin, B, startE fn ms, O, fun p hp' => ?_, stt_start hB h1 hn hl hle, ?_⟩
    · obtain ⟨i, hi, e⟩ := List.mem_filterMap.mp hp'
      cases ev : vs[i]? with
      | none => rw [ev] at e; cases e
      | some v => rw [ev] at e; cases e; exact hi
    · rw [hcf ms, if_pos hl] at h2
      show PostS K mg _ B H O _ _ (execSs sub C fn.pin NN fn.body (startE fn ms))
      cases q : execSs sub C fn.pin NN fn.body (startE fn ms) with
      | stuck => rw [q] at h2; exact h2
      | brk μ => rw [q] at h2; exact h2.elim
      | cont μ => rw [q] at h2; exact h2.elim
      | err c μ =>
        rw [q] at h2
        intro B' H' σ' S' s' x' Ca hC
        obtain ⟨So, k1, k2⟩ := outs_rep s' hlv
        exact h2 B' H' So s'.sub (x'.weak (fun _ z => z) k2) k1 Ca hC
      | nx μ =>
        rw [q] at h2
        intro B' H' σ' S' s' x'
        obtain ⟨So, k1, k2⟩ := outs_rep s' hlv
        exact h2 .non B' H' So (fun _ => False) s'.sub k1 (repM_dat.mpr ⟨by unfold Rep; rfl, fun _ z => z⟩) (fun _ z => z.elim) (x'.weak (fun _ z => z) fun a z => z.elim (k2 a) False.elim)
      | ret m μ =>
        rw [q] at h2
        intro v B' H' σ' S' T s' r d x'
        obtain ⟨So, k1, k2⟩ := outs_rep s' hlv
        exact h2 v B' H' So T s'.sub k1 r (fun a z w => d a z (k2 a w)) (x'.weak (fun _ z => z) fun a z => z.imp (k2 a) id)
/-- no call is left -/
theorem fn_none {f : Addr} {fd : FuncData} {ps : List Str} : FnOk P w K mg base (L2.CX P w) 0 f fd ps (spF K mg fun _ => .stuck) := by
  have no : ∀ vs H Q E, ¬ spF K mg (fun _ => .stuck) vs H Q E := fun vs H Q E h => by
    obtain ⟨_, _, _, _, _, h⟩ := h
    exact h
  exact ⟨fun vs H Q E h => absurd h (no vs H Q E), fun A outer s H args us vs Q E _ _ _ _ h => absurd h (no vs H Q E)⟩
end
end Mi
/-! Mi11: operations on data. -/
namespace Mi
open PySem L2
section
variable {K : PySem.W.Frag} {mg : Str → Option Value} {X : Cx}
theorem rep_non {B : Hp} {v : V} (h : Rep K mg B .non v) : v = .non := by unfold Rep at h; exact h
theorem rep_int' {B : Hp} {i : Int} : Rep K mg B (.int i) (.int i) := by unfold Rep; rfl
theorem rep_bl' {B : Hp} {i : Bool} : Rep K mg B (.bl i) (.bl i) := by unfold Rep; rfl
theorem rep_str' {B : Hp} {i : Str} : Rep K mg B (.str i) (.str i) := by unfold Rep; rfl
theorem repL_app {B : Hp} : ∀ {ds es : List D} {vs ws : List V}, RepL K mg B ds vs → RepL K mg B es ws → RepL K mg B (ds ++ es) (vs ++ ws)
  | [], _, vs, _, h, h' => by unfold RepL at h; subst h; exact h'
  | d :: ds, es, vs, ws, h, h' => by
    unfold RepL at h
    obtain ⟨v, r, rfl, h1, h2⟩ := h
    show RepL K mg B (d :: (ds ++ es)) (v :: (r ++ ws))
    unfold RepL
    exact ⟨v, r ++ ws, rfl, h1, repL_app h2 h'⟩
theorem repL_drop {B : Hp} : ∀ {n : Nat} {ds : List D} {vs : List V}, RepL K mg B ds vs → RepL K mg B (ds.drop n) (vs.drop n)
  | 0, _, _, h => h
  | n + 1, [], vs, h => by unfold RepL at h; subst h; unfold RepL; rfl
  | n + 1, d :: ds, vs, h => by
    unfold RepL at h
    obtain ⟨v, r, rfl, _, h2⟩ := h
    exact repL_drop (n := n) h2
theorem repL_take {B : Hp} : ∀ {n : Nat} {ds : List D} {vs : List V}, RepL K mg B ds vs → RepL K mg B (ds.take n) (vs.take n)
  | 0, _, _, h => by unfold RepL; rfl
  | n + 1, [], vs, h => by unfold RepL at h; subst h; unfold RepL; rfl
  | n + 1, d :: ds, vs, h => by
    unfold RepL at h
    obtain ⟨v, r, rfl, h1, h2⟩ := h
    show RepL K mg B (d :: ds.take n) (v :: r.take n)
    unfold RepL
    exact ⟨v, r.take n, rfl, h1, repL_take h2⟩
/-! ### lists that are read, put together -/
def rCatL (K : PySem.W.Frag) : R2 := fun x y H Q => ∃ l b xs zs, x = .ref l ∧ y = .ref b ∧ SqL K H l xs ∧ SqL K H b zs ∧ xs.length + zs.length ≤ sizeLine ∧ ∀ p, H p = none → Q (.ref p) (upd H p (.lst (xs ++ zs)))
open PyProof.Rows PySem.Spec in
theorem op_catL : OpR X (binaryOp .Add) (rCatL X.K) := by
  intro pins s σ H x y v u Q I rx ry h
  obtain ⟨l, b, xs, zs, rfl, rfl, hH, hB, hz, q⟩ := h
  cases rx
  cases ry
  obtain ⟨its, r, ⟨⟨cls, dd, data, sl⟩, n, ho, hc, hdd, hd⟩, _⟩ := I.list hH
  obtain ⟨its2, r2, ⟨⟨cls2, dd2, data2, sl2⟩, n2, ho2, hc2, hdd2, hd2⟩, _⟩ := I.list hB
  simp only at hc hd hc2 hd2
  subst hc hd hc2 hd2
  have hl := r.length
  have hl2 := r2.length
  refine concat_meets ⟨_, ho, rfl⟩ ⟨_, ho2, rfl⟩ noFill_list_add seq_list_add PySem.F.slot_list_add PySem.F.entry_list_add (PySem.F.args_list_add_2 _ _) (list_addW l b its.toArray its2.toArray n n2 dd dd2 sl sl2 (by simp only [List.size_toArray]; omega)) ⟨ho, ho2, ?_⟩
  have ea : its.toArray ++ its2.toArray = (its ++ its2).toArray := by simp
  rw [ea]
  exact ⟨.ref _, _, I.lnew (t' := s.toks) (r.append r2) (by rw [List.length_append]; omega), rfl, q _ I.fresh⟩

/-! ### arithmetic, texts, sequences -/
def fAdd : D → D → Option D
  | .int i, .int j => some (.int (i + j))
  | .str s, .str t => if s.length + t.length ≤ sizeLine then some (.str (s ++ t)) else none
  | .tup xs, .tup ys => if xs ≠ [] ∧ xs.length + ys.length ≤ sizeLine then some (.tup (xs ++ ys)) else none
  | _, _ => none
def rAdd (K : PySem.W.Frag) : R2 := fun x y H Q => (rI0 fun i j => .int (i + j)) x y H Q ∨ (∃ i j, x = .str i ∧ y = .str j ∧ i.length + j.length ≤ sizeLine ∧ Q (.str (i ++ j)) H) ∨ rCatT K x y H Q
theorem op_addD : OpR X (binaryOp .Add) (rAdd X.K) := op_add.or (op_add_str.or op_catT)
theorem imp_add : Imp2 K mg fAdd (rAdd K) := fun B H x y d1 d2 d3 Q e r1 r2 hf k => by
  unfold fAdd at hf
  split at hf
  · cases hf
    rw [rep_int r1, rep_int r2]
    exact .inl ⟨_, _, rfl, rfl, k _ B H (PStep.refl e) rep_int'⟩
  · split at hf
    · rename_i hl
      cases hf
      rw [rep_str r1, rep_str r2]
      exact .inr (.inl ⟨_, _, rfl, rfl, hl, k _ B H (PStep.refl e) rep_str'⟩)
    · cases hf
  · split at hf
    · rename_i hl
      cases hf
      obtain ⟨a, vs, rfl, h1, h2⟩ := rep_tup r1
      obtain ⟨c, ws, rfl, h3, h4⟩ := rep_tup r2
      have l1 := repL_len h2
      have l2 := repL_len h4
      refine .inr (.inr ⟨a, c, vs, ws, rfl, rfl, e.t h1, e.t h3, fun z => hl.1 (by subst z; exact List.eq_nil_of_length_eq_zero l1), by omega, fun z => ?_, fun _ p hp => ?_⟩)
      · subst z
        have z' := List.eq_nil_of_length_eq_zero l2
        subst z'
        refine k _ B H (PStep.refl e) ?_
        rw [List.append_nil]; exact r1
      · have ps := PStep.new e (.tup (vs ++ ws)) hp
        refine k _ _ _ ps ?_
        unfold Rep
        exact ⟨p, _, rfl, .inl (.inl upd_same), (repL_app h2 h4).mono ps.ex⟩
    · cases hf
  · cases hf
/-- lists: a new one -/
def fAddL : D → D → Option D
  | .lst xs, .lst ys => if xs.length + ys.length ≤ sizeLine then some (.lst (xs ++ ys)) else none
  | _, _ => none
theorem imp_addL : Imp2F K mg fAddL (rCatL K) := fun B H x y d1 d2 d3 Q e r1 r2 hf k => by
  unfold fAddL at hf
  split at hf
  · split at hf
    · rename_i hl
      cases hf
      obtain ⟨a, vs, rfl, h1, h2⟩ := rep_lst r1
      obtain ⟨c, ws, rfl, h3, h4⟩ := rep_lst r2
      have l1 := repL_len h2
      have l2 := repL_len h4
      exact ⟨a, c, vs, ws, rfl, rfl, e.l h1, e.l h3, by omega, fun p hp => k p _ hp (.inl ⟨_, _, rfl, rfl, repL_app h2 h4⟩)⟩
    · cases hf
  · cases hf
def fInt2 (g : Int → Int → Option D) : D → D → Option D
  | .int i, .int j => g i j
  | _, _ => none
def fSub : D → D → Option D := fInt2 fun i j => some (.int (i - j))
theorem imp_sub : Imp2 K mg fSub (rI0 fun i j => .int (i - j)) := fun B H x y d1 d2 d3 Q e r1 r2 hf k => by
  unfold fSub fInt2 at hf
  split at hf
  · cases hf
    rw [rep_int r1, rep_int r2]
    exact ⟨_, _, rfl, rfl, k _ B H (PStep.refl e) rep_int'⟩
  · cases hf
instance (i j : Int) : Decidable (CMul i j) := by unfold CMul; infer_instance
instance (i j : Int) : Decidable (CMulW i j) := by unfold CMulW; infer_instance
instance (i j : Int) : Decidable (CDivW i j) := by unfold CDivW; infer_instance
def fMul : D → D → Option D := fInt2 fun i j => if CMul i j ∨ CMulW i j then some (.int (i * j)) else none
def rMulA : R2 := fun x y H Q => (rI CMul fun i j => .int (i * j)) x y H Q ∨ (rI CMulW fun i j => .int (i * j)) x y H Q
theorem op_mulA : OpR X (binaryOp .Mult) rMulA := op_mul.or op_mulW
theorem imp_mul : Imp2 K mg fMul rMulA := fun B H x y d1 d2 d3 Q e r1 r2 hf k => by
  unfold fMul fInt2 at hf
  split at hf
  · dsimp only at hf
    split at hf
    · rename_i h
      cases hf
      rw [rep_int r1, rep_int r2]
      exact h.imp (fun h => ⟨_, _, rfl, rfl, h, k _ B H (PStep.refl e) rep_int'⟩) fun h => ⟨_, _, rfl, rfl, h, k _ B H (PStep.refl e) rep_int'⟩
    · cases hf
  · cases hf
/-- // by a great divisor -/
def fDivW : D → D → Option D := fInt2 fun i j => if CDivW i j then some (.int (i / j)) else none
theorem imp_divW : Imp2 K mg fDivW (rI CDivW fun i j => .int (i / j)) := fun B H x y d1 d2 d3 Q e r1 r2 hf k => by
  unfold fDivW fInt2 at hf
  split at hf
  · dsimp only at hf
    split at hf
    · rename_i h
      cases hf
      rw [rep_int r1, rep_int r2]
      exact ⟨_, _, rfl, rfl, h, k _ B H (PStep.refl e) rep_int'⟩
    · cases hf
  · cases hf
/-- // and % by a positive divisor -/
def fMod : D → D → Option D := fInt2 fun i j => if 0 < j then some (.int (i % j)) else none
theorem imp_mod : Imp2 K mg fMod (rI (fun _ j => 0 < j) fun i j => .int (i % j)) := fun B H x y d1 d2 d3 Q e r1 r2 hf k => by
  unfold fMod fInt2 at hf
  split at hf
  · dsimp only at hf
    split at hf
    · rename_i h
      cases hf
      rw [rep_int r1, rep_int r2]
      exact ⟨_, _, rfl, rfl, h, k _ B H (PStep.refl e) rep_int'⟩
    · cases hf
  · cases hf
instance (i j : Int) : Decidable (CDiv i j) := by unfold CDiv; infer_instance
def fDiv : D → D → Option D := fInt2 fun i j => if CDiv i j then some (.int (i / j)) else none
theorem imp_div : Imp2 K mg fDiv (rI CDiv fun i j => .int (i / j)) := fun B H x y d1 d2 d3 Q e r1 r2 hf k => by
  unfold fDiv fInt2 at hf
  split at hf
  · dsimp only at hf
    split at hf
    · rename_i h
      cases hf
      rw [rep_int r1, rep_int r2]
      exact ⟨_, _, rfl, rfl, h, k _ B H (PStep.refl e) rep_int'⟩
    · cases hf
  · cases hf
instance (i j : Int) : Decidable (CPow i j) := by unfold CPow; infer_instance
def fPow : D → D → Option D := fInt2 fun i j => if CPow i j then some (.int (i ^ j.toNat)) else none
theorem imp_pow : Imp2 K mg fPow (rI CPow fun i j => .int (i ^ j.toNat)) := fun B H x y d1 d2 d3 Q e r1 r2 hf k => by
  unfold fPow fInt2 at hf
  split at hf
  · dsimp only at hf
    split at hf
    · rename_i h
      cases hf
      rw [rep_int r1, rep_int r2]
      exact ⟨_, _, rfl, rfl, h, k _ B H (PStep.refl e) rep_int'⟩
    · cases hf
  · cases hf
def fNeg : D → Option D
  | .int i => some (.int (-i))
  | _ => none
theorem imp_neg : Imp1 K mg fNeg (rU fun i => .int (-i)) := fun B H x d1 d3 Q e r1 hf k => by
  unfold fNeg at hf
  split at hf
  · cases hf
    rw [rep_int r1]
    exact ⟨_, rfl, k _ B H (PStep.refl e) rep_int'⟩
  · cases hf
/-! ### comparisons -/
def fLt : D → D → Option D := fInt2 fun i j => some (.bl (decide (i < j)))
def fLe : D → D → Option D := fInt2 fun i j => some (.bl (decide (i ≤ j)))
def fGt : D → D → Option D := fInt2 fun i j => some (.bl (decide (j < i)))
def fGe : D → D → Option D := fInt2 fun i j => some (.bl (decide (j ≤ i)))
theorem imp_cmpI {p : Int → Int → Bool} : Imp2 K mg (fInt2 fun i j => some (.bl (p i j))) (rI0 fun i j => .bl (p i j)) := fun B H x y d1 d2 d3 Q e r1 r2 hf k => by
  unfold fInt2 at hf
  split at hf
  · cases hf
    rw [rep_int r1, rep_int r2]
    exact ⟨_, _, rfl, rfl, k _ B H (PStep.refl e) rep_bl'⟩
  · cases hf
theorem imp_lt : Imp2 K mg fLt (rI0 fun i j => .bl (decide (i < j))) := imp_cmpI
theorem imp_le : Imp2 K mg fLe (rI0 fun i j => .bl (decide (i ≤ j))) := imp_cmpI
theorem imp_gt : Imp2 K mg fGt (rI0 fun i j => .bl (decide (j < i))) := imp_cmpI
theorem imp_ge : Imp2 K mg fGe (rI0 fun i j => .bl (decide (j ≤ i))) := imp_cmpI
mutual
def D.py : D → PyData
  | .non => .none
  | .bl b => .bool b
  | .int i => .int i
  | .str s => .str s
  | .tup xs => .tuple (D.pys xs)
  | .lst xs => .list (D.pys xs)
  | .dct _ _ => .dict []
  | .ins _ _ _ => .dict []
  | .exc _ => .dict []
def D.pys : List D → List PyData
  | [] => []
  | d :: r => d.py :: D.pys r
end
mutual
theorem rep_dp {B H : Hp} (e : Ex B H) : ∀ {d : D} {v : V}, d.py.canLay0 = true → Rep K mg B d v → Dp K H v d.py
  | .non, v, _, h => by rw [rep_non h]; unfold D.py; exact Dp.non
  | .bl b, v, _, h => by rw [rep_bl h]; unfold D.py; exact Dp.bl b
  | .int i, v, _, h => by rw [rep_int h]; unfold D.py; exact Dp.int i
  | .str i, v, _, h => by rw [rep_str h]; unfold D.py; exact Dp.str i
  | .tup xs, v, c, h => by
    obtain ⟨a, vs, rfl, h1, h2⟩ := rep_tup h
    unfold D.py at c ⊢
    unfold PyData.canLay0 at c
    exact Dp.tup (e.t h1) (repL_dp e c h2)
  | .lst xs, v, c, h => by
    obtain ⟨a, vs, rfl, h1, h2⟩ := rep_lst h
    unfold D.py at c ⊢
    unfold PyData.canLay0 at c
    exact Dp.lst (e.l h1) (repL_dp e c h2)
  | .dct _ _, v, c, _ => by unfold D.py PyData.canLay0 at c; cases c
  | .ins _ _ _, v, c, _ => by unfold D.py PyData.canLay0 at c; cases c
  | .exc _, v, c, _ => by unfold D.py PyData.canLay0 at c; cases c
theorem repL_dp {B H : Hp} (e : Ex B H) : ∀ {ds : List D} {vs : List V}, PyData.canLayAll0 (D.pys ds) = true → RepL K mg B ds vs → DpAll K H vs (D.pys ds)
  | [], vs, _, h => by unfold RepL at h; subst h; unfold D.pys; exact DpAll.nil
  | d :: ds, vs, c, h => by
    unfold RepL at h
    obtain ⟨v, r, rfl, h1, h2⟩ := h
    unfold D.pys at c ⊢
    unfold PyData.canLayAll0 at c
    have cc := (Bool.and_eq_true _ _).mp c
    exact DpAll.cons (rep_dp e cc.1 h1) (repL_dp e cc.2 h2)
end
/-- scalars that == tells apart at once -/
def scalD : D → D → Option Bool
  | .int i, .int j => some (decide (i = j))
  | .str i, .str j => some (decide (i = j))
  | .bl i, .bl j => some (decide (i = j))
  | .non, .non => some true
  | .non, .int _ => some false
  | .int _, .non => some false
  | .non, .str _ => some false
  | .str _, .non => some false
  | _, _ => none
def eqD (d e : D) : Option Bool := match scalD d e with
  | some b => some b
  | none => if SeqAt.shaped d.py = true ∧ SeqAt.shaped e.py = true then some (PyData.eqv d.py e.py) else none
def fEq (d e : D) : Option D := (eqD d e).map .bl
def fNe (d e : D) : Option D := (eqD d e).map fun b => .bl !b
theorem scalD_ok {B : Hp} {d e : D} {x y : V} {b : Bool} (h : scalD d e = some b) (r1 : Rep K mg B d x) (r2 : Rep K mg B e y) : scal x y = true ∧ decide (x = y) = b := by
  unfold scalD at h
  split at h <;> first | (cases h; done) | skip
  · cases h; rw [rep_int r1, rep_int r2]; exact ⟨rfl, by simp⟩
  · cases h; rw [rep_str r1, rep_str r2]; exact ⟨rfl, by simp⟩
  · cases h; rw [rep_bl r1, rep_bl r2]; exact ⟨rfl, by simp⟩
  · cases h; rw [rep_non r1, rep_non r2]; exact ⟨rfl, by simp⟩
  · cases h; rw [rep_non r1, rep_int r2]; exact ⟨rfl, by simp⟩
  · cases h; rw [rep_int r1, rep_non r2]; exact ⟨rfl, by simp⟩
  · cases h; rw [rep_non r1, rep_str r2]; exact ⟨rfl, by simp⟩
  · cases h; rw [rep_str r1, rep_non r2]; exact ⟨rfl, by simp⟩
def rEqA (K : PySem.W.Frag) : R2 := fun x y H Q => rEq x y H Q ∨ rEqD K x y H Q
def rNeA (K : PySem.W.Frag) : R2 := fun x y H Q => rNe x y H Q ∨ rNeD K x y H Q
theorem op_eqA (hu : X.A.units + 64 < cLine) : OpR X (compareOp .Eq) (rEqA X.K) := op_eq.or (op_eqD hu)
theorem op_neA (hu : X.A.units + 64 < cLine) : OpR X (compareOp .NotEq) (rNeA X.K) := op_ne.or (op_neD hu)
theorem imp_eq : Imp2 K mg fEq (rEqA K) := fun B H x y d1 d2 d3 Q e r1 r2 hf k => by
  unfold fEq eqD at hf
  split at hf
  · rename_i b hb
    cases hf
    obtain ⟨h1, h2⟩ := scalD_ok hb r1 r2
    exact .inl ⟨h1, by rw [h2]; exact k _ B H (PStep.refl e) rep_bl'⟩
  · split at hf
    · rename_i hs
      cases hf
      exact .inr ⟨_, _, rep_dp e (SeqAt.canLay_of_shaped hs.1) r1, rep_dp e (SeqAt.canLay_of_shaped hs.2) r2, hs.1, hs.2, k _ B H (PStep.refl e) rep_bl'⟩
    · cases hf
theorem imp_ne : Imp2 K mg fNe (rNeA K) := fun B H x y d1 d2 d3 Q e r1 r2 hf k => by
  unfold fNe eqD at hf
  split at hf
  · rename_i b hb
    cases hf
    obtain ⟨h1, h2⟩ := scalD_ok hb r1 r2
    exact .inl ⟨h1, by rw [h2]; exact k _ B H (PStep.refl e) rep_bl'⟩
  · split at hf
    · rename_i hs
      cases hf
      exact .inr ⟨_, _, rep_dp e (SeqAt.canLay_of_shaped hs.1) r1, rep_dp e (SeqAt.canLay_of_shaped hs.2) r2, hs.1, hs.2, k _ B H (PStep.refl e) rep_bl'⟩
    · cases hf
/-- is None -/
def fIsN : D → D → Option D
  | .non, .non => some (.bl true)
  | _, .non => some (.bl false)
  | _, _ => none
def fIsNotN : D → D → Option D
  | .non, .non => some (.bl false)
  | _, .non => some (.bl true)
  | _, _ => none
theorem rep_ne_non {B : Hp} {d : D} {v : V} (h : Rep K mg B d v) (n : d ≠ .non) : v ≠ .non := by
  intro e
  subst e
  cases d with
  | non => exact n rfl
  | bl b' => have := rep_bl h; cases this
  | int _ => have := rep_int h; cases this
  | str _ => have := rep_str h; cases this
  | tup _ => obtain ⟨_, _, h, _⟩ := rep_tup h; cases h
  | lst _ => obtain ⟨_, _, h, _⟩ := rep_lst h; cases h
  | dct _ _ => unfold Rep at h; obtain ⟨_, _, h, _⟩ := h; cases h
  | ins _ _ _ => unfold Rep at h; obtain ⟨_, _, h, _⟩ := h; cases h
  | exc _ => unfold Rep at h; obtain ⟨_, h⟩ := h; cases h
theorem imp_isN : Imp2 K mg fIsN (fun x y H Q => y = .non ∧ Q (.bl (decide (x = .non))) H) := fun B H x y d1 d2 d3 Q e r1 r2 hf k => by
  unfold fIsN at hf
  split at hf
  · cases hf
    rw [rep_non r1, rep_non r2]
    exact ⟨rfl, k _ B H (PStep.refl e) rep_bl'⟩
  · rename_i n
    cases hf
    refine ⟨rep_non r2, ?_⟩
    rw [decide_eq_false (rep_ne_non r1 fun z => n z)]
    exact k _ B H (PStep.refl e) rep_bl'
  · cases hf
theorem imp_isNotN : Imp2 K mg fIsNotN (fun x y H Q => y = .non ∧ Q (.bl (!decide (x = .non))) H) := fun B H x y d1 d2 d3 Q e r1 r2 hf k => by
  unfold fIsNotN at hf
  split at hf
  · cases hf
    rw [rep_non r1, rep_non r2]
    exact ⟨rfl, k _ B H (PStep.refl e) rep_bl'⟩
  · rename_i n
    cases hf
    refine ⟨rep_non r2, ?_⟩
    rw [decide_eq_false (rep_ne_non r1 fun z => n z)]
    exact k _ B H (PStep.refl e) rep_bl'
  · cases hf
/-! ### in -/
def flatD : D → Bool
  | .non => true
  | .bl _ => true
  | .int _ => true
  | .str _ => true
  | _ => false
def D.v : D → V
  | .non => .non
  | .bl b => .bl b
  | .int i => .int i
  | .str s => .str s
  | _ => .non
theorem flat_v {B : Hp} {d : D} {v : V} (f : flatD d = true) (h : Rep K mg B d v) : v = d.v ∧ flatV d.v = true := by
  cases d with
  | non => exact ⟨rep_non h, rfl⟩
  | bl b => exact ⟨rep_bl h, rfl⟩
  | int b => exact ⟨rep_int h, rfl⟩
  | str b => exact ⟨rep_str h, rfl⟩
  | _ => cases f
theorem flat_vs {B : Hp} : ∀ {ds : List D} {vs : List V}, ds.all flatD = true → RepL K mg B ds vs → vs = ds.map D.v ∧ (ds.map D.v).all flatV = true
  | [], vs, _, h => by unfold RepL at h; subst h; exact ⟨rfl, rfl⟩
  | d :: ds, vs, f, h => by
    unfold RepL at h
    obtain ⟨v, r, rfl, h1, h2⟩ := h
    have ff := (Bool.and_eq_true _ _).mp (show (flatD d && ds.all flatD) = true from f)
    obtain ⟨e1, e2⟩ := flat_v ff.1 h1
    obtain ⟨e3, e4⟩ := flat_vs ff.2 h2
    subst e1 e3
    exact ⟨rfl, by show (flatV d.v && (ds.map D.v).all flatV) = true; rw [e2, e4]; rfl⟩
def inD (neg : Bool) : D → D → Option D
  | d, .tup xs => if flatD d = true ∧ xs.all flatD = true then some (.bl (if neg then !inV d.v (xs.map D.v) else inV d.v (xs.map D.v))) else none
  | d, .lst xs => if flatD d = true ∧ xs.all flatD = true then some (.bl (if neg then !inV d.v (xs.map D.v) else inV d.v (xs.map D.v))) else none
  | _, _ => none
theorem imp_in {neg : Bool} : Imp2 K mg (inD neg) (rIn K neg) := fun B H x y d1 d2 d3 Q e r1 r2 hf k => by
  unfold inD at hf
  split at hf
  · split at hf
    · rename_i h
      cases hf
      obtain ⟨a, vs, rfl, h1, h2⟩ := rep_tup r2
      obtain ⟨e1, e2⟩ := flat_v h.1 r1
      obtain ⟨e3, e4⟩ := flat_vs h.2 h2
      subst e1 e3
      exact ⟨a, _, rfl, .inr (e.t h1), e2, e4, k _ B H (PStep.refl e) rep_bl'⟩
    · cases hf
  · split at hf
    · rename_i h
      cases hf
      obtain ⟨a, vs, rfl, h1, h2⟩ := rep_lst r2
      obtain ⟨e1, e2⟩ := flat_v h.1 r1
      obtain ⟨e3, e4⟩ := flat_vs h.2 h2
      subst e1 e3
      exact ⟨a, _, rfl, .inl (e.l h1), e2, e4, k _ B H (PStep.refl e) rep_bl'⟩
    · cases hf
  · cases hf
/-! ### places of sequences -/
def fIx : D → D → Option D
  | .lst xs, .int i => atI xs i
  | .tup xs, .int i => atI xs i
  | .str s, .int i => if s.length ≤ sizeLine then (atI s.cps.toList i).map fun c => .str ⟨#[c]⟩ else none
  | _, _ => none
theorem atI_rep {B : Hp} {ds : List D} {vs : List V} {i : Int} {d : D} (h : RepL K mg B ds vs) (e : atI ds i = some d) : ∃ v, atI vs i = some v ∧ Rep K mg B d v := by
  unfold atI at e ⊢
  rw [repL_len h] at e
  cases q : ixN vs.length i with
  | none => rw [q] at e; cases e
  | some j =>
    rw [q] at e
    exact (repL_get h).1 d e
theorem imp_ix : Imp2 K mg fIx (rIx K) := fun B H x y d1 d2 d3 Q e r1 r2 hf k => by
  unfold fIx at hf
  split at hf
  · obtain ⟨a, vs, rfl, h1, h2⟩ := rep_lst r1
    rw [rep_int r2]
    obtain ⟨v, e1, r3⟩ := atI_rep h2 hf
    exact .inl ⟨a, vs, _, v, rfl, rfl, e.l h1, e1, k _ B H (PStep.refl e) r3⟩
  · obtain ⟨a, vs, rfl, h1, h2⟩ := rep_tup r1
    rw [rep_int r2]
    obtain ⟨v, e1, r3⟩ := atI_rep h2 hf
    exact .inr (.inl ⟨a, vs, _, v, rfl, rfl, e.t h1, e1, k _ B H (PStep.refl e) r3⟩)
  · split at hf
    · rename_i s i hl
      rw [rep_str r1, rep_int r2]
      cases q : atI s.cps.toList i with
      | none => rw [q] at hf; cases hf
      | some c =>
        rw [q] at hf
        cases hf
        exact .inr (.inr ⟨s, i, c, rfl, rfl, hl, q, k _ B H (PStep.refl e) rep_str'⟩)
    · cases hf
  · cases hf
def fLen : List D → Option D
  | [.lst xs] => some (.int xs.length)
  | [.tup xs] => some (.int xs.length)
  | [.str s] => if s.length ≤ sizeLine then some (.int s.length) else none
  | [.dct ks xs] => some (.int ks.length)
  | _ => none
def rLen (K : PySem.W.Frag) : List V → Hp → VK → Prop := fun xs H Q => (∃ p ys, xs = [.ref p] ∧ (SqL K H p ys ∨ SqT K H p ys) ∧ Q (.int ys.length) H) ∨ (∃ z, xs = [.str z] ∧ z.length ≤ sizeLine ∧ Q (.int z.length) H) ∨ ∃ d kvs, xs = [.ref d] ∧ Rd H d (.dK kvs) ∧ Q (.int kvs.length) H
theorem call_lenR : CallR X (.builtin "len") (fun xs H Q => ∃ d kvs, xs = [V.ref d] ∧ Rd H d (.dK kvs) ∧ Q (.int kvs.length) H) := fun pins s σ H xs us Q I r ⟨a, kvs, hx, ha, q⟩ => by
  subst hx
  obtain ⟨u0, hu, r0⟩ := vals1 r
  subst hu
  cases r0
  exact d_len I ha fun t s' I' => ⟨.int kvs.length, H, I', ⟨t, rfl⟩, q⟩
theorem call_lenA : CallR X (.builtin "len") (rLen X.K) := call_len_seq.or (call_len_str.or call_lenR)
theorem imp_len : ImpN K mg fLen (rLen K) := fun B H xs ds d3 Q e r hf k => by
  unfold fLen at hf
  split at hf
  · cases hf
    obtain ⟨v, rfl, r1⟩ := repL1 r
    obtain ⟨a, vs, rfl, h1, h2⟩ := rep_lst r1
    rw [repL_len h2] at k
    exact .inl ⟨a, vs, rfl, .inl (e.l h1), k _ B H (PStep.refl e) rep_int'⟩
  · cases hf
    obtain ⟨v, rfl, r1⟩ := repL1 r
    obtain ⟨a, vs, rfl, h1, h2⟩ := rep_tup r1
    rw [repL_len h2] at k
    exact .inl ⟨a, vs, rfl, .inr (e.t h1), k _ B H (PStep.refl e) rep_int'⟩
  · split at hf
    · rename_i hl
      cases hf
      obtain ⟨v, rfl, r1⟩ := repL1 r
      rw [rep_str r1]
      exact .inr (.inl ⟨_, rfl, hl, k _ B H (PStep.refl e) rep_int'⟩)
    · cases hf
  · cases hf
    obtain ⟨v, rfl, r1⟩ := repL1 r
    unfold Rep at r1
    obtain ⟨a, vs, rfl, h1, h2, h3⟩ := r1
    refine .inr (.inr ⟨a, _, rfl, e.r h1, ?_⟩)
    rw [List.length_zip, ← h2, Nat.min_self]
    exact k _ B H (PStep.refl e) rep_int'
  · cases hf
/-- list(..), tuple(..) of a list or a tuple -/
def fList : List D → Option D
  | [.lst xs] => some (.lst xs)
  | [.tup xs] => some (.lst xs)
  | _ => none
theorem impN_list : ImpNF K mg fList (fun xs H Q => ∃ p ys, xs = [.ref p] ∧ (SqL K H p ys ∨ SqT K H p ys) ∧ ∀ l, H l = none → Q (.ref l) (upd H l (.lst ys))) := fun B H xs ds d3 Q e r hf k => by
  unfold fList at hf
  split at hf
  · cases hf
    obtain ⟨v, rfl, r1⟩ := repL1 r
    obtain ⟨a, vs, rfl, h1, h2⟩ := rep_lst r1
    exact ⟨a, vs, rfl, .inl (e.l h1), fun l hl => k l _ hl (.inl ⟨_, _, rfl, rfl, h2⟩)⟩
  · cases hf
    obtain ⟨v, rfl, r1⟩ := repL1 r
    obtain ⟨a, vs, rfl, h1, h2⟩ := rep_tup r1
    exact ⟨a, vs, rfl, .inr (e.t h1), fun l hl => k l _ hl (.inl ⟨_, _, rfl, rfl, h2⟩)⟩
  · cases hf
def fTuple : List D → Option D
  | [.lst xs] => some (.tup xs)
  | [.tup xs] => some (.tup xs)
  | _ => none
theorem imp_tuple : ImpN K mg fTuple (fun xs H Q => ∃ p ys, xs = [.ref p] ∧ ((SqL K H p ys ∧ ∀ l, H l = none → Q (.ref l) (upd H l (.tup ys))) ∨ (SqT K H p ys ∧ Q (.ref p) H))) := fun B H xs ds d3 Q e r hf k => by
  unfold fTuple at hf
  split at hf
  · cases hf
    obtain ⟨v, rfl, r1⟩ := repL1 r
    obtain ⟨a, vs, rfl, h1, h2⟩ := rep_lst r1
    refine ⟨a, vs, rfl, .inl ⟨e.l h1, fun l hl => ?_⟩⟩
    have ps := PStep.new e (.tup vs) hl
    refine k _ _ _ ps ?_
    unfold Rep
    exact ⟨l, _, rfl, .inl (.inl upd_same), h2.mono ps.ex⟩
  · cases hf
    obtain ⟨v, rfl, r1⟩ := repL1 r
    have r1' := r1
    obtain ⟨a, vs, rfl, h1, h2⟩ := rep_tup r1
    exact ⟨a, vs, rfl, .inr ⟨e.t h1, k _ B H (PStep.refl e) r1'⟩⟩
  · cases hf
/-- sums, greatest, least of whole numbers -/
def intsD : List D → Option (List Int)
  | [] => some []
  | .int i :: r => (intsD r).map (i :: ·)
  | _ :: _ => none
theorem ints_rep {B : Hp} : ∀ {ds : List D} {vs : List V} {ns : List Int}, intsD ds = some ns → RepL K mg B ds vs → vs = ns.map V.int
  | [], vs, ns, e, h => by
    unfold RepL at h
    unfold intsD at e
    cases e
    exact h
  | d :: r, vs, ns, e, h => by
    unfold RepL at h
    obtain ⟨v, r', rfl, h1, h2⟩ := h
    cases d with
    | int i =>
      have e : (intsD r).map (i :: ·) = some ns := e
      cases q : intsD r with
      | none => rw [q] at e; cases e
      | some ns' =>
        rw [q] at e
        cases e
        rw [rep_int h1, ints_rep q h2]
        rfl
    | _ => cases e
def fSum : List D → Option D
  | [.lst xs] => (intsD xs).map fun ns => .int ns.sum
  | _ => none
theorem imp_sum : ImpN K mg fSum (rSum K) := fun B H xs ds d3 Q e r hf k => by
  unfold fSum at hf
  split at hf
  · rename_i ys
    cases q : intsD ys with
    | none => rw [q] at hf; cases hf
    | some ns =>
      rw [q] at hf
      cases hf
      obtain ⟨v, rfl, r1⟩ := repL1 r
      obtain ⟨a, vs, rfl, h1, h2⟩ := rep_lst r1
      exact ⟨a, ns, rfl, by rw [← ints_rep q h2]; exact e.l h1, k _ B H (PStep.refl e) rep_int'⟩
  · cases hf
/-- the greatest of some -/
def maxL : List Int → Option Int
  | [] => none
  | i :: r => some (r.foldl (fun a b => if b > a then b else a) i)
/-! ### slices -/
def optI : D → Option (Option Int)
  | .non => some none
  | .int i => some (some i)
  | _ => none
def cutD (xs : List D) (lo hi : Option Int) : List D := (xs.drop (HT.sIx xs.length 0 lo)).take (HT.sIx xs.length xs.length hi - HT.sIx xs.length 0 lo)
theorem cut_rep {B : Hp} {ds : List D} {vs : List V} {lo hi : Option Int} (h : RepL K mg B ds vs) : RepL K mg B (cutD ds lo hi) (cutV vs lo hi) := by
  unfold cutD cutV
  rw [repL_len h]
  exact repL_take (repL_drop h)
def wholeD (n : Nat) (lo hi : Option Int) : Bool := decide (HT.sIx n 0 lo = 0 ∧ HT.sIx n n hi = n)
def fSl : List D → Option D
  | [.str s, lo, hi] => (optI lo).bind fun l => (optI hi).bind fun h => if s.length ≤ sizeLine then some (.str (cutS s l h)) else none
  | [.tup xs, lo, hi] => (optI lo).bind fun l => (optI hi).bind fun h => if wholeD xs.length l h = false then some (.tup (cutD xs l h)) else none
  | _ => none
def fSlL : List D → Option D
  | [.lst xs, lo, hi] => (optI lo).bind fun l => (optI hi).bind fun h => some (.lst (cutD xs l h))
  | _ => none
def tO (K : PySem.W.Frag) (mg : Str → Option Value) (C : Nat → List M → CR) (pin : List Nat) (e : E) (W : WX) : TO := fun σ H Q => tE K mg C pin e W σ H fun v H1 => ∃ o, (v = .non ∧ o = none ∨ ∃ i, v = .int i ∧ o = some i) ∧ Q o H1
end
/-- a part of a slice is None or a number -/
def OptE (b : Bd) (X : Cx) (e : E) : Prop := ∀ W σ H (Q : VK), b.tE X e W σ H Q → b.tE X e W σ H fun v H' => (v = .non ∨ ∃ i, v = .int i) ∧ Q v H'
structure MO (b : Bd) (X : Cx) (x : Option Expr) (e : E) : Prop where
  run : ∀ W, Takes X W → PO X x (tO X.K X.mg b.C b.pin e W)
  opt : OptE b X e
section
variable {b : Bd} {X : Cx} {x y : Expr} {lo hi : Option Expr} {ex ey el eh : E} {pos ppos : Pos}
theorem PO.imp {X : Cx} {e : Option Expr} {t t' : TO} (h : PO X e t) (k : ∀ σ H Q, t' σ H Q → t σ H Q) : PO X e t' := ⟨fun pins s σ H Q I q => h.run pins s σ H Q I (k σ H Q q)⟩
theorem mo_none : MO b X none (.con .non) := by
  refine ⟨fun W tk => PO.imp po_none fun σ H Q ⟨π, B, μ, S, hp, s, h⟩ => ?_, fun W σ H Q ⟨π, B, μ, S, hp, s, h⟩ => ⟨π, B, μ, S, hp, s, ?_⟩⟩
  · unfold evalE at h
    obtain ⟨o, e, q⟩ := h.done (v := .non) s (PStep.refl s.sub) (by unfold Rep; rfl)
    rcases e with ⟨_, rfl⟩ | ⟨i, e, _⟩
    · exact q
    · cases e
  · unfold evalE at h ⊢
    exact fun v B' H' S' T s' r d x u => ⟨.inl (rep_non (repM_dat.mp r).1), h v B' H' S' T s' r d x u⟩
def fI : D → Option D
  | .int i => some (.int i)
  | _ => none
theorem mo_some (h : ME b X x ex) : MO b X (some x) (.op1 fI ex) := by
  refine ⟨fun W tk => PO.imp (po_some (h W tk)) fun σ H Q ⟨π, B, μ, S, hp, s, h⟩ => ?_, fun W σ H Q ⟨π, B, μ, S, hp, s, h⟩ => ⟨π, B, μ, S, hp, s, ?_⟩⟩
  · unfold evalE at h
    refine bindE hp s h (fun q => q) fun m μ1 v B1 H1 S1 T s1 r1 _ x1 h1 _ _ => ?_
    obtain ⟨d1, rfl, h1⟩ := onDat_dat h1
    obtain ⟨d3, hd, h3⟩ := outD_some h1
    unfold fI at hd
    split at hd
    · cases hd
      have e := rep_int (repM_dat.mp r1).1
      subst e
      obtain ⟨o, e, q⟩ := h3.done (v := .int _) s1 (PStep.refl s1.sub) rep_int'
      rcases e with ⟨e, _⟩ | ⟨i, e, rfl⟩
      · cases e
      · cases e; exact ⟨_, rfl, q⟩
    · cases hd
  · cases q : evalE b.C b.pin (.op1 fI ex) μ with
    | stuck => rw [q] at h; exact h
    | err c μ' => rw [q] at h; exact h
    | ok m μ1 =>
      rw [q] at h
      intro v B' H' S' T s' r d x u
      refine ⟨.inr ?_, h v B' H' S' T s' r d x u⟩
      unfold evalE at q
      cases q2 : evalE b.C b.pin ex μ with
      | stuck => rw [q2] at q; cases q
      | err c μ' => rw [q2] at q; cases q
      | ok m2 μ2 =>
        rw [q2] at q
        cases m2 with
        | dat d2 =>
          cases d2 with
          | int i =>
            cases q
            exact ⟨i, rep_int (repM_dat.mp r).1⟩
          | _ => cases q
        | _ => cases q
/-- what a slice asks -/
def ImpS (K : PySem.W.Frag) (mg : Str → Option Value) (f : List D → Option D) (r : V → Option Int → Option Int → Hp → VK → Prop) : Prop :=
  ∀ (B H : Hp) (x : V) (d dl dh d3 : D) (l h : Option Int) (Q : VK), Ex B H → Rep K mg B d x → optI dl = some l → optI dh = some h → f [d, dl, dh] = some d3 → (∀ v B' H', PStep B H B' H' → Rep K mg B' d3 v → Q v H') → r x l h H Q
def ImpSF (K : PySem.W.Frag) (mg : Str → Option Value) (f : List D → Option D) (r : V → Option Int → Option Int → Hp → VK → Prop) : Prop :=
  ∀ (B H : Hp) (x : V) (d dl dh d3 : D) (l h : Option Int) (Q : VK), Ex B H → Rep K mg B d x → optI dl = some l → optI dh = some h → f [d, dl, dh] = some d3 → (∀ p o, H p = none → Fresh K mg B d3 o → Q (.ref p) (upd H p o)) → r x l h H Q
theorem optI_rep {K : PySem.W.Frag} {mg : Str → Option Value} {B : Hp} {d : D} {v : V} {o : Option Int} (h : optI d = some o) (r : Rep K mg B d v) : v = .non ∧ o = none ∨ ∃ i, v = .int i ∧ o = some i := by
  unfold optI at h
  split at h
  · cases h; exact .inl ⟨rep_non r, rfl⟩
  · cases h; exact .inr ⟨_, rep_int r, rfl⟩
  · cases h
def fSlOk (f : List D → Option D) : Prop := ∀ d dl dh d3, f [d, dl, dh] = some d3 → (∃ l, optI dl = some l) ∧ ∃ h, optI dh = some h
theorem es_nil {C : Nat → List M → CR} {pin : List Nat} {K : PySem.W.Frag} {mg : Str → Option Value} {W : WX} {σ : L2.St} {H : Hp} {Q : List V → Hp → Prop} (h : tEs K mg C pin .nil W σ H Q) : Q [] H := by
  obtain ⟨π, B, μ, S, hp, s, h⟩ := h
  unfold evalEs at h
  exact h [] B H S (fun _ => False) s (by unfold RMs RepMs; exact ⟨rfl, fun _ z => z⟩) (fun _ z => z.elim) ((Step.refl B H S).weak (fun _ z => z) fun _ z => z.elim id False.elim) fun _ => Ex.refl H
theorem es_cons {C : Nat → List M → CR} {pin : List Nat} {K : PySem.W.Frag} {mg : Str → Option Value} {W : WX} {σ : L2.St} {H : Hp} {Q : List V → Hp → Prop} {e : E} {es : Es} (h : tEs K mg C pin (.cons e es) W σ H Q) :
    tE K mg C pin e W σ H fun v H1 => tEs K mg C pin es W σ H1 fun vs H2 => Q (v :: vs) H2 := by
  obtain ⟨π, B, μ, S, hp, s, h⟩ := h
  unfold evalEs at h
  refine bindE hp s h (fun q => ((Bool.and_eq_true _ _).mp q).1) fun m μ1 v B1 H1 S1 T s1 r1 d1 x1 h1 h1' _ => ?_
  refine ⟨π, B1, μ1, S1, hp, s1, ?_⟩
  cases q : evalEs C pin es μ1 with
  | stuck => rw [q] at h1; exact h1
  | err c μ' => rw [q] at h1; exact h1
  | ok ms μ2 =>
    rw [q] at h1'
    intro vs B2 H2 S2 U s2 r2 d2 x2 u2
    have ap : ∀ a, T a → ¬ (S2 a ∨ U a) ∧ B2 a = none ∧ H2 a = H1 a := fun a q => x2.apart (d1 a q) (r1.owned a q).1 (r1.owned a q).2
    refine h1' (v :: vs) B2 H2 S2 (fun a => T a ∨ U a) s2 ?_ (fun a z => z.elim (fun z w => (ap a z).1 (.inl w)) (d2 a)) ?_ ?_
    · unfold RMs RepMs
      exact ⟨v, vs, T, U, rfl, r1.congr (fun a o q => x2.ex a o q) fun a q => ⟨(ap a q).2.2, (ap a q).2.1⟩, r2, fun a q z => (ap a q).1 (.inr z), fun _ => Iff.rfl⟩
    · exact (x2.frame (F := T) fun a q => ⟨d1 a q, (r1.owned a q).1⟩).weak (fun _ z => z) fun a z => z.elim (fun z => .inl (.inl z)) fun z => z.elim .inr fun z => .inl (.inr z)
    · exact fun q => u2 ((Bool.and_eq_true _ _).mp q).2
theorem E_mono {C : Nat → List M → CR} {pin : List Nat} {K : PySem.W.Frag} {mg : Str → Option Value} {W : WX} {σ : L2.St} {H : Hp} {Q Q' : V → Hp → Prop} {e : E} (h : tE K mg C pin e W σ H Q) (k : ∀ v H', Q v H' → Q' v H') : tE K mg C pin e W σ H Q' := by
  obtain ⟨π, B, μ, S, hp, s, h⟩ := h
  refine ⟨π, B, μ, S, hp, s, ?_⟩
  cases q : evalE C pin e μ with
  | stuck => rw [q] at h; exact h
  | err c μ' => rw [q] at h; exact h
  | ok m μ1 =>
    rw [q] at h
    exact fun v B' H' S' T s r d x u => k v H' (h v B' H' S' T s r d x u)
/-- the operands as they stand, and what f tells of them -/
theorem many_raw {f : List D → Option D} {es : Es} {W : WX} {σ : L2.St} {H : Hp} {Q : VK} (h : b.tE X (.opN f es) W σ H Q) : b.tEs X es W σ H fun vs H1 => ∃ B ds d3, Ex B H1 ∧ RepL X.K X.mg B ds vs ∧ f ds = some d3 ∧ ∀ v B' H', PStep B H1 B' H' → Rep X.K X.mg B' d3 v → Q v H' := by
  obtain ⟨π, B, μ, S, hp, s, h⟩ := h
  unfold evalE at h
  refine bindEs hp s h (fun q => q) fun ms μ1 vs B1 H1 S1 T s1 r1 _ x1 h1 _ _ => ?_
  cases q : datsOf ms with
  | none => simp only [q] at h1; exact h1.elim
  | some ds =>
    simp only [q] at h1
    obtain ⟨d3, hd, h3⟩ := outD_some h1
    exact ⟨B1, ds, d3, s1.sub, (datsOf_rep q r1).1, hd, fun w B' H' p rw' => h3.done s1 p rw'⟩
theorem many_rawF {f : List D → Option D} {es : Es} {W : WX} {σ : L2.St} {H : Hp} {Q : VK} (h : b.tF X (.opN f es) W σ H Q) : b.tEs X es W σ H fun vs H1 => ∃ B ds d3, Ex B H1 ∧ RepL X.K X.mg B ds vs ∧ f ds = some d3 ∧ ∀ p o, H1 p = none → Fresh X.K X.mg B d3 o → Q (.ref p) (upd H1 p o) := by
  obtain ⟨π, B, μ, S, hp, s, h⟩ := h
  unfold evalE at h
  refine ⟨π, B, μ, S, hp, s, ?_⟩
  cases q : evalEs b.C b.pin es μ with
  | stuck => rw [q] at h; exact h
  | err c μ' => rw [q] at h; exact h
  | ok ms μ1 =>
    rw [q] at h
    intro vs B1 H1 S1 T1 s1 r1 d1 x1 u1
    dsimp only [Out.bind] at h
    cases q2 : datsOf ms with
    | none => rw [q2] at h; exact h.elim
    | some ds =>
      rw [q2] at h
      dsimp only at h
      cases q3 : f ds with
      | none => rw [q3] at h; exact h.elim
      | some d3 =>
        rw [q3] at h
        exact ⟨B1, ds, d3, s1.sub, (datsOf_rep q2 r1).1, q3, fun p o hp fr => h p o B1 H1 S1 s1 (x1.weak (fun _ z => z) fun _ z => .inl z) u1 hp fr⟩
theorem optI_v {K : PySem.W.Frag} {mg : Str → Option Value} {B : Hp} {d : D} {v : V} {o : Option Int} (h : optI d = some o) (r : Rep K mg B d v) : (v = .non → o = none) ∧ ∀ i, v = .int i → o = some i := by
  rcases optI_rep h r with ⟨rfl, rfl⟩ | ⟨i, rfl, rfl⟩
  · exact ⟨fun _ => rfl, fun i e => (nomatch e)⟩
  · exact ⟨fun e => (nomatch e), fun j e => by injection e with e; rw [e]⟩
theorem slice3 {W : WX} {σ : L2.St} {H : Hp} {Q : VK} {R : V → Option Int → Option Int → Hp → VK → Prop} {P : List V → Hp → Prop} (ol : OptE b X el) (oh : OptE b X eh) (h : b.tEs X (.cons ex (.cons el (.cons eh .nil))) W σ H P)
    (k : ∀ x y z l h H', P [x, y, z] H' → (y = .non ∧ l = none ∨ ∃ i, y = .int i ∧ l = some i) → (z = .non ∧ h = none ∨ ∃ i, z = .int i ∧ h = some i) → R x l h H' Q) :
    tSl R (b.tE X ex W) (tO X.K X.mg b.C b.pin el W) (tO X.K X.mg b.C b.pin eh W) σ H Q := by
  refine E_mono (es_cons h) fun x H1 h1 => E_mono (ol W σ H1 _ (es_cons h1)) fun y H2 ⟨hy, h2⟩ => ?_
  have e1 : ∃ l : Option Int, y = .non ∧ l = none ∨ ∃ i, y = .int i ∧ l = some i := by
    rcases hy with rfl | ⟨i, rfl⟩
    · exact ⟨none, .inl ⟨rfl, rfl⟩⟩
    · exact ⟨some i, .inr ⟨i, rfl, rfl⟩⟩
  obtain ⟨l, hl⟩ := e1
  refine ⟨l, hl, E_mono (oh W σ H2 _ (es_cons h2)) fun z H3 ⟨hz, h3⟩ => ?_⟩
  have e2 : ∃ l : Option Int, z = .non ∧ l = none ∨ ∃ i, z = .int i ∧ l = some i := by
    rcases hz with rfl | ⟨i, rfl⟩
    · exact ⟨none, .inl ⟨rfl, rfl⟩⟩
    · exact ⟨some i, .inr ⟨i, rfl, rfl⟩⟩
  obtain ⟨h, hh⟩ := e2
  exact ⟨h, hh, k x y z l h H3 (es_nil h3) hl hh⟩
theorem repL3 {K : PySem.W.Frag} {mg : Str → Option Value} {B : Hp} {ds : List D} {x y z : V} (h : RepL K mg B ds [x, y, z]) : ∃ d1 d2 d3, ds = [d1, d2, d3] ∧ Rep K mg B d1 x ∧ Rep K mg B d2 y ∧ Rep K mg B d3 z := by
  cases ds with
  | nil => unfold RepL at h; cases h
  | cons d1 ds =>
    unfold RepL at h
    obtain ⟨v, r, e, h1, h⟩ := h
    cases e
    cases ds with
    | nil => unfold RepL at h; cases h
    | cons d2 ds =>
      unfold RepL at h
      obtain ⟨v, r, e, h2, h⟩ := h
      cases e
      cases ds with
      | nil => unfold RepL at h; cases h
      | cons d3 ds =>
        unfold RepL at h
        obtain ⟨v, r, e, h3, h⟩ := h
        cases e
        cases ds with
        | nil => exact ⟨d1, d2, d3, rfl, h1, h2, h3⟩
        | cons _ _ => unfold RepL at h; obtain ⟨_, _, e, _⟩ := h; cases e
theorem opt_eq {y : V} {l : Option Int} {K : PySem.W.Frag} {mg : Str → Option Value} {B : Hp} {d : D} {o : Option Int} (h : y = .non ∧ l = none ∨ ∃ i, y = .int i ∧ l = some i) (e : optI d = some o) (r : Rep K mg B d y) : o = l := by
  have q := optI_v e r
  rcases h with ⟨rfl, rfl⟩ | ⟨i, rfl, rfl⟩
  · exact q.1 rfl
  · exact q.2 i rfl
/-- a slice of a text, of a tuple -/
theorem me_slice (hx : ME b X x ex) (hl : MO b X lo el) (hh : MO b X hi eh) : ME b X (.Subscript x (.Slice lo hi none ppos) pos) (.opN fSl (.cons ex (.cons el (.cons eh .nil)))) := fun W tk =>
  PE.imp (pe_slice (sl_tup.or sl_str) (hx W tk) (hl.run W tk) (hh.run W tk)) fun σ H Q h => slice3 hl.opt hh.opt (many_raw h) fun x y z l h H' ⟨B, ds, d3, e, r, hf, k⟩ hy hz => by
    obtain ⟨d1, d2, d4, rfl, r1, r2, r3⟩ := repL3 r
    unfold fSl at hf
    split at hf
    · rename_i s lo hi heq
      injection heq with q1 q2
      injection q2 with q2 q3
      injection q3 with q3 _
      subst q1 q2 q3
      cases o1 : optI d2 with
      | none => rw [o1] at hf; cases hf
      | some l1 =>
        cases o2 : optI d4 with
        | none => rw [o1, o2] at hf; cases hf
        | some l2 =>
          rw [o1, o2] at hf
          have e1 := opt_eq hy o1 r2
          have e2 := opt_eq hz o2 r3
          subst e1 e2
          have hf : (if s.length ≤ sizeLine then some (D.str (cutS s l1 l2)) else none) = some d3 := hf
          split at hf
          · rename_i hl
            cases hf
            exact .inr ⟨s, rep_str r1, hl, k _ B H' (PStep.refl e) rep_str'⟩
          · cases hf
    · rename_i xs lo hi heq
      injection heq with q1 q2
      injection q2 with q2 q3
      injection q3 with q3 _
      subst q1 q2 q3
      cases o1 : optI d2 with
      | none => rw [o1] at hf; cases hf
      | some l1 =>
        cases o2 : optI d4 with
        | none => rw [o1, o2] at hf; cases hf
        | some l2 =>
          rw [o1, o2] at hf
          have e1 := opt_eq hy o1 r2
          have e2 := opt_eq hz o2 r3
          subst e1 e2
          have hf : (if wholeD xs.length l1 l2 = false then some (D.tup (cutD xs l1 l2)) else none) = some d3 := hf
          split at hf
          · rename_i hw
            cases hf
            obtain ⟨a, vs, rfl, h1, h2⟩ := rep_tup r1
            refine .inl ⟨a, vs, rfl, e.t h1, fun w => ?_, fun p hp => ?_⟩
            · rw [← repL_len h2] at w
              have := of_decide_eq_false hw
              exact this w
            · have ps := PStep.new e (.tup (cutV vs l1 l2)) hp
              refine k _ _ _ ps ?_
              unfold Rep
              exact ⟨p, _, rfl, .inl (.inl upd_same), (cut_rep h2).mono ps.ex⟩
          · cases hf
    · cases hf
/-- a slice of a list: a new list -/
theorem mf_slice (hx : ME b X x ex) (hl : MO b X lo el) (hh : MO b X hi eh) : MF b X (.Subscript x (.Slice lo hi none ppos) pos) (.opN fSlL (.cons ex (.cons el (.cons eh .nil)))) := fun W tk =>
  PE.imp (pe_slice sl_list (hx W tk) (hl.run W tk) (hh.run W tk)) fun σ H Q h => slice3 hl.opt hh.opt (many_rawF h) fun x y z l h H' ⟨B, ds, d3, e, r, hf, k⟩ hy hz => by
    obtain ⟨d1, d2, d4, rfl, r1, r2, r3⟩ := repL3 r
    unfold fSlL at hf
    split at hf
    · rename_i xs lo hi heq
      injection heq with q1 q2
      injection q2 with q2 q3
      injection q3 with q3 _
      subst q1 q2 q3
      cases o1 : optI d2 with
      | none => rw [o1] at hf; cases hf
      | some l1 =>
        cases o2 : optI d4 with
        | none => rw [o1, o2] at hf; cases hf
        | some l2 =>
          rw [o1, o2] at hf
          have e1 := opt_eq hy o1 r2
          have e2 := opt_eq hz o2 r3
          subst e1 e2
          cases hf
          obtain ⟨a, vs, rfl, h1, h2⟩ := rep_lst r1
          exact ⟨a, vs, rfl, e.l h1, fun p hp => k p _ hp (.inl ⟨_, _, rfl, rfl, cut_rep h2⟩)⟩
    · cases hf
end
end Mi
/-! Mi12: views; things changed in place; dicts. -/
namespace Mi
open PySem L2
section
variable {K : PySem.W.Frag} {mg : Str → Option Value} {π : List (Nat × V)} {B H B' H' : Hp} {σ : L2.St} {μ : Env} {S S' : ASet}
theorem slot_view {i : Nat} : slot (viewE μ) i = (slot μ i).map fun m => .dat m.toD := by
  unfold slot viewE
  rw [List.getElem?_map]
  cases μ[i]? with
  | none => rfl
  | some o => cases o <;> rfl
/-- all that is owned seen as frozen -/
theorem Stt.view (s : Stt K mg π B H σ μ S) : Stt K mg π (frz B H S) H σ (viewE μ) fun _ => False := by
  have own := s.owned
  obtain ⟨F, h1, h2, h3, h4⟩ := s.slots
  have fe : Ex B (frz B H S) := frz_ex fun a q => (own a q).2
  refine ⟨frz_sub s.sub, by rw [s.len]; unfold viewE; rw [List.length_map], ⟨fun _ _ => False, fun i m e => ?_, fun _ _ _ z => z, fun _ _ _ _ z => z.elim, fun a => ⟨fun z => z.elim, fun ⟨_, z⟩ => z⟩⟩, s.pins⟩
  rw [slot_view] at e
  cases q : slot μ i with
  | none => rw [q] at e; cases e
  | some m0 =>
    rw [q] at e
    cases e
    obtain ⟨v, e1, r⟩ := h1 i m0 q
    exact ⟨v, e1, repM_dat.mpr ⟨r.freeze fe fun a z => frz_in ((h4 a).mpr ⟨i, z⟩), fun _ z => z⟩⟩
/-- the frozen grown by what is new -/
noncomputable def grow (B H B' : Hp) : Hp := fun a => match B a, H a with
  | some o, _ => some o
  | none, none => B' a
  | none, some _ => none
theorem grow_ex : Ex B (grow B H B') := fun a o e => by unfold grow; rw [e]
theorem Stt.grow (s : Stt K mg π B H σ μ S) (e : Ex H H') (e' : Ex B' H') : Stt K mg π (grow B H B') H' σ μ S := by
  refine s.congr grow_ex (fun a o q => ?_) fun a q => ?_
  · unfold Mi.grow at q
    cases eb : B a with
    | some u => rw [eb] at q; cases q; exact e a _ (s.sub a _ eb)
    | none =>
      rw [eb] at q
      cases eh : H a with
      | some u => rw [eh] at q; cases q
      | none => rw [eh] at q; exact e' a o q
  · obtain ⟨h1, h2⟩ := s.owned a q
    cases eh : H a with
    | none => exact absurd eh h1
    | some u =>
      refine ⟨e a u eh, ?_⟩
      unfold Mi.grow
      rw [h2, eh]
theorem Step.grow (e : Ex H H') : Step B H S (grow B H B') H' S where
  ex := grow_ex
  fr := fun a u q _ => e a u q
  dom := fun a q => e.none q
  ow := fun a q => .inl q
  fz := fun a q => by
    unfold Mi.grow at q
    cases eb : B a with
    | some u => exact .inl (by simp)
    | none =>
      rw [eb] at q
      cases eh : H a with
      | some u => rw [eh] at q; exact absurd rfl q
      | none => exact .inr (.inr rfl)
/-- what is hard needs no more than what is new -/
theorem noTupE_slot {μ : Env} {i : Nat} {m : M} (h : noTupE μ = true) (e : slot μ i = some m) : m.noTup = true := by
  unfold slot at e
  cases q : μ[i]? with
  | none => rw [q] at e; cases e
  | some o =>
    rw [q] at e
    cases o with
    | none => cases e
    | some m' =>
      cases e
      exact List.all_eq_true.mp h _ (List.mem_of_getElem? q)
theorem Rep.flat {B B' : Hp} {d : D} {v : V} (f : d.flat = true) (h : Rep K mg B d v) : Rep K mg B' d v := by
  cases d with
  | non => unfold Rep at *; exact h
  | bl _ => unfold Rep at *; exact h
  | int _ => unfold Rep at *; exact h
  | str _ => unfold Rep at *; exact h
  | _ => cases f
theorem RepL.flat {B B' : Hp} : ∀ {ds : List D} {vs : List V}, ds.all D.flat = true → RepL K mg B ds vs → RepL K mg B' ds vs
  | [], _, _, h => by unfold RepL at *; exact h
  | d :: ds, _, f, h => by
    unfold RepL at *
    obtain ⟨v, r, h1, h2, h3⟩ := h
    have f' := (Bool.and_eq_true _ _).mp (show (d.flat && ds.all D.flat) = true from f)
    exact ⟨v, r, h1, h2.flat f'.1, h3.flat f'.2⟩
theorem grow_tup (s : Stt K mg π B H σ μ S) (nt : noTupE μ = true) (x : Step (frz B H S) H (fun _ => False) B' H' S') {a : Addr} {vs : List V} (h : SqT K B' a vs) : SqT K (grow B H B') a vs := by
  have key : ∀ u : HO, (∀ v, u ≠ .lst v) → (∀ v, u ≠ .dK v) → (∀ x y z, u ≠ .ins x y z) → B' a = some u → Mi.grow B H B' a = some u := fun u n1 n2 n3 e => by
    have q := x.fz a (by rw [e]; simp)
    rcases q with q | q | q
    · by_cases w : S a
      · -- an owned thing is no tuple
        exfalso
        obtain ⟨F, h1, h2, h3, h4⟩ := s.slots
        obtain ⟨i, hi⟩ := (h4 a).mp w
        cases es : slot μ i with
        | none => exact h2 i es a hi
        | some m =>
          obtain ⟨v, _, r⟩ := h1 i m es
          have hB : B' a = H a := by
            have z := x.ex a
            rw [frz_in w] at z
            cases eh : H a with
            | none => exact absurd eh (s.owned a w).1
            | some o => rw [z o eh]
          rw [e] at hB
          exact own_kind r (noTupE_slot nt es) a hi u hB.symm n1 n2 n3
      · rw [frz_out w] at q
        cases eb : B a with
        | none => exact absurd eb q
        | some o =>
          have z := x.ex a o (by rw [frz_out w]; exact eb)
          rw [e] at z
          cases z
          exact grow_ex a u eb
    · exact q.elim
    · have hb : B a = none := s.sub.none q
      unfold Mi.grow
      rw [hb, q]
      exact e
  rcases h with (h | ⟨o, h⟩) | h
  · exact .inl (.inl (key _ (fun _ q => nomatch q) (fun _ q => nomatch q) (fun _ _ _ q => nomatch q) h))
  · exact .inl (.inr ⟨o, key _ (fun _ q => nomatch q) (fun _ q => nomatch q) (fun _ _ _ q => nomatch q) h⟩)
  · exact .inr h
where
  own_kind : ∀ {m : M} {v : V} {T : ASet}, RepM K mg B H m v T → m.noTup = true → ∀ a, T a → ∀ u, H a = some u → (∀ v, u ≠ .lst v) → (∀ v, u ≠ .dK v) → (∀ x y z, u ≠ .ins x y z) → False
    | .dat d, v, T, h, nt, a, ha, u, e, n1, n2, n3 => (repM_dat.mp h).2 a ha
    | .lst ms, v, T, h, nt, b, hb, u, e, n1, n2, n3 => by
      unfold RepM at h
      obtain ⟨a, vs, U, _, h2, h3, h4, _, h6⟩ := h
      rcases (h6 b).mp hb with rfl | q
      · have h2 : H b = some _ := h2
        rw [e] at h2; cases h2; exact n1 _ rfl
      · exact own_kinds h4 nt b q u e n1 n2 n3
    | .dct ks ms, v, T, h, nt, b, hb, u, e, n1, n2, n3 => by
      unfold RepM at h
      obtain ⟨a, vs, U, _, h2, h3, h4, _, h6⟩ := h
      rcases (h6 b).mp hb with rfl | q
      · have h2 := h2.1
        rw [e] at h2; cases h2; exact n2 _ rfl
      · exact own_kinds h4 nt b q u e n1 n2 n3
    | .ins c ks ms, v, T, h, nt, b, hb, u, e, n1, n2, n3 => by
      unfold RepM at h
      obtain ⟨a, vs, U, _, h2, h3, h4, _, h6⟩ := h
      rcases (h6 b).mp hb with rfl | q
      · obtain ⟨⟨C, dx, _, h2⟩, _⟩ := h2
        rw [e] at h2; cases h2; exact n3 _ _ _ rfl
      · exact own_kinds h4 nt b q u e n1 n2 n3
    | .tup _, _, _, _, nt, _, _, _, _, _, _, _ => nomatch nt
  own_kinds : ∀ {ms : List M} {vs : List V} {T : ASet}, RepMs K mg B H ms vs T → M.noTup.noTups ms = true → ∀ a, T a → ∀ u, H a = some u → (∀ v, u ≠ .lst v) → (∀ v, u ≠ .dK v) → (∀ x y z, u ≠ .ins x y z) → False
    | [], vs, T, h, _, a, ha, _, _, _, _, _ => by unfold RepMs at h; exact h.2 a ha
    | m :: ms, vs, T, h, nt, a, ha, u, e, n1, n2, n3 => by
      have nt' := (Bool.and_eq_true _ _).mp (show (m.noTup && M.noTup.noTups ms) = true from nt)
      unfold RepMs at h
      obtain ⟨v, r, T1, T2, _, h1, h2, _, h4⟩ := h
      rcases (h4 a).mp ha with q | q
      · exact own_kind h1 nt'.1 a q u e n1 n2 n3
      · exact own_kinds h2 nt'.2 a q u e n1 n2 n3
end
section
variable {b : Bd} {X : Cx} {x y : Expr} {ex ey e : E} {xs : List Expr} {es : Es} {p : Path} {pos apos ppos : Pos} {n : Str}
theorem view_imp {W : WX} {σ : L2.St} {H : Hp} {Q : VK} (k0 : b.tE X (.view e) W σ H Q) : b.tE X e W σ H Q := by
  obtain ⟨π, B, μ, S, hp, s, k⟩ := k0
  unfold evalE at k
  split at k
  rotate_left
  · exact k.elim
  rename_i hpu
  refine ⟨π, frz B H S, viewE μ, fun _ => False, hp, s.view, ?_⟩
  cases q : evalE b.C b.pin e (viewE μ) with
  | stuck => rw [q] at k; exact k
  | err c μ' => rw [q] at k; exact k.elim
  | ok m μ' =>
    rw [q] at k
    cases m with
    | dat d =>
      dsimp only at k
      split at k
      · rename_i hh
        intro v B' H' S' T s' r dj x' u'
        have e1 := u' hpu
        have x2 : Step (frz B H S) H (fun _ => False) B' H' S' := x'.weak (fun _ z => z) fun _ z => .inl z
        have hh' := (Bool.and_eq_true _ _).mp hh
        have r2 : Rep X.K X.mg (Mi.grow B H B') d v := ((Bool.or_eq_true _ _).mp hh'.2).elim (fun f => Rep.flat f (repM_dat.mp r).1) fun nt => Rep.hard (fun a vs z => grow_tup s nt x2 z) hh'.1 (repM_dat.mp r).1
        exact k v (Mi.grow B H B') H' S (fun _ => False) (s.grow e1 s'.sub) (repM_dat.mpr ⟨r2, fun _ z => z⟩) (fun _ z => z.elim)
          ((Step.grow e1).weak (fun _ z => z) fun _ z => z.elim id False.elim) fun _ => e1
      · exact k.elim
    | _ => exact k.elim
theorem me_view (h : ME b X x e) : ME b X x (.view e) := fun W tk => PE.imp (h W tk) fun σ H Q k => view_imp k
theorem mt_view (h : MT b X x e) : MT b X x (.view e) := fun W tk => PT.imp (h W tk) fun σ H Q k => view_imp k
/-- a new list whose members are hard -/
theorem me_viewF (h : MF b X x e) : ME b X x (.viewF e) := fun W tk => PE.imp (h W tk) fun σ H Q ⟨π, B, μ, S, hp, s, k⟩ => by
  unfold evalE at k
  split at k
  rotate_left
  · exact k.elim
  rename_i hpu
  refine ⟨π, frz B H S, viewE μ, fun _ => False, hp, s.view, ?_⟩
  cases q : evalE b.C b.pin e (viewE μ) with
  | stuck => rw [q] at k; exact k
  | err c μ' => rw [q] at k; exact k.elim
  | ok m μ' =>
    rw [q] at k
    cases m with
    | dat d =>
      cases d with
      | lst ds =>
        dsimp only at k
        split at k
        · rename_i hh
          intro pa o B' H' S' s' x' u' hpa fr
          have e1 := u' hpu
          rcases fr with ⟨ds', vs, e2, rfl, r⟩ | ⟨_, _, _, e2, _⟩
          · cases e2
            have hh' := (Bool.and_eq_true _ _).mp hh
            have r2 : RepL X.K X.mg (Mi.grow B H B') ds vs := ((Bool.or_eq_true _ _).mp hh'.2).elim (fun f => RepL.flat f r) fun nt => RepL.hard (fun a vs z => grow_tup s nt x' z) hh'.1 r
            have s2 := s.grow e1 s'.sub
            have ps := PStep.new s2.sub (.lst vs) hpa
            refine k (.ref pa) _ _ S (fun _ => False) (s2.pure ps) (repM_dat.mpr ⟨?_, fun _ z => z⟩) (fun _ z => z.elim) (((Step.grow e1).trans (ps.step S)).weak (fun _ z => z) fun _ z => z.elim id False.elim) fun _ => e1.trans ps.ext
            unfold Rep
            exact ⟨pa, vs, rfl, .inl (.inl upd_same), r2.mono ps.ex⟩
          · cases e2
        · exact k.elim
      | _ => exact k.elim
    | _ => exact k.elim
/-- data at a place -/
theorem me_pth (h : MP b X x p) : ME b X x (.pth p) := fun W tk => PE.imp h fun σ H Q ⟨π, B, μ, S, hp, s, k⟩ => by
  unfold evalE at k
  refine ⟨π, B, μ, S, hp, s, ?_⟩
  cases q : evalP b.C b.pin p μ with
  | none => rw [q] at k; exact k.elim
  | some pl =>
    rw [q] at k
    dsimp only at k
    refine ⟨pl, rfl, fun v B' H' ps hv => ?_⟩
    cases q2 : atPl μ pl with
    | none => rw [q2] at k; exact k.elim
    | some m =>
      rw [q2] at k
      cases m with
      | dat d =>
        have s1 := s.pure ps
        obtain ⟨v1, T1, r1, _, ⟨v0, e0, va⟩, _⟩ := s1.at q2
        obtain ⟨v0', e0', va'⟩ := hv
        rw [e0] at e0'
        cases e0'
        have ev := va.det va'
        subst ev
        exact (k.mono (S1 := S) (ps.step S) (fun _ z => z) fun _ => ps.ext).done s1 (PStep.refl s1.sub) (repM_dat.mp r1).1
      | _ => exact k.elim
/-! ### changed in place -/
/-- f tells what becomes of the object, and what the deed comes to -/
def MutOk (K : PySem.W.Frag) (mg : Str → Option Value) (f : M → List M → Option (M × M)) (r : List V → V → List V → Hp → VK → Prop) : Prop :=
  ∀ (B H : Hp) (m : M) (v : V) (T : ASet) (ws ms : List M) (us vs : List V) (U0 U : ASet) (m' d : M) (Q : VK), Ex B H → RepM K mg B H m v T → RepMs K mg B H ws us U0 → RepMs K mg B H ms vs U → (∀ a, T a → ¬ U a) → (∀ a, T a → ¬ U0 a) → (∀ a, U a → ¬ U0 a) → f m (ws ++ ms) = some (m', d) →
    (∀ w B' H' T' R, Step B H (fun a => T a ∨ U a ∨ U0 a) B' H' (fun a => T' a ∨ R a) → Ex B' H' → RepM K mg B' H' m' v T' → RepM K mg B' H' d w R → (∀ a, T' a → ¬ R a) → Q w H') → r us v vs H Q
/-- the deed at a place -/
theorem mut_ok {kd : Nat} {f : M → List M → Option (M × M)} {pre : Es} {r : List V → V → List V → Hp → VK → Prop} (hf : MutOk X.K X.mg f r) {W : WX} {σ : L2.St} {H : Hp} {Q : VK} (h : b.tE X (.mut kd f pre p es) W σ H Q) :
    b.tEs X pre W σ H fun us H0 => tP X.K X.mg b.C b.pin p σ H0 fun v H1 => (∃ B m T, m.kind = kd ∧ Ex B H1 ∧ RepM X.K X.mg B H1 m v T) ∧ b.tEs X es W σ H1 fun vs H2 => r us v vs H2 Q := by
  obtain ⟨π, B0, μ0, S0, hp, s0, h⟩ := h
  unfold evalE at h
  refine bindEs hp s0 h (fun q => nomatch q) fun ws μ us B H S T0 s r0 d0 x0 h h' _ => ?_
  refine ⟨π, B, μ, S, hp, s, ?_⟩
  cases q : evalP b.C b.pin p μ with
  | none => rw [q] at h; exact h.elim
  | some pl =>
    rw [q] at h h'
    dsimp only at h h'
    split at h
    rotate_left
    · exact h.elim
    rename_i hk
    rw [if_pos hk] at h'
    refine ⟨pl, rfl, fun v B1 H1 ps hv => ?_⟩
    have s1 := s.pure ps
    have h1 := h.mono (S1 := S) (ps.step S) (fun _ z => z) fun _ => ps.ext
    have h1' := h'.mono (S1 := fun a => S a ∨ T0 a) (ps.step _) (fun _ z => z) fun _ => ps.ext
    have r01 : RepMs X.K X.mg B1 H1 ws us T0 := by
      have y := ps.step S
      exact r0.congr ps.ex fun a z => let w := y.apart (d0 a z) (r0.owned a z).1 (r0.owned a z).2; ⟨w.2.2, w.2.1⟩
    constructor
    · cases q2 : atPl μ pl with
      | none => rw [q2] at hk; cases hk
      | some m =>
        rw [q2] at hk
        obtain ⟨v1, T1, r1, _, ⟨v0, e0, va⟩, _⟩ := s1.at q2
        obtain ⟨v0', e0', va'⟩ := hv
        rw [e0] at e0'
        cases e0'
        have ev := va.det va'
        subst ev
        exact ⟨B1, m, T1, by simpa using hk, s1.sub, r1⟩
    · refine ⟨π, B1, μ, S, hp, s1, ?_⟩
      cases q3 : evalEs b.C b.pin es μ with
      | stuck => rw [q3] at h1; exact h1
      | err c μ' => rw [q3] at h1; exact h1
      | ok ms μ1 =>
        rw [q3] at h1 h1'
        dsimp only [Out.bind] at h1 h1'
        split at h1
        rotate_left
        · exact h1.elim
        rename_i hpu
        rw [if_pos hpu] at h1'
        clear h1
        intro vs B2 H2 S2 U s2 r2 d2 x2 u2
        cases q4 : atPl μ1 pl with
        | none => rw [q4] at h1'; exact h1'.elim
        | some m =>
          rw [q4] at h1'
          dsimp only at h1'
          cases q5 : f m (ws ++ ms) with
          | none => rw [q5] at h1'; exact h1'.elim
          | some mm =>
            obtain ⟨m', d⟩ := mm
            rw [q5] at h1'
            dsimp only at h1'
            obtain ⟨v1, T1, r1, sub1, ⟨v0, e0, va⟩, put⟩ := s2.at q4
            have hv2 : PlV H2 σ pl v := by
              rcases (Bool.or_eq_true _ _).mp hpu with z | z
              · obtain ⟨v0', e0', va'⟩ := hv
                rw [List.isEmpty_iff.mp z] at va'
                exact ⟨v0', e0', by rw [List.isEmpty_iff.mp z]; exact va'⟩
              · exact hv.mono (u2 z)
            obtain ⟨v0', e0', va'⟩ := hv2
            rw [e0] at e0'
            cases e0'
            have ev := va.det va'
            subst ev
            have own := s2.owned
            have own0 := r01.owned
            have ap : ∀ a, T0 a → ¬ (S2 a ∨ U a) ∧ B2 a = none ∧ H2 a = H1 a := fun a z => x2.apart (d0 a z) (own0 a z).1 (own0 a z).2
            have r02 : RepMs X.K X.mg B2 H2 ws us T0 := r01.congr (fun a o z => x2.ex a o z) fun a z => ⟨(ap a z).2.2, (ap a z).2.1⟩
            refine hf B2 H2 m v1 T1 ws ms us vs T0 U m' d Q s2.sub r1 r02 r2 (fun a z w => d2 a w (sub1 a z)) (fun a z w => (ap a w).1 (.inl (sub1 a z))) (fun a z w => (ap a w).1 (.inr z)) q5 fun w B3 H3 T' R x3 e3 rm rd dj => ?_
            have nown : ∀ a, S2 a → ¬ T1 a → ¬ (T1 a ∨ U a ∨ T0 a) := fun a z n w => w.elim n fun w => w.elim (fun w => d2 a w z) fun w => (ap a w).1 (.inl z)
            obtain ⟨S3, s3, hS3⟩ := put B3 H3 m' T' x3.ex e3 (fun a z n => let y := x3.apart (nown a z n) (own a z).1 (own a z).2; ⟨y.2.2, y.2.1⟩) rm fun a z w => (x3.ow a (.inl z)).elim (fun y => y.elim id fun y => y.elim (fun y => absurd w (d2 a y)) fun y => absurd (.inl w) (ap a y).1) fun y => absurd y (own a w).1
            refine h1' w B3 H3 S3 R s3 rd (fun a z y => ?_) ?_ fun z => nomatch z
            · rcases hS3 a y with y | y
              · exact (x3.ow a (.inr z)).elim (fun w => nown a y.1 y.2 w) fun w => (own a y.1).1 w
              · exact dj a y z
            · have y := x3.frame (F := fun a => S2 a ∧ ¬ T1 a) fun a z => ⟨nown a z.1 z.2, (own a z.1).1⟩
              have x2' : Step B1 H1 (fun a => S a ∨ T0 a) B2 H2 (fun a => (S2 a ∨ U a) ∨ T0 a) := x2.frame (F := T0) fun a z => ⟨d0 a z, (own0 a z).1⟩
              have y2 := x2'.trans (y.weak (T := fun a => (S2 a ∨ U a) ∨ T0 a) (fun a z => z.elim (fun z => z.elim (fun z => .inl (.inl (sub1 a z))) fun z => z.elim (fun z => .inl (.inr z)) .inr) fun z => .inl (.inl z.1)) fun _ z => z)
              exact y2.weak (fun _ z => z) fun a z => z.elim (fun z => (hS3 a z).elim .inr fun z => .inl (.inl z)) fun z => .inl (.inr z)
theorem MutOk.nil {f : M → List M → Option (M × M)} {r : V → List V → Hp → VK → Prop} (hf : MutOk X.K X.mg f fun us v vs H Q => us = [] → r v vs H Q) {kd : Nat} {W : WX} {σ : L2.St} {H : Hp} {Q : VK} (h : b.tE X (.mut kd f .nil p es) W σ H Q) :
    tP X.K X.mg b.C b.pin p σ H fun v H1 => (∃ B m T, m.kind = kd ∧ Ex B H1 ∧ RepM X.K X.mg B H1 m v T) ∧ b.tEs X es W σ H1 fun vs H2 => r v vs H2 Q := by
  have q := es_nil (mut_ok hf h)
  obtain ⟨π, B, μ, S, hp, s, pl, e, k⟩ := q
  refine ⟨π, B, μ, S, hp, s, pl, e, fun v B' H' ps hv => ?_⟩
  obtain ⟨k1, π, B2, μ2, S2, hp2, s2, k2⟩ := k v B' H' ps hv
  refine ⟨k1, π, B2, μ2, S2, hp2, s2, ?_⟩
  cases q : evalEs b.C b.pin es μ2 with
  | stuck => rw [q] at k2; exact k2
  | err c μ' => rw [q] at k2; exact k2
  | ok ms μ1 =>
    rw [q] at k2
    exact fun vs B3 H3 S3 U s3 r3 d3 x3 u3 => k2 vs B3 H3 S3 U s3 r3 d3 x3 u3 rfl
/-- the built-in type of such an object -/
def tyKd : Nat → String → Bool
  | 0, T => T == "list"
  | 1, T => T == "dict"
  | _, _ => false
theorem ty_of {K : PySem.W.Frag} {mg : Str → Option Value} {B H : Hp} {m : M} {v : V} {A : ASet} {kd : Nat} {T : String} (hk : m.kind = kd) (ht : tyKd kd T = true) (r : RepM K mg B H m v A) : tyV K T v H := by
  cases m with
  | dat d => subst hk; exact absurd ht (by simp [M.kind, tyKd])
  | ins c ks xs => subst hk; exact absurd ht (by simp [M.kind, tyKd])
  | tup xs => subst hk; exact absurd ht (by simp [M.kind, tyKd])
  | lst ms =>
    subst hk
    unfold RepM at r
    obtain ⟨a, vs, U, rfl, h, _⟩ := r
    have e : T = "list" := by simpa [M.kind, tyKd] using ht
    exact .inl ⟨e, vs, .inl (.inl h)⟩
  | dct ks ms =>
    subst hk
    unfold RepM at r
    obtain ⟨a, vs, U, rfl, h, _⟩ := r
    have e : T = "dict" := by simpa [M.kind, tyKd] using ht
    exact .inr (.inr (.inl ⟨e, .inl ⟨_, h.1⟩⟩))
open PySem.Spec PyProof.Rows in
theorem me_bm {T id : String} {kd : Nat} {f : M → List M → Option (M × M)} {r : V → List V → Hp → VK → Prop} (pa : PlainAttrs T) (slot : Slot T n id) (hty : typeOf (.builtin id) = pure (.type "method_descriptor")) (hm : MtR X id r) (hk : tyKd kd T = true) (hf : MutOk X.K X.mg f fun us v vs H Q => us = [] → r v vs H Q)
    (hx : MP b X x p) (ha : MEs b X (y :: xs) es) (hbase : attributeBase x n X.env (eval x X.env) = eval x X.env := by rfl)
    (hfew : ((backTo pos (starEach (y :: xs) X.env)).all (fun x => !x.1) && (backToKw pos (keywordEach [] X.env)).all (fun x => x.1.isSome)
      && decide ((y :: xs).length + ([] : List Keyword).length + (if ([] : List Keyword).isEmpty then 0 else 1) < 30)) = true := by rfl)
    (hline : (apos.endLine == pos.line) = true := by rfl) (hs : starEach (y :: xs) X.env = (false, eval y X.env) :: starEach xs X.env := by rfl) (hplain : (backTo pos (starEach xs X.env)).any (·.1) = false := by rfl) :
    ME b X (.Call (.Attribute x n apos) (y :: xs) [] pos) (.mut kd f .nil p es) := fun W tk => PE.imp (pe_bm pa slot hty hm hx (ha W tk) hbase hfew hline hs hplain) fun σ H Q h => by
  obtain ⟨π, B, μ, S, hp, s, pl, e, k⟩ := MutOk.nil hf h
  refine ⟨π, B, μ, S, hp, s, pl, e, fun v B' H' ps hv => ?_⟩
  obtain ⟨⟨B1, m, T1, k1, k2, k3⟩, k4⟩ := k v B' H' ps hv
  exact ⟨ty_of k1 hk k3, k4⟩
open PySem.Spec PyProof.Rows in
theorem me_bm0 {T id : String} {kd : Nat} {f : M → List M → Option (M × M)} {r : V → List V → Hp → VK → Prop} (pa : PlainAttrs T) (slot : Slot T n id) (hty : typeOf (.builtin id) = pure (.type "method_descriptor")) (hm : MtR X id r) (hk : tyKd kd T = true) (hf : MutOk X.K X.mg f fun us v vs H Q => us = [] → r v vs H Q)
    (hx : MP b X x p) (hbase : attributeBase x n X.env (eval x X.env) = eval x X.env := by rfl) (hline : (apos.endLine == pos.line) = true := by rfl) :
    ME b X (.Call (.Attribute x n apos) [] [] pos) (.mut kd f .nil p .nil) := fun W tk => PE.imp (pe_bm0 pa slot hty hm hx hbase hline) fun σ H Q h => by
  obtain ⟨π, B, μ, S, hp, s, pl, e, k⟩ := MutOk.nil hf h
  refine ⟨π, B, μ, S, hp, s, pl, e, fun v B' H' ps hv => ?_⟩
  obtain ⟨⟨B1, m, T1, k1, k2, k3⟩, k4⟩ := k v B' H' ps hv
  exact ⟨ty_of k1 hk k3, es_nil k4⟩
/-! ### lists changed in place -/
def fAppend : M → List M → Option (M × M)
  | .lst ms, [m] => if ms.length < sizeLine then some (.lst (ms ++ [m]), .dat .non) else none
  | _, _ => none
theorem repMs_app {K : PySem.W.Frag} {mg : Str → Option Value} {B H : Hp} : ∀ {ms ns : List M} {vs ws : List V} {T U : ASet}, RepMs K mg B H ms vs T → RepMs K mg B H ns ws U → (∀ a, T a → ¬ U a) → RepMs K mg B H (ms ++ ns) (vs ++ ws) fun a => T a ∨ U a
  | [], ns, vs, ws, T, U, h, h', d => by
    unfold RepMs at h
    obtain ⟨rfl, n⟩ := h
    have e : (fun a => T a ∨ U a) = U := funext fun a => propext ⟨fun z => z.elim (fun z => absurd z (n a)) id, .inr⟩
    rw [e]; exact h'
  | m :: ms, ns, vs, ws, T, U, h, h', d => by
    unfold RepMs at h
    obtain ⟨v, r, T1, T2, rfl, h1, h2, h3, h4⟩ := h
    show RepMs K mg B H (m :: (ms ++ ns)) (v :: (r ++ ws)) _
    unfold RepMs
    refine ⟨v, r ++ ws, T1, fun a => T2 a ∨ U a, rfl, h1, repMs_app h2 h' fun a z => d a ((h4 a).mpr (.inr z)), fun a z w => w.elim (h3 a z) (d a ((h4 a).mpr (.inl z))), fun a => ?_⟩
    show (T a ∨ U a) ↔ _
    rw [h4]
    exact ⟨fun z => z.elim (fun z => z.elim .inl fun z => .inr (.inl z)) fun z => .inr (.inr z), fun z => z.elim (fun z => .inl (.inl z)) fun z => z.elim (fun z => .inl (.inr z)) .inr⟩
theorem repMs_one {K : PySem.W.Frag} {mg : Str → Option Value} {B H : Hp} {m : M} {vs : List V} {U : ASet} (h : RepMs K mg B H [m] vs U) : ∃ v, vs = [v] ∧ RepM K mg B H m v U := by
  unfold RepMs RepMs at h
  obtain ⟨v, r, T1, T2, rfl, h1, ⟨rfl, n⟩, _, h4⟩ := h
  exact ⟨v, rfl, h1.cast fun a => ⟨fun z => (h4 a).mpr (.inl z), fun z => ((h4 a).mp z).elim id fun z => absurd z (n a)⟩⟩
theorem repMs_nil {K : PySem.W.Frag} {mg : Str → Option Value} {B H : Hp} {us : List V} {U : ASet} {ws : List M} (h : RepMs K mg B H ws us U) (e : us = []) : ws = [] ∧ ∀ a, ¬ U a := by
  have hl := repMs_len h
  rw [e] at hl
  have hw : ws = [] := List.eq_nil_of_length_eq_zero hl
  subst hw
  unfold RepMs at h
  exact ⟨rfl, h.2⟩
/-- an object's content is changed: all else is as it was -/
theorem step_upd {B H : Hp} {A : ASet} {a : Addr} {o : HO} (ha : A a) : Step B H A B (upd H a o) A where
  ex := Ex.refl B
  fr := fun b u e n => by rw [upd_ne fun z => n (by rw [z]; exact ha)]; exact e
  dom := fun b e => by
    by_cases z : b = a
    · subst z; rw [upd_same] at e; cases e
    · rw [upd_ne z] at e; exact e
  ow := fun b q => .inl q
  fz := fun b q => .inl q
theorem mut_append {K : PySem.W.Frag} {mg : Str → Option Value} : MutOk K mg fAppend fun us v vs H Q => us = [] → rAppend v vs H Q := fun B H m v T ws ms us vs U0 U m' d Q e rm r0 r1 d1 d2 d3 hf k hu => by
  obtain ⟨rfl, n0⟩ := repMs_nil r0 hu
  rw [List.nil_append] at hf
  unfold fAppend at hf
  split at hf
  · rename_i xs y
    split at hf
    · rename_i hl
      cases hf
      unfold RepM at rm
      obtain ⟨a, zs, A, rfl, h2, h3, h4, h5, h6⟩ := rm
      obtain ⟨w, rfl, rw'⟩ := repMs_one r1
      have hlen := repMs_len h4
      have nU : ∀ b, U b → b ≠ a := fun b z w => d1 b ((h6 b).mpr (.inl w)) z
      have nA : ∀ b, A b → b ≠ a := fun b z w => h5 (by rw [← w]; exact z)
      refine ⟨a, zs, w, rfl, rfl, h2, by omega, ?_⟩
      refine k .non B (upd H a (.lst (zs ++ [w]))) (fun b => T b ∨ U b) (fun _ => False) ((step_upd (.inl ((h6 a).mpr (.inl rfl)))).weak (fun _ z => z) fun b z => z.elim (fun z => z.elim .inl fun z => .inr (.inl z)) False.elim) (fun b o z => ?_) ?_ (repM_dat.mpr ⟨by unfold Rep; rfl, fun _ z => z⟩) fun _ _ z => z
      · rw [upd_ne fun w => by rw [w, h3] at z; cases z]; exact e b o z
      · unfold RepM
        refine ⟨a, zs ++ [w], fun b => A b ∨ U b, rfl, upd_same, h3, ?_, fun z => z.elim h5 fun z => nU a z rfl, fun b => ?_⟩
        · refine (repMs_app h4 r1 fun b z w => d1 b ((h6 b).mpr (.inr z)) w).congr (Ex.refl B) fun b z => ⟨upd_ne (z.elim (nA b) (nU b)), z.elim (fun z => (h4.owned b z).2) fun z => (r1.owned b z).2⟩
        · show (T b ∨ U b) ↔ _
          rw [h6]
          exact ⟨fun z => z.elim (fun z => z.imp id .inl) fun z => .inr (.inr z), fun z => z.elim (fun z => .inl (.inl z)) fun z => z.elim (fun z => .inl (.inr z)) .inr⟩
    · cases hf
  · cases hf
end
end Mi
/-! Mi13: places within, fields, methods, new instances. -/
namespace Mi
open PySem L2
section
variable {K : PySem.W.Frag} {mg : Str → Option Value}
theorem vAt_snoc {H : Hp} : ∀ {p : List Nat} {v w z : V} {a : Addr} {o : HO} {j : Nat}, vAt H v p w → w = .ref a → H a = some o → (kidsO o)[j]? = some z → vAt H v (p ++ [j]) z
  | [], v, w, z, a, o, j, h, e, ho, hk => by
    have h : w = v := h
    subst h
    exact ⟨a, o, z, e, ho, hk, rfl⟩
  | i :: p, v, w, z, a, o, j, h, e, ho, hk => by
    obtain ⟨b, o', v', h1, h2, h3, h4⟩ := h
    exact ⟨b, o', v', h1, h2, h3, vAt_snoc h4 e ho hk⟩
theorem zip_lookup {n : Str} : ∀ {ks : List Str} {vs : List V} {j : Nat}, fldIx ks n = some j → ks.length = vs.length → ∃ v, vs[j]? = some v ∧ (ks.zip vs).lookup n = some v
  | [], vs, j, h, _ => by simp [fldIx] at h
  | k :: ks, [], j, h, l => by simp at l
  | k :: ks, v :: vs, j, h, l => by
    unfold fldIx at h
    rw [List.findIdx?_cons] at h
    by_cases e : k = n
    · simp [e] at h
      subst h
      refine ⟨v, rfl, ?_⟩
      show List.lookup n ((k, v) :: ks.zip vs) = _
      rw [List.lookup_cons]
      simp [e]
    · simp [e] at h
      obtain ⟨i, h1, rfl⟩ := h
      obtain ⟨w, e1, e2⟩ := zip_lookup (ks := ks) (vs := vs) (j := i) (n := n) (by unfold fldIx; exact h1) (by simpa using l)
      refine ⟨w, by simpa using e1, ?_⟩
      show List.lookup n ((k, v) :: ks.zip vs) = _
      rw [List.lookup_cons]
      have : (n == k) = false := by simpa using fun z => e z.symm
      rw [this]; exact e2
theorem zip_lookup_none {n : Str} : ∀ {ks : List Str} {vs : List V}, ks.contains n = false → (ks.zip vs).lookup n = none
  | [], vs, h => rfl
  | k :: ks, [], h => rfl
  | k :: ks, v :: vs, h => by
    have h' : ¬ n = k ∧ n ∉ ks := by simpa using h
    show List.lookup n ((k, v) :: ks.zip vs) = _
    rw [List.lookup_cons]
    have : (n == k) = false := by simpa using h'.1
    rw [this]
    exact zip_lookup_none (by simpa using h'.2)
end
section
variable {b : Bd} {X : Cx} {x y o : Expr} {ex ey e : E} {xs : List Expr} {as : As} {es : Es} {p : Path} {pos ppos apos : Pos} {n m : Str}
/-! ### a field of data -/
def fFld (c n : Str) : D → Option D
  | .ins c' ks xs => if c' = c then (fldIx ks n).bind fun j => xs[j]? else none
  | _ => none
theorem me_fld {c : Str} {C : Addr} (hm : X.mg c = some (.ref C)) (hc : Cls X.K C) (hn : NoAttr X.K C n) (hx : ME b X x ex) (hb : attributeBase x n X.env (eval x X.env) = eval x X.env := by rfl) : ME b X (.Attribute x n pos) (.op1 (fFld c n) ex) := fun W tk =>
  PE.imp (pe_fld (hx W tk) hb) fun σ H Q h => one_imp (ru := fun x H1 Q => ∃ a C dx fs v, x = .ref a ∧ H1 a = some (.ins C dx fs) ∧ Cls X.K C ∧ NoAttr X.K C n ∧ fs.lookup n = some v ∧ Q v H1) (fun B H v d1 d3 Q e r hf k => by
    unfold fFld at hf
    split at hf
    · rename_i c' ks ys
      split at hf
      · rename_i ec
        subst ec
        cases q : fldIx ks n with
        | none => rw [q] at hf; cases hf
        | some j =>
          rw [q] at hf
          have hf : ys[j]? = some d3 := hf
          unfold Rep at r
          obtain ⟨a, vs, rfl, ⟨C', dx, hC, ho⟩, hl, hr⟩ := r
          rw [hm] at hC
          cases hC
          obtain ⟨w, e1, e2⟩ := zip_lookup q hl
          obtain ⟨w', e3, e4⟩ := (repL_get hr).1 _ hf
          rw [e1] at e3
          cases e3
          exact ⟨a, C, dx, _, w, rfl, e a _ ho, hc, hn, e2, k w B H (PStep.refl e) e4⟩
      · cases hf
    · cases hf) h
/-! ### places -/
theorem at_snoc {m : M} {j : Nat} : ∀ {p : List Nat} {m0 : M}, m0.at p = some m → m0.at (p ++ [j]) = m.kids[j]?
  | [], m0, h => by
    have h : m0 = m := by simpa [M.at] using h
    subst h
    show (match m0.kids[j]? with | some k => k.at [] | none => none) = _
    cases m0.kids[j]? <;> simp [M.at]
  | i :: p, m0, h => by
    unfold M.at at h
    show (match m0.kids[i]? with | some k => k.at (p ++ [j]) | none => none) = _
    cases q : m0.kids[i]? with
    | none => rw [q] at h; cases h
    | some k => rw [q] at h; exact at_snoc h
theorem mp_fld {c : Str} {C : Addr} (hm : X.mg c = some (.ref C)) (hc : Cls X.K C) (hn : NoAttr X.K C n) (hx : MP b X x p) (hb : attributeBase x n X.env (eval x X.env) = eval x X.env := by rfl) : MP b X (.Attribute x n pos) (.fld p c n) :=
  PE.imp (pe_fld hx hb) fun σ H Q ⟨π, B, μ, S, hp, s, pl', e, k⟩ => by
    unfold evalP at e
    cases q0 : evalP b.C b.pin p μ with
    | none => simp only [q0] at e; cases e
    | some pl =>
      simp only [q0] at e
      refine ⟨π, B, μ, S, hp, s, pl, q0, fun v B1 H1 p1 hv => ?_⟩
      split at e
      · rename_i c' ks ys qa
        split at e
        · rename_i ec
          subst ec
          cases qf : fldIx ks n with
          | none => rw [qf] at e; cases e
          | some j =>
            rw [qf] at e
            cases e
            have s1 := s.pure p1
            obtain ⟨v1, T1, r1, _, ⟨v0, e0, va⟩, _⟩ := s1.at qa
            obtain ⟨v0', e0', va'⟩ := hv
            rw [e0] at e0'
            cases e0'
            have ev := va.det va'
            subst ev
            unfold RepM at r1
            obtain ⟨a, vs, U, rfl, ⟨⟨C', dx, hC, ho⟩, hl⟩, _⟩ := r1
            rw [hm] at hC
            cases hC
            obtain ⟨w, e1, e2⟩ := zip_lookup qf hl
            exact ⟨a, C, dx, _, w, rfl, ho, hc, hn, e2, k w B1 H1 p1 ⟨v0, e0, vAt_snoc va rfl ho (by show ((ks.zip vs).map (·.2))[j]? = _; rw [map_snd_zip hl]; exact e1)⟩⟩
        · cases e
      · cases e
/-- an index without effects -/
def tD (i : I) : TE := fun σ H Q => ∃ π B μ S d, PinOf π b.pin ∧ Stt X.K X.mg π B H σ μ S ∧ evalI i μ = some d ∧ ∀ v B' H', PStep B H B' H' → Rep X.K X.mg B' d v → Q v H'
def MD (b : Bd) (X : Cx) (x : Expr) (i : I) : Prop := PE X x (tD (b := b) (X := X) i)
theorem PStep.trans' {B H B1 H1 B2 H2 : Hp} (x : PStep B H B1 H1) (y : PStep B1 H1 B2 H2) : PStep B H B2 H2 :=
  ⟨x.ex.trans y.ex, y.sub, x.ext.trans y.ext, fun a q => (y.fz a q).elim (x.fz a) fun z => .inr (x.ext.none z)⟩
theorem md_var {i : Nat} (hN : X.N[i]? = some n) (hv : Vis X.env.scope n) (hd : (n == ("__debug__" : Str)) = false := by decide) (hcd : (n == ("__classdict__" : Str)) = false := by decide) : MD b X (.Name n pos) (.var i) :=
  PE.imp (pe_var hN hv hd hcd) fun σ H Q ⟨π, B, μ, S, d, hp, s, e, k⟩ => by
    unfold evalI at e
    split at e
    · rename_i d' hs
      cases e
      obtain ⟨v, e1, r⟩ := s.getD hs
      exact ⟨v, e1, k v B H (PStep.refl s.sub) r⟩
    · cases e
theorem md_int {i : Int} {j} : MD b X (.Constant (.int i) j pos) (.con (.int i)) := PE.imp pe_int fun σ H Q ⟨π, B, μ, S, d, hp, s, e, k⟩ => by
  unfold evalI at e
  cases e
  exact k _ B H (PStep.refl s.sub) (by unfold Rep; rfl)
theorem two_impD {f : D → D → Option D} {r : R2} {i j : I} {σ : L2.St} {H : Hp} {Q : VK} (hf : Imp2 X.K X.mg f r) (h : tD (b := b) (X := X) (.op2 f i j) σ H Q) : tOp r (tD (b := b) (X := X) i) (tD (b := b) (X := X) j) σ H Q := by
  obtain ⟨π, B, μ, S, d, hp, s, e, k⟩ := h
  unfold evalI at e
  cases q1 : evalI i μ with
  | none => rw [q1] at e; cases e
  | some d1 =>
    rw [q1] at e
    dsimp only [Option.bind] at e
    cases q2 : evalI j μ with
    | none => rw [q2] at e; cases e
    | some d2 =>
      rw [q2] at e
      have e : f d1 d2 = some d := e
      refine ⟨π, B, μ, S, d1, hp, s, q1, fun v B1 H1 p1 r1 => ?_⟩
      refine ⟨π, B1, μ, S, d2, hp, s.pure p1, q2, fun w B2 H2 p2 r2 => ?_⟩
      exact hf B2 H2 v w d1 d2 d Q p2.sub (r1.mono p2.ex) r2 e fun z B' H' p3 r3 => k z B' H' ((p1.trans' p2).trans' p3) r3
theorem md_op {op : Operator} {f : D → D → Option D} {r : R2} {i j : I} (ho : OpR X (binaryOp op) r) (hf : Imp2 X.K X.mg f r) (hx : MD b X x i) (hy : MD b X y j) : MD b X (.BinOp x op y pos) (.op2 f i j) := PE.imp (pe_op ho hx hy) fun σ H Q h => two_impD hf h
theorem md_ix {f : D → D → Option D} {r : R2} {i j : I} (ho : IxR X r) (hf : Imp2 X.K X.mg f r) (hx : MD b X x i) (hy : MD b X y j) (hs : PlainIx y) : MD b X (.Subscript x y pos) (.op2 f i j) := PE.imp (pe_ix ho hx hy hs) fun σ H Q h => two_impD hf h
theorem md_un {op : UnaryOp} {f : D → Option D} {ru : V → Hp → VK → Prop} {i : I} (ho : UnR X (unaryOp op) ru) (hf : Imp1 X.K X.mg f ru) (hx : MD b X x i) : MD b X (.UnaryOp op x pos) (.op1 f i) := PE.imp (pe_un ho hx) fun σ H Q h => by
  obtain ⟨π, B, μ, S, d, hp, s, e, k⟩ := h
  unfold evalI at e
  cases q1 : evalI i μ with
  | none => rw [q1] at e; cases e
  | some d1 =>
    rw [q1] at e
    have e : f d1 = some d := e
    refine ⟨π, B, μ, S, d1, hp, s, q1, fun v B1 H1 p1 r1 => ?_⟩
    exact hf B1 H1 v d1 d Q p1.sub r1 e fun z B' H' p3 r3 => k z B' H' (p1.trans' p3) r3
theorem mp_idx {i : I} (hx : MP b X x p) (hy : MD b X y i) (hs : PlainIx y) : MP b X (.Subscript x y pos) (.idx p i) :=
  PE.imp (pe_ix ix_seq hx hy hs) fun σ H Q ⟨π, B, μ, S, hp, s, pl', e, k⟩ => by
    unfold evalP at e
    cases q0 : evalP b.C b.pin p μ with
    | none => simp only [q0] at e; cases e
    | some pl =>
      simp only [q0] at e
      split at e
      · rename_i z qi
        split at e
        · rename_i ys qa
          cases qj : ixN ys.length z with
          | none => rw [qj] at e; cases e
          | some j =>
            rw [qj] at e
            cases e
            refine ⟨π, B, μ, S, hp, s, pl, q0, fun v B1 H1 p1 hv => ?_⟩
            refine ⟨π, B1, μ, S, _, hp, s.pure p1, qi, fun w B2 H2 p2 r2 => ?_⟩
            have ew := rep_int r2
            subst ew
            have s2 := (s.pure p1).pure p2
            obtain ⟨v1, T1, r1, _, ⟨v0, e0, va⟩, _⟩ := s2.at qa
            obtain ⟨v0', e0', va'⟩ := hv.mono p2.ext
            rw [e0] at e0'
            cases e0'
            have ev := va.det va'
            subst ev
            unfold RepM at r1
            obtain ⟨a, vs, U, rfl, ho, hB, hms, _⟩ := r1
            have hl := repMs_len hms
            have hj : j < vs.length := by rw [← hl]; exact (ixN_seq qj).2.1
            refine .inl ⟨a, vs, z, vs[j], rfl, rfl, .inl (.inl ho), ?_, k _ B2 H2 (p1.trans' p2) ⟨v0, e0, vAt_snoc va rfl ho (by show vs[j]? = some vs[j]; simp [hj])⟩⟩
            unfold atI
            rw [← hl, qj]
            show vs[j]? = some vs[j]
            simp [hj]
        · rename_i ys qa
          cases qj : ixN ys.length z with
          | none => rw [qj] at e; cases e
          | some j =>
            rw [qj] at e
            cases e
            refine ⟨π, B, μ, S, hp, s, pl, q0, fun v B1 H1 p1 hv => ?_⟩
            refine ⟨π, B1, μ, S, _, hp, s.pure p1, qi, fun w B2 H2 p2 r2 => ?_⟩
            have ew := rep_int r2
            subst ew
            have s2 := (s.pure p1).pure p2
            obtain ⟨v1, T1, r1, _, ⟨v0, e0, va⟩, _⟩ := s2.at qa
            obtain ⟨v0', e0', va'⟩ := hv.mono p2.ext
            rw [e0] at e0'
            cases e0'
            have ev := va.det va'
            subst ev
            unfold RepM at r1
            obtain ⟨a, vs, U, rfl, ho, hB, hms, _⟩ := r1
            have hl := repMs_len hms
            have hj : j < vs.length := by rw [← hl]; exact (ixN_seq qj).2.1
            refine .inr (.inl ⟨a, vs, z, vs[j], rfl, rfl, .inl (.inl ho), ?_, k _ B2 H2 (p1.trans' p2) ⟨v0, e0, vAt_snoc va rfl ho (by show vs[j]? = some vs[j]; simp [hj])⟩⟩)
            unfold atI
            rw [← hl, qj]
            show vs[j]? = some vs[j]
            simp [hj]
        · cases e
      · cases e
/-! ### methods -/
theorem pe_methW {CX : CXT} {k : Nat} {f C : Addr} {fd : FuncData} {ps : List Str} {sp : Sp} {E : L2.St → XK} {e : Expr} {ta : TE} {t : TA} {pl : Sem Bool} (he : PE X o ta) (c : Cls X.K C) (hm : Meth X.K C m f) (F : FnOk X.prog X.w X.K X.mg X.base CX k f fd ps sp) (hr : Room k X.A) (hb : Binds X.K fd ps []) (hx : ∀ σ, PassesAt CX X σ (E σ)) (ha : PA X (e :: xs) t)
    (hst : starEach (e :: xs) X.env = (false, eval e X.env) :: starEach xs X.env := by rfl) (hpl : (backTo pos (starEach xs X.env)).any (·.1) = false := by rfl)
    (ht : eval (.Call (.Attribute o m apos) (e :: xs) [] pos) X.env = (do
      let ov ← eval o X.env
      standAt apos.atName
      let (f, first) ← holding [ov] (getMethod ov m pl)
      callWith pos f first (backTo pos (starEach (e :: xs) X.env)) (backToKw pos (keywordEach [] X.env))) := by rfl) :
    PE X (.Call (.Attribute o m apos) (e :: xs) [] pos) (fun σ H Q => ta σ H fun x H1 => ∃ a dx fs, x = .ref a ∧ H1 a = some (.ins C dx fs) ∧ fs.lookup m = none ∧ t σ H1 fun vs H2 => sp (x :: vs) H2 Q (E σ)) := by
  refine ⟨fun pins s σ H Q I h => ?_⟩
  refine PySem.W.methodCall_KW (pl := pl) (thn (he.run pins s σ H _ I h) fun u s1 ⟨x, H1, I1, rx, a, dx, fs, ex, ea, l, q⟩ => ?_) ht
  subst ex
  obtain rfl : u = Value.ref a := rx
  refine getmeth_ok I1 ea c hm l ?_
  refine PySem.W.callWith_K (first := [.ref a]) (h₀ := X.base) I1.ok.mod.kin hm.kp (thn (ha.run pos pins s1 σ H1 _ I1 q) fun us s2 ⟨vs, H2, I2, r, q2⟩ => ⟨I2.kIn, ?_⟩) hst hpl
  exact run_fnS (us := .ref a :: us) (vs := .ref a :: vs) F hr hb (hx σ) I2 (.cons rfl r) q2
theorem pe_methW0 {CX : CXT} {k : Nat} {f C : Addr} {fd : FuncData} {ps : List Str} {sp : Sp} {E : L2.St → XK} {ta : TE} {pl : Sem Bool} (he : PE X o ta) (c : Cls X.K C) (hm : Meth X.K C m f) (F : FnOk X.prog X.w X.K X.mg X.base CX k f fd ps sp) (hr : Room k X.A) (hb : Binds X.K fd ps []) (hx : ∀ σ, PassesAt CX X σ (E σ))
    (ht : eval (.Call (.Attribute o m apos) [] [] pos) X.env = (do
      let ov ← eval o X.env
      standAt apos.atName
      let (f, first) ← holding [ov] (getMethod ov m pl)
      callWith pos f first (backTo pos (starEach [] X.env)) (backToKw pos (keywordEach [] X.env))) := by rfl) :
    PE X (.Call (.Attribute o m apos) [] [] pos) (fun σ H Q => ta σ H fun x H1 => ∃ a dx fs, x = .ref a ∧ H1 a = some (.ins C dx fs) ∧ fs.lookup m = none ∧ sp [x] H1 Q (E σ)) := by
  refine ⟨fun pins s σ H Q I h => ?_⟩
  refine PySem.W.methodCall_KW (pl := pl) (thn (he.run pins s σ H _ I h) fun u s1 ⟨x, H1, I1, rx, a, dx, fs, ex, ea, l, q⟩ => ?_) ht
  subst ex
  obtain rfl : u = Value.ref a := rx
  refine getmeth_ok I1 ea c hm l ?_
  exact PySem.W.callWith_K0 (first := [.ref a]) I1.kIn hm.kp (run_fnS (us := [.ref a]) (vs := [.ref a]) F hr hb (hx σ) I1 (.cons rfl .nil) q)
/-- the instance, then the arguments, then the callee -/
theorem meth_imp {c : Str} {C : Addr} {g : Nat} {oo : Bool} {W : WX} {σ : L2.St} {H : Hp} {Q : VK} (hm : X.mg c = some (.ref C)) (h : b.tE X (.meth oo c m g p as) W σ H Q) :
    tP X.K X.mg b.C b.pin p σ H fun x H1 => ∃ a dx fs, x = .ref a ∧ H1 a = some (.ins C dx fs) ∧ fs.lookup m = none ∧ tAs X.K X.mg b.C b.pin as W σ H1 fun vs H2 => spF X.K X.mg (b.C g) (x :: vs) H2 Q (WE W σ) := by
  obtain ⟨π, B, μ, S, hp, s, h⟩ := h
  unfold evalE at h
  cases q0 : evalP b.C b.pin p μ with
  | none => simp only [q0] at h; exact h.elim
  | some pl =>
    simp only [q0] at h
    refine ⟨π, B, μ, S, hp, s, pl, q0, fun v B1 H1 p1 hv => ?_⟩
    split at h
    rotate_left
    · exact h.elim
    rename_i hi
    have s1 := s.pure p1
    cases qa : atPl μ pl with
    | none => rw [qa] at hi; cases hi
    | some m0 =>
      rw [qa] at hi
      cases m0 with
      | ins c' ks ys =>
        have hi' : c' = c ∧ ks.contains m = false := by simpa [insOk] using hi
        obtain ⟨rfl, hk⟩ := hi'
        obtain ⟨v1, T1, r1, _, ⟨v0, e0, va⟩, _⟩ := s1.at qa
        obtain ⟨v0', e0', va'⟩ := id hv
        rw [e0] at e0'
        cases e0'
        have ev := va.det va'
        subst ev
        unfold RepM at r1
        obtain ⟨a, vs0, U, rfl, ⟨⟨C', dx, hC, ho⟩, hl⟩, _⟩ := r1
        rw [hm] at hC
        cases hC
        refine ⟨a, dx, _, rfl, ho, zip_lookup_none hk, π, B1, μ, S, hp, s1, ?_⟩
        have h1 := h.mono (S1 := S) (p1.step S) (fun _ z => z) fun z => nomatch z
        cases q : evalAs b.C b.pin as μ with
        | stuck => rw [q] at h1; exact h1
        | err c μ' => rw [q] at h1; exact h1
        | ok ags μ1 =>
          rw [q] at h1
          intro vs B2 H2 S2 T s2 r2 d2 x2 u2
          refine call_ok (fl := as.vals) (o := oo) (pu := false) s2 (ags := .ref pl :: ags) (vs := .ref a :: vs) (T := T) ?_ d2 (fun z => nomatch z) (h1.mono x2 (fun _ z => z) fun z => nomatch z)
          unfold RAs
          refine ⟨_, vs, rfl, fun z => ?_, r2⟩
          rcases z with z | z
          · obtain ⟨v0, e1, e2⟩ := hv
            rw [z] at e2
            exact ⟨v0, e1, by rw [z]; exact e2⟩
          · exact hv.mono (u2 z)
      | _ => cases hi
theorem me_meth {c : Str} {C : Addr} {k g : Nat} {oo : Bool} {f : Addr} {fd : FuncData} {ps : List Str} {pl : Sem Bool} (hC : X.mg c = some (.ref C)) (hc : Cls X.K C) (hm : Meth X.K C m f) (G : FnOk X.prog X.w X.K X.mg X.base (L2.CX X.prog X.w) k f fd ps (spF X.K X.mg (b.C g))) (hr : Room k X.A) (hb : Binds X.K fd ps [])
    (hx : MP b X o p) (ha : MAs b X (y :: xs) as)
    (hst : starEach (y :: xs) X.env = (false, eval y X.env) :: starEach xs X.env := by rfl) (hpl : (backTo pos (starEach xs X.env)).any (·.1) = false := by rfl)
    (ht : eval (.Call (.Attribute o m apos) (y :: xs) [] pos) X.env = (do
      let ov ← eval o X.env
      standAt apos.atName
      let (f, first) ← holding [ov] (getMethod ov m pl)
      callWith pos f first (backTo pos (starEach (y :: xs) X.env)) (backToKw pos (keywordEach [] X.env))) := by rfl) :
    ME b X (.Call (.Attribute o m apos) (y :: xs) [] pos) (.meth oo c m g p as) := fun W tk =>
  PE.imp (pe_methW hx hc hm G hr hb (fun σ => passAt tk σ) (ha W tk) hst hpl ht) fun σ H Q h => meth_imp hC h
theorem as_nil {W : WX} {σ : L2.St} {H : Hp} {Q : List V → Hp → Prop} (h : tAs X.K X.mg b.C b.pin .nil W σ H Q) : Q [] H := by
  obtain ⟨π, B, μ, S, hp, s, h⟩ := h
  unfold evalAs at h
  exact h [] B H S (fun _ => False) s (by unfold RAs; exact ⟨rfl, fun _ z => z⟩) (fun _ z => z.elim) ((Step.refl B H S).weak (fun _ z => z) fun _ z => z.elim id False.elim) fun _ => Ex.refl H
theorem me_meth0 {c : Str} {C : Addr} {k g : Nat} {oo : Bool} {f : Addr} {fd : FuncData} {ps : List Str} {pl : Sem Bool} (hC : X.mg c = some (.ref C)) (hc : Cls X.K C) (hm : Meth X.K C m f) (G : FnOk X.prog X.w X.K X.mg X.base (L2.CX X.prog X.w) k f fd ps (spF X.K X.mg (b.C g))) (hr : Room k X.A) (hb : Binds X.K fd ps [])
    (hx : MP b X o p)
    (ht : eval (.Call (.Attribute o m apos) [] [] pos) X.env = (do
      let ov ← eval o X.env
      standAt apos.atName
      let (f, first) ← holding [ov] (getMethod ov m pl)
      callWith pos f first (backTo pos (starEach [] X.env)) (backToKw pos (keywordEach [] X.env))) := by rfl) :
    ME b X (.Call (.Attribute o m apos) [] [] pos) (.meth oo c m g p .nil) := fun W tk =>
  PE.imp (pe_methW0 hx hc hm G hr hb (fun σ => passAt tk σ) ht) fun σ H Q h => by
    obtain ⟨π, B, μ, S, hp, s, pl, e, k⟩ := meth_imp hC h
    refine ⟨π, B, μ, S, hp, s, pl, e, fun v B' H' ps hv => ?_⟩
    obtain ⟨a, dx, fs, k1, k2, k3, k4⟩ := k v B' H' ps hv
    exact ⟨a, dx, fs, k1, k2, k3, as_nil k4⟩
/-! ### new instances -/
theorem RAs.ext {K : PySem.W.Frag} {mg : Str → Option Value} {fl : Bool} {σ : L2.St} {B1 H1 H2 : Hp} (ex2 : Ex H1 H2) : ∀ {ags : List Ag} {vs : List V} {T : ASet}, RAs K mg fl σ B1 H1 ags vs T → RAs K mg fl σ B1 H2 ags vs T
  | [], _, _, z => by unfold RAs at *; exact z
  | .val m :: ags, _, _, z => by
    unfold RAs at *
    obtain ⟨v, r', T1, T2, rfl, h1, h2, h3, h4⟩ := z
    have o1 := h1.owned
    refine ⟨v, r', T1, T2, rfl, h1.congr (Ex.refl _) fun a z => ⟨?_, (o1 a z).2⟩, h2.ext ex2, h3, h4⟩
    cases w : H1 a with
    | none => exact absurd w (o1 a z).1
    | some u => exact ex2 a u w
  | .ref pl :: ags, _, _, z => by
    unfold RAs at *
    obtain ⟨v, r', h0, h1, h2⟩ := z
    exact ⟨v, r', h0, fun z => (h1 z).mono ex2, h2.ext ex2⟩
theorem run_makeW {CX : CXT} {k : Nat} {f C : Addr} {fd : FuncData} {ps : List Str} {sp : Sp} {E : L2.St → XK} {pins : List (Addr × Obj)} {σ : L2.St} {H : Hp} {s : Shared} {Q : VK} {us : List Value} {vs : List V} (M : Mk X.K C f) (F : FnOk X.prog X.w X.K X.mg X.base CX k f fd ps sp) (hr : Room (k + 1) X.A) (hb : Binds X.K fd ps [])
    (hx : ∀ σ, PassesAt CX X σ (E σ)) (I : Inv X pins σ H s) (r : Vals vs us)
    (h : ∀ x dx, H x = none → H dx = none → dx ≠ x → sp (.ref x :: vs) (upd (upd H dx (.own x)) x (.ins C dx [])) (fun v H2 => v = .non ∧ Q (.ref x) H2) (E σ)) :
    wpAny (model X.prog X.w) X.A (call (.ref C) us) (EP X pins σ Q) X.xe s := by
  have hq := h (s.heap.objs.size + 1) s.heap.objs.size (I.hok.fresh (Nat.le_succ _)) (I.hok.fresh (Nat.le_refl _)) (Nat.ne_of_lt (Nat.lt_succ_self _))
  have I2 := Inv.made (C := C) I
  have r2 : Vals (V.ref (s.heap.objs.size + 1) :: vs) (Value.ref (s.heap.objs.size + 1) :: us) := .cons rfl r
  have hl : (Value.ref (s.heap.objs.size + 1) :: us ++ []).length = ps.length := by
    have e := r2.length
    rw [F.len _ _ _ _ hq] at e
    rw [List.append_nil]
    exact e.symm
  have bb := hb _ (Value.ref (s.heap.objs.size + 1) :: us) I2.kIn hl
  rw [List.append_nil] at bb
  refine wpAny_call (make_map (f := f) I.kIn M.makes M.init (beq_iff_eq.mp M.fn) (codeAny_mono (F.run _ X.stack _ _ ⟨Value.ref (s.heap.objs.size + 1) :: us, []⟩ (Value.ref (s.heap.objs.size + 1) :: us) _ _ (E σ) (hr.make C us [])
    (I2.env0.make C us []) bb r2 hq) fun r s' hq' => ?_))
  cases r with
  | error e => exact hx σ pins _ _ e s' I2 hq'
  | ok fl =>
    cases fl with
    | ret u =>
      obtain ⟨v, H', I3, rv, ev, q3⟩ := I2.after hq'
      subst ev
      exact ⟨rv, ⟨V.ref (s.heap.objs.size + 1), H', I3, rfl, q3⟩⟩
    | next => exact False.elim hq'
    | brk => exact False.elim hq'
    | cont => exact False.elim hq'
def tMakeW (C : Addr) (sp : Sp) (E : L2.St → XK) (t : TA) : TE := fun σ H Q => t σ H fun vs H1 => ∀ x dx, H1 x = none → H1 dx = none → dx ≠ x →
  sp (.ref x :: vs) (upd (upd H1 dx (.own x)) x (.ins C dx [])) (fun v H2 => v = .non ∧ Q (.ref x) H2) (E σ)
theorem pe_makeW {CX : CXT} {k : Nat} {f C : Addr} {fd : FuncData} {ps : List Str} {sp : Sp} {E : L2.St → XK} {e : Expr} {t : TA} (M : Mk X.K C f) (F : FnOk X.prog X.w X.K X.mg X.base CX k f fd ps sp) (hr : Room (k + 1) X.A) (hg : Gl X n) (hm : X.mg n = some (.ref C)) (hb : Binds X.K fd ps []) (hx : ∀ σ, PassesAt CX X σ (E σ))
    (ha : PA X (e :: xs) t) (hdb : (n == ("__debug__" : Str)) = false := by decide) (he : starEach (e :: xs) X.env = (false, eval e X.env) :: starEach xs X.env := by rfl) (hpl : (backTo pos (starEach xs X.env)).any (·.1) = false := by rfl) :
    PE X (.Call (.Name n ppos) (e :: xs) [] pos) (tMakeW C sp E t) := by
  refine ⟨fun pins s σ H Q I h => ?_⟩
  refine wpAny_Call_Name_kw (ld_glob I hg hm ?_ hdb)
  refine PySem.W.callWith_K (h₀ := X.base) I.ok.mod.kin M.kp (thn (ha.run pos pins s σ H _ I h) fun us s1 ⟨vs, H1, I1, r, q⟩ => ⟨I1.kIn, ?_⟩) he hpl
  exact run_makeW M F hr hb hx I1 r q
theorem pe_makeW0 {CX : CXT} {k : Nat} {f C : Addr} {fd : FuncData} {ps : List Str} {sp : Sp} {E : L2.St → XK} (M : Mk X.K C f) (F : FnOk X.prog X.w X.K X.mg X.base CX k f fd ps sp) (hr : Room (k + 1) X.A) (hg : Gl X n) (hm : X.mg n = some (.ref C)) (hb : Binds X.K fd ps []) (hx : ∀ σ, PassesAt CX X σ (E σ))
    (hdb : (n == ("__debug__" : Str)) = false := by decide) : PE X (.Call (.Name n ppos) [] [] pos) (tMakeW C sp E tNil) := by
  refine ⟨fun pins s σ H Q I h => ?_⟩
  refine wpAny_Call_Name_kw (ld_glob I hg hm ?_ hdb)
  exact PySem.W.callWith_K0 I.kIn M.kp (run_makeW (us := []) M F hr hb hx I .nil h)
theorem new_imp {c : Str} {C : Addr} {g : Nat} {W : WX} {σ : L2.St} {H : Hp} {Q : VK} (hm : X.mg c = some (.ref C)) (h : b.tE X (.new c g as) W σ H Q) : tMakeW C (spF X.K X.mg (b.C g)) (WE W) (tAs X.K X.mg b.C b.pin as W) σ H Q := by
  obtain ⟨π, B, μ, S, hp, s, h⟩ := h
  unfold evalE at h
  refine ⟨π, B, μ, S, hp, s, ?_⟩
  cases q : evalAs b.C b.pin as μ with
  | stuck => rw [q] at h; exact h
  | err c μ' => rw [q] at h; exact h
  | ok ags μ1 =>
    rw [q] at h
    intro vs B1 H1 S1 T s1 r1 d1 x1 u1 x dx hxn hdn hne
    have h := h.mono x1 (fun _ z => z) fun z => nomatch z
    dsimp only [Out.bind] at h
    split at h
    rotate_left
    · exact h.elim
    rename_i gg
    obtain ⟨g1, g2⟩ := (Bool.and_eq_true _ _).mp gg
    cases e : argMs ags μ1 with
    | none => rw [e] at h; exact h.elim
    | some ms =>
      rw [e] at h
      dsimp only at h
      -- the two new objects
      have hx2 : (upd H1 dx (.own x)) x = none := by rw [upd_ne (fun z => hne z.symm)]; exact hxn
      generalize hH2 : upd (upd H1 dx (.own x)) x (.ins C dx []) = H2
      have ex2 : Ex H1 H2 := by rw [← hH2]; exact (Ex.new hdn).trans (Ex.new hx2)
      have st2 : Step B1 H1 (fun a => S1 a ∨ T a) B1 H2 (fun a => (S1 a ∨ T a) ∨ a = x) := by
        rw [← hH2]
        have y1 : Step B1 H1 (fun a => S1 a ∨ T a) B1 (upd H1 dx (.own x)) (fun a => S1 a ∨ T a) := (Step.new hdn).weak (fun _ z => z) fun _ z => .inl z
        exact y1.trans (Step.new hx2)
      have s2 : Stt X.K X.mg π B1 H2 σ μ1 S1 := by rw [← hH2]; exact (s1.new hdn).new hx2
      have own1 : ∀ a, (S1 a ∨ T a) → H1 a ≠ none ∧ B1 a = none := fun a z => z.elim (s1.owned a) (r1.owned a)
      have r2 : RAs X.K X.mg as.vals σ B1 H2 ags vs T := by
        exact r1.ext ex2
      have xB : B1 x = none := s1.sub.none hxn
      have hx3 : H2 x = some (.ins C dx []) := by rw [← hH2]; exact upd_same
      have nx : ∀ a, (S1 a ∨ T a) → a ≠ x := fun a z w => (own1 a z).1 (by rw [w]; exact hxn)
      obtain ⟨A, k1, k2, k3, k4⟩ := refs_ok s2 r2 d1 g1 ((Bool.or_eq_true _ _).mp g2) e
      have rx : RepM X.K X.mg B1 H2 (.ins c [] []) (.ref x) fun a => a = x := by
        unfold RepM
        refine ⟨x, [], fun _ => False, rfl, ⟨⟨C, dx, hm, hx3⟩, rfl⟩, xB, by unfold RepMs; exact ⟨rfl, fun _ z => z⟩, fun z => z, fun a => ⟨.inl, fun z => z.elim id False.elim⟩⟩
      refine ⟨B1, fun a => a = x ∨ A a, .ins c [] [] :: ms, s2.sub, by unfold RepMs; exact ⟨_, vs, _, A, rfl, rx, k1, fun a z w => nx a (k2 a w) z, fun _ => Iff.rfl⟩, ?_⟩
      have own : ∀ a, (S1 a ∨ T a) → H2 a ≠ none ∧ B1 a = none := fun a z => ⟨by
        cases w : H1 a with
        | none => exact absurd w (own1 a z).1
        | some u => rw [ex2 a u w]; simp, (own1 a z).2⟩
      have ownx : H2 x ≠ none := by rw [hx3]; simp
      have fin : ∀ {B' H' : Hp} {S' So T' : ASet}, Step B1 H2 (fun a => a = x ∨ A a) B' H' (fun a => So a ∨ T' a) → (∀ a, S' a → (S1 a ∧ ¬ A a) ∨ So a) → Step B1 H1 (fun a => S1 a ∨ T a) B' H' (fun a => S' a ∨ T' a) := fun {B' H' S' So T'} y hS' => by
        have y1 := y.frame (F := fun a => (S1 a ∨ T a) ∧ ¬ A a) fun a z => ⟨fun w => w.elim (nx a z.1) z.2, (own a z.1).1⟩
        have y2 : Step B1 H2 (fun a => (S1 a ∨ T a) ∨ a = x) B' H' (fun a => (So a ∨ T' a) ∨ ((S1 a ∨ T a) ∧ ¬ A a)) := y1.weak (fun a z => z.elim (fun z => z.elim (fun z => .inr z) fun z => .inl (k2 a z)) fun z => .inl z.1) fun _ z => z
        refine (st2.trans y2).weak (fun _ z => z) fun a z => ?_
        rcases z with z | z
        · exact (hS' a z).elim (fun z => .inr ⟨.inl z.1, z.2⟩) fun z => .inl (.inl z)
        · exact .inl (.inr z)
      cases ec : b.C g (.ins c [] [] :: ms) with
      | stuck => rw [ec] at h; exact h.elim
      | err c' outs =>
        rw [ec] at h
        intro B' H' So sub y ho C' hC'
        cases outs with
        | nil => exact h.elim
        | cons o1 outs =>
          cases eb : backAs ags outs μ1 with
          | none => simp only [newEnd, eb] at h; exact h.elim
          | some μ' =>
            simp only [newEnd, eb] at h
            have ho2 : ∃ T2, OutRep X.K X.mg B' H' outs vs T2 ∧ ∀ a, T2 a → So a := by
              cases o1 with
              | none => exact ⟨So, ho, fun _ z => z⟩
              | some m1 =>
                obtain ⟨_, _, T4, _, _, ho2, _, ho4⟩ := ho
                exact ⟨T4, ho2, fun a z => (ho4 a).mpr (.inr z)⟩
            obtain ⟨T2, ho2, hT2⟩ := ho2
            obtain ⟨S', s', hS'⟩ := k4 B' H' outs T2 μ' y.ex sub (fun a z n => let w := y.apart (fun w => w.elim (nx a z) n) (own a z).1 (own a z).2; ⟨w.2.2, w.2.1⟩) ho2 (fun a z w => (y.ow a (hT2 a z)).elim (fun q => q.elim (fun q => absurd q (nx a (.inl w))) id) fun z => absurd z (own a (.inl w)).1) eb
            have y1 := fin (T' := fun _ => False) (So := So) (S' := S') (y.weak (fun _ z => z) fun a z => z.elim id False.elim) fun a z => (hS' a z).imp id (hT2 a)
            exact h B' H' S' s' (y1.weak (fun _ z => z) fun _ z => .inl z) C' hC'
      | ok m outs =>
        rw [ec] at h
        intro v B' H' So T' sub ho rm dj y
        cases outs with
        | nil => cases m with
          | dat d => cases d <;> exact h.elim
          | _ => exact h.elim
        | cons o1 outs =>
          cases o1 with
          | none => cases m with
            | dat d => cases d <;> exact h.elim
            | _ => exact h.elim
          | some m1 =>
            cases m with
            | dat d =>
              cases d with
              | non =>
                obtain ⟨v1, U1, U2, hh, ho1, ho2, ho3, ho4⟩ := ho
                cases hh
                refine ⟨rep_non (repM_dat.mp rm).1, ?_⟩
                cases eb : backAs ags outs μ1 with
                | none => simp only [newEnd, eb] at h; exact h.elim
                | some μ' =>
                  simp only [newEnd, eb] at h
                  obtain ⟨S', s', hS'⟩ := k4 B' H' outs U2 μ' y.ex sub (fun a z n => let w := y.apart (fun w => w.elim (nx a z) n) (own a z).1 (own a z).2; ⟨w.2.2, w.2.1⟩) ho2 (fun a z w => (y.ow a (.inl ((ho4 a).mpr (.inr z)))).elim (fun q => q.elim (fun q => absurd q (nx a (.inl w))) id) fun z => absurd z (own a (.inl w)).1) eb
                  have y1 := fin (T' := U1) (So := So) (S' := S') (y.weak (fun _ z => z) fun a z => z.elim .inl fun z => .inl ((ho4 a).mpr (.inl z))) fun a z => (hS' a z).imp id fun z => (ho4 a).mpr (.inr z)
                  refine h (.ref x) B' H' S' U1 s' ho1 (fun a z w => ?_) y1 fun z => nomatch z
                  rcases hS' a w with w | w
                  · rcases y.ow a (.inl ((ho4 a).mpr (.inl z))) with q | q
                    · exact q.elim (nx a (.inl w.1)) w.2
                    · exact (own a (.inl w.1)).1 q
                  · exact ho3 a z w
              | _ => exact h.elim
            | _ => exact h.elim
theorem me_new {C : Addr} {k g : Nat} {f : Addr} {fd : FuncData} {ps : List Str} (M : Mk X.K C f) (G : FnOk X.prog X.w X.K X.mg X.base (L2.CX X.prog X.w) k f fd ps (spF X.K X.mg (b.C g))) (hr : Room (k + 1) X.A) (hg : Gl X n) (hm : X.mg n = some (.ref C)) (hb : Binds X.K fd ps [])
    (ha : MAs b X (x :: xs) as) (hdb : (n == ("__debug__" : Str)) = false := by decide) (he : starEach (x :: xs) X.env = (false, eval x X.env) :: starEach xs X.env := by rfl) (hpl : (backTo pos (starEach xs X.env)).any (·.1) = false := by rfl) :
    ME b X (.Call (.Name n ppos) (x :: xs) [] pos) (.new n g as) := fun W tk => PE.imp (pe_makeW M G hr hg hm hb (fun σ => passAt tk σ) (ha W tk) hdb he hpl) fun σ H Q h => new_imp hm h
theorem me_new0 {C : Addr} {k g : Nat} {f : Addr} {fd : FuncData} {ps : List Str} (M : Mk X.K C f) (G : FnOk X.prog X.w X.K X.mg X.base (L2.CX X.prog X.w) k f fd ps (spF X.K X.mg (b.C g))) (hr : Room (k + 1) X.A) (hg : Gl X n) (hm : X.mg n = some (.ref C)) (hb : Binds X.K fd ps [])
    (hdb : (n == ("__debug__" : Str)) = false := by decide) :
    ME b X (.Call (.Name n ppos) [] [] pos) (.new n g .nil) := fun W tk => PE.imp (pe_makeW0 M G hr hg hm hb (fun σ => passAt tk σ) hdb) fun σ H Q h => as_nil (new_imp hm h)
end
end Mi
/-! Mi14: more operations; stores within. -/
namespace Mi
open PySem L2
section
variable {K : PySem.W.Frag} {mg : Str → Option Value}
/-! ### isinstance of built-in classes -/
def tyD : D → Option String
  | .non => some "NoneType"
  | .bl _ => some "bool"
  | .int _ => some "int"
  | .str _ => some "str"
  | .tup _ => some "tuple"
  | .lst _ => some "list"
  | .dct _ _ => some "dict"
  | _ => none
def isiT (t T : String) : Option Bool := if ["NoneType", "bool", "int", "str", "tuple", "list", "dict"].contains T = true ∧ ["NoneType", "bool", "int", "str", "tuple", "list", "dict"].contains t = true then some (t == T || (t == "bool" && T == "int")) else none
theorem isiT_ok {t T : String} {b : Bool} (h : isiT t T = some b) : kitB t T = some b := by
  unfold isiT at h
  split at h
  · rename_i hh
    obtain ⟨h1, h2⟩ := hh
    have m1 : T = "NoneType" ∨ T = "bool" ∨ T = "int" ∨ T = "str" ∨ T = "tuple" ∨ T = "list" ∨ T = "dict" := by simpa using h1
    have m2 : t = "NoneType" ∨ t = "bool" ∨ t = "int" ∨ t = "str" ∨ t = "tuple" ∨ t = "list" ∨ t = "dict" := by simpa using h2
    have e := Option.some.inj h
    subst e
    clear h h1 h2
    rcases m1 with rfl | rfl | rfl | rfl | rfl | rfl | rfl <;> rcases m2 with rfl | rfl | rfl | rfl | rfl | rfl | rfl <;> decide +kernel
  · cases h
theorem rep_ty {B H : Hp} (e : Ex B H) {d : D} {v : V} {t : String} (r : Rep K mg B d v) (h : tyD d = some t) : TyX K H v (.type t) := by
  cases d with
  | non => cases h; rw [rep_non r]; exact .base .non
  | bl b => cases h; rw [rep_bl r]; exact .base (.bl _)
  | int b => cases h; rw [rep_int r]; exact .base (.int _)
  | str b => cases h; rw [rep_str r]; exact .base (.str _)
  | tup xs =>
    cases h
    obtain ⟨a, vs, rfl, h1, _⟩ := rep_tup r
    rcases e.t h1 with (h | ⟨o, h⟩) | ⟨o, _, _, h, hc, _⟩
    · exact .base (.tup h)
    · exact .fTuple h
    · exact .kTuple h hc
  | lst xs =>
    cases h
    obtain ⟨a, vs, rfl, h1, _⟩ := rep_lst r
    rcases e.l h1 with (h | ⟨o, h⟩) | ⟨o, _, _, h, hc, _⟩
    · exact .base (.lst h)
    · exact .base (.frz h)
    · exact .kList h hc
  | dct ks xs =>
    cases h
    unfold Rep at r
    obtain ⟨a, vs, rfl, h1, _⟩ := r
    rcases e.r h1 with h | ⟨o, h⟩
    · exact .base (.dK h)
    · exact .fDict h
  | ins c ks xs => cases h
  | exc c => cases h
def fIsi (T : String) : D → Option D := fun d => match tyD d with
  | some t => (isiT t T).map .bl
  | none => none
end
section
variable {b : Bd} {X : Cx} {x y o : Expr} {ex ey e : E} {xs : List Expr} {as : As} {es : Es} {p : Path} {pos ppos apos : Pos} {n m : Str}
theorem me_isi {T : String} {nT : Str} {tpos : Pos} (hg : Gl X "isinstance") (hm : X.mg "isinstance" = none) (hgT : Gl X nT) (hmT : X.mg nT = none) (hvT : bootBuiltins nT = some (.type T)) (hx : ME b X x ex) (hnT : nT ≠ "__name__" := by decide) (hdT : (nT == ("__debug__" : Str)) = false := by decide)
    (hst1 : starEach [x, .Name nT tpos] X.env = (false, eval x X.env) :: starEach [.Name nT tpos] X.env := by rfl) (hst2 : starEach [.Name nT tpos] X.env = (false, eval (.Name nT tpos) X.env) :: starEach [] X.env := by rfl) (hpl : (backTo pos (starEach [.Name nT tpos] X.env)).any (·.1) = false := by rfl) :
    ME b X (.Call (.Name "isinstance" ppos) [x, .Name nT tpos] [] pos) (.op1 (fIsi T) ex) := fun W tk =>
  PE.imp (pe_callB call_isi hg hm PyProof.Rows.boot_isinstance (pa_cons (hx W tk) (pa_cons (pe_bltn hgT hmT hvT (v := .ty T) rfl hnT hdT) pa_nil hst2) hst1) (by decide) (by decide) hst1 hpl) fun σ H Q h => by
    have q := one_imp (X := X) (b := b) (ru := fun v H Q => rIsi X.K [v, .ty T] H Q) (fun B H v d1 d3 Q e r hf k => ?_) h
    · exact q
    · unfold fIsi at hf
      cases ht : tyD d1 with
      | none => rw [ht] at hf; cases hf
      | some t =>
        rw [ht] at hf
        dsimp only at hf
        cases hi : isiT t T with
        | none => rw [hi] at hf; cases hf
        | some bb =>
          rw [hi] at hf
          cases hf
          exact ⟨v, .ty T, .type t, .type T, bb, rfl, .ty T, rep_ty e r ht, kit_ty (isiT_ok hi), k _ B H (PStep.refl e) rep_bl'⟩
/-! ### max, min, abs, int -/
def fMax : List D → Option D
  | [.int i, .int j] => some (.int (if j > i then j else i))
  | _ => none
def fMin : List D → Option D
  | [.int i, .int j] => some (.int (if j < i then j else i))
  | _ => none
def fAbs : List D → Option D
  | [.int i] => some (.int (if i < 0 then -i else i))
  | _ => none
def fInt : List D → Option D
  | [.int i] => some (.int i)
  | [.bl k] => some (.int (if k then 1 else 0))
  | _ => none
theorem imp_max {K : PySem.W.Frag} {mg : Str → Option Value} : ImpN K mg fMax (fun xs H Q => ∃ i j, xs = [.int i, .int j] ∧ Q (.int (if j > i then j else i)) H) := fun B H xs ds d3 Q e r hf k => by
  unfold fMax at hf
  split at hf
  · cases hf
    obtain ⟨v, w, rfl, r1, r2⟩ := repL2 r
    rw [rep_int r1, rep_int r2]
    exact ⟨_, _, rfl, k _ B H (PStep.refl e) rep_int'⟩
  · cases hf
theorem imp_min {K : PySem.W.Frag} {mg : Str → Option Value} : ImpN K mg fMin (fun xs H Q => ∃ i j, xs = [.int i, .int j] ∧ Q (.int (if j < i then j else i)) H) := fun B H xs ds d3 Q e r hf k => by
  unfold fMin at hf
  split at hf
  · cases hf
    obtain ⟨v, w, rfl, r1, r2⟩ := repL2 r
    rw [rep_int r1, rep_int r2]
    exact ⟨_, _, rfl, k _ B H (PStep.refl e) rep_int'⟩
  · cases hf
theorem imp_abs {K : PySem.W.Frag} {mg : Str → Option Value} : ImpN K mg fAbs (fun xs H Q => ∃ i, xs = [.int i] ∧ Q (.int (if i < 0 then -i else i)) H) := fun B H xs ds d3 Q e r hf k => by
  unfold fAbs at hf
  split at hf
  · cases hf
    obtain ⟨v, rfl, r1⟩ := repL1 r
    rw [rep_int r1]
    exact ⟨_, rfl, k _ B H (PStep.refl e) rep_int'⟩
  · cases hf
theorem imp_int {K : PySem.W.Frag} {mg : Str → Option Value} : ImpN K mg fInt (fun xs H Q => (∃ i, xs = [.int i] ∧ Q (.int i) H) ∨ ∃ k, xs = [.bl k] ∧ Q (.int (if k then 1 else 0)) H) := fun B H xs ds d3 Q e r hf k => by
  unfold fInt at hf
  split at hf
  · cases hf
    obtain ⟨v, rfl, r1⟩ := repL1 r
    rw [rep_int r1]
    exact .inl ⟨_, rfl, k _ B H (PStep.refl e) rep_int'⟩
  · cases hf
    obtain ⟨v, rfl, r1⟩ := repL1 r
    rw [rep_bl r1]
    exact .inr ⟨_, rfl, k _ B H (PStep.refl e) rep_int'⟩
  · cases hf
/-! ### list(range(a, b)) -/
instance {a b : Int} : Decidable (RgOk a b) := by unfold RgOk; infer_instance
def rgD (a b : Int) : List D := (List.range (b - a).toNat).map fun i => .int (a + (i : Nat))
def fRgL : List D → Option D
  | [.int a, .int b] => if RgOk a b then some (.lst (rgD a b)) else none
  | _ => none
theorem rgD_rep {K : PySem.W.Frag} {mg : Str → Option Value} {B : Hp} {a b : Int} : RepL K mg B (rgD a b) (rgV a b) := by
  unfold rgD rgV
  generalize List.range (b - a).toNat = l
  induction l with
  | nil => unfold RepL; rfl
  | cons i r ih =>
    show RepL K mg B (.int (a + (i : Nat)) :: _) (.int (a + (i : Nat)) :: _)
    unfold RepL
    exact ⟨_, _, rfl, rep_int', ih⟩
theorem imp_rgL {K : PySem.W.Frag} {mg : Str → Option Value} : ImpNF K mg fRgL (fun xs H Q => ∃ i j, xs = [.int i, .int j] ∧ RgOk i j ∧ ∀ q, H q = none → Q (.ref q) (upd H q (.lst (rgV i j)))) := fun B H xs ds d3 Q e r hf k => by
  unfold fRgL at hf
  split at hf
  · split at hf
    · rename_i a c ok
      cases hf
      obtain ⟨v, w, rfl, r1, r2⟩ := repL2 r
      rw [rep_int r1, rep_int r2]
      exact ⟨_, _, rfl, ok, fun q hq => k q _ hq (.inl ⟨_, _, rfl, rfl, rgD_rep⟩)⟩
    · cases hf
  · cases hf
theorem mf_rgL {p2 pos2 : Pos} (hc : X.calm = true) (hgL : Gl X "list") (hmL : X.mg "list" = none) (hg : Gl X "range") (hm : X.mg "range" = none) (hx : ME b X x ex) (hy : ME b X y ey)
    (na : starEach [.Call (.Name "range" p2) [x, y] [] pos2] X.env = (false, eval (.Call (.Name "range" p2) [x, y] [] pos2) X.env) :: starEach [] X.env := by rfl)
    (n1 : starEach [x, y] X.env = (false, eval x X.env) :: starEach [y] X.env := by rfl) (n2 : starEach [y] X.env = (false, eval y X.env) :: starEach [] X.env := by rfl) (hp : (backTo pos2 (starEach [y] X.env)).any (·.1) = false := by rfl) :
    MF b X (.Call (.Name "list" ppos) [.Call (.Name "range" p2) [x, y] [] pos2] [] pos) (.opN fRgL (.cons ex (.cons ey .nil))) := fun W tk =>
  PE.imp (pe_listRg hc hgL hmL (prg_2 hg hm (hx W tk) (hy W tk) n1 n2 hp) na) fun σ H Q h => by
    have q := es_cons (manyF_imp imp_rgL h)
    obtain ⟨π, B, μ, S, hp, s, k⟩ := q
    refine ⟨π, B, μ, S, hp, s, ?_⟩
    cases q : evalE b.C b.pin ex μ with
    | stuck => rw [q] at k; exact k
    | err c μ' => rw [q] at k; exact k
    | ok m μ' =>
      rw [q] at k
      intro v B' H' S' T s' r' d' x' u'
      obtain ⟨π2, B2, μ2, S2, hp2, s2, k2⟩ := es_cons (k v B' H' S' T s' r' d' x' u')
      refine ⟨π2, B2, μ2, S2, hp2, s2, ?_⟩
      cases q2 : evalE b.C b.pin ey μ2 with
      | stuck => rw [q2] at k2; exact k2
      | err c μ' => rw [q2] at k2; exact k2
      | ok m μ' =>
        rw [q2] at k2
        intro v2 B3 H3 S3 T3 s3 r3 d3 x3 u3
        obtain ⟨i, j, e, ok, w⟩ := es_nil (k2 v2 B3 H3 S3 T3 s3 r3 d3 x3 u3)
        cases e
        exact ⟨i, j, rfl, rfl, ok, w⟩
/-! ### name = [..] -/
theorem tE_tF {W : WX} {σ : L2.St} {H : Hp} {Q : VK} (h : b.tE X e W σ H Q) : b.tF X e W σ H Q := by
  obtain ⟨π, B, μ, S, hp, s, k⟩ := h
  refine ⟨π, B, μ, S, hp, s, ?_⟩
  cases q : evalE b.C b.pin e μ with
  | stuck => rw [q] at k; exact k
  | err c μ' => rw [q] at k; exact k
  | ok m μ' =>
    rw [q] at k
    cases m with
    | dat d =>
      intro p o B' H' S' s' x' u' hp' fr
      have ps := PStep.new s'.sub o hp'
      exact k (.ref p) _ _ S' (fun _ => False) (s'.pure ps) (repM_dat.mpr ⟨fr.rep ps.ex upd_same, fun _ z => z⟩) (fun _ z => z.elim) (x'.trans ((ps.step S').weak (fun _ z => z) fun _ z => z.elim id False.elim)) fun q => (u' q).trans ps.ext
    | _ => trivial
/-- owned at once: the same as me_own's -/
theorem tE_own {W : WX} {σ : L2.St} {H : Hp} {Q : VK} (h : b.tE X (.own e) W σ H Q) : b.tF X e W σ H Q := by
  obtain ⟨π, B, μ, S, hp, s, k⟩ := h
  refine ⟨π, B, μ, S, hp, s, ?_⟩
  unfold evalE at k
  cases q : evalE b.C b.pin e μ with
  | stuck => rw [q] at k; exact k
  | err c μ' => rw [q] at k; exact k
  | ok m μ' =>
    rw [q] at k
    cases m with
    | dat d =>
      intro p o B' H' S' s' x' u' hp' fr
      have bp : B' p = none := s'.sub.none hp'
      have nS : ∀ a, a = p → ¬ S' a := fun a e q => by rw [e] at q; exact (s'.owned p q).1 hp'
      have y : Step B H S B' (upd H' p o) fun a => S' a ∨ a = p := x'.trans (Step.new hp')
      rcases fr with ⟨ds, vs, rfl, rfl, r⟩ | ⟨ks, ds, vs, rfl, rfl, l, r⟩
      · refine k (.ref p) B' _ S' (fun a => a = p) (s'.new hp') ?_ nS y fun q => nomatch q
        show RepM X.K X.mg B' _ (.lst (ds.map .dat)) _ _
        unfold RepM
        exact ⟨p, vs, fun _ => False, rfl, upd_same, bp, repMs_dats r, fun z => z, fun b => ⟨.inl, fun z => z.elim id False.elim⟩⟩
      · refine k (.ref p) B' _ S' (fun a => a = p) (s'.new hp') ?_ nS y fun q => nomatch q
        show RepM X.K X.mg B' _ (.dct ks (ds.map .dat)) _ _
        unfold RepM
        exact ⟨p, vs, fun _ => False, rfl, ⟨upd_same, l⟩, bp, repMs_dats r, fun z => z, fun b => ⟨.inl, fun z => z.elim id False.elim⟩⟩
    | _ => trivial
theorem tG_gName {i : Nat} {v : V} {σ : L2.St} {H : Hp} {Q : L2.St → Hp → Prop} (h : tG X.K X.mg b.pin (.one i) v σ H Q) : gName i v σ H Q := by
  obtain ⟨π, B, μ, S, T, m, hp, np, s, r, d, μ', e, k⟩ := h
  have e : (if i < μ.length then some (μ.set i (some m)) else none) = some μ' := e
  split at e
  · rename_i hl
    cases e
    obtain ⟨S', s', hS⟩ := s.fill hl r d fun p hp' q => np i (by simp [Tg.slots]) (by rw [← q]; exact hp p hp')
    exact k _ S' s' hS fun j hj => List.getElem?_set_ne fun e => hj (by simp [Tg.slots, e])
  · cases e
section
variable {elt tg iter : Expr} {ifs : List Expr} {scope : Scope} {own : List (Str × Nat)} {spos py : Pos} {t : Tg} {f : List D → Option (List D)} {src : Es} {c : E} {i : Nat} {yn : Str}
theorem tAsg_mono {te te' : TE} {g g' : TG} {D : Ends} {σ : L2.St} {H : Hp} (h : tAsg te g D σ H) (k : ∀ σ H Q Q', (∀ v H, Q v H → Q' v H) → te σ H Q → te' σ H Q') (kg : ∀ v σ H Q, g v σ H Q → g' v σ H Q) : tAsg te' g' D σ H :=
  k σ H _ _ (fun v H' q => kg v σ H' _ q) h
theorem ms_setLc (hc : X.calm = true) (hN : X.N.Nodup) (hy : X.N[i]? = some yn) (hyl : X.env.scope.names.lookup yn = some .local)
    (hsw : swapsWith (.ListComp elt [⟨tg, iter, ifs, 0⟩] scope pos) (some (.Name yn py)) spos.line X.env = pure true) (hi : MI b X tg iter f src) (ok : BlkOk X.N X.env.scope scope own)
    (hg : ∀ (s : Shared) (H : Hp) (C : Addr) (cl : List (Str × Addr)) (fp : List Addr), MG b (X.blk s H scope (compEnvC scope cl C X.env) fp) tg t)
    (ht : ∀ (s : Shared) (H : Hp) (C : Addr) (cl : List (Str × Addr)) (fp : List Addr), MTs b (X.blk s H scope (compEnvC scope cl C X.env) fp) ifs c)
    (he : ∀ (s : Shared) (H : Hp) (C : Addr) (cl : List (Str × Addr)) (fp : List Addr), ME b (X.blk s H scope (compEnvC scope cl C X.env) fp) elt e)
    (ow : Bool) (hs : ∀ x, foldedSetIterable iter X.env x = pure x := by intro _; rfl) :
    MS b X (.Assign [.Name yn py] (.ListComp elt [⟨tg, iter, ifs, 0⟩] scope pos) spos) (.set (.one i) (if ow = true then .own (.comp false (own.map (·.2)) t f src c e) else .comp false (own.map (·.2)) t f src c e)) := fun W tk =>
  PS.imp (ps_setLc (g := tG X.K X.mg b.pin t) hc hN hy hyl hsw (hi W tk) ok (fun s H C cl fp => hg s H C cl fp) (fun s H C cl fp => ht s H C cl fp _ takes0) (fun s H C cl fp => he s H C cl fp _ takes0) hs) fun D σ H h => by
    have h1 := set_imp h
    cases ow with
    | true =>
      have h2 : b.tE X (.own (.comp false (own.map (·.2)) t f src c e)) W σ H (fun x H1 => tG X.K X.mg b.pin (.one i) x σ H1 D.nx) := h1
      have h3 : b.tE X (.own (.comp false (own.map (·.2)) t f src c e)) W σ H (fun x H1 => gName i x σ H1 D.nx) := by
        obtain ⟨π, B, μ, S, hp, s, k⟩ := h2
        refine ⟨π, B, μ, S, hp, s, ?_⟩
        cases q : evalE b.C b.pin (.own (.comp false (own.map (·.2)) t f src c e)) μ with
        | stuck => rw [q] at k; exact k
        | err c μ' => rw [q] at k; exact k
        | ok m μ' => rw [q] at k; exact fun v B' H' S' T s' r' d' x' u' => tG_gName (k v B' H' S' T s' r' d' x' u')
      exact comp_imp (tE_own h3)
    | false =>
      have h2 : b.tE X (.comp false (own.map (·.2)) t f src c e) W σ H (fun x H1 => tG X.K X.mg b.pin (.one i) x σ H1 D.nx) := h1
      have h3 : b.tE X (.comp false (own.map (·.2)) t f src c e) W σ H (fun x H1 => gName i x σ H1 D.nx) := by
        obtain ⟨π, B, μ, S, hp, s, k⟩ := h2
        refine ⟨π, B, μ, S, hp, s, ?_⟩
        cases q : evalE b.C b.pin (.comp false (own.map (·.2)) t f src c e) μ with
        | stuck => rw [q] at k; exact k
        | err c μ' => rw [q] at k; exact k
        | ok m μ' => rw [q] at k; exact fun v B' H' S' T s' r' d' x' u' => tG_gName (k v B' H' S' T s' r' d' x' u')
      exact comp_imp (tE_tF h3)
end
/-! ### stores within -/
/-- an expression that is a statement, by what follows it -/
theorem expr_imp {W : WX} {D : Ends} {σ : L2.St} {H : Hp} (h : tS b X.K X.mg (.expr e) W D σ H) : b.tE X e W σ H fun _ H1 => D.nx σ H1 := by
  obtain ⟨π, B, μ, S, hp, st, h⟩ := h
  have h : PostS X.K X.mg π B H S W D (execS b.sub b.C b.pin b.N (.expr e) μ) := h
  unfold execS at h
  exact bindS hp st h fun m μ1 v B1 H1 S1 T s1 r1 d1 x1 h1 _ => h1 B1 H1 σ S1 s1 (Step.refl _ _ _)
theorem tE_mono {W : WX} {σ : L2.St} {H : Hp} {Q Q' : VK} (h : b.tE X e W σ H Q) (k : ∀ v H, Q v H → Q' v H) : b.tE X e W σ H Q' := by
  obtain ⟨π, B, μ, S, hp, s, h⟩ := h
  refine ⟨π, B, μ, S, hp, s, ?_⟩
  cases q : evalE b.C b.pin e μ with
  | stuck => rw [q] at h; exact h
  | err c μ' => rw [q] at h; exact h
  | ok m μ' => rw [q] at h; exact fun v B' H' S' T s' r' d' x' u' => k _ _ (h v B' H' S' T s' r' d' x' u')
theorem tP_mono {σ : L2.St} {H : Hp} {Q Q' : VK} (h : tP X.K X.mg b.C b.pin p σ H Q) (k : ∀ v H, Q v H → Q' v H) : tP X.K X.mg b.C b.pin p σ H Q' := by
  obtain ⟨π, B, μ, S, hp, s, pl, e, h⟩ := h
  exact ⟨π, B, μ, S, hp, s, pl, e, fun v B' H' ps hv => k _ _ (h v B' H' ps hv)⟩
theorem es_one {W : WX} {σ : L2.St} {H : Hp} {Q : List V → Hp → Prop} (h : b.tEs X (.cons e .nil) W σ H Q) : b.tE X e W σ H fun v H1 => Q [v] H1 :=
  tE_mono (es_cons h) fun v H1 q => es_nil q
/-- o.f = e -/
def setFld (n : Str) (m : M) : List Str → List M → List Str × List M
  | k :: ks, x :: xs => if k = n then (k :: ks, m :: xs) else let r := setFld n m ks xs; (k :: r.1, x :: r.2)
  | _, _ => ([n], [m])
def fSetFld (c n : Str) : M → List M → Option (M × M)
  | .ins c' ks xs, [m] => if c' = c ∧ ks.length < 1000 then let r := setFld n m ks xs; some (.ins c r.1 r.2, .dat .non) else none
  | _, _ => none
theorem setFld_ok {K : PySem.W.Frag} {mg : Str → Option Value} {B H : Hp} {n : Str} {m : M} {v : V} {U : ASet} (rm : RepM K mg B H m v U) : ∀ {ks : List Str} {xs : List M} {vs : List V} {A : ASet}, ks.length = vs.length → RepMs K mg B H xs vs A → (∀ a, U a → ¬ A a) →
    ∃ ws A', RepMs K mg B H (setFld n m ks xs).2 ws A' ∧ (setFld n m ks xs).1.length = ws.length ∧ putF n v (ks.zip vs) = (setFld n m ks xs).1.zip ws ∧ ∀ a, A' a → A a ∨ U a
  | [], xs, vs, A, l, h, d => by
    have e : vs = [] := List.eq_nil_of_length_eq_zero (by simpa using l.symm)
    subst e
    have hx : xs = [] := List.eq_nil_of_length_eq_zero (by have := repMs_len h; simpa using this)
    subst hx
    refine ⟨[v], U, ?_, rfl, rfl, fun a z => .inr z⟩
    show RepMs K mg B H [m] [v] U
    unfold RepMs RepMs
    exact ⟨v, [], U, fun _ => False, rfl, rm, ⟨rfl, fun _ z => z⟩, fun _ _ z => z, fun a => ⟨.inl, fun z => z.elim id False.elim⟩⟩
  | k :: ks, [], vs, A, l, h, d => by
    have := repMs_len h
    have e : vs = [] := List.eq_nil_of_length_eq_zero (by simpa using this.symm)
    subst e
    simp at l
  | k :: ks, x :: xs, vs, A, l, h, d => by
    unfold RepMs at h
    obtain ⟨w, r, T1, T2, rfl, h1, h2, h3, h4⟩ := h
    by_cases e : k = n
    · have e1 : setFld n m (k :: ks) (x :: xs) = (k :: ks, m :: xs) := by show (if k = n then _ else _) = _; rw [if_pos e]
      rw [e1]
      refine ⟨v :: r, fun a => U a ∨ T2 a, ?_, by simpa using l, ?_, fun a z => z.elim .inr fun z => .inl ((h4 a).mpr (.inr z))⟩
      · unfold RepMs
        exact ⟨v, r, U, T2, rfl, rm, h2, fun a z w => d a z ((h4 a).mpr (.inr w)), fun _ => Iff.rfl⟩
      · show (if k = n then (k, v) :: ks.zip r else (k, w) :: putF n v (ks.zip r)) = _
        rw [if_pos e]; rfl
    · have e1 : setFld n m (k :: ks) (x :: xs) = (k :: (setFld n m ks xs).1, x :: (setFld n m ks xs).2) := by show (if k = n then _ else _) = _; rw [if_neg e]
      rw [e1]
      obtain ⟨ws, A', k1, k2, k3, k4⟩ := setFld_ok (n := n) rm (by simpa using l) h2 fun a z w => d a z ((h4 a).mpr (.inr w))
      refine ⟨w :: ws, fun a => T1 a ∨ A' a, ?_, by simpa using k2, ?_, fun a z => z.elim (fun z => .inl ((h4 a).mpr (.inl z))) fun z => (k4 a z).imp (fun z => (h4 a).mpr (.inr z)) id⟩
      · unfold RepMs
        exact ⟨w, ws, T1, A', rfl, h1, k1, fun a z w => (k4 a w).elim (h3 a z) fun u => d a u ((h4 a).mpr (.inl z)), fun _ => Iff.rfl⟩
      · show (if k = n then _ else (k, w) :: putF n v (ks.zip r)) = _
        rw [if_neg e, k3]; rfl
theorem repMs_two {K : PySem.W.Frag} {mg : Str → Option Value} {B H : Hp} {ms : List M} {vs : List V} {U : ASet} {v : V} (h : RepMs K mg B H ms vs U) (e : vs = [v]) : ∃ m, ms = [m] ∧ RepM K mg B H m v U := by
  subst e
  have l := repMs_len h
  match ms, l with
  | [m], _ =>
    obtain ⟨w, e, r⟩ := repMs_one h
    cases e
    exact ⟨m, rfl, r⟩
theorem mut_setFld {K : PySem.W.Frag} {mg : Str → Option Value} {c : Str} {C : Addr} (hC : mg c = some (.ref C)) : MutOk K mg (fSetFld c n) fun us v vs H Q => ∀ y, us = [y] → vs = [] → ∃ a dx fs, v = .ref a ∧ H a = some (.ins C dx fs) ∧ fs.length < 1000 ∧ Q .non (upd H a (.ins C dx (putF n y fs))) := fun B H m v T ws ms us vs U0 U m' d Q e rm r0 r1 d1 d2 d3 hf k y hu hv => by
  obtain ⟨m1, rfl, ry⟩ := repMs_two r0 hu
  obtain ⟨rfl, n1⟩ := repMs_nil r1 hv
  unfold fSetFld at hf
  split at hf
  · rename_i c' ks xs m2 hws
    have em : m1 = m2 := by simpa using hws
    subst em
    split at hf
    · rename_i hh
      obtain ⟨rfl, hl⟩ := hh
      cases hf
      unfold RepM at rm
      obtain ⟨a, zs, A, rfl, ⟨⟨C', dx, hC', ho⟩, hkl⟩, hB, h4, h5, h6⟩ := rm
      rw [hC] at hC'
      cases hC'
      have nU : ∀ b, U0 b → b ≠ a := fun b z w => d2 b ((h6 b).mpr (.inl w)) z
      have nA : ∀ b, A b → b ≠ a := fun b z w => h5 (by rw [← w]; exact z)
      obtain ⟨us', A', k1, k2, k3, k4⟩ := setFld_ok (n := n) ry hkl h4 fun b z w => d2 b ((h6 b).mpr (.inr w)) z
      have own : ∀ b, A' b → b ≠ a ∧ B b = none := fun b z => (k4 b z).elim (fun z => ⟨nA b z, (h4.owned b z).2⟩) fun z => ⟨nU b z, (ry.owned b z).2⟩
      refine ⟨a, dx, _, rfl, ho, by rw [List.length_zip]; omega, ?_⟩
      rw [k3]
      refine k .non B _ (fun b => b = a ∨ A' b) (fun _ => False) ((step_upd (.inl ((h6 a).mpr (.inl rfl)))).weak (fun _ z => z) fun b z => ?_) (fun b o z => ?_) ?_ (repM_dat.mpr ⟨by unfold Rep; rfl, fun _ z => z⟩) fun _ _ z => z
      · rcases z with (z | z) | z
        · exact .inl ((h6 b).mpr (.inl z))
        · exact (k4 b z).elim (fun z => .inl ((h6 b).mpr (.inr z))) fun z => .inr (.inr z)
        · exact z.elim
      · rw [upd_ne fun w => by rw [w, hB] at z; cases z]; exact e b o z
      · unfold RepM
        exact ⟨a, us', A', rfl, ⟨⟨C, dx, hC, upd_same⟩, k2⟩, hB, k1.congr (Ex.refl B) fun b z => ⟨upd_ne (own b z).1, (own b z).2⟩, fun z => (own a z).1 rfl, fun b => Iff.rfl⟩
    · cases hf
  · cases hf
theorem ms_setFld {c : Str} {C : Addr} {pos' : Pos} (hC : X.mg c = some (.ref C)) (hc : Cls X.K C) (hn : NoAttr X.K C n) (ho : MP b X o p) (hv : ME b X x e) (hs : swapsWith x (some (.Attribute o n pos')) pos.line X.env = pure false := by rfl) :
    MS b X (.Assign [.Attribute o n pos'] x pos) (.expr (.mut 2 (fSetFld c n) (.cons e .nil) p .nil)) := fun W tk => PS.imp (ps_fld ho (hv W tk) hs) fun D σ H h => by
  have h1 := es_one (mut_ok (mut_setFld (n := n) hC) (expr_imp h))
  refine tE_mono h1 fun y H1 q => tP_mono q fun v H2 q2 => ?_
  obtain ⟨a, dx, fs, k1, k2, k3, k4⟩ := es_nil q2.2 y rfl rfl
  exact ⟨a, C, dx, fs, k1, k2, hc, hn, k3, k4⟩
/-- x[i] = e, x a list -/
def fSetIx : M → List M → Option (M × M)
  | .lst ms, [m, .dat (.int i)] => (ixN ms.length i).map fun j => (.lst (ms.set j m), .dat .non)
  | _, _ => none
theorem mut_setIx {K : PySem.W.Frag} {mg : Str → Option Value} : MutOk K mg fSetIx fun us v vs H Q => ∀ y z, us = [y] → vs = [z] → rSetL v z y H fun H' => Q .non H' := fun B H m v T ws ms us vs U0 U m' d Q e rm r0 r1 d1 d2 d3 hf k y z hu hv => by
  obtain ⟨m1, rfl, ry⟩ := repMs_two r0 hu
  obtain ⟨m2, rfl, rz⟩ := repMs_two r1 hv
  unfold fSetIx at hf
  split at hf
  · rename_i xs m3 i hws
    have em : m1 = m3 ∧ m2 = .dat (.int i) := by simpa using hws
    obtain ⟨rfl, rfl⟩ := em
    cases hj : ixN xs.length i with
    | none => rw [hj] at hf; cases hf
    | some j =>
      rw [hj] at hf
      cases hf
      have ez := rep_int (repM_dat.mp rz).1
      subst ez
      unfold RepM at rm
      obtain ⟨a, zs, A, rfl, ho, hB, h4, h5, h6⟩ := rm
      have hl := repMs_len h4
      have hjl : j < xs.length := (ixN_seq hj).2.1
      refine ⟨a, zs, i, j, rfl, rfl, ho, by rw [← hl]; exact hj, ?_⟩
      obtain ⟨w, Ti, k1, k2, k3, k4⟩ := h4.at (i := j) (m := xs[j]) (by simp [hjl])
      have nU : ∀ b, U0 b → b ≠ a := fun b z w => d2 b ((h6 b).mpr (.inl w)) z
      have nA : ∀ b, A b → b ≠ a := fun b z w => h5 (by rw [← w]; exact z)
      obtain ⟨Tn, q1, q2⟩ := k4 B (upd H a (.lst (zs.set j y))) m1 y U0 (Ex.refl B) (fun b z n => ⟨upd_ne (nA b z), (h4.owned b z).2⟩) (ry.congr (Ex.refl B) fun b z => ⟨upd_ne (nU b z), (ry.owned b z).2⟩) fun b z w => absurd z (d2 b ((h6 b).mpr (.inr w)))
      have own : ∀ b, Tn b → b ≠ a := fun b z => ((q2 b).mp z).elim (fun z => nA b z.1) (nU b)
      refine k .non B _ (fun b => b = a ∨ Tn b) (fun _ => False) ((step_upd (.inl ((h6 a).mpr (.inl rfl)))).weak (fun _ z => z) fun b z => ?_) (fun b o z => ?_) ?_ (repM_dat.mpr ⟨by unfold Rep; rfl, fun _ z => z⟩) fun _ _ z => z
      · rcases z with (z | z) | z
        · exact .inl ((h6 b).mpr (.inl z))
        · exact ((q2 b).mp z).elim (fun z => .inl ((h6 b).mpr (.inr z.1))) fun z => .inr (.inr z)
        · exact z.elim
      · rw [upd_ne fun w => by rw [w, hB] at z; cases z]; exact e b o z
      · unfold RepM
        exact ⟨a, zs.set j y, Tn, rfl, upd_same, hB, q1, fun z => own a z rfl, fun b => Iff.rfl⟩
  · cases hf
theorem ms_setIx {tpos : Pos} (ho : MP b X o p) (hi : ME b X y ey) (hv : ME b X x e) (hs : swapsWithSole [.Subscript o y tpos] x pos.line X.env = pure false := by rfl) (hw : swappedStores [.Subscript o y tpos] x X.env = pure none := by rfl)
    (h1 : (assignEach [.Subscript o y tpos] X.env).map (·.2) = [assign (.Subscript o y tpos) X.env] := by rfl)
    (ha : ∀ v, assign (.Subscript o y tpos) X.env v = (do
      let ov ← holding [v] (eval o X.env)
      let iv ← holding [v, ov] (eval y X.env)
      standAt tpos
      holding [v, ov, iv] (setItem ov iv v)
      release [v, ov, iv] []) := by intro _; rfl) :
    MS b X (.Assign [.Subscript o y tpos] x pos) (.expr (.mut 0 fSetIx (.cons e .nil) p (.cons ey .nil))) := fun W tk => PS.imp (ps_asg (hv W tk) (pg_sub ho (hi W tk) set_list ha) hs hw h1) fun D σ H h => by
  have h1 := es_one (mut_ok mut_setIx (expr_imp h))
  refine tE_mono h1 fun y H1 q => tP_mono q fun v H2 q2 => ?_
  exact tE_mono (es_one q2.2) fun z H3 q3 => q3 y z rfl rfl
/-- x.pop() -/
def fPop : M → List M → Option (M × M)
  | .lst ms, [] => (ms[ms.length - 1]?).map fun m => (.lst ms.dropLast, m)
  | _, _ => none
theorem repMs_last {K : PySem.W.Frag} {mg : Str → Option Value} {B H : Hp} : ∀ {ms : List M} {vs : List V} {T : ASet} {m : M}, RepMs K mg B H ms vs T → ms[ms.length - 1]? = some m → ∃ v T1 T2, vs[vs.length - 1]? = some v ∧ RepMs K mg B H ms.dropLast vs.dropLast T1 ∧ RepM K mg B H m v T2 ∧ (∀ a, T1 a → ¬ T2 a) ∧ ∀ a, T a ↔ T1 a ∨ T2 a
  | [], vs, T, m, h, e => by simp at e
  | [m0], vs, T, m, h, e => by
    have e' : m0 = m := by simpa using e
    subst e'
    obtain ⟨v, rfl, r⟩ := repMs_one h
    exact ⟨v, fun _ => False, T, rfl, by show RepMs K mg B H [] [] _; unfold RepMs; exact ⟨rfl, fun _ z => z⟩, r, fun _ z => z.elim, fun a => ⟨.inr, fun z => z.elim False.elim id⟩⟩
  | m0 :: m1 :: ms, vs, T, m, h, e => by
    have h' := h
    unfold RepMs at h'
    obtain ⟨v, r, T1, T2, rfl, h1, h2, h3, h4⟩ := h'
    have l := repMs_len h2
    obtain ⟨w, U1, U2, k1, k2, k3, k4, k5⟩ := repMs_last h2 (by simpa using e)
    match r, l with
    | w0 :: ws, _ =>
      refine ⟨w, fun a => T1 a ∨ U1 a, U2, by simpa using k1, ?_, k3, fun a z u => z.elim (fun z => h3 a z ((k5 a).mpr (.inr u))) fun z => k4 a z u, fun a => ?_⟩
      · show RepMs K mg B H (m0 :: (m1 :: ms).dropLast) (v :: (w0 :: ws).dropLast) _
        unfold RepMs
        exact ⟨v, _, T1, U1, rfl, h1, k2, fun a z u => h3 a z ((k5 a).mpr (.inl u)), fun _ => Iff.rfl⟩
      · rw [h4, k5]
        exact ⟨fun z => z.elim (fun z => .inl (.inl z)) fun z => z.elim (fun z => .inl (.inr z)) .inr, fun z => z.elim (fun z => z.elim .inl fun z => .inr (.inl z)) fun z => .inr (.inr z)⟩
theorem mut_pop {K : PySem.W.Frag} {mg : Str → Option Value} : MutOk K mg fPop fun us v vs H Q => us = [] → vs = [] → rPop v vs H Q := fun B H m v T ws ms us vs U0 U m' d Q e rm r0 r1 d1 d2 d3 hf k hu hv => by
  obtain ⟨rfl, n0⟩ := repMs_nil r0 hu
  obtain ⟨rfl, n1⟩ := repMs_nil r1 hv
  unfold fPop at hf
  split at hf
  · rename_i xs _
    cases q : xs[xs.length - 1]? with
    | none => rw [q] at hf; cases hf
    | some mm =>
      rw [q] at hf
      cases hf
      unfold RepM at rm
      obtain ⟨a, zs, A, rfl, ho, hB, h4, h5, h6⟩ := rm
      obtain ⟨w, T1, T2, k1, k2, k3, k4, k5⟩ := repMs_last h4 q
      have nA : ∀ b, A b → b ≠ a := fun b z w => h5 (by rw [← w]; exact z)
      have i1 : ∀ b, T1 b → A b := fun b z => (k5 b).mpr (.inl z)
      have i2 : ∀ b, T2 b → A b := fun b z => (k5 b).mpr (.inr z)
      refine ⟨a, zs, w, rfl, hv, ho, k1, ?_⟩
      refine k w B _ (fun b => b = a ∨ T1 b) T2 ((step_upd (.inl ((h6 a).mpr (.inl rfl)))).weak (fun _ z => z) fun b z => ?_) (fun b o z => ?_) ?_ (k3.congr (Ex.refl B) fun b z => ⟨upd_ne (nA b (i2 b z)), (h4.owned b (i2 b z)).2⟩) fun b z u => z.elim (fun z => nA b (i2 b u) z) fun z => k4 b z u
      · rcases z with (z | z) | z
        · exact .inl ((h6 b).mpr (.inl z))
        · exact .inl ((h6 b).mpr (.inr (i1 b z)))
        · exact .inl ((h6 b).mpr (.inr (i2 b z)))
      · rw [upd_ne fun w => by rw [w, hB] at z; cases z]; exact e b o z
      · unfold RepM
        exact ⟨a, zs.dropLast, T1, rfl, upd_same, hB, k2.congr (Ex.refl B) fun b z => ⟨upd_ne (nA b (i1 b z)), (h4.owned b (i1 b z)).2⟩, fun z => nA a (i1 a z) rfl, fun b => Iff.rfl⟩
  · cases hf
/-- x.extend(data list) -/
def fExtend : M → List M → Option (M × M)
  | .lst ms, [.dat (.lst ds)] => if ms.length + ds.length ≤ sizeLine then some (.lst (ms ++ ds.map .dat), .dat .non) else none
  | _, _ => none
end
end Mi
/-! Mi15: short words for printed derivations; a law's end. -/
namespace Mi
open PySem L2
section
variable {K : PySem.W.Frag} {mg : Str → Option Value}
def fAddX : D → D → Option D
  | .lst xs, .lst ys => fAddL (.lst xs) (.lst ys)
  | x, y => fAdd x y
def rAddX (K : PySem.W.Frag) : R2 := fun x y H Q => rAdd K x y H Q ∨ rCatL K x y H Q
theorem op_addX {X : Cx} : OpR X (binaryOp .Add) (rAddX X.K) := op_addD.or op_catL
theorem imp_addX : Imp2 K mg fAddX (rAddX K) := fun B H x y d1 d2 d3 Q e r1 r2 hf k => by
  unfold fAddX at hf
  split at hf
  · exact .inr (imp_addL.imp B H x y _ _ d3 Q e r1 r2 hf k)
  · exact .inl (imp_add B H x y _ _ d3 Q e r1 r2 hf k)
end
section
variable {b : Bd} {X : Cx} {x y : Expr} {ex ey e : E} {n : Str} {pos : Pos}
theorem mv (i : Nat) (hN : X.N[i]? = some n := by rfl) (hv : Vis X.env.scope n := by first | exact Or.inl rfl | exact Or.inr (Or.inl rfl) | exact Or.inr (Or.inr rfl)) (hd : (n == ("__debug__" : Str)) = false := by decide) (hcd : (n == ("__classdict__" : Str)) = false := by decide) : ME b X (.Name n pos) (.var i) := me_var hN hv hd hcd
theorem mm (i : Nat) (hN : X.N[i]? = some n := by rfl) (hv : Vis X.env.scope n := by first | exact Or.inl rfl | exact Or.inr (Or.inl rfl) | exact Or.inr (Or.inr rfl)) (hd : (n == ("__debug__" : Str)) = false := by decide) (hcd : (n == ("__classdict__" : Str)) = false := by decide) : ME b X (.Name n pos) (.mov i) := me_mov hN hv hd hcd
theorem mr (i : Nat) (hN : X.N[i]? = some n := by rfl) (hv : Vis X.env.scope n := by first | exact Or.inl rfl | exact Or.inr (Or.inl rfl) | exact Or.inr (Or.inr rfl)) (hd : (n == ("__debug__" : Str)) = false := by decide) (hcd : (n == ("__classdict__" : Str)) = false := by decide) : MP b X (.Name n pos) (.root i) := mp_root hN hv hd hcd
theorem dv (i : Nat) (hN : X.N[i]? = some n := by rfl) (hv : Vis X.env.scope n := by first | exact Or.inl rfl | exact Or.inr (Or.inl rfl) | exact Or.inr (Or.inr rfl)) (hd : (n == ("__debug__" : Str)) = false := by decide) (hcd : (n == ("__classdict__" : Str)) = false := by decide) : MD b X (.Name n pos) (.var i) := md_var hN hv hd hcd
theorem gn (i : Nat) (hN : X.N.Nodup) (hi : X.N[i]? = some n := by rfl) (hx : Loc X.env.scope n := by first | exact Or.inl rfl | exact Or.inr rfl) (hf : X.fn n = true ∨ X.env.scope.names.lookup n = some .local := by first | exact .inl rfl | exact .inr rfl) : MG b X (.Name n pos) (.one i) := mg_name hN hi hx hf
end
/-- what a law promises: True for a list of at most 63 ints -/
def spLaw (K : PySem.W.Frag) : Sp := fun vs H Q _ => ∃ (a : Addr) (ns : List Int), vs = [.ref a] ∧ SqL K H a (ns.map V.int) ∧ ns.length ≤ 63 ∧ ∀ H', Q (.bl true) H'
theorem repL_ints {K : PySem.W.Frag} {mg : Str → Option Value} {B : Hp} : ∀ ns : List Int, RepL K mg B (ns.map .int) (ns.map V.int)
  | [] => by unfold RepL; rfl
  | n :: r => by
    show RepL K mg B (.int n :: r.map .int) (.int n :: r.map V.int)
    unfold RepL
    exact ⟨_, _, rfl, rep_int', repL_ints r⟩
theorem law_end {P : Program} {w : World} {K : PySem.W.Frag} {mg : Str → Option Value} {base : Heap} {CX : CXT} {k : Nat} {f : Addr} {fd : FuncData} {ps : List Str} {cf : List M → CR} (F : FnOk P w K mg base CX k f fd ps (spF K mg cf))
    (h : ∀ ns : List Int, ns.length ≤ 63 → ∃ outs, cf [.dat (.lst (ns.map .int))] = .ok (.dat (.bl true)) outs) : FnOk P w K mg base CX k f fd ps (spLaw K) :=
  F.imp fun vs H Q E ⟨a, ns, e, hS, hl, q⟩ => by
    subst e
    obtain ⟨outs, ho⟩ := h ns hl
    refine ⟨H, fun _ => False, [.dat (.lst (ns.map .int))], Ex.refl H, ?_, ?_⟩
    · unfold RepMs RepMs
      refine ⟨.ref a, [], fun _ => False, fun _ => False, rfl, repM_dat.mpr ⟨?_, fun _ z => z⟩, ⟨rfl, fun _ z => z⟩, fun _ z => z.elim, fun _ => ⟨fun z => z.elim, fun z => z.elim id id⟩⟩
      unfold Rep
      exact ⟨a, _, rfl, hS, repL_ints ns⟩
    · rw [ho]
      intro v B' H' So T _ _ r _ _
      rw [rep_bl (repM_dat.mp r).1]
      exact q H'
/-! ### small things -/
abbrev bigN : Nat := 1000000
theorem cx_none {P : Program} (w : World) (H : Hp) (s : Shared) (e : Value) (s' : Shared) (h : L2.CX P w [] H s (fun _ _ _ => False) e s') : False := by
  obtain ⟨_, _, _, _, _, _, _, _, _, _, _, _, z⟩ := h
  exact z
theorem fn_stuck {P : Program} {w : World} {K : PySem.W.Frag} {mg : Str → Option Value} {base : Heap} {k : Nat} {f : Addr} {fd : FuncData} {ps : List Str} {cf : List M → CR} (hcf : ∀ ms, cf ms = .stuck) : FnOk P w K mg base (L2.CX P w) k f fd ps (spF K mg cf) := by
  have no : ∀ vs H Q E, ¬ spF K mg cf vs H Q E := fun vs H Q E h => by
    obtain ⟨_, _, ms, _, _, h⟩ := h
    rw [hcf ms] at h
    exact h
  exact ⟨fun vs H Q E h => absurd h (no vs H Q E), fun A outer s H args us vs Q E _ _ _ _ h => absurd h (no vs H Q E)⟩
theorem bt_len : bootBuiltins "len" = some (.builtin "len") := by decide +kernel
theorem bt_sum : bootBuiltins "sum" = some (.builtin "sum") := by decide +kernel
theorem bt_max : bootBuiltins "max" = some (.builtin "max") := by decide +kernel
theorem bt_min : bootBuiltins "min" = some (.builtin "min") := by decide +kernel
theorem bt_abs : bootBuiltins "abs" = some (.builtin "abs") := by decide +kernel
theorem bt_list : bootBuiltins "list" = some (.type "list") := by decide +kernel
theorem bt_tuple : bootBuiltins "tuple" = some (.type "tuple") := by decide +kernel
theorem bt_dict : bootBuiltins "dict" = some (.type "dict") := by decide +kernel
theorem bt_int : bootBuiltins "int" = some (.type "int") := by decide +kernel
theorem bt_str : bootBuiltins "str" = some (.type "str") := by decide +kernel
theorem bt_bool : bootBuiltins "bool" = some (.type "bool") := by decide +kernel
section
variable {K : PySem.W.Frag} {mg : Str → Option Value}
def fAddI : D → D → Option D := fInt2 fun i j => some (.int (i + j))
theorem imp_addI : Imp2 K mg fAddI (rI0 fun i j => .int (i + j)) := fun B H x y d1 d2 d3 Q e r1 r2 hf k => by
  unfold fAddI fInt2 at hf
  split at hf
  · cases hf
    rw [rep_int r1, rep_int r2]
    exact ⟨_, _, rfl, rfl, k _ B H (PStep.refl e) rep_int'⟩
  · cases hf
end
end Mi
/-! Mi16: what operations come to on such data: for the plain law. -/
namespace Mi
open PySem L2
theorem fSub_i (i j : Int) : fSub (.int i) (.int j) = some (.int (i - j)) := rfl
theorem fAddI_i (i j : Int) : fAddI (.int i) (.int j) = some (.int (i + j)) := rfl
theorem fAddX_i (i j : Int) : fAddX (.int i) (.int j) = some (.int (i + j)) := rfl
theorem fLt_i (i j : Int) : fLt (.int i) (.int j) = some (.bl (decide (i < j))) := rfl
theorem fLe_i (i j : Int) : fLe (.int i) (.int j) = some (.bl (decide (i ≤ j))) := rfl
theorem fGt_i (i j : Int) : fGt (.int i) (.int j) = some (.bl (decide (j < i))) := rfl
theorem fGe_i (i j : Int) : fGe (.int i) (.int j) = some (.bl (decide (j ≤ i))) := rfl
theorem fEq_i (i j : Int) : fEq (.int i) (.int j) = some (.bl (decide (i = j))) := rfl
theorem fEq_s (i j : Str) : fEq (.str i) (.str j) = some (.bl (decide (i = j))) := rfl
theorem fEq_b (i j : Bool) : fEq (.bl i) (.bl j) = some (.bl (decide (i = j))) := rfl
theorem fNe_i (i j : Int) : fNe (.int i) (.int j) = some (.bl (!decide (i = j))) := rfl
theorem fNe_s (i j : Str) : fNe (.str i) (.str j) = some (.bl (!decide (i = j))) := rfl
theorem fNe_b (i j : Bool) : fNe (.bl i) (.bl j) = some (.bl (!decide (i = j))) := rfl
theorem fNot_b (i : Bool) : fNot (.bl i) = some (.bl (!i)) := rfl
theorem fNeg_i (i : Int) : fNeg (.int i) = some (.int (-i)) := rfl
theorem fIx_l (xs : List D) (i : Int) : fIx (.lst xs) (.int i) = atI xs i := rfl
theorem fIx_t (xs : List D) (i : Int) : fIx (.tup xs) (.int i) = atI xs i := rfl
theorem fLen_l (xs : List D) : fLen [.lst xs] = some (.int xs.length) := rfl
theorem fLen_t (xs : List D) : fLen [.tup xs] = some (.int xs.length) := rfl
theorem fMax_i (i j : Int) : fMax [.int i, .int j] = some (.int (if j > i then j else i)) := rfl
theorem fMin_i (i j : Int) : fMin [.int i, .int j] = some (.int (if j < i then j else i)) := rfl
theorem fMul_r {i j : Int} (h1 : -(2 ^ 64) < j) (h2 : j < 2 ^ 64) : fMul (.int i) (.int j) = some (.int (i * j)) := by
  show (if CMul i j ∨ CMulW i j then some (D.int (i * j)) else none) = _
  rw [if_pos (.inl (.inr ⟨h1, h2⟩))]
theorem fMul_l {i j : Int} (h1 : -(2 ^ 64) < i) (h2 : i < 2 ^ 64) : fMul (.int i) (.int j) = some (.int (i * j)) := by
  show (if CMul i j ∨ CMulW i j then some (D.int (i * j)) else none) = _
  rw [if_pos (.inl (.inl ⟨h1, h2⟩))]
theorem fMod_p {i j : Int} (h1 : 0 < j) : fMod (.int i) (.int j) = some (.int (i % j)) := by
  show (if 0 < j then some (D.int (i % j)) else none) = _
  rw [if_pos h1]
theorem log2_64 {j : Int} (h0 : 0 < j) (h : j < 2 ^ 64) : j.natAbs.log2 < 9000 := by
  have h2 : j.natAbs < 2 ^ 64 := by omega
  have h3 : j.natAbs ≠ 0 := by omega
  have := (Nat.log2_lt h3).mpr h2
  omega
theorem fDivW_p {i j : Int} (h1 : 0 < j) (h2 : j < 2 ^ 64) : fDivW (.int i) (.int j) = some (.int (i / j)) := by
  show (if CDivW i j then some (D.int (i / j)) else none) = _
  rw [if_pos ⟨h1, log2_64 h1 h2⟩]
theorem fIsi_int_i (i : Int) : fIsi "int" (.int i) = some (.bl true) := rfl
theorem fIsi_bool_i (i : Int) : fIsi "bool" (.int i) = some (.bl false) := rfl
theorem fIsi_bool_b (i : Bool) : fIsi "bool" (.bl i) = some (.bl true) := rfl
/-- what a loop does, kept by each turn -/
theorem forLoop_inv {t : Tg} {b : Env → Res} (Pv : Nat → Env → Prop) : ∀ {ds : List D} {i : Nat} {μ : Env}, Pv i μ → (∀ j d μ, ds[j]? = some d → Pv (i + j) μ → ∃ μ1 μ2, setTg t (.dat d) μ = some μ1 ∧ (b μ1 = .nx μ2 ∨ b μ1 = .cont μ2) ∧ Pv (i + j + 1) μ2) → ∃ μ', forLoop t b ds μ = .nx μ' ∧ Pv (i + ds.length) μ'
  | [], i, μ, h, _ => ⟨μ, rfl, h⟩
  | d :: ds, i, μ, h, k => by
    obtain ⟨μ1, μ2, e1, e2, e3⟩ := k 0 d μ rfl h
    obtain ⟨μ', r1, r2⟩ := forLoop_inv (ds := ds) (i := i + 1) (μ := μ2) Pv e3 fun j d' μ' hd hp => by
      have := k (j + 1) d' μ' (by simpa using hd) (by rw [show i + (j + 1) = i + 1 + j by omega]; exact hp)
      rw [show i + (j + 1) + 1 = i + 1 + j + 1 by omega] at this
      exact this
    refine ⟨μ', ?_, by rw [show i + (d :: ds).length = i + 1 + ds.length by simp; omega]; exact r2⟩
    unfold forLoop
    rw [e1]
    rcases e2 with e2 | e2 <;> (dsimp only; rw [e2]; exact r1)
theorem whLoop_t {c : Env → Out M} {b : Env → Res} {n : Nat} {μ μ1 μ2 : Env} (h : c μ = .ok (.dat (.bl true)) μ1) (h2 : b μ1 = .nx μ2) : whLoop c b (n + 1) μ = whLoop c b n μ2 := by
  show ((c μ).res _) = _
  rw [h]
  dsimp only [Out.res]
  rw [h2]
theorem whLoop_f {c : Env → Out M} {b : Env → Res} {n : Nat} {μ μ1 : Env} (h : c μ = .ok (.dat (.bl false)) μ1) : whLoop c b (n + 1) μ = .nx μ1 := by
  show ((c μ).res _) = _
  rw [h]
  rfl
theorem ixN_n {n j : Nat} (hj : j < n) : ixN n (j : Int) = some j := by
  unfold ixN
  rw [if_pos (Int.natCast_nonneg j), if_pos (by omega)]
  rfl
theorem fMax_n (a b : Nat) : fMax [.int (a : Int), .int (b : Int)] = some (.int ((max a b : Nat) : Int)) := by
  rw [fMax_i]
  by_cases e : (b : Int) > a
  · rw [if_pos e]; congr 2; omega
  · rw [if_neg e]; congr 2; omega
theorem fMin_n (a b : Nat) : fMin [.int (a : Int), .int (b : Int)] = some (.int ((min a b : Nat) : Int)) := by
  rw [fMin_i]
  by_cases e : (b : Int) < a
  · rw [if_pos e]; congr 2; omega
  · rw [if_neg e]; congr 2; omega
theorem fRange1_n {n : Nat} (h : (n : Int) < 2 ^ 62) : fRange1 [.int (n : Int)] = some ((List.range n).map fun i => .int (0 + (i : Nat))) := by
  unfold fRange1
  dsimp only
  rw [if_pos ⟨by omega, h⟩, Int.toNat_natCast]
theorem rg1 : List.range 1 = [0] := rfl
theorem rg2 : List.range 2 = [0, 1] := rfl
theorem rg3 : List.range 3 = [0, 1, 2] := rfl
theorem rg4 : List.range 4 = [0, 1, 2, 3] := rfl
theorem rg5 : List.range 5 = [0, 1, 2, 3, 4] := rfl
section
variable {sub : Str → Str → Bool} {C : Nat → List M → Mi.CR} {pin : List Nat} {N : Nat} {st : S} {r : Ss} {μ μ1 : Mi.Env} {m : M}
theorem ex_nx (h : execS sub C pin N st μ = .nx μ1) : execSs sub C pin N (.cons st r) μ = execSs sub C pin N r μ1 := by
  show (match execS sub C pin N st μ with | .nx μ1 => execSs sub C pin N r μ1 | q => q) = _
  rw [h]
theorem ex_for {t : Tg} {f : List D → Option (List D)} {src : Es} {b : Ss} {ms : List M} {ds xs : List D} {R : Mi.Res} (hp : (t.slots.all fun i => !pin.contains i) = true) (h1 : evalEs C pin src μ = .ok ms μ1) (h2 : datsOf ms = some ds) (h3 : f ds = some xs) (h4 : forLoop t (execSs sub C pin N b) xs μ1 = R) : execS sub C pin N (.for_ t f src b) μ = R := by
  show (if (t.slots.all fun i => !pin.contains i) = true then _ else _) = _
  rw [if_pos hp, h1]
  dsimp only [Out.res]
  rw [h2]
  dsimp only
  rw [h3]
  exact h4
theorem ex_wh {c : E} {b : Ss} {R : Mi.Res} (h : whLoop (evalE C pin c) (execSs sub C pin N b) N μ = R) : execS sub C pin N (.wh c b) μ = R := h
theorem ex_ret (h : execS sub C pin N st μ = .ret m μ1) : execSs sub C pin N (.cons st r) μ = .ret m μ1 := by
  show (match execS sub C pin N st μ with | .nx μ1 => execSs sub C pin N r μ1 | q => q) = _
  rw [h]
end
end Mi
/-! Mi17: dicts. -/
namespace Mi
open PySem L2
def keyD : D → Option Key
  | .int i => some (.inl i)
  | .str s => some (.inr s)
  | _ => none
def keyToD : Key → D
  | .inl i => .int i
  | .inr s => .str s
section
variable {K : PySem.W.Frag} {mg : Str → Option Value}
theorem key_rep {B : Hp} {d : D} {v : V} {k : Key} (h : keyD d = some k) (r : Rep K mg B d v) : v = kV k := by
  cases d with
  | int i => cases h; exact rep_int r
  | str s => cases h; exact rep_str r
  | _ => cases h
theorem key_rep' {B : Hp} (k : Key) : Rep K mg B (keyToD k) (kV k) := by
  cases k with
  | inl i => exact rep_int'
  | inr s => exact rep_str'
theorem rep_dct {B : Hp} {ks : List Key} {xs : List D} {v : V} (h : Rep K mg B (.dct ks xs) v) : ∃ a vs, v = .ref a ∧ Rd B a (.dK (ks.zip vs)) ∧ ks.length = vs.length ∧ RepL K mg B xs vs := by unfold Rep at h; exact h
theorem zip_valV {k : Key} : ∀ {ks : List Key} {vs : List V} {j : Nat}, keyIx ks k = some j → ks.length = vs.length → ∃ v, vs[j]? = some v ∧ valV (ks.zip vs) k = some v
  | [], vs, j, h, _ => by simp [keyIx] at h
  | k0 :: ks, [], j, h, l => by simp at l
  | k0 :: ks, v :: vs, j, h, l => by
    unfold keyIx at h
    rw [List.findIdx?_cons] at h
    by_cases e : k0 = k
    · simp [e] at h
      subst h
      exact ⟨v, rfl, valV_pos e⟩
    · simp [e] at h
      obtain ⟨i, h1, rfl⟩ := h
      obtain ⟨w, e1, e2⟩ := zip_valV (ks := ks) (vs := vs) (j := i) (k := k) (by unfold keyIx; exact h1) (by simpa using l)
      exact ⟨w, by simpa using e1, (valV_neg (p := (k0, v)) e).trans e2⟩
/-- d[k] -/
def fIxD : D → D → Option D
  | .dct ks xs, d => (keyD d).bind fun k => (keyIx ks k).bind fun j => xs[j]?
  | _, _ => none
theorem imp_ixD : Imp2 K mg fIxD (fun x y H Q => ∃ a v, x = .ref a ∧ DGet H a y (some v) ∧ Q v H) := fun B H x y d1 d2 d3 Q e r1 r2 hf k => by
  cases d1 with
  | dct ks xs =>
    have hf : ((keyD d2).bind fun k => (keyIx ks k).bind fun j => xs[j]?) = some d3 := hf
    cases hk : keyD d2 with
    | none => rw [hk] at hf; cases hf
    | some kk =>
      rw [hk] at hf
      dsimp only [Option.bind] at hf
      cases hj : keyIx ks kk with
      | none => rw [hj] at hf; cases hf
      | some j =>
        rw [hj] at hf
        have hf : xs[j]? = some d3 := hf
        obtain ⟨a, vs, rfl, h1, h2, h3⟩ := rep_dct r1
        obtain ⟨v, e1, e2⟩ := zip_valV hj h2
        obtain ⟨v', e3, e4⟩ := (repL_get h3).1 _ hf
        rw [e1] at e3
        cases e3
        exact ⟨a, v, rfl, .inl ⟨_, kk, e.r h1, key_rep hk r2, e2.symm⟩, k v B H (PStep.refl e) e4⟩
  | _ => cases hf
/-- extend by an owned list -/
def fExtM : M → List M → Option (M × M)
  | .lst xs, [.lst ys] => if xs.length + ys.length ≤ sizeLine then some (.lst (xs ++ ys), .dat .non) else none
  | _, _ => none
theorem mut_extend : MutOk K mg fExtM fun us v vs H Q => us = [] → rExtend v vs H Q := fun B H m v T ws ms us vs U0 U m' d Q e rm r0 r1 d1 d2 d3 hf k hu => by
  obtain ⟨rfl, n0⟩ := repMs_nil r0 hu
  rw [List.nil_append] at hf
  unfold fExtM at hf
  split at hf
  · rename_i xs ys
    split at hf
    · rename_i hl
      cases hf
      unfold RepM at rm
      obtain ⟨a, zs, A, rfl, h2, h3, h4, h5, h6⟩ := rm
      obtain ⟨w, rfl, rw'⟩ := repMs_one r1
      unfold RepM at rw'
      obtain ⟨c, ws, C, rfl, g2, g3, g4, g5, g6⟩ := rw'
      have l1 := repMs_len h4
      have l2 := repMs_len g4
      have nc : c ≠ a := fun z => d1 c ((h6 c).mpr (.inl z)) ((g6 c).mpr (.inl rfl))
      have nC : ∀ b, C b → b ≠ a := fun b z w => d1 b ((h6 b).mpr (.inl w)) ((g6 b).mpr (.inr z))
      have nA : ∀ b, A b → b ≠ a := fun b z w => h5 (by rw [← w]; exact z)
      refine ⟨a, c, zs, ws, rfl, rfl, h2, g2, by omega, ?_⟩
      refine k .non B (upd H a (.lst (zs ++ ws))) (fun b => T b ∨ C b) (fun _ => False) ((step_upd (.inl ((h6 a).mpr (.inl rfl)))).weak (fun _ z => z) fun b z => z.elim (fun z => z.elim .inl fun z => .inr (.inl ((g6 b).mpr (.inr z)))) False.elim) (fun b o z => ?_) ?_ (repM_dat.mpr ⟨by unfold Rep; rfl, fun _ z => z⟩) fun _ _ z => z
      · rw [upd_ne fun w => by rw [w, h3] at z; cases z]; exact e b o z
      · unfold RepM
        refine ⟨a, zs ++ ws, fun b => A b ∨ C b, rfl, upd_same, h3, ?_, fun z => z.elim h5 fun z => nC a z rfl, fun b => ?_⟩
        · refine (repMs_app h4 g4 fun b z w => d1 b ((h6 b).mpr (.inr z)) ((g6 b).mpr (.inr w))).congr (Ex.refl B) fun b z => ⟨upd_ne (z.elim (nA b) (nC b)), z.elim (fun z => (h4.owned b z).2) fun z => (g4.owned b z).2⟩
        · show (T b ∨ C b) ↔ _
          rw [h6]
          exact ⟨fun z => z.elim (fun z => z.imp id .inl) fun z => .inr (.inr z), fun z => z.elim (fun z => .inl (.inl z)) fun z => z.elim (fun z => .inl (.inr z)) .inr⟩
    · cases hf
  · cases hf
/-! ### d[k] = e -/
def hasK : List Key → Key → Bool
  | [], _ => false
  | k0 :: ks, k => decide (k0 = k) || hasK ks k
theorem hasK_cons {k k0 : Key} {ks : List Key} : hasK (k0 :: ks) k = (decide (k0 = k) || hasK ks k) := rfl
def putMs (k : Key) (m : M) : List Key → List M → Option (List M)
  | k0 :: ks, x :: xs => if k0 = k then (if hasK ks k = true then none else some (m :: xs)) else (putMs k m ks xs).map (x :: ·)
  | _, _ => none
def fPutD : M → List M → Option (M × M)
  | .dct ks xs, [m, .dat d] => (keyD d).bind fun k => if xs.length < sizeLine then (if hasK ks k = true then (putMs k m ks xs).map fun ys => (.dct ks ys, .dat .non) else some (.dct (ks ++ [k]) (xs ++ [m]), .dat .non)) else none
  | _, _ => none
theorem any_zip {k : Key} : ∀ {ks : List Key} {vs : List V}, ks.length = vs.length → ((ks.zip vs).any fun kv => decide (kv.1 = k)) = hasK ks k
  | [], [], _ => rfl
  | k0 :: ks, v :: vs, l => by
    have ih := any_zip (k := k) (ks := ks) (vs := vs) (by simpa using l)
    show (decide (k0 = k) || ((ks.zip vs).any fun kv => decide (kv.1 = k))) = _
    rw [ih, hasK_cons]
theorem map_none {k : Key} {y : V} : ∀ {ks : List Key} {vs : List V}, hasK ks k = false → (ks.zip vs).map (fun kv => if kv.1 = k then (kv.1, y) else kv) = ks.zip vs
  | [], _, _ => rfl
  | _ :: _, [], _ => rfl
  | k0 :: ks, v :: vs, h => by
    rw [hasK_cons, Bool.or_eq_false_iff] at h
    show (if k0 = k then (k0, y) else (k0, v)) :: (ks.zip vs).map _ = _
    rw [if_neg (of_decide_eq_false h.1), map_none h.2]
    rfl
theorem putMs_ok {B H : Hp} {k : Key} {m : M} {v : V} {U : ASet} (rm : RepM K mg B H m v U) : ∀ {ks : List Key} {xs ys : List M} {vs : List V} {A : ASet}, ks.length = vs.length → RepMs K mg B H xs vs A → (∀ a, U a → ¬ A a) → putMs k m ks xs = some ys →
    ∃ ws A', RepMs K mg B H ys ws A' ∧ ks.length = ws.length ∧ (ks.zip vs).map (fun kv => if kv.1 = k then (kv.1, v) else kv) = ks.zip ws ∧ ∀ a, A' a → A a ∨ U a
  | [], _, _, _, _, _, _, _, e => by simp [putMs] at e
  | _ :: _, [], _, _, _, _, _, _, e => by simp [putMs] at e
  | k0 :: ks, x :: xs, ys, vs, A, l, h, d, e => by
    unfold RepMs at h
    obtain ⟨w, r, T1, T2, rfl, h1, h2, h3, h4⟩ := h
    unfold putMs at e
    by_cases c : k0 = k
    · rw [if_pos c] at e
      split at e
      · cases e
      · rename_i hc
        cases e
        refine ⟨v :: r, fun a => U a ∨ T2 a, ?_, by simpa using l, ?_, fun a z => z.elim .inr fun z => .inl ((h4 a).mpr (.inr z))⟩
        · unfold RepMs
          exact ⟨v, r, U, T2, rfl, rm, h2, fun a z w => d a z ((h4 a).mpr (.inr w)), fun _ => Iff.rfl⟩
        · show (if k0 = k then (k0, v) else (k0, w)) :: (ks.zip r).map _ = _
          rw [if_pos c, map_none (by simpa using hc)]
          rfl
    · rw [if_neg c] at e
      cases q : putMs k m ks xs with
      | none => rw [q] at e; cases e
      | some ys' =>
        rw [q] at e
        cases e
        obtain ⟨ws, A', k1, k2, k3, k4⟩ := putMs_ok rm (by simpa using l) h2 (fun a z w => d a z ((h4 a).mpr (.inr w))) q
        refine ⟨w :: ws, fun a => T1 a ∨ A' a, ?_, by simpa using k2, ?_, fun a z => z.elim (fun z => .inl ((h4 a).mpr (.inl z))) fun z => (k4 a z).imp (fun z => (h4 a).mpr (.inr z)) id⟩
        · unfold RepMs
          exact ⟨w, ws, T1, A', rfl, h1, k1, fun a z w => (k4 a w).elim (h3 a z) fun u => d a u ((h4 a).mpr (.inl z)), fun _ => Iff.rfl⟩
        · show (if k0 = k then (k0, v) else (k0, w)) :: (ks.zip r).map _ = _
          rw [if_neg c, k3]
          rfl
theorem mut_putD : MutOk K mg fPutD fun us v vs H Q => ∀ y z, us = [y] → vs = [z] → ∃ a H', v = .ref a ∧ DPut H a z y H' ∧ Q .non H' := fun B H m v T ws ms us vs U0 U m' d Q e rm r0 r1 d1 d2 d3 hf k y z hu hv => by
  obtain ⟨m1, rfl, ry⟩ := repMs_two r0 hu
  obtain ⟨m2, rfl, rz⟩ := repMs_two r1 hv
  unfold fPutD at hf
  split at hf
  · rename_i ks xs m3 dd hws
    have em : m1 = m3 ∧ m2 = .dat dd := by simpa using hws
    obtain ⟨rfl, rfl⟩ := em
    cases hk : keyD dd with
    | none => rw [hk] at hf; cases hf
    | some kk =>
      rw [hk] at hf
      dsimp only [Option.bind] at hf
      split at hf
      rotate_left
      · cases hf
      rename_i hsz
      have ez := key_rep hk (repM_dat.mp rz).1
      subst ez
      unfold RepM at rm
      obtain ⟨a, zs, A, rfl, ⟨ho, hkl⟩, hB, h4, h5, h6⟩ := rm
      have hl := repMs_len h4
      have nU : ∀ b, U0 b → b ≠ a := fun b z w => d2 b ((h6 b).mpr (.inl w)) z
      have nA : ∀ b, A b → b ≠ a := fun b z w => h5 (by rw [← w]; exact z)
      have dA : ∀ b, U0 b → ¬ A b := fun b z w => d2 b ((h6 b).mpr (.inr w)) z
      have fin : ∀ (ks' : List Key) (ys : List M) (ws : List V) (A' : ASet), RepMs K mg B H ys ws A' → ks'.length = ws.length → (∀ b, A' b → A b ∨ U0 b) → Q .non (upd H a (.dK (ks'.zip ws))) ∨ (M.dct ks' ys ≠ m') ∨ d ≠ .dat .non := fun ks' ys ws A' k1 k2 k4 => by
        by_cases c : M.dct ks' ys = m' ∧ d = .dat .non
        · obtain ⟨rfl, rfl⟩ := c
          have own : ∀ b, A' b → b ≠ a ∧ B b = none := fun b z => (k4 b z).elim (fun z => ⟨nA b z, (h4.owned b z).2⟩) fun z => ⟨nU b z, (ry.owned b z).2⟩
          refine .inl (k .non B _ (fun b => b = a ∨ A' b) (fun _ => False) ((step_upd (.inl ((h6 a).mpr (.inl rfl)))).weak (fun _ z => z) fun b z => ?_) (fun b o z => ?_) ?_ (repM_dat.mpr ⟨by unfold Rep; rfl, fun _ z => z⟩) fun _ _ z => z)
          · rcases z with (z | z) | z
            · exact .inl ((h6 b).mpr (.inl z))
            · exact (k4 b z).elim (fun z => .inl ((h6 b).mpr (.inr z))) fun z => .inr (.inr z)
            · exact z.elim
          · rw [upd_ne fun w => by rw [w, hB] at z; cases z]; exact e b o z
          · unfold RepM
            exact ⟨a, ws, A', rfl, ⟨upd_same, k2⟩, hB, k1.congr (Ex.refl B) fun b z => ⟨upd_ne (own b z).1, (own b z).2⟩, fun z => (own a z).1 rfl, fun b => Iff.rfl⟩
        · exact .inr (Classical.not_and_iff_not_or_not.mp c)
      have hput : DPut H a (kV kk) y (upd H a (.dK (putK (ks.zip zs) kk y))) := .k ho (by rw [List.length_zip]; omega)
      split at hf
      · rename_i hc
        cases hp : putMs kk m1 ks xs with
        | none => rw [hp] at hf; cases hf
        | some ys =>
          rw [hp] at hf
          cases hf
          obtain ⟨ws, A', k1, k2, k3, k4⟩ := putMs_ok ry hkl h4 dA hp
          have ep : putK (ks.zip zs) kk y = ks.zip ws := by unfold putK; rw [if_pos (by rw [any_zip hkl]; exact hc), k3]
          rw [ep] at hput
          refine ⟨a, _, rfl, hput, ?_⟩
          exact (fin ks ys ws A' k1 k2 k4).elim id fun z => z.elim (fun z => absurd rfl z) fun z => absurd rfl z
      · rename_i hc
        cases hf
        have ep : putK (ks.zip zs) kk y = (ks ++ [kk]).zip (zs ++ [y]) := by
          unfold putK
          rw [if_neg (by rw [any_zip hkl]; exact hc), List.zip_append hkl]
          rfl
        rw [ep] at hput
        refine ⟨a, _, rfl, hput, ?_⟩
        have k1 := repMs_app h4 r0 fun b z w => dA b w z
        rw [hu] at k1
        exact (fin (ks ++ [kk]) (xs ++ [m1]) (zs ++ [y]) (fun b => A b ∨ U0 b) k1 (by simp; omega) (fun b z => z)).elim id fun z => z.elim (fun z => absurd rfl z) fun z => absurd rfl z
  · cases hf
end
section
variable {b : Bd} {X : Cx} {x y o : Expr} {ex ey e : E} {p : Path} {pos ppos apos : Pos} {n m : Str}
theorem me_ixD (hu : X.A.units + 1 < cLine) (hx : ME b X x ex) (hy : ME b X y ey) (hs : NoSl y) : ME b X (.Subscript x y pos) (.op2 fIxD ex ey) := fun W tk => PE.imp (pe_dget hu (hx W tk) (hy W tk) hs) fun σ H Q h => two_imp imp_ixD h
theorem ms_putD {tpos : Pos} (hu : X.A.units + 1 < cLine) (ho : MP b X o p) (hi : ME b X y ey) (hv : ME b X x e) (hs : swapsWith x (some (.Subscript o y tpos)) pos.line X.env = pure false := by rfl) :
    MS b X (.Assign [.Subscript o y tpos] x pos) (.expr (.mut 1 fPutD (.cons e .nil) p (.cons ey .nil))) := fun W tk => PS.imp (ps_dput hu ho (hi W tk) (hv W tk) hs) fun D σ H h => by
  have h1 := es_one (mut_ok mut_putD (expr_imp h))
  refine tE_mono h1 fun y H1 q => tP_mono q fun v H2 q2 => ?_
  exact tE_mono (es_one q2.2) fun z H3 q3 => q3 y z rfl rfl
end
end Mi
/-! Mi18: a comprehension over a dict that is data. -/
namespace Mi
open PySem L2
section
variable {K : PySem.W.Frag} {mg : Str → Option Value}
theorem lock_sw {B : Hp} {d : Addr} {o : Obj} {kvs : List (Key × V)} (h : B d = some (.dK kvs)) : Sw K B (upd B d (.frz o (.dK kvs))) where
  l := fun {a xs} z => by
    have ne : ∀ u, B a = some u → (∀ k, u ≠ .dK k) → upd B d (.frz o (.dK kvs)) a = some u := fun u e n => by
      rw [upd_ne fun w => by rw [w, h] at e; cases e; exact n _ rfl]; exact e
    rcases z with (z | ⟨p, z⟩) | z
    · exact .inl (.inl (ne _ z fun _ w => nomatch w))
    · exact .inl (.inr ⟨p, ne _ z fun _ w => nomatch w⟩)
    · exact .inr z
  t := fun {a xs} z => by
    have ne : ∀ u, B a = some u → (∀ k, u ≠ .dK k) → upd B d (.frz o (.dK kvs)) a = some u := fun u e n => by
      rw [upd_ne fun w => by rw [w, h] at e; cases e; exact n _ rfl]; exact e
    rcases z with (z | ⟨p, z⟩) | z
    · exact .inl (.inl (ne _ z fun _ w => nomatch w))
    · exact .inl (.inr ⟨p, ne _ z fun _ w => nomatch w⟩)
    · exact .inr z
  d := fun {a k} z => by
    by_cases w : a = d
    · subst w
      rcases z with z | ⟨p, z⟩
      · rw [h] at z; cases z; exact .inr ⟨o, upd_same⟩
      · rw [h] at z; cases z
    · exact z.imp (fun z => by rw [upd_ne w]; exact z) fun ⟨p, z⟩ => ⟨p, by rw [upd_ne w]; exact z⟩
  i := fun {a C dx fs} z => by
    rw [upd_ne fun w => by rw [w, h] at z; cases z]; exact z
theorem unlock_sw {B : Hp} {d : Addr} {o : Obj} {kvs : List (Key × V)} (h : B d = some (.frz o (.dK kvs))) : Sw K B (upd B d (.dK kvs)) where
  l := fun {a xs} z => by
    have ne : ∀ u, B a = some u → (∀ p k, u ≠ .frz p (.dK k)) → upd B d (.dK kvs) a = some u := fun u e n => by
      rw [upd_ne fun w => by rw [w, h] at e; cases e; exact n _ _ rfl]; exact e
    rcases z with (z | ⟨p, z⟩) | z
    · exact .inl (.inl (ne _ z fun _ _ w => nomatch w))
    · exact .inl (.inr ⟨p, ne _ z fun _ _ w => nomatch w⟩)
    · exact .inr z
  t := fun {a xs} z => by
    have ne : ∀ u, B a = some u → (∀ p k, u ≠ .frz p (.dK k)) → upd B d (.dK kvs) a = some u := fun u e n => by
      rw [upd_ne fun w => by rw [w, h] at e; cases e; exact n _ _ rfl]; exact e
    rcases z with (z | ⟨p, z⟩) | z
    · exact .inl (.inl (ne _ z fun _ _ w => nomatch w))
    · exact .inl (.inr ⟨p, ne _ z fun _ _ w => nomatch w⟩)
    · exact .inr z
  d := fun {a k} z => by
    by_cases w : a = d
    · subst w
      rcases z with z | ⟨p, z⟩
      · rw [h] at z; cases z
      · rw [h] at z; cases z; exact .inl upd_same
    · exact z.imp (fun z => by rw [upd_ne w]; exact z) fun ⟨p, z⟩ => ⟨p, by rw [upd_ne w]; exact z⟩
  i := fun {a C dx fs} z => by
    rw [upd_ne fun w => by rw [w, h] at z; cases z]; exact z
theorem Stt.sw {π : List (Nat × V)} {B H B' H' : Hp} {σ : L2.St} {μ : Env} {S : ASet} (s : Stt K mg π B H σ μ S) (e : Sw K B B') (sub : Ex B' H') (k : ∀ a, S a → H' a = H a ∧ B' a = none) : Stt K mg π B' H' σ μ S := by
  obtain ⟨F, h1, h2, h3, h4⟩ := s.slots
  refine ⟨sub, s.len, ⟨F, fun i m e' => ?_, h2, h3, h4⟩, s.pins⟩
  obtain ⟨v, e1, r⟩ := h1 i m e'
  exact ⟨v, e1, r.sw e fun a ha => k a ((h4 a).mpr ⟨i, ha⟩)⟩
theorem ex_upd {H H' : Hp} {d : Addr} {u : HO} (e : Ex H H') : Ex (upd H d u) (upd H' d u) := fun a o z => by
  by_cases w : a = d
  · subst w; rw [upd_same] at z ⊢; exact z
  · rw [upd_ne w] at z ⊢; exact e a o z
theorem upd_back {H : Hp} {d : Addr} {u : HO} (h : H d = some u) (v : HO) : upd (upd H d v) d u = H := by
  funext a
  by_cases w : a = d
  · subst w; rw [upd_same]; exact h.symm
  · rw [upd_ne w, upd_ne w]
theorem upd_comm {H : Hp} {d p : Addr} {u o : HO} (n : p ≠ d) : upd (upd H p o) d u = upd (upd H d u) p o := by
  funext a
  by_cases w : a = d
  · subst w; rw [upd_same, upd_ne fun z => n z.symm, upd_same]
  · rw [upd_ne w]
    by_cases w2 : a = p
    · subst w2; rw [upd_same, upd_same]
    · rw [upd_ne w2, upd_ne w2, upd_ne w]
end
section
variable {b : Bd} {X : Cx} {e : E}
/-- the same, the dict locked -/
theorem lock_tF {W : WX} {σ : L2.St} {H : Hp} {Q : VK} {π : List (Nat × V)} {B : Hp} {μ : Env} {S : ASet} {d : Addr} {kvs : List (Key × V)} {od : Obj} (hp : PinOf π b.pin) (s : Stt X.K X.mg π B H σ μ S) (hB : B d = some (.dK kvs)) (ne : ∀ c μ', evalE b.C b.pin e μ ≠ .err c μ')
    (k : PostF X.K X.mg e.pure π B H S σ W Q (evalE b.C b.pin e μ)) : b.tF X e W σ (upd H d (.frz od (.dK kvs))) fun v H' => H' d = some (.frz od (.dK kvs)) ∧ Q v (upd H' d (.dK kvs)) := by
  have hH := s.sub d _ hB
  have nS : ∀ a, S a → a ≠ d := fun a z w => by have := (s.owned a z).2; rw [w, hB] at this; cases this
  have s1 : Stt X.K X.mg π (upd B d (.frz od (.dK kvs))) (upd H d (.frz od (.dK kvs))) σ μ S := s.sw (lock_sw hB) (ex_upd s.sub) fun a z => ⟨upd_ne (nS a z), by rw [upd_ne (nS a z)]; exact (s.owned a z).2⟩
  refine ⟨π, _, μ, S, hp, s1, ?_⟩
  cases q : evalE b.C b.pin e μ with
  | stuck => rw [q] at k; exact k
  | err c μ' => exact absurd q (ne c μ')
  | ok m μ' =>
    rw [q] at k
    cases m with
    | dat dd =>
      intro p o B' H' S' s' x' u' hp' fr
      have hB' : B' d = some (.frz od (.dK kvs)) := x'.ex d _ upd_same
      have hH' := s'.sub d _ hB'
      have npd : p ≠ d := fun w => by rw [w, hH'] at hp'; cases hp'
      have nS' : ∀ a, S' a → a ≠ d := fun a z w => by have := (s'.owned a z).2; rw [w, hB'] at this; cases this
      have s2 : Stt X.K X.mg π (upd B' d (.dK kvs)) (upd H' d (.dK kvs)) σ μ' S' := s'.sw (unlock_sw hB') (ex_upd s'.sub) fun a z => ⟨upd_ne (nS' a z), by rw [upd_ne (nS' a z)]; exact (s'.owned a z).2⟩
      have exU : ∀ {F G : Hp}, F d = some (.dK kvs) → Ex (upd F d (.frz od (.dK kvs))) G → Ex F (upd G d (.dK kvs)) := fun {F G} hF e a u z => by
        by_cases w : a = d
        · subst w; rw [hF] at z; rw [upd_same]; exact z
        · rw [upd_ne w]; exact e a u (by rw [upd_ne w]; exact z)
      have x2 : Step B H S (upd B' d (.dK kvs)) (upd H' d (.dK kvs)) S' := by
        refine ⟨exU hB x'.ex, fun a u z n => ?_, fun a z => ?_, fun a z => ?_, fun a z => ?_⟩
        · by_cases w : a = d
          · subst w; rw [hH] at z; rw [upd_same]; exact z
          · rw [upd_ne w]; exact x'.fr a u (by rw [upd_ne w]; exact z) n
        · by_cases w : a = d
          · subst w; rw [upd_same] at z; cases z
          · rw [upd_ne w] at z
            have := x'.dom a z
            rwa [upd_ne w] at this
        · rcases x'.ow a z with z2 | z2
          · exact .inl z2
          · rw [upd_ne (nS' a z)] at z2; exact .inr z2
        · by_cases w : a = d
          · subst w; exact .inl (by rw [hB]; simp)
          · rw [upd_ne w] at z
            rcases x'.fz a z with z2 | z2 | z2
            · rw [upd_ne w] at z2; exact .inl z2
            · exact .inr (.inl z2)
            · rw [upd_ne w] at z2; exact .inr (.inr z2)
      refine ⟨by rw [upd_ne fun z => npd z.symm]; exact hH', ?_⟩
      rw [upd_comm npd]
      refine k p o _ _ S' s2 x2 (fun z => exU hH (u' z)) (by rw [upd_ne npd]; exact hp') ?_
      rcases fr with ⟨ds, vs, e1, e2, r⟩ | ⟨ks, ds, vs, e1, e2, l, r⟩
      · exact .inl ⟨ds, vs, e1, e2, r.sw (unlock_sw hB')⟩
      · exact .inr ⟨ks, ds, vs, e1, e2, l, r.sw (unlock_sw hB')⟩
    | _ => trivial
def fKeys : List D → Option (List D)
  | [.dct ks _] => some (ks.map keyToD)
  | _ => none
variable {elt tg : Expr} {ifs : List Expr} {scope : Scope} {own : List (Str × Nat)} {pos spos py npos : Pos} {t : Tg} {c ee : E} {i j : Nat} {yn nn : Str}
def wiK (b : Bd) (X : Cx) (j : Nat) (W : WX) : TI := fun σ H R => tI X.K X.mg b.C b.pin fKeys (.cons (.var j) .nil) W σ H R ∧ ∃ d o kvs, σ[j]? = some (some (.ref d)) ∧ H d = some (.frz o (.dK kvs))
theorem pi_keysK {W : WX} (hNj : X.N[j]? = some nn) (hvj : Vis X.env.scope nn) (hd : (nn == ("__debug__" : Str)) = false) (hcd : (nn == ("__classdict__" : Str)) = false) : PI X tg (.Name nn npos) (wiK b X j W) :=
  PI.imp (pi_keys (pe_var hNj hvj hd hcd)) fun σ H R ⟨⟨π, B, μ, S, hp, s, k⟩, d, o, kvs, e1, e2⟩ => by
    refine ⟨.ref d, e1, d, o, rfl, .inl ⟨kvs, e2, ?_⟩⟩
    cases q : slot μ j with
    | none => simp [evalEs, evalE, q] at k
    | some m =>
      cases m with
      | dat dd =>
        simp only [evalEs, evalE, q, Out.bind] at k
        obtain ⟨ds, xs, h1, h2, k⟩ := k
        have e3 : ds = [dd] := by unfold datsOf datsOf at h1; cases h1; rfl
        subst e3
        cases dd with
        | dct ks ys =>
          cases h2
          refine k _ B H S s (Step.refl B H S) (fun _ => Ex.refl H) ?_
          obtain ⟨v, ev, r⟩ := s.getD q
          rw [e1] at ev
          cases ev
          obtain ⟨a, vs, ea, hr, hl, _⟩ := rep_dct r
          cases ea
          have ek : B d = some (.frz o (.dK kvs)) ∧ kvs = ks.zip vs := by
            rcases hr with hr | ⟨o', hr⟩
            · have := s.sub d _ hr; rw [e2] at this; cases this
            · have := s.sub d _ hr; rw [e2] at this; cases this; exact ⟨hr, rfl⟩
          obtain ⟨eB, rfl⟩ := ek
          intro n B' H' x1 x2
          have hd' := x2 d _ (x1 d _ eB)
          have lz : (ks.zip vs).length = ks.length := by rw [List.length_zip]; omega
          refine ⟨fun dk hk => ?_, fun hk hle => ⟨hd', ?_⟩⟩
          · have hn : n < ks.length := by
              have := (List.getElem?_eq_some_iff.mp hk).1
              simpa using this
            refine ⟨⟨hd', by omega⟩, fun x H'' y => ?_⟩
            obtain ⟨eH, k0, v0, hz, ex⟩ := y
            subst eH ex
            refine ⟨B', PStep.refl x2, ?_⟩
            have e5 : ks[n]? = some k0 := by
              rw [List.getElem?_zip_eq_some] at hz
              exact hz.1
            rw [List.getElem?_map, e5] at hk
            cases hk
            exact key_rep' k0
          · have : ks.length ≤ n := by
              have := List.getElem?_eq_none_iff.mp hk
              simpa using this
            omega
        | _ => cases h2
      | _ => simp [evalEs, evalE, q] at k
theorem comp_var {C : Nat → List M → Mi.CR} {pin own : List Nat} {μ : Env} (h : evalE C pin (.comp false own t fKeys (.cons (.var j) .nil) c ee) μ ≠ .stuck) : (∃ ks xs, slot μ j = some (.dat (.dct ks xs))) ∧ ∀ x y, evalE C pin (.comp false own t fKeys (.cons (.var j) .nil) c ee) μ ≠ .err x y := by
  unfold evalE at h ⊢
  split at h
  rotate_left
  · exact absurd rfl h
  rename_i g
  simp only [if_pos g]
  cases q : slot μ j with
  | none => simp [evalEs, evalE, q] at h
  | some m =>
    cases m with
    | dat dd =>
      cases dd with
      | dct ks xs =>
        refine ⟨⟨ks, xs, rfl⟩, fun x y z => ?_⟩
        simp only [evalEs, evalE, q, Out.bind, datsOf, Option.map, fKeys] at z
        split at z
        · cases z
        · rename_i hz
          revert hz
          generalize compLoop own t _ _ _ _ _ = O
          intro hz
          cases O with
          | stuck => cases hz
          | err c μ => unfold Out.lets at hz; dsimp only at hz; rw [if_neg fun z => Bool.false_ne_true z.1] at hz; cases hz
          | ok a μ => cases hz
        · split at z <;> cases z
      | _ => simp [evalEs, evalE, q, datsOf, fKeys] at h
    | _ => simp [evalEs, evalE, q] at h
theorem PS.or {st : Stmt} {t t' : TS} (h : PS X st t) (h' : PS X st t') : PS X st fun D σ H => t D σ H ∨ t' D σ H := ⟨fun pins s σ H D I q => q.elim (h.run pins s σ H D I) (h'.run pins s σ H D I)⟩
/-- name = [.. for .. in a dict's name] -/
theorem ms_setLcK (hc : X.calm = true) (hN : X.N.Nodup) (hy : X.N[i]? = some yn) (hyl : X.env.scope.names.lookup yn = some .local)
    (hsw : swapsWith (.ListComp elt [⟨tg, .Name nn npos, ifs, 0⟩] scope pos) (some (.Name yn py)) spos.line X.env = pure true) (hNj : X.N[j]? = some nn) (hvj : Vis X.env.scope nn) (ok : BlkOk X.N X.env.scope scope own)
    (hg : ∀ (s : Shared) (H : Hp) (C : Addr) (cl : List (Str × Addr)) (fp : List Addr), MG b (X.blk s H scope (compEnvC scope cl C X.env) fp) tg t)
    (ht : ∀ (s : Shared) (H : Hp) (C : Addr) (cl : List (Str × Addr)) (fp : List Addr), MTs b (X.blk s H scope (compEnvC scope cl C X.env) fp) ifs c)
    (he : ∀ (s : Shared) (H : Hp) (C : Addr) (cl : List (Str × Addr)) (fp : List Addr), ME b (X.blk s H scope (compEnvC scope cl C X.env) fp) elt ee)
    (hs : ∀ x, foldedSetIterable (.Name nn npos) X.env x = pure x := by intro _; rfl) (hd : (nn == ("__debug__" : Str)) = false := by decide) (hcd : (nn == ("__classdict__" : Str)) = false := by decide) :
    MS b X (.Assign [.Name yn py] (.ListComp elt [⟨tg, .Name nn npos, ifs, 0⟩] scope pos) spos) (.set (.one i) (.comp false (own.map (·.2)) t fKeys (.cons (.var j) .nil) c ee)) := fun W tk => by
  have core := ps_setLc (py := py) (spos := spos) (g := tG X.K X.mg b.pin t) (tt := b.tT X c fun _ _ _ _ => False) (te := b.tE X ee fun _ _ _ _ => False) hc hN hy hyl hsw (pi_keysK (b := b) (W := W) (npos := npos) (tg := tg) hNj hvj hd hcd) ok (fun s H C cl fp => hg s H C cl fp) (fun s H C cl fp => ht s H C cl fp _ takes0) (fun s H C cl fp => he s H C cl fp _ takes0) hs
  refine PS.imp (PS.or (ps_lock core) core) fun D σ H h => ?_
  have h1 : b.tE X (.comp false (own.map (·.2)) t fKeys (.cons (.var j) .nil) c ee) W σ H (fun x H1 => tG X.K X.mg b.pin (.one i) x σ H1 D.nx) := set_imp h
  have h2 : b.tE X (.comp false (own.map (·.2)) t fKeys (.cons (.var j) .nil) c ee) W σ H (fun x H1 => gName i x σ H1 D.nx) := tE_mono h1 fun v H q => tG_gName q
  obtain ⟨π, B, μ, S, hp, s, k⟩ := tE_tF h2
  have nst : evalE b.C b.pin (.comp false (own.map (·.2)) t fKeys (.cons (.var j) .nil) c ee) μ ≠ .stuck := fun z => by rw [z] at k; exact k
  obtain ⟨⟨ks, xs, hsl⟩, nerr⟩ := comp_var nst
  obtain ⟨v, ev, r⟩ := s.getD hsl
  obtain ⟨a, vs, rfl, hr, hl, _⟩ := rep_dct r
  rcases hr with hr | ⟨o, hr⟩
  · refine .inl ⟨a, _, s.sub a _ hr, trivial, fun od => ?_⟩
    have q := comp_imp (lock_tF (od := od) hp s hr nerr k)
    exact ⟨q, a, od, _, ev, upd_same⟩
  · refine .inr ?_
    have q := comp_imp ⟨π, B, μ, S, hp, s, k⟩
    exact ⟨q, a, o, _, ev, s.sub a _ hr⟩
end
theorem mut_pop0 {K : PySem.W.Frag} {mg : Str → Option Value} : MutOk K mg fPop fun us v vs H Q => us = [] → rPop v vs H Q := fun B H m v T ws ms us vs U0 U m' d Q e rm r0 r1 d1 d2 d3 hf k hu => by
  have hv : vs = [] := by
    obtain ⟨rfl, _⟩ := repMs_nil r0 hu
    have l := repMs_len r1
    have hm : ms = [] := by
      cases ms with
      | nil => rfl
      | cons m1 r => cases m <;> cases hf
    rw [hm] at l
    exact List.eq_nil_of_length_eq_zero l.symm
  exact mut_pop B H m v T ws ms us vs U0 U m' d Q e rm r0 r1 d1 d2 d3 hf k hu hv
/-! ### for the plain law -/
theorem call_ret {sub : Str → Str → Bool} {tab : Nat → Option Fn} {N k g : Nat} {fn : Fn} {ms : List M} {m : M} {μ' : Mi.Env} (h : tab g = some fn) (hl : ms.length = fn.np) (e : execSs sub (callF sub tab N k) fn.pin N fn.body (startE fn ms) = .ret m μ') : callF sub tab N (k + 1) g ms = .ok m (outsOf fn μ') := by
  show (match tab g with | some fn => if ms.length = fn.np then fnEnd fn (execSs sub (callF sub tab N k) fn.pin N fn.body (startE fn ms)) else .stuck | none => .stuck) = _
  rw [h]
  dsimp only
  rw [if_pos hl, e]
  rfl
theorem atI_mem {α : Type} {xs : List α} {i : Int} (h0 : 0 ≤ i) (h : i < (xs.length : Nat)) : ∃ d, d ∈ xs ∧ atI xs i = some d := by
  obtain ⟨j, rfl⟩ : ∃ j : Nat, i = j := ⟨i.toNat, (Int.toNat_of_nonneg h0).symm⟩
  have hj : j < xs.length := by omega
  exact ⟨xs[j], List.getElem_mem hj, atI_nat (by simp [hj])⟩
theorem fAddX_l {xs ys : List D} (h : xs.length + ys.length ≤ sizeLine) : fAddX (.lst xs) (.lst ys) = some (.lst (xs ++ ys)) := by
  show fAddL (.lst xs) (.lst ys) = _
  unfold fAddL
  dsimp only
  rw [if_pos h]
theorem fTup_n {xs : List D} (h : xs.length ≤ 1000) : fTup xs = some (.tup xs) := by
  unfold fTup
  rw [if_pos (Nat.le_trans h (by decide))]
theorem fLst_n {xs : List D} (h : xs.length ≤ 1000) : fLst xs = some (.lst xs) := by
  unfold fLst
  rw [if_pos (Nat.le_trans h (by decide))]
theorem le_line {n : Nat} (h : n ≤ 1000000) : n ≤ sizeLine := Nat.le_trans h (by decide)
end Mi
/-! Mi19: comprehensions in the plain law. -/
namespace Mi
open PySem L2
theorem comp_keep {own : List Nat} {t : Tg} {c e : Mi.Env → Out D} {d x : D} {ds acc : List D} {μ μ1 μ2 μ3 : Mi.Env} (h1 : setTg t (.dat d) μ = some μ1) (h2 : c μ1 = .ok (.bl true) μ2) (h3 : e μ2 = .ok x μ3) : compLoop own t c e (d :: ds) acc μ = compLoop own t c e ds (acc ++ [x]) (wipeE own μ3) := by
  show (match setTg t (.dat d) μ with | none => Out.stuck | some μ1 => _) = _
  rw [h1]
  dsimp only
  rw [h2]
  dsimp only [Out.bind]
  rw [h3]
theorem comp_skip {own : List Nat} {t : Tg} {c e : Mi.Env → Out D} {d : D} {ds acc : List D} {μ μ1 μ2 : Mi.Env} (h1 : setTg t (.dat d) μ = some μ1) (h2 : c μ1 = .ok (.bl false) μ2) : compLoop own t c e (d :: ds) acc μ = compLoop own t c e ds acc (wipeE own μ2) := by
  show (match setTg t (.dat d) μ with | none => Out.stuck | some μ1 => _) = _
  rw [h1]
  dsimp only
  rw [h2]
  rfl
section
variable {sub : Str → Str → Bool} {C : Nat → List M → Mi.CR} {pin : List Nat} {N : Nat} {μ μ1 μ2 : Mi.Env}
theorem ev_comp {own : List Nat} {t : Tg} {f : List D → Option (List D)} {src : Es} {c e : E} {ms : List M} {ds xs ys : List D} (g : ((own.all fun i => !pin.contains i) = true && (t.slots.all fun i => own.contains i) = true) = true) (h1 : evalEs C pin src μ = .ok ms μ1) (h2 : datsOf ms = some ds) (h3 : f ds = some xs)
    (h4 : compLoop own t (fun μ => datOf (evalE C pin c μ)) (fun μ => datOf (evalE C pin e μ)) xs [] (wipeE own μ1) = .ok ys μ2) (h5 : ys.length ≤ sizeLine) : evalE C pin (.comp false own t f src c e) μ = .ok (.dat (.lst ys)) μ2 := by
  show (if ((own.all fun i => !pin.contains i) = true && (t.slots.all fun i => own.contains i) = true) = true then _ else _) = _
  rw [if_pos g, h1]
  dsimp only [Out.bind]
  rw [h2]
  dsimp only
  rw [h3]
  dsimp only
  rw [h4]
  dsimp only [Out.lets]
  rw [if_pos h5]
theorem ret_sum {CE : E} {xs : List D} {n a : Int} (h : evalE C pin CE μ = .ok (.dat (.lst xs)) μ1) (hs : fSum [.lst xs] = some (.int n)) : execS sub C pin N (.ret (.op2 fAddX (.con (.int a)) (.opN fSum (.cons CE .nil)))) μ = .ret (.dat (.int (a + n))) μ1 := by
  have e2 : evalEs C pin (.cons CE .nil) μ = .ok [.dat (.lst xs)] μ1 := by
    show ((evalE C pin CE μ).bind _) = _
    rw [h]
    rfl
  have e1 : evalE C pin (.opN fSum (.cons CE .nil)) μ = .ok (.dat (.int n)) μ1 := by
    show ((evalEs C pin (.cons CE .nil) μ).bind _) = _
    rw [e2]
    show outD (fSum [.lst xs]) μ1 = _
    rw [hs]
    rfl
  have e0 : evalE C pin (.op2 fAddX (.con (.int a)) (.opN fSum (.cons CE .nil))) μ = .ok (.dat (.int (a + n))) μ1 := by
    show ((evalE C pin (.opN fSum (.cons CE .nil)) μ).bind _) = _
    rw [e1]
    rfl
  show ((evalE C pin (.op2 fAddX (.con (.int a)) (.opN fSum (.cons CE .nil))) μ).res _) = _
  rw [e0]
  rfl
theorem set_ok {i : Nat} {e : E} {m : M} (hp : pin.contains i = false) (h : evalE C pin e μ = .ok m μ1) (hl : i < μ1.length) : execS sub C pin N (.set (.one i) e) μ = .nx (μ1.set i (some m)) := by
  show ((evalE C pin e μ).res _) = _
  rw [h]
  show (if _ then _ else _) = _
  rw [if_pos (by show ((!pin.contains i) && true) = true; rw [hp]; rfl)]
  show (match (if i < μ1.length then some (μ1.set i (some m)) else none) with | some μ2 => Mi.Res.nx μ2 | none => .stuck) = _
  rw [if_pos hl]
end
theorem atI_0 {α : Type} (x : α) (xs : List α) : atI (x :: xs) 0 = some x := by
  have := atI_nat (xs := x :: xs) (j := 0) (v := x) rfl
  simpa using this
theorem atI_1 {α : Type} (x y : α) (xs : List α) : atI (x :: y :: xs) 1 = some y := by
  have := atI_nat (xs := x :: y :: xs) (j := 1) (v := y) rfl
  simpa using this
theorem atI_2 {α : Type} (x y z : α) (xs : List α) : atI (x :: y :: z :: xs) 2 = some z := by
  have := atI_nat (xs := x :: y :: z :: xs) (j := 2) (v := z) rfl
  simpa using this
theorem intsD_map : ∀ ns : List Int, intsD (ns.map .int) = some ns
  | [] => rfl
  | n :: r => by
    show (intsD (r.map .int)).map (n :: ·) = _
    rw [intsD_map r]
    rfl
theorem fSum_l (ns : List Int) : fSum [.lst (ns.map .int)] = some (.int ns.sum) := by
  show (intsD (ns.map .int)).map (fun ns => D.int ns.sum) = _
  rw [intsD_map]
  rfl
theorem toDs_dats (ds : List D) : M.toDs (ds.map .dat) = ds := by
  induction ds with
  | nil => rfl
  | cons d r ih =>
    show M.toD (.dat d) :: M.toDs (r.map .dat) = _
    rw [ih]; rfl
end Mi
/-! Mi22: comprehensions whose element may raise. -/
namespace Mi
open PySem L2
section
variable {b : Bd} {X : Cx} {elt tg iter : Expr} {ifs : List Expr} {scope : Scope} {own : List (Str × Nat)} {pos spos py : Pos} {t : Tg} {f : List D → Option (List D)} {src : Es} {c e : E} {i : Nat} {yn : Str}
/-- the parts of such a block -/
structure MBlk (b : Bd) (X : Cx) (tg : Expr) (ifs : List Expr) (elt : Expr) (scope : Scope) (t : Tg) (c e : E) : Prop where
  g : ∀ (s : Shared) (H : Hp) (C : Addr) (cl : List (Str × Addr)) (fp : List Addr) (W : WX), MG b (blkX X s H scope (compEnvC scope cl C X.env) fp W) tg t
  t : ∀ (s : Shared) (H : Hp) (C : Addr) (cl : List (Str × Addr)) (fp : List Addr) (W : WX), MTs b (blkX X s H scope (compEnvC scope cl C X.env) fp W) ifs c
  e : ∀ (s : Shared) (H : Hp) (C : Addr) (cl : List (Str × Addr)) (fp : List Addr) (W : WX), ME b (blkX X s H scope (compEnvC scope cl C X.env) fp W) elt e
theorem MBlk.x (h : MBlk b X tg ifs elt scope t c e) : BlkX X tg ifs elt scope (tG X.K X.mg b.pin t) (fun W => b.tT X c W) (fun W => b.tE X e W) :=
  ⟨fun s H C cl fp W => h.g s H C cl fp W, fun s H C cl fp W => h.t s H C cl fp W W takes_blk, fun s H C cl fp W => h.e s H C cl fp W W takes_blk⟩
theorem mf_compX (hst : X.stack = X.env :: X.outer) (hfr : X.env.frame = some X.env.locals) (hc : X.calm = true) (hN : X.N.Nodup) (hi : MI b X tg iter f src) (ok : BlkOk X.N X.env.scope scope own) (bk : MBlk b X tg ifs elt scope t c e)
    (hs : ∀ x, foldedSetIterable iter X.env x = pure x := by intro _; rfl) : MF b X (.ListComp elt [⟨tg, iter, ifs, 0⟩] scope pos) (.comp true (own.map (·.2)) t f src c e) := fun W tk =>
  PE.imp (pe_lcX (g := tG X.K X.mg b.pin t) hst hfr tk hc hN (hi W tk) ok bk.x hs) fun σ H Q q => comp_impG (xx := true) (Wc := wOut W σ) (fun _ => rfl) q
theorem ms_setLcX (hst : X.stack = X.env :: X.outer) (hfr : X.env.frame = some X.env.locals) (hc : X.calm = true) (hN : X.N.Nodup) (hy : X.N[i]? = some yn) (hyl : X.env.scope.names.lookup yn = some .local)
    (hsw : swapsWith (.ListComp elt [⟨tg, iter, ifs, 0⟩] scope pos) (some (.Name yn py)) spos.line X.env = pure true) (hi : MI b X tg iter f src) (ok : BlkOk X.N X.env.scope scope own) (bk : MBlk b X tg ifs elt scope t c e)
    (ow : Bool) (hs : ∀ x, foldedSetIterable iter X.env x = pure x := by intro _; rfl) :
    MS b X (.Assign [.Name yn py] (.ListComp elt [⟨tg, iter, ifs, 0⟩] scope pos) spos) (.set (.one i) (if ow = true then .own (.comp true (own.map (·.2)) t f src c e) else .comp true (own.map (·.2)) t f src c e)) := fun W tk =>
  PS.imp (ps_setLcX (g := tG X.K X.mg b.pin t) (tt := fun W => b.tT X c W) (te := fun W => b.tE X e W) hst hfr tk hc hN hy hyl hsw (hi W tk) ok bk.x hs) fun D σ H h => by
    have h1 := set_imp h
    cases ow with
    | true =>
      have h2 : b.tE X (.own (.comp true (own.map (·.2)) t f src c e)) W σ H (fun x H1 => tG X.K X.mg b.pin (.one i) x σ H1 D.nx) := h1
      exact comp_impG (xx := true) (Wc := wOut W σ) (fun _ => rfl) (tE_own (tE_mono h2 fun v H q => tG_gName q))
    | false =>
      have h2 : b.tE X (.comp true (own.map (·.2)) t f src c e) W σ H (fun x H1 => tG X.K X.mg b.pin (.one i) x σ H1 D.nx) := h1
      exact comp_impG (xx := true) (Wc := wOut W σ) (fun _ => rfl) (tE_tF (tE_mono h2 fun v H q => tG_gName q))
end
end Mi
/-! Mi23: o.f op= a number; a call with defaults; a copy of a dict; numbers of the module. -/
namespace Mi
open PySem L2
def fAugFld (c n : Str) (f : Int → Int → Int) (j : Int) : M → List M → Option (M × M)
  | .ins c' ks xs, [] => if c' = c ∧ ks.length < 1000 then
      match (fldIx ks n).bind (xs[·]?) with
      | some (.dat (.int a)) => let r := setFld n (.dat (.int (f a j))) ks xs; some (.ins c r.1 r.2, .dat .non)
      | _ => none
    else none
  | _, _ => none
def rAugI (f : Int → Int → Int) : V → V → Hp → VK → Prop := fun x y H Q => ∃ i j, x = .int i ∧ y = .int j ∧ Q (.int (f i j)) H
section
variable {b : Bd} {X : Cx} {x y o : Expr} {e ex : E} {xs : List Expr} {as : As} {p : Path} {pos ppos : Pos} {n : Str}
theorem mut_augFld {K : PySem.W.Frag} {mg : Str → Option Value} {c : Str} {C : Addr} {f : Int → Int → Int} {j : Int} (hC : mg c = some (.ref C)) :
    MutOk K mg (fAugFld c n f j) fun us v vs H Q => us = [] → vs = [] → ∃ a dx fs i, v = .ref a ∧ H a = some (.ins C dx fs) ∧ fs.lookup n = some (.int i) ∧ fs.length < 1000 ∧ Q .non (upd H a (.ins C dx (putF n (.int (f i j)) fs))) := fun B H m v T ws ms us vs U0 U m' d Q e rm r0 r1 d1 d2 d3 hf k hu hv => by
  obtain ⟨rfl, n0⟩ := repMs_nil r0 hu
  obtain ⟨rfl, n1⟩ := repMs_nil r1 hv
  unfold fAugFld at hf
  split at hf
  · rename_i c' ks xs _
    split at hf
    · rename_i hh
      obtain ⟨rfl, hl⟩ := hh
      split at hf
      · rename_i i hi
        cases hf
        unfold RepM at rm
        obtain ⟨a, zs, A, rfl, ⟨⟨C', dx, hC', ho⟩, hkl⟩, hB, h4, h5, h6⟩ := rm
        rw [hC] at hC'
        cases hC'
        cases q : fldIx ks n with
        | none => rw [q] at hi; cases hi
        | some t =>
          rw [q] at hi
          have hi : xs[t]? = some (.dat (.int i)) := hi
          obtain ⟨w, Ti, k1, k2, _, _⟩ := h4.at hi
          obtain ⟨w', e1, e2⟩ := zip_lookup q hkl
          rw [k1] at e1
          cases e1
          have ew := rep_int (repM_dat.mp k2).1
          subst ew
          have nA : ∀ b, A b → b ≠ a := fun b z w => h5 (by rw [← w]; exact z)
          have ry : RepM K mg B H (.dat (.int (f i j))) (.int (f i j)) (fun _ => False) := repM_dat.mpr ⟨by unfold Rep; rfl, fun _ z => z⟩
          obtain ⟨us', A', k1, k2, k3, k4⟩ := setFld_ok (n := n) ry hkl h4 fun b z w => z
          have own : ∀ b, A' b → b ≠ a ∧ B b = none := fun b z => (k4 b z).elim (fun z => ⟨nA b z, (h4.owned b z).2⟩) fun z => z.elim
          refine ⟨a, dx, _, i, rfl, ho, e2, by rw [List.length_zip]; omega, ?_⟩
          rw [k3]
          refine k .non B _ (fun b => b = a ∨ A' b) (fun _ => False) ((step_upd (.inl ((h6 a).mpr (.inl rfl)))).weak (fun _ z => z) fun b z => ?_) (fun b o z => ?_) ?_ (repM_dat.mpr ⟨by unfold Rep; rfl, fun _ z => z⟩) fun _ _ z => z
          · rcases z with (z | z) | z
            · exact .inl ((h6 b).mpr (.inl z))
            · exact (k4 b z).elim (fun z => .inl ((h6 b).mpr (.inr z))) fun z => z.elim
            · exact z.elim
          · rw [upd_ne fun w => by rw [w, hB] at z; cases z]; exact e b o z
          · unfold RepM
            exact ⟨a, us', A', rfl, ⟨⟨C, dx, hC, upd_same⟩, k2⟩, hB, k1.congr (Ex.refl B) fun b z => ⟨upd_ne (own b z).1, (own b z).2⟩, fun z => (own a z).1 rfl, fun b => Iff.rfl⟩
      · cases hf
    · cases hf
  · cases hf
/-- o.f op= a number -/
theorem ms_fldaug {c : Str} {C : Addr} {op : Operator} {f : Int → Int → Int} {j : Int} {jj : Nat} {jp tpos : Pos} (hC : X.mg c = some (.ref C)) (hc : Cls X.K C) (hn : NoAttr X.K C n) (hop : InOp X op (rAugI f)) (ho : MP b X o p) :
    MS b X (.AugAssign (.Attribute o n tpos) op (.Constant (.int j) jj jp) pos) (.expr (.mut 2 (fAugFld c n f j) .nil p .nil)) := fun W tk => PS.imp (ps_fldaug ho (pe_int (i := j)) hop) fun D σ H h => by
  have h1 := es_nil (mut_ok (mut_augFld (n := n) (f := f) (j := j) hC) (expr_imp h))
  refine tP_mono h1 fun v H2 q2 => ?_
  obtain ⟨a, dx, fs, i, k1, k2, k3, k4, k5⟩ := es_nil q2.2 rfl rfl
  exact ⟨a, C, dx, fs, .int i, k1, k2, hc, hn, k3, i, j, rfl, rfl, dx, fs, k2, k4, k5⟩
/-- a number of the module -/
theorem me_globI {i : Int} (hg : Gl X n) (hm : ∃ t, X.mg n = some (.int i t)) (hd : (n == ("__debug__" : Str)) = false := by decide) : ME b X (.Name n pos) (.con (.int i)) := by
  obtain ⟨t, hm⟩ := hm
  exact me_glob (v := .int i) hg hm ⟨t, rfl⟩ (fun B => by unfold Rep; rfl) hd
/-! ### a copy of a dict -/
def fDictC : List D → Option D
  | [.dct ks xs] => some (.dct ks xs)
  | _ => none
theorem impN_dictC {K : PySem.W.Frag} {mg : Str → Option Value} : ImpNF K mg fDictC fun xs H Q => ∃ (a : Addr) (kvs : List (Key × V)), xs = [.ref a] ∧ Rd H a (.dK kvs) ∧ ∀ p, H p = none → Q (.ref p) (upd H p (.dK kvs)) := fun B H xs ds d3 Q e r hf k => by
  unfold fDictC at hf
  split at hf
  · rename_i ks ys
    cases hf
    obtain ⟨v, rfl, r1⟩ := repL1 r
    obtain ⟨a, vs, rfl, hr, hl, h4⟩ := rep_dct r1
    exact ⟨a, _, rfl, e.r hr, fun p hp => k p _ hp (.inr ⟨ks, ys, vs, rfl, rfl, hl, h4⟩)⟩
  · cases hf
end
end Mi
/-! Mi24: defs with defaults. -/
namespace Mi
open PySem L2
section
variable {P : Program} {w : World} {K : PySem.W.Frag} {mg : Str → Option Value} {base : Heap}
open PyProof.Rows PySem.Spec in
/-- a def by its body -/
def OkX (P : Program) (w : World) (K : PySem.W.Frag) (mg : Str → Option Value) (base : Heap) (qual : Str) (st : Stmt) (f : Addr) (fd : FuncData) : Prop :=
  ∀ {N ps : List Str} {k : Nat} {sp : Sp}, FnScope N ps (defScope st) → (∀ vs H Q E, sp vs H Q E → vs.length = ps.length) →
    (∀ (cdv : Value) (A : Around) (outer : List PySem.Env) (s : Shared) (H : Hp) (vs : List V) (Q : VK) (E : XK), Room k (A.deeper (envOfC qual (defScope st) s.heap.objs.size f cdv)) → sp vs H Q E →
      ∃ t, PSs (cxOf (L2.CX P w) P w K mg base N qual (defScope st) f cdv A outer s H E) (defBody st) t ∧ t { nx := fun _ H' => Q .non H', rt := Q } (L2.start N vs) H) → FnOk P w K mg base (L2.CX P w) (k + 1) f fd ps sp
theorem okx_of {x qual : Str} {st : Stmt} {f : Addr} {fd : FuncData} (F : Fun K x qual st f fd) : OkX P w K mg base qual st f fd := fun S len hb => F.okX S len hb
theorem okx_ofD {x qual : Str} {st : Stmt} {f : Addr} {fd : FuncData} {dvs : List V} {kws : List (Str × V)} (F : FunD K x qual (defArgs st) (defBody st) (defScope st) dvs kws f fd) : OkX P w K mg base qual st f fd := fun S len hb => F.ok S len hb
open PyProof.Rows PySem.Spec in
/-- THE RULE: a def, by its body -/
theorem fn_okX {qual : Str} {st : Stmt} {f : Addr} {fd : FuncData} {N ps : List Str} {k : Nat} {fn : Fn} {C : Nat → List M → CR} {sub : Str → Str → Bool} {NN : Nat} {cf : List M → CR} (F : OkX P w K mg base qual st f fd) (S : FnScope N ps (defScope st))
    (hcf : ∀ ms, cf ms = if ms.length = fn.np then fnEnd fn (execSs sub C fn.pin NN fn.body (startE fn ms)) else .stuck) (hn : N.length = fn.n) (hp : ps.length = fn.np) (hle : fn.np ≤ fn.n)
    (hb : ∀ (cdv : Value) (A : Around) (outer : List PySem.Env) (s : Shared) (H : Hp) (E : XK), Room k (A.deeper (envOfC qual (defScope st) s.heap.objs.size f cdv)) →
      MSs ⟨C, fn.pin, sub, NN⟩ (cxOf (L2.CX P w) P w K mg base N qual (defScope st) f cdv A outer s H E) (defBody st) fn.body) : FnOk P w K mg base (L2.CX P w) (k + 1) f fd ps (spF K mg cf) := by
  have len : ∀ {vs : List V} {H : Hp} {Q : VK} {E : XK} {B : Hp} {A : ASet} {ms : List M}, RepMs K mg B H ms vs A → (match cf ms with
      | .stuck => False
      | .err c outs => ∀ B' H' So, Ex B' H' → Step B H A B' H' So → OutRep K mg B' H' outs vs So → ∀ C, mg c = some (.ref C) → E (.ref C) none H'
      | .ok m outs => ∀ v B' H' So T, Ex B' H' → OutRep K mg B' H' outs vs So → RepM K mg B' H' m v T → (∀ a, T a → ¬ So a) → Step B H A B' H' (fun a => So a ∨ T a) → Q v H') → ms.length = fn.np := fun {vs H Q E B A ms} _ h => by
    rw [hcf ms] at h
    by_cases e : ms.length = fn.np
    · exact e
    · rw [if_neg e] at h; exact h.elim
  refine F S (fun vs H Q E h => ?_) fun cdv A outer s H vs Q E hr h => ?_
  · obtain ⟨B, A, ms, _, h1, h2⟩ := h
    rw [← repMs_len h1, len h1 h2, hp]
  · obtain ⟨B, O, ms, hB, h1, h2⟩ := h
    have hl := len h1 h2
    have hlv : vs.length = fn.np := by rw [← repMs_len h1]; exact hl
    have tk : Takes (cxOf (L2.CX P w) P w K mg base N qual (defScope st) f cdv A outer s H E) (fun cls d _ H => E cls d H) := takes_of rfl rfl rfl rfl
    refine ⟨_, hb cdv A outer s H E hr _ tk, pinsOf vs fn.pin, B, startE fn ms, O, fun p hp' => ?_, stt_start hB h1 hn hl hle, ?_⟩
    · obtain ⟨i, hi, e⟩ := List.mem_filterMap.mp hp'
      cases ev : vs[i]? with
      | none => rw [ev] at e; cases e
      | some v => rw [ev] at e; cases e; exact hi
    · rw [hcf ms, if_pos hl] at h2
      show PostS K mg _ B H O _ _ (execSs sub C fn.pin NN fn.body (startE fn ms))
      cases q : execSs sub C fn.pin NN fn.body (startE fn ms) with
      | stuck => rw [q] at h2; exact h2
      | brk μ => rw [q] at h2; exact h2.elim
      | cont μ => rw [q] at h2; exact h2.elim
      | err c μ =>
        rw [q] at h2
        intro B' H' σ' S' s' x' Ca hC
        obtain ⟨So, k1, k2⟩ := outs_rep s' hlv
        exact h2 B' H' So s'.sub (x'.weak (fun _ z => z) k2) k1 Ca hC
      | nx μ =>
        rw [q] at h2
        intro B' H' σ' S' s' x'
        obtain ⟨So, k1, k2⟩ := outs_rep s' hlv
        exact h2 .non B' H' So (fun _ => False) s'.sub k1 (repM_dat.mpr ⟨by unfold Rep; rfl, fun _ z => z⟩) (fun _ z => z.elim) (x'.weak (fun _ z => z) fun a z => z.elim (k2 a) False.elim)
      | ret m μ =>
        rw [q] at h2
        intro v B' H' σ' S' T s' r d x'
        obtain ⟨So, k1, k2⟩ := outs_rep s' hlv
        exact h2 v B' H' So T s'.sub k1 r (fun a z w => d a z (k2 a w)) (x'.weak (fun _ z => z) fun a z => z.imp (k2 a) id)

/-! ### arguments that are left out -/
def consAs : List D → As
  | [] => .nil
  | d :: r => .val (.con d) (consAs r)
def As.app : As → As → As
  | .nil, t => t
  | .val e r, t => .val e (As.app r t)
  | .ref p r, t => .ref p (As.app r t)
theorem evalAs_cons {C : Nat → List M → CR} {pin : List Nat} {μ : Env} : ∀ {ds : List D}, evalAs C pin (consAs ds) μ = .ok (ds.map fun d => .val (.dat d)) μ
  | [] => rfl
  | d :: r => by
    show (((Out.ok (M.dat d) μ : Out M)).bind fun m μ1 => (evalAs C pin (consAs r) μ1).bind fun ags μ2 => .ok (.val m :: ags) μ2) = _
    dsimp only [Out.bind]
    rw [evalAs_cons (ds := r)]
    rfl
theorem evalAs_app {C : Nat → List M → CR} {pin : List Nat} {ds : List D} : ∀ {as : As} {μ : Env}, evalAs C pin (as.app (consAs ds)) μ = (evalAs C pin as μ).bind fun ags μ1 => .ok (ags ++ ds.map fun d => .val (.dat d)) μ1
  | .nil, μ => evalAs_cons
  | .val e r, μ => by
    show ((evalE C pin e μ).bind fun m μ1 => (evalAs C pin (r.app (consAs ds)) μ1).bind fun ags μ2 => .ok (.val m :: ags) μ2) = ((evalE C pin e μ).bind fun m μ1 => (evalAs C pin r μ1).bind fun ags μ2 => .ok (.val m :: ags) μ2).bind _
    cases q : evalE C pin e μ with
    | stuck => rfl
    | err c μ1 => rfl
    | ok m μ1 =>
      dsimp only [Out.bind]
      rw [evalAs_app (as := r)]
      cases evalAs C pin r μ1 <;> rfl
  | .ref p r, μ => by
    show (match evalP C pin p μ with | some pl => (evalAs C pin (r.app (consAs ds)) μ).bind fun ags μ2 => .ok (.ref pl :: ags) μ2 | none => .stuck) = Out.bind (match evalP C pin p μ with | some pl => (evalAs C pin r μ).bind fun ags μ2 => .ok (.ref pl :: ags) μ2 | none => .stuck) _
    cases q : evalP C pin p μ with
    | none => rfl
    | some pl =>
      dsimp only
      rw [evalAs_app (as := r)]
      cases evalAs C pin r μ <;> rfl
theorem vals_cons : ∀ {ds : List D}, (consAs ds).vals = true
  | [] => rfl
  | d :: r => by
    show ((E.con d).pure && (consAs r).vals) = true
    rw [vals_cons (ds := r)]
    rfl
theorem vals_app {ds : List D} : ∀ {as : As}, (as.app (consAs ds)).vals = as.vals
  | .nil => vals_cons
  | .val e r => by
    show (e.pure && (r.app (consAs ds)).vals) = (e.pure && r.vals)
    rw [vals_app (as := r)]
  | .ref p r => vals_app (as := r)
theorem ras_cons {fl : Bool} {σ : L2.St} {B H : Hp} : ∀ {ds : List D} {vs : List V}, RepL K mg B ds vs → RAs K mg fl σ B H (ds.map fun d => .val (.dat d)) vs fun _ => False
  | [], vs, h => by
    unfold RepL at h
    show RAs K mg fl σ B H [] vs _
    unfold RAs
    exact ⟨h, fun _ z => z⟩
  | d :: ds, vs, h => by
    unfold RepL at h
    obtain ⟨v, r, rfl, h1, h2⟩ := h
    show RAs K mg fl σ B H (.val (.dat d) :: ds.map fun d => .val (.dat d)) _ _
    unfold RAs
    exact ⟨v, r, fun _ => False, fun _ => False, rfl, repM_dat.mpr ⟨h1, fun _ z => z⟩, ras_cons h2, fun _ z => z.elim, fun _ => ⟨fun z => z.elim, fun z => z.elim id id⟩⟩
theorem ras_app {fl : Bool} {σ : L2.St} {B H : Hp} {ds : List D} {dvs : List V} (hd : RepL K mg B ds dvs) : ∀ {ags : List Ag} {vs : List V} {T : ASet}, RAs K mg fl σ B H ags vs T → RAs K mg fl σ B H (ags ++ ds.map fun d => .val (.dat d)) (vs ++ dvs) T
  | [], vs, T, h => by
    unfold RAs at h
    obtain ⟨rfl, n⟩ := h
    have e : T = fun _ => False := funext fun a => propext ⟨n a, False.elim⟩
    rw [e]
    exact ras_cons hd
  | .val m :: r, vs, T, h => by
    unfold RAs at h
    obtain ⟨v, r', T1, T2, rfl, h1, h2, h3, h4⟩ := h
    show RAs K mg fl σ B H (.val m :: (r ++ ds.map fun d => .val (.dat d))) (v :: (r' ++ dvs)) T
    unfold RAs
    exact ⟨v, _, T1, T2, rfl, h1, ras_app hd h2, h3, h4⟩
  | .ref pl :: r, vs, T, h => by
    unfold RAs at h
    obtain ⟨v, r', rfl, h1, h2⟩ := h
    show RAs K mg fl σ B H (.ref pl :: (r ++ ds.map fun d => .val (.dat d))) (v :: (r' ++ dvs)) T
    unfold RAs
    exact ⟨v, _, rfl, h1, ras_app hd h2⟩
theorem tAs_app {C : Nat → List M → CR} {pin : List Nat} {as : As} {W : WX} {σ : L2.St} {H : Hp} {Q : List V → Hp → Prop} {ds : List D} {dvs : List V} (hd : ∀ B, RepL K mg B ds dvs) (h : tAs K mg C pin (as.app (consAs ds)) W σ H Q) : tAs K mg C pin as W σ H fun vs H1 => Q (vs ++ dvs) H1 := by
  obtain ⟨π, B, μ, S, hp, s, h⟩ := h
  refine ⟨π, B, μ, S, hp, s, ?_⟩
  rw [evalAs_app, vals_app] at h
  cases q : evalAs C pin as μ with
  | stuck => rw [q] at h; exact h
  | err c μ' => rw [q] at h; exact h
  | ok ags μ1 =>
    rw [q] at h
    exact fun vs B1 H1 S1 T s1 r1 d1 x1 u1 => h (vs ++ dvs) B1 H1 S1 T s1 (ras_app (hd B1) r1) d1 x1 u1
end
section
variable {b : Bd} {X : Cx} {x : Expr} {xs : List Expr} {as : As} {pos ppos : Pos} {n : Str}
theorem me_callD {k g : Nat} {o : Bool} {f : Addr} {fd : FuncData} {ps : List Str} {dds : List D} {dvs : List V} (G : FnOk X.prog X.w X.K X.mg X.base (L2.CX X.prog X.w) k f fd ps (spF X.K X.mg (b.C g))) (hr : Room k X.A) (hg : Gl X n) (hm : X.mg n = some (.ref f)) (hk : PySem.W.keepIn X.K (.ref f) = true)
    (hb : ∃ ds, Vals dvs ds ∧ Binds X.K fd ps ds) (hrp : ∀ B, RepL X.K X.mg B dds dvs)
    (ha : MAs b X (x :: xs) as) (hdb : (n == ("__debug__" : Str)) = false := by decide) (he : starEach (x :: xs) X.env = (false, eval x X.env) :: starEach xs X.env := by rfl) (hpl : (backTo pos (starEach xs X.env)).any (·.1) = false := by rfl) :
    ME b X (.Call (.Name n ppos) (x :: xs) [] pos) (.call o g (as.app (consAs dds))) := fun W tk => by
  obtain ⟨ds, hv, hb⟩ := hb
  exact PE.imp (pe_callSD G hr hg hm hk hb hv (fun σ => passAt tk σ) (ha W tk) hdb he hpl) fun σ H Q ⟨π, B, μ, S, hp, s, h⟩ => by
    have h1 : tAs X.K X.mg b.C b.pin (as.app (consAs dds)) W σ H fun vs H1 => spF X.K X.mg (b.C g) vs H1 Q (WE W σ) := by
      unfold evalE at h
      refine ⟨π, B, μ, S, hp, s, ?_⟩
      cases q : evalAs b.C b.pin (as.app (consAs dds)) μ with
      | stuck => rw [q] at h; exact h
      | err c μ' => rw [q] at h; exact h
      | ok ags μ1 =>
        rw [q] at h
        intro vs B1 H1 S1 T s1 r1 d1 x1 u1
        have pr : (E.call o g (as.app (consAs dds))).pure = true → o = false ∧ (as.app (consAs dds)).pure = true := fun q => by
          have q1 := (Bool.and_eq_true _ _).mp q
          exact ⟨by simpa using q1.1, q1.2⟩
        exact call_ok s1 r1 d1 (fun q' => ⟨(pr q').1, fun ms e => pureAs (pr q').2 q μ1 ms e⟩) (h.mono x1 (fun _ z => z) fun q' => u1 (me_call.pureVals (pr q').2))
    exact tAs_app hrp h1
theorem vals_i {i : Int} {t : Nat} : Vals [V.int i] [Value.int i t] := .cons ⟨t, rfl⟩ .nil
theorem repL_i {K : PySem.W.Frag} {mg : Str → Option Value} {i : Int} : ∀ B, RepL K mg B [.int i] [.int i] := fun B => by
  unfold RepL RepL Rep
  exact ⟨_, _, rfl, rfl, rfl⟩
end
end Mi
/-! Mi25: try; raise of an own class; isinstance of what was caught. -/
namespace Mi
open PySem L2
/-- what the classes of errors are to one another; a class is known where it is under itself -/
structure SubOk (K : PySem.W.Frag) (mg : Str → Option Value) (sub : Str → Str → Bool) : Prop where
  exm : ∀ c c' C C', sub c c = true → sub c' c' = true → mg c = some (.ref C) → mg c' = some (.ref C') → PySem.W.exmOne K (.ref C) (.ref C') = some (sub c c')
def tNo : WX := fun _ _ _ _ => False
inductive MHs (b : Bd) (X : Cx) : List ExceptHandler → Hs → Prop
  | nil : MHs b X [] .nil
  | cons {x : Str} {C : Addr} {b₀ : Stmt} {suite : List Stmt} {np pos' : Pos} {hds : List ExceptHandler} {bs : Ss} {hs : Hs} (hc : Names X x (.ref C)) (hm : X.mg x = some (.ref C)) (hx : b.sub x x = true)
      (hsu : ∀ (a : Addr) (pn : List (Addr × Obj)), MSs b (X.suite a pn) (b₀ :: suite) bs) (r : MHs b X hds hs) : MHs b X (.ExceptHandler (some (.Name x np)) none (b₀ :: suite) pos' :: hds) (.cons x none bs hs)
section
variable {b : Bd} {X : Cx} {body : List Stmt} {h₀ : ExceptHandler} {hds : List ExceptHandler} {bs : Ss} {hs : Hs} {pos : Pos}
theorem noErr_post {K : PySem.W.Frag} {mg : Str → Option Value} {π : List (Nat × V)} {B H : Hp} {S : ASet} {W : WX} {D : Ends} {r : Res} (h : PostS K mg π B H S W D r.noErr) : PostS K mg π B H S tNo D r := by
  cases r with
  | err c μ => exact h.elim
  | _ => exact h
theorem hs_ok (SO : SubOk X.K X.mg b.sub) : ∀ {hds : List ExceptHandler} {hs : Hs}, MHs b X hds hs → ∃ l, HdsOk X hds l ∧ ∀ (W : WX) (D : Ends) (c : Str) (μ : Env) (π : List (Nat × V)) (B H : Hp) (σ : L2.St) (S : ASet) (C : Addr), X.mg c = some (.ref C) → PinOf π b.pin → Stt X.K X.mg π B H σ μ S →
    PostS X.K X.mg π B H S W D (execHs b.sub b.C b.pin b.N hs c μ) → wMany X.K W D l (.ref C) none σ H := by
  intro hds hs h
  induction h with
  | nil =>
    refine ⟨[], .nil, fun W D c μ π B H σ S C hC hp s h => ?_⟩
    unfold execHs at h
    exact h B H σ S s (Step.refl _ _ _) C hC
  | @cons x Cx b₀ suite np pos' hds bs hs hc hm hx hsu r ih =>
    obtain ⟨l, hl, ih⟩ := ih
    refine ⟨(.ref Cx, fun a cls d => tSs b X.K X.mg bs tNo) :: l, .cons hc (fun a oe cls d pn _ _ => hsu a ((a, oe) :: pn) tNo takes0) hl, fun W D c μ π B H σ S C hC hp s h => ?_⟩
    unfold execHs at h
    by_cases k : b.sub c c = true
    · rw [if_pos k] at h
      refine ⟨b.sub c x, SO.exm c x C Cx k hx hC hm, fun e a na => ?_, fun e => ?_⟩
      · rw [if_pos e] at h
        exact ⟨π, B, μ, S, hp, s, noErr_post h⟩
      · rw [if_neg (by rw [e]; exact Bool.false_ne_true)] at h
        exact ih W D c μ π B H σ S C hC hp s h
    · rw [if_neg k] at h
      exact h.elim
theorem try_imp {W W' : WX} {D : Ends} {σ : L2.St} {H : Hp} (h : tS b X.K X.mg (.try_ bs hs) W D σ H)
    (k : ∀ c μ π B H σ S C, X.mg c = some (.ref C) → PinOf π b.pin → Stt X.K X.mg π B H σ μ S → PostS X.K X.mg π B H S W D (execHs b.sub b.C b.pin b.N hs c μ) → W' (.ref C) none σ H) : tSs b X.K X.mg bs W' D σ H := by
  obtain ⟨π, B, μ, S, hp, s, h⟩ := h
  refine ⟨π, B, μ, S, hp, s, ?_⟩
  have h : PostS X.K X.mg π B H S W D (match execSs b.sub b.C b.pin b.N bs μ with | .err c μ1 => execHs b.sub b.C b.pin b.N hs c μ1 | r => r) := h
  show PostS X.K X.mg π B H S W' D (execSs b.sub b.C b.pin b.N bs μ)
  cases q : execSs b.sub b.C b.pin b.N bs μ with
  | stuck => rw [q] at h; exact h
  | nx μ' => rw [q] at h; exact h
  | brk μ' => rw [q] at h; exact h
  | cont μ' => rw [q] at h; exact h
  | ret m μ' => rw [q] at h; exact h
  | err c μ' =>
    rw [q] at h
    exact fun B' H' σ' S' s' x' C hC => k c μ' π B' H' σ' S' C hC hp s' (h.mono x' fun _ z => z)
theorem ms_try (hst : X.stack = X.env :: X.outer) (hfr : X.env.frame = some X.env.locals) (SO : SubOk X.K X.mg b.sub) (hb : ∀ (pn : List (Addr × Obj)) (xe : Value → Shared → Prop), PassesOwn (model X.prog X.w) X.A X.env xe → MSs b (X.tr pn xe) body bs) (hh : MHs b X (h₀ :: hds) hs) :
    MS b X (.Try body (h₀ :: hds) [] [] pos) (.try_ bs hs) := fun W tk => by
  obtain ⟨l, hl, hw⟩ := hs_ok SO hh
  exact PS.imp (ps_try_many hst hfr tk (fun W' pn xe tk' hps => hb pn xe hps W' tk') hl) fun D σ H h =>
    try_imp h fun c μ π B H σ S C hC hp s q => hw W D c μ π B H σ S C hC hp s q
/-- an own class of errors -/
structure XCls (K : PySem.W.Frag) (C : Addr) : Prop where
  q : PySem.W.excIn K C [.type "ValueError", .type "Exception", .type "BaseException", .type "object"] "ValueError.__new__" = true
  k : PySem.W.keepIn K (.ref C) = true
  h1 : PySem.W.subIn K (.ref C) (.type "BaseException") = some true
  h2 : PySem.W.typeIn K (.ref C) = some (.type "type")
/-- raise C('..') -/
theorem ms_raiseC {x m : Str} {C : Addr} {j : Nat} {p p2 cpos : Pos} (hc : X.calm = true) (T : XCls X.K C) (gC : X.mg x = some (.ref C)) (hg : Gl X x) (hdb : (x == ("__debug__" : Str)) = false := by decide) :
    MS b X (.Raise (some (.Call (.Name x p) [.Constant (.str m) j p2] [] cpos)) none pos) (.raise x) :=
  ms_raise hc (pmk_own PySem.F.excBase_ValueError T.q gC T.k (raises_own T.h1 T.h2) hg hdb) gC
/-! ### except C as e: y = [isinstance(e, D), ..] -/
/-- what isinstance says of an error -/
structure IslOk (K : PySem.W.Frag) (mg : Str → Option Value) (sub : Str → Str → Bool) : Prop where
  ex : ∀ c C, sub c c = true → mg c = some (.ref C) → ExcC K C
  kit : ∀ c c' C C', sub c c = true → sub c' c' = true → mg c = some (.ref C) → mg c' = some (.ref C') → PySem.W.kitOne K (.ref C) (.ref C') = some (sub c c')
/-- isinstance(e, D), .. -/
inductive IslEs (b : Bd) (X : Cx) (e : Str) : List Expr → List Str → Prop
  | nil : IslEs b X e [] []
  | cons {T : Str} {C : Addr} {p1 p2 p3 p4 : Pos} {els : List Expr} {Ts : List Str} (gT : Gl X T) (mT : X.mg T = some (.ref C)) (kT : b.sub T T = true) (dT : (T == ("__debug__" : Str)) = false) (r : IslEs b X e els Ts) :
      IslEs b X e (.Call (.Name "isinstance" p1) [.Name e p2, .Name T p3] [] p4 :: els) (T :: Ts)
theorem isl_pa {e : Str} {j : Nat} {c : Str} {D a : Addr} {oe : Obj} {pn : List (Addr × Obj)} (IO : IslOk X.K X.mg b.sub) (kc : b.sub c c = true) (hD : X.mg c = some (.ref D)) (hz : Zc (.ref D) none oe) (hf : ∃ vs, oe.data = .fields vs)
    (hN : X.N[j]? = some e) (hv : Vis X.env.scope e) (hd : (e == ("__debug__" : Str)) = false) (hcd : (e == ("__classdict__" : Str)) = false) (hgi : Gl X "isinstance") (hmi : X.mg "isinstance" = none) :
    ∀ {els : List Expr} {Ts : List Str}, IslEs b X e els Ts → PA (X.suite a ((a, oe) :: pn)) els (fun σ H Q => σ[j]? = some (some (.ref a)) ∧ Q (Ts.map fun T => V.bl (b.sub c T)) H) := by
  intro els Ts h
  induction h with
  | nil => exact PA.imp (X := X.suite a ((a, oe) :: pn)) pa_nil fun σ H Q q => q.2
  | @cons T C p1 p2 p3 p4 els Ts gT mT kT dT r ih =>
    have hI : CallR (X.suite a ((a, oe) :: pn)) (.builtin "isinstance") (rIsE X.K D a) := call_isE (X := X) (IO.ex c D kc hD) hz hf
    have v : PE (X.suite a ((a, oe) :: pn)) (.Name e p2) (tVar j) := pe_var (X := X.suite a ((a, oe) :: pn)) hN hv hd hcd
    have g : PE (X.suite a ((a, oe) :: pn)) (.Name T p3) (tC (.ref C)) := pe_glob (X := X.suite a ((a, oe) :: pn)) (v := .ref C) gT mT rfl dT
    have arg : PA (X.suite a ((a, oe) :: pn)) [.Name e p2, .Name T p3] (tCons (tVar j) (tCons (tC (.ref C)) tNil)) := pa_cons v (pa_cons g pa_nil)
    have call := pe_callB (X := X.suite a ((a, oe) :: pn)) (pos := p4) (p := p1) hI hgi hmi (by rfl) arg
    refine PA.imp (X := X.suite a ((a, oe) :: pn)) (pa_cons call ih) fun σ H Q q => ?_
    obtain ⟨e1, q⟩ := q
    exact ⟨_, e1, .ref C, .ref C, b.sub c T, rfl, fun u hu => hu, IO.kit c T D C kc kT hD mT, e1, q⟩
/-- what the suite wishes -/
def tIsl (K : PySem.W.Frag) (mg : Str → Option Value) (sub : Str → Str → Bool) (i j : Nat) (Ts : List Str) (a : Addr) (cls : Value) (d : Option Addr) : TS := fun D σ H => ∃ c C, cls = .ref C ∧ d = none ∧ mg c = some (.ref C) ∧ sub c c = true ∧ σ[j]? = some (some (.ref a)) ∧ Ts.length ≤ sizeLine ∧
  ∀ p, H p = none → D.nx (σ.set i (some (.ref p))) (upd H p (.lst (Ts.map fun T => V.bl (sub c T))))
theorem ms_try_isl {x e yn : Str} {C : Addr} {i j : Nat} {els : List Expr} {Ts : List Str} {np yp lp sp pos' : Pos} (hst : X.stack = X.env :: X.outer) (hfr : X.env.frame = some X.env.locals) (SO : SubOk X.K X.mg b.sub) (IO : IslOk X.K X.mg b.sub) (hN : X.N.Nodup) (hj : X.N[j]? = some e) (hi : X.N[i]? = some yn)
    (hle : X.env.kindOf e = some .local) (hv : Vis X.env.scope e) (hly : Loc X.env.scope yn) (hfy : X.fn yn = true ∨ X.env.scope.names.lookup yn = some .local) (hc : Names X x (.ref C)) (hm : X.mg x = some (.ref C)) (hx : b.sub x x = true) (hgi : Gl X "isinstance") (hmi : X.mg "isinstance" = none) (hTs : Ts.length ≤ sizeLine)
    (hb : ∀ (pn : List (Addr × Obj)) (xe : Value → Shared → Prop), PassesOwn (model X.prog X.w) X.A X.env xe → MSs b (X.tr pn xe) body bs) (hel : IslEs b X e els Ts)
    (hd : (e == ("__debug__" : Str)) = false := by decide) (hcd : (e == ("__classdict__" : Str)) = false := by decide)
    (hs : ∀ Y : Cx, Y.env = X.env → swapsWithSole [.Name yn yp] (.List els lp) sp.line Y.env = pure false := by intro _ _; rfl) (hw : ∀ Y : Cx, Y.env = X.env → swappedStores [.Name yn yp] (.List els lp) Y.env = pure none := by intro _ _; rfl) :
    MS b X (.Try body [.ExceptHandler (some (.Name x np)) (some e) [.Assign [.Name yn yp] (.List els lp) sp] pos'] [] [] pos) (.try_ bs (.cons x (some j) (.cons (.isl i j Ts) .nil) .nil)) := fun W tk => by
  refine PS.imp (ps_try_as (tb := fun W' => tSs b X.K X.mg bs W') (ts := tIsl X.K X.mg b.sub i j Ts) (i := j) hst hfr hN hj hle hc tk (fun W' pn xe tk' hps => hb pn xe hps W' tk') fun a oe cls d pn hz hf => ?_) fun D σ H h => ?_
  · refine ⟨fun pins s σ H D I h => ?_⟩
    obtain ⟨c, Cc, rfl, rfl, hC, kc, e1, hl, hn⟩ := h
    have pa := isl_pa (a := a) (oe := oe) (pn := pn) IO kc hC hz hf hj hv hd hcd hgi hmi hel
    have asg : PS (X.suite a ((a, oe) :: pn)) (.Assign [.Name yn yp] (.List els lp) sp) (tAsg (tLst fun σ H Q => σ[j]? = some (some (.ref a)) ∧ Q (Ts.map fun T => V.bl (b.sub c T)) H) (gName i)) :=
      ps_asg (X := X.suite a ((a, oe) :: pn)) (pe_lst pa) (pg_name hN hi hly hfy) (hs (X.suite a ((a, oe) :: pn)) rfl) (hw (X.suite a ((a, oe) :: pn)) rfl)
    exact (pss_cons asg pss_nil).run pins s σ H D I ⟨e1, by rw [List.length_map]; exact hl, hn⟩
  · refine try_imp h fun c μ π B H σ S Cc hC hp s q => ?_
    unfold execHs at q
    by_cases kc : b.sub c c = true
    · rw [if_pos kc] at q
      refine ⟨b.sub c x, SO.exm c x Cc C kc hx hC hm, fun z a na => ?_, fun z => ?_⟩
      · rw [if_pos z] at q
        dsimp only at q
        split at q
        rotate_left
        · exact q.elim
        rename_i gj
        have hjl : j < σ.length := by rw [s.len]; exact gj.1
        have npj : ∀ p ∈ π, p.1 ≠ j := fun p hp' z => by
          have := hp p hp'
          rw [z] at this
          have w := gj.2
          simp [this] at w
        obtain ⟨S1, s1, h1⟩ := s.fill (T := fun _ => False) gj.1 (m := .dat (.exc c)) (v := .ref a) (repM_dat.mpr ⟨by unfold Rep; exact ⟨a, rfl⟩, fun _ z => z⟩) (fun _ z => z.elim) npj
        have ex : execSs b.sub b.C b.pin b.N (.cons (.isl i j Ts) .nil) (μ.set j (some (.dat (.exc c)))) = match (if i < (μ.set j (some (.dat (.exc c)))).length ∧ b.pin.contains i = false then Res.nx ((μ.set j (some (.dat (.exc c)))).set i (some (.dat (.lst (Ts.map fun T => .bl (b.sub c T)))))) else .stuck) with
            | .nx μ1 => Res.nx μ1
            | r => r := by
          show (match execS b.sub b.C b.pin b.N (.isl i j Ts) (μ.set j (some (.dat (.exc c)))) with | .nx μ1 => execSs b.sub b.C b.pin b.N .nil μ1 | q => q) = _
          have e0 : execS b.sub b.C b.pin b.N (.isl i j Ts) (μ.set j (some (.dat (.exc c)))) = if i < (μ.set j (some (.dat (.exc c)))).length ∧ b.pin.contains i = false then Res.nx ((μ.set j (some (.dat (.exc c)))).set i (some (.dat (.lst (Ts.map fun T => .bl (b.sub c T)))))) else .stuck := by
            unfold execS
            rw [slot_set_same gj.1]
          rw [e0]
          rfl
        rw [ex] at q
        by_cases gi : i < (μ.set j (some (.dat (.exc c)))).length ∧ b.pin.contains i = false
        · rw [if_pos gi] at q
          have q : PostS X.K X.mg π B H S W D (.nx (((μ.set j (some (.dat (.exc c)))).set i (some (.dat (.lst (Ts.map fun T => .bl (b.sub c T)))))).set j none)) := q
          have npi : ∀ p ∈ π, p.1 ≠ i := fun p hp' z => by
            have := hp p hp'
            rw [z] at this
            have w := gi.2
            simp [this] at w
          refine ⟨c, Cc, rfl, rfl, hC, kc, by rw [List.getElem?_set_self hjl], hTs, fun p hp' => ?_⟩
          have ps := PStep.new s1.sub (.lst (Ts.map fun T => V.bl (b.sub c T))) hp'
          have s2 := s1.pure ps
          have rl : ∀ (B' : Hp) (Us : List Str), RepL X.K X.mg B' (Us.map fun T => Mi.D.bl (b.sub c T)) (Us.map fun T => V.bl (b.sub c T)) := fun B' Us => by
            induction Us with
            | nil => show RepL X.K X.mg B' [] []; unfold RepL; rfl
            | cons U Us ih =>
              show RepL X.K X.mg B' (Mi.D.bl (b.sub c U) :: Us.map fun T => Mi.D.bl (b.sub c T)) (V.bl (b.sub c U) :: Us.map fun T => V.bl (b.sub c T))
              unfold RepL
              exact ⟨_, _, rfl, by unfold Rep; rfl, ih⟩
          obtain ⟨S3, s3, h3⟩ := s2.fill (T := fun _ => False) gi.1 (m := .dat (.lst (Ts.map fun T => .bl (b.sub c T)))) (v := .ref p) (repM_dat.mpr ⟨by unfold Rep; exact ⟨p, _, rfl, .inl (.inl upd_same), rl _ _⟩, fun _ z => z⟩) (fun _ z => z.elim) npi
          obtain ⟨S4, s4, h4⟩ := s3.less (σ' := ((σ.set j (some (.ref a))).set i (some (.ref p))).set j none) (μ' := ((μ.set j (some (.dat (.exc c)))).set i (some (.dat (.lst (Ts.map fun T => .bl (b.sub c T)))))).set j none) (by rw [List.length_set]) (by rw [List.length_set]) (fun k m ek => by
            rw [slot_set_none] at ek
            split at ek
            · cases ek
            · rename_i nk
              exact ⟨ek, List.getElem?_set_ne nk⟩) fun p' hp' => List.getElem?_set_ne fun z => npj p' hp' z.symm
          exact q _ _ _ S4 s4 ((ps.step S).weak (T' := S4) (fun _ z => z) fun w z => (h1 w ((h3 w (h4 w z)).elim id False.elim)).elim id False.elim)
        · rw [if_neg gi] at q
          exact q.elim
      · rw [if_neg (by rw [z]; exact Bool.false_ne_true)] at q
        unfold execHs at q
        exact q B H σ S s (Step.refl _ _ _) Cc hC
    · rw [if_neg kc] at q
      exact q.elim
end
/-! ### a table of classes -/
def subOf (N : List Str) (R : List (Str × Str)) (c d : Str) : Bool := N.contains c && N.contains d && (c == d || R.contains (c, d))
theorem subOf_mem {N : List Str} {R : List (Str × Str)} {c : Str} (h : subOf N R c c = true) : c ∈ N := by
  unfold subOf at h
  have h1 := ((Bool.and_eq_true _ _).mp ((Bool.and_eq_true _ _).mp h).1).1
  simpa using h1
section
variable {K : PySem.W.Frag} {mg : Str → Option Value} {N : List Str} {R : List (Str × Str)}
theorem so_mk (h : ∀ c ∈ N, ∀ d ∈ N, ∀ C D, mg c = some (.ref C) → mg d = some (.ref D) → PySem.W.exmOne K (.ref C) (.ref D) = some (subOf N R c d)) : SubOk K mg (subOf N R) :=
  ⟨fun c d C D hc hd mc md => h c (subOf_mem hc) d (subOf_mem hd) C D mc md⟩
theorem so_e {c d : Str} {C D C0 D0 : Addr} {b b' : Bool} (h1 : mg c = some (.ref C0)) (h2 : mg d = some (.ref D0)) (h : PySem.W.exmOne K (.ref C0) (.ref D0) = some b) (hb : b = b') (mc : mg c = some (.ref C)) (md : mg d = some (.ref D)) : PySem.W.exmOne K (.ref C) (.ref D) = some b' := by
  rw [h1] at mc
  rw [h2] at md
  cases mc
  cases md
  rw [h, hb]
theorem so_k {c d : Str} {C D C0 D0 : Addr} {b b' : Bool} (h1 : mg c = some (.ref C0)) (h2 : mg d = some (.ref D0)) (h : PySem.W.kitOne K (.ref C0) (.ref D0) = some b) (hb : b = b') (mc : mg c = some (.ref C)) (md : mg d = some (.ref D)) : PySem.W.kitOne K (.ref C) (.ref D) = some b' := by
  rw [h1] at mc
  rw [h2] at md
  cases mc
  cases md
  rw [h, hb]
theorem io_one {c : Str} {C C0 : Addr} (h1 : mg c = some (.ref C0)) (h : ExcC K C0) (mc : mg c = some (.ref C)) : ExcC K C := by
  rw [h1] at mc
  cases mc
  exact h
theorem io_mk (h0 : ∀ c ∈ N, ∀ C, mg c = some (.ref C) → ExcC K C) (h : ∀ c ∈ N, ∀ d ∈ N, ∀ C D, mg c = some (.ref C) → mg d = some (.ref D) → PySem.W.kitOne K (.ref C) (.ref D) = some (subOf N R c d)) : IslOk K mg (subOf N R) :=
  ⟨fun c C hc mc => h0 c (subOf_mem hc) C mc, fun c d C D hc hd mc md => h c (subOf_mem hc) d (subOf_mem hd) C D mc md⟩
end
end Mi
/-! Mi26: the place of a text in a list; the greatest of a list; new lists of what is owned; what is not done. -/
namespace Mi
open PySem L2
def strsD : List D → Option (List Str)
  | [] => some []
  | .str s :: r => (strsD r).map (s :: ·)
  | _ :: _ => none
theorem strs_rep {K : PySem.W.Frag} {mg : Str → Option Value} {B : Hp} : ∀ {ds : List D} {vs : List V} {ss : List Str}, strsD ds = some ss → RepL K mg B ds vs → vs = ss.map V.str
  | [], vs, ss, e, h => by
    unfold strsD at e
    cases e
    unfold RepL at h
    exact h
  | .str s :: ds, vs, ss, e, h => by
    unfold strsD at e
    cases q : strsD ds with
    | none => rw [q] at e; cases e
    | some ss' =>
      rw [q] at e
      cases e
      unfold RepL at h
      obtain ⟨v, r, rfl, h1, h2⟩ := h
      rw [rep_str h1, strs_rep q h2]
      rfl
  | .non :: _, _, _, e, _ => by unfold strsD at e; cases e
  | .bl _ :: _, _, _, e, _ => by unfold strsD at e; cases e
  | .int _ :: _, _, _, e, _ => by unfold strsD at e; cases e
  | .tup _ :: _, _, _, e, _ => by unfold strsD at e; cases e
  | .lst _ :: _, _, _, e, _ => by unfold strsD at e; cases e
  | .dct _ _ :: _, _, _, e, _ => by unfold strsD at e; cases e
  | .ins _ _ _ :: _, _, _, e, _ => by unfold strsD at e; cases e
  | .exc _ :: _, _, _, e, _ => by unfold strsD at e; cases e
def idxS (w : Str) : List Str → Option Nat
  | [] => none
  | s :: r => if s == w then some 0 else (idxS w r).map (· + 1)
theorem idxS_ok {w : Str} : ∀ {ss : List Str} {j : Nat}, idxS w ss = some j → (∃ z, ss[j]? = some z ∧ (z == w) = true) ∧ ∀ m z, m < j → ss[m]? = some z → (z == w) = false
  | [], j, e => by cases e
  | s :: r, j, e => by
    unfold idxS at e
    cases k : (s == w) with
    | true =>
      rw [if_pos k] at e
      cases e
      exact ⟨⟨s, rfl, k⟩, fun m z hm => absurd hm (Nat.not_lt_zero m)⟩
    | false =>
      rw [if_neg (by rw [k]; exact Bool.false_ne_true)] at e
      cases q : idxS w r with
      | none => rw [q] at e; cases e
      | some i =>
        rw [q] at e
        cases e
        obtain ⟨⟨z, h1, h2⟩, h3⟩ := idxS_ok q
        refine ⟨⟨z, by simpa using h1, h2⟩, fun m z' hm hz => ?_⟩
        cases m with
        | zero => simp at hz; subst hz; exact k
        | succ m => exact h3 m z' (Nat.lt_of_succ_lt_succ hm) (by simpa using hz)
def fIndexS : D → D → Option D
  | .lst xs, .str w => (strsD xs).bind fun ss => (idxS w ss).map fun j => .int (j : Nat)
  | _, _ => none
theorem imp_indexS {K : PySem.W.Frag} {mg : Str → Option Value} : Imp2 K mg fIndexS fun x y H Q => tyV K "list" x H ∧ rIndex K x [y] H Q := fun B H x y d1 d2 d3 Q e r1 r2 hf k => by
  unfold fIndexS at hf
  split at hf
  · rename_i xs w
    cases q : strsD xs with
    | none => rw [q] at hf; cases hf
    | some ss =>
      rw [q] at hf
      have hf : (idxS w ss).map (fun j => D.int (j : Nat)) = some d3 := hf
      cases q2 : idxS w ss with
      | none => rw [q2] at hf; cases hf
      | some j =>
        rw [q2] at hf
        cases hf
        obtain ⟨a, vs, rfl, h1, h2⟩ := rep_lst r1
        have ev := strs_rep q h2
        subst ev
        have ew := rep_str r2
        subst ew
        obtain ⟨⟨z, z1, z2⟩, z3⟩ := idxS_ok q2
        have sl := e.l h1
        refine ⟨.inl ⟨rfl, _, sl⟩, a, _, .str w, j, .str z, rfl, rfl, sl, rfl, ?_, by rw [List.getElem?_map, z1]; rfl, z2, fun m z' hm hz => ?_, k _ B H (PStep.refl e) rep_int'⟩
        · simp [flatV]
        · rw [List.getElem?_map] at hz
          cases hs : ss[m]? with
          | none => rw [hs] at hz; cases hz
          | some u =>
            rw [hs] at hz
            cases hz
            exact z3 m u hm hs
  · cases hf
section
variable {b : Bd} {X : Cx} {x y : Expr} {e ex ey : E} {xs : List Expr} {pos apos : Pos} {st : Stmt}
def fLs : D → Option D
  | .lst xs => some (.lst xs)
  | _ => none
theorem me_index (hx : ME b X x ex) (hy : ME b X y ey) (hbase : attributeBase x "index" X.env (eval x X.env) = eval x X.env := by rfl)
    (hfew : ((backTo pos (starEach [y] X.env)).all (fun x => !x.1) && (backToKw pos (keywordEach [] X.env)).all (fun x => x.1.isSome)
      && decide (([y] : List Expr).length + ([] : List Keyword).length + (if ([] : List Keyword).isEmpty then 0 else 1) < 30)) = true := by rfl)
    (hline : (apos.endLine == pos.line) = true := by rfl) (hs : starEach [y] X.env = (false, eval y X.env) :: starEach [] X.env := by rfl) (hplain : (backTo pos (starEach [] X.env)).any (·.1) = false := by rfl) :
    ME b X (.Call (.Attribute x "index" apos) [y] [] pos) (.op2 fIndexS (.op1 fLs ex) ey) := fun W tk =>
  PE.imp (pe_bm (T := "list") PySem.F.plainAttrs_list PySem.F.slot_list_index PySem.F.type_list_index mt_index (hx W tk) (pa_cons (hy W tk) pa_nil hs) hbase hfew hline hs hplain) fun σ H Q ⟨π, B, μ, S, hp, s, h⟩ => by
    have e0 : evalE b.C b.pin (.op2 fIndexS (.op1 fLs ex) ey) μ = (evalE b.C b.pin ex μ).bind (fun m μ0 => (onDat (fun d μ1 => outD (fLs d) μ1) m μ0).bind (onDat fun x μ1 => (evalE b.C b.pin ey μ1).bind (onDat fun y μ2 => outD (fIndexS x y) μ2))) := by
      show ((evalE b.C b.pin ex μ).bind (onDat fun d μ1 => outD (fLs d) μ1)).bind (onDat fun x μ1 => (evalE b.C b.pin ey μ1).bind (onDat fun y μ2 => outD (fIndexS x y) μ2)) = _
      cases evalE b.C b.pin ex μ <;> rfl
    rw [e0] at h
    have pr : (E.op2 fIndexS (.op1 fLs ex) ey).pure = true → ex.pure = true ∧ ey.pure = true := fun q => (Bool.and_eq_true _ _).mp q
    refine bindE hp s h (fun q => (pr q).1) fun m μ1 v B1 H1 S1 T s1 r1 _ x1 h1 h1' _ => ?_
    cases m with
    | dat d1 =>
      cases d1 with
      | lst xs =>
        have rd := (repM_dat.mp r1).1
        obtain ⟨a, vs, rfl, z, _⟩ := rep_lst rd
        refine ⟨.inl ⟨rfl, vs, s1.sub.l z⟩, ?_⟩
        have h1 : Post X.K X.mg (E.op2 fIndexS (.op1 fLs ex) ey).pure (RM X.K X.mg) π B1 H1 S1 σ W Q ((evalE b.C b.pin ey μ1).bind (onDat fun y μ2 => outD (fIndexS (.lst xs) y) μ2)) := h1
        refine bindE hp s1 h1 (fun q => (pr q).2) fun m2 μ2 v2 B2 H2 S2 T2 s2 r2 _ x2 h2 _ _ => ?_
        obtain ⟨d2, rfl, h2⟩ := onDat_dat h2
        obtain ⟨d3, hd, h3⟩ := outD_some h2
        exact (imp_indexS B2 H2 _ v2 (.lst xs) d2 d3 Q s2.sub (rd.mono x2.ex) (repM_dat.mp r2).1 hd fun w B' H' p rw' => h3.done s2 p rw').2
      | _ => exact h1.elim
    | _ => exact h1.elim
/-- not done here -/
theorem ms_stuck : MS b X st (.expr (.opN (fun _ => none) .nil)) := fun W tk => ⟨fun pins s σ H D I ⟨π, B, μ, S, hp, st, h⟩ => False.elim h⟩
/-! ### a new list of what is owned -/
theorem mf_viewF (h : MF b X x e) : MF b X x (.viewF e) := fun W tk => PE.imp (h W tk) fun σ H Q ⟨π, B, μ, S, hp, s, k⟩ => by
  unfold evalE at k
  split at k
  rotate_left
  · exact k.elim
  rename_i hpu
  refine ⟨π, frz B H S, viewE μ, fun _ => False, hp, s.view, ?_⟩
  cases q : evalE b.C b.pin e (viewE μ) with
  | stuck => rw [q] at k; exact k
  | err c μ' => rw [q] at k; exact k.elim
  | ok m μ' =>
    rw [q] at k
    cases m with
    | dat d =>
      cases d with
      | lst ds =>
        dsimp only at k
        split at k
        · rename_i hh
          intro pa o B' H' S' s' x' u' hpa fr
          have e1 := u' hpu
          rcases fr with ⟨ds', vs, e2, rfl, r⟩ | ⟨_, _, _, e2, _⟩
          · cases e2
            have hh' := (Bool.and_eq_true _ _).mp hh
            have r2 : RepL X.K X.mg (Mi.grow B H B') ds vs := ((Bool.or_eq_true _ _).mp hh'.2).elim (fun f => RepL.flat f r) fun nt => RepL.hard (fun a vs z => grow_tup s nt x' z) hh'.1 r
            have s2 := s.grow e1 s'.sub
            exact k pa (.lst vs) _ _ S s2 (Step.grow e1) (fun _ => e1) hpa (.inl ⟨ds, vs, rfl, rfl, r2⟩)
          · cases e2
        · exact k.elim
      | _ => exact k.elim
    | _ => exact k.elim
/-! ### the greatest of a list -/
def fMaxL : List D → Option D
  | [.lst xs] => (intsD xs).bind fun ns => (maxL ns).map .int
  | _ => none
theorem fold_max : ∀ (r : List Int) (i : Int), (r.foldl (fun a b => if b > a then b else a) i) ∈ i :: r ∧ ∀ y ∈ i :: r, y ≤ r.foldl (fun a b => if b > a then b else a) i
  | [], i => ⟨by simp, fun y hy => by simp at hy; subst hy; exact Int.le_refl _⟩
  | b :: r, i => by
    obtain ⟨h1, h2⟩ := fold_max r (if b > i then b else i)
    show List.foldl _ (if b > i then b else i) r ∈ _ ∧ ∀ y ∈ i :: b :: r, y ≤ List.foldl _ (if b > i then b else i) r
    generalize List.foldl (fun a b => if b > a then b else a) (if b > i then b else i) r = m at *
    by_cases k : b > i
    · rw [if_pos k] at h1 h2
      refine ⟨List.mem_cons_of_mem _ h1, fun y hy => ?_⟩
      rcases List.mem_cons.mp hy with rfl | hy
      · exact Int.le_trans (Int.le_of_lt k) (h2 b (List.mem_cons_self ..))
      · exact h2 y hy
    · rw [if_neg k] at h1 h2
      refine ⟨(List.mem_cons.mp h1).elim (fun z => by rw [z]; exact List.mem_cons_self ..) fun z => List.mem_cons_of_mem _ (List.mem_cons_of_mem _ z), fun y hy => ?_⟩
      rcases List.mem_cons.mp hy with rfl | hy
      · exact h2 y (List.mem_cons_self ..)
      · rcases List.mem_cons.mp hy with rfl | hy
        · exact Int.le_trans (Int.not_lt.mp k) (h2 i (List.mem_cons_self ..))
        · exact h2 y (List.mem_cons_of_mem _ hy)
theorem imp_maxL {K : PySem.W.Frag} {mg : Str → Option Value} : ImpN K mg fMaxL (rMax K) := fun B H xs ds d3 Q e r hf k => by
  unfold fMaxL at hf
  split at hf
  · rename_i ys
    cases q : intsD ys with
    | none => rw [q] at hf; cases hf
    | some ns =>
      rw [q] at hf
      have hf : (maxL ns).map D.int = some d3 := hf
      cases ns with
      | nil => cases hf
      | cons i r0 =>
        cases hf
        obtain ⟨v, rfl, r1⟩ := repL1 r
        obtain ⟨a, vs, rfl, h1, h2⟩ := rep_lst r1
        obtain ⟨m1, m2⟩ := fold_max r0 i
        refine ⟨a, i :: r0, rfl, by rw [← ints_rep q h2]; exact e.l h1, Nat.succ_pos _, fun m hm hl => ?_⟩
        have em : m = r0.foldl (fun a b => if b > a then b else a) i := Int.le_antisymm (m2 m hm) (hl _ m1)
        rw [em]
        exact k _ B H (PStep.refl e) rep_int'
  · cases hf
end
end Mi
/-! Mi27: range(a, b, -1); a tuple of owned things. -/
namespace Mi
open PySem L2
section
variable {K : PySem.W.Frag} {mg : Str → Option Value} {B : Hp}
theorem walks_rangeC {lo c : Int} {n : Nat} : Walks K mg B (Itc lo c n) ((List.range n).map fun i => .int (lo + (i : Nat) * c)) := fun i B' H' e1 e2 => by
  refine ⟨fun d e => ?_, fun e hl => ?_⟩
  · have hi : i < n := by
      have := (List.getElem?_eq_some_iff.mp e).1
      simpa using this
    refine ⟨hi, fun x H'' y => ?_⟩
    obtain ⟨rfl, rfl⟩ := y
    simp [hi] at e
    subst e
    exact ⟨B', PStep.refl e2, by unfold Rep; rfl⟩
  · have := List.getElem?_eq_none_iff.mp e
    show n ≤ i
    simpa using this
end
def fRangeD : List D → Option (List D)
  | [.int i, .int j, .int c] => if c = -1 ∧ (-(2 ^ 62) ≤ i ∧ i < 2 ^ 62) ∧ -(2 ^ 62) ≤ j ∧ j < 2 ^ 62 then some ((List.range (i - j).toNat).map fun k => .int (i + (k : Nat) * -1)) else none
  | _ => none
theorem repL3r {K : PySem.W.Frag} {mg : Str → Option Value} {B : Hp} {d d' d2 : D} {vs : List V} (h : RepL K mg B [d, d', d2] vs) : ∃ v w u, vs = [v, w, u] ∧ Rep K mg B d v ∧ Rep K mg B d' w ∧ Rep K mg B d2 u := by
  unfold RepL at h
  obtain ⟨v, r, rfl, h1, h2⟩ := h
  obtain ⟨w, u, rfl, h3, h4⟩ := repL2 h2
  exact ⟨v, w, u, rfl, h1, h3, h4⟩
section
variable {b : Bd} {X : Cx} {x y z tg : Expr} {es : Es} {xs : List Expr} {pos ppos : Pos}
theorem mi_rangeD (hg : Gl X "range") (hm : X.mg "range" = none) (h : MEs b X [x, y, z] es) (hs : starEach [x, y, z] X.env = (false, eval x X.env) :: starEach [y, z] X.env := by rfl) (hpl : (backTo pos (starEach [y, z] X.env)).any (·.1) = false := by rfl) : MI b X tg (.Call (.Name "range" ppos) [x, y, z] [] pos) fRangeD es := fun W tk =>
  PI.imp (pi_range3 hg hm (h W tk) hs hpl) fun σ H R k => iterN k fun ds xs B1 H1 vs hf e1 r w => by
    unfold fRangeD at hf
    split at hf
    · split at hf
      · rename_i i j c hb
        cases hf
        obtain ⟨rfl, ⟨h1, h2⟩, h3, h4⟩ := hb
        obtain ⟨v, u, t, rfl, r1, r2, r3⟩ := repL3r r
        rw [rep_int r1, rep_int r2, rep_int r3]
        exact ⟨i, j, -1, _, rfl, RgC.neg h1 h2 h3 h4, w _ walks_rangeC⟩
      · cases hf
    · cases hf
/-- a tuple of owned things -/
theorem me_mt {n : Nat} (h : MEs b X xs es) : ME b X (.Tuple xs n pos) (.mt es) := fun W tk => PE.imp (pe_tup (h W tk)) fun σ H Q ⟨π, B, μ, S, hp, s, h⟩ => by
  unfold evalE at h
  refine ⟨π, B, μ, S, hp, s, ?_⟩
  cases q : evalEs b.C b.pin es μ with
  | stuck => rw [q] at h; exact h
  | err c μ' => rw [q] at h; exact h
  | ok ms μ1 =>
    rw [q] at h
    intro vs B1 H1 S1 T1 s1 r1 d1 x1 u1
    dsimp only [Out.bind] at h
    split at h
    · rename_i hl
      refine ⟨by rw [← repMs_len r1]; exact hl, fun p hp' => ?_⟩
      have nT : ¬ T1 p := fun z => (r1.owned p z).1 hp'
      refine h (.ref p) B1 _ S1 (fun a => a = p ∨ T1 a) (s1.new hp') ?_ (fun a z w => z.elim (fun e => by rw [e] at w; exact (s1.owned p w).1 hp') fun z => d1 a z w) ?_ fun q => nomatch q
      · show RepM X.K X.mg B1 _ (.tup ms) _ _
        unfold RepM
        exact ⟨p, vs, T1, rfl, upd_same, s1.sub.none hp', r1.congr (Ex.refl B1) fun a z => ⟨upd_ne fun e => by rw [e] at z; exact nT z, (r1.owned a z).2⟩, nT, fun a => Iff.rfl⟩
      · exact (x1.trans (Step.new hp')).weak (fun _ z => z) fun a z => z.elim (fun z => .inl (.inl z)) fun z => z.elim .inr fun z => .inl (.inr z)
    · exact h.elim
end
end Mi
/-! Mi28: data that can be compared; what is equal to itself. -/
namespace Mi
open PySem L2
def Lay (n : Nat) (d : D) : Prop := d.py.canLay0 = true ∧ d.py.depth ≤ n
theorem lay_all {n : Nat} : ∀ {xs : List D}, (∀ d ∈ xs, Lay n d) → PyData.canLayAll0 (D.pys xs) = true ∧ PyData.depthAll (D.pys xs) ≤ n
  | [], _ => by unfold D.pys; exact ⟨by unfold PyData.canLayAll0; rfl, by unfold PyData.depthAll; omega⟩
  | d :: r, h => by
    obtain ⟨h1, h2⟩ := lay_all (n := n) (xs := r) fun e he => h e (List.mem_cons_of_mem _ he)
    obtain ⟨g1, g2⟩ := h d List.mem_cons_self
    unfold D.pys
    refine ⟨by unfold PyData.canLayAll0; rw [g1, h1]; rfl, ?_⟩
    unfold PyData.depthAll
    omega
theorem Lay.tup {n : Nat} {xs : List D} (h : ∀ d ∈ xs, Lay n d) : Lay (n + 1) (.tup xs) := by
  obtain ⟨h1, h2⟩ := lay_all h
  refine ⟨?_, ?_⟩
  · unfold D.py PyData.canLay0; exact h1
  · unfold D.py PyData.depth; omega
theorem Lay.lst {n : Nat} {xs : List D} (h : ∀ d ∈ xs, Lay n d) : Lay (n + 1) (.lst xs) := by
  obtain ⟨h1, h2⟩ := lay_all h
  refine ⟨?_, ?_⟩
  · unfold D.py PyData.canLay0; exact h1
  · unfold D.py PyData.depth; omega
theorem Lay.str {n : Nat} {s : Str} (h : PyData.strOk s = true) : Lay n (.str s) := ⟨by unfold D.py PyData.canLay0; exact h, by unfold D.py PyData.depth; omega⟩
theorem Lay.int {n : Nat} {i : Int} : Lay n (.int i) := ⟨by unfold D.py PyData.canLay0; rfl, by unfold D.py PyData.depth; omega⟩
theorem Lay.bl {n : Nat} {i : Bool} : Lay n (.bl i) := ⟨by unfold D.py PyData.canLay0; rfl, by unfold D.py PyData.depth; omega⟩
theorem Lay.non {n : Nat} : Lay n .non := ⟨by unfold D.py PyData.canLay0; rfl, by unfold D.py PyData.depth; omega⟩
theorem Lay.ints {n : Nat} (ns : List Int) : Lay (n + 1) (.lst (ns.map .int)) := Lay.lst fun d hd => by
  obtain ⟨i, _, rfl⟩ := List.mem_map.mp hd
  exact Lay.int
theorem Lay.up {n m : Nat} {d : D} (h : Lay n d) (l : n ≤ m) : Lay m d := ⟨h.1, Nat.le_trans h.2 l⟩
theorem Lay.two {n : Nat} {a b : D} (h1 : Lay n a) (h2 : Lay n b) : Lay (n + 1) (.tup [a, b]) := Lay.tup fun d hd => by
  simp only [List.mem_cons, List.not_mem_nil, or_false] at hd
  rcases hd with rfl | rfl
  · exact h1
  · exact h2
theorem Lay.shaped {n : Nat} {d : D} (h : Lay n d) (l : n ≤ 64) : SeqAt.shaped d.py = true := by
  unfold SeqAt.shaped
  rw [h.1]
  simp only [Bool.true_and, decide_eq_true_eq]
  exact Nat.le_trans h.2 l
mutual
theorem eqv_self : ∀ {d : D}, d.py.canLay0 = true → PyData.eqv d.py d.py = true
  | .non, _ => by unfold D.py PyData.eqv; rfl
  | .bl b, _ => by unfold D.py PyData.eqv; simp
  | .int i, _ => by unfold D.py PyData.eqv; simp
  | .str s, _ => by unfold D.py PyData.eqv; simp
  | .tup xs, h => by
    unfold D.py at h ⊢
    unfold PyData.canLay0 at h
    unfold PyData.eqv
    exact eqv_selfs h
  | .lst xs, h => by
    unfold D.py at h ⊢
    unfold PyData.canLay0 at h
    unfold PyData.eqv
    exact eqv_selfs h
  | .dct _ _, h => by unfold D.py PyData.canLay0 at h; cases h
  | .ins _ _ _, h => by unfold D.py PyData.canLay0 at h; cases h
  | .exc _, h => by unfold D.py PyData.canLay0 at h; cases h
theorem eqv_selfs : ∀ {ds : List D}, PyData.canLayAll0 (D.pys ds) = true → PyData.eqvAll (D.pys ds) (D.pys ds) = true
  | [], _ => by unfold D.pys PyData.eqvAll; rfl
  | d :: r, h => by
    unfold D.pys at h ⊢
    unfold PyData.canLayAll0 at h
    have hh := (Bool.and_eq_true _ _).mp h
    unfold PyData.eqvAll
    rw [eqv_self hh.1, eqv_selfs hh.2]
    rfl
end
theorem eqD_self {n : Nat} {d : D} (h : Lay n d) (l : n ≤ 64) : eqD d d = some true := by
  unfold eqD
  cases q : scalD d d with
  | some b =>
    dsimp only
    cases d <;> simp [scalD] at q <;> first | (rw [← q]) | (cases q; rfl) | skip
  | none =>
    dsimp only
    rw [if_pos ⟨h.shaped l, h.shaped l⟩, eqv_self h.1]
theorem fEq_self {n : Nat} {d : D} (h : Lay n d) (l : n ≤ 64) : fEq d d = some (.bl true) := by
  unfold fEq
  rw [eqD_self h l]
  rfl
theorem fNe_self {n : Nat} {d : D} (h : Lay n d) (l : n ≤ 64) : fNe d d = some (.bl false) := by
  unfold fNe
  rw [eqD_self h l]
  rfl
end Mi
/-! Mi29: xs[::-1]. -/
namespace Mi
open PySem L2 PyProof.Rows
def fRevL : List D → Option D
  | [.lst xs] => some (.lst xs.reverse)
  | _ => none
theorem repL_rev {K : PySem.W.Frag} {mg : Str → Option Value} {B : Hp} : ∀ {ds : List D} {vs : List V}, RepL K mg B ds vs → RepL K mg B ds.reverse vs.reverse
  | [], vs, h => by
    unfold RepL at h
    subst h
    unfold RepL
    rfl
  | d :: ds, vs, h => by
    unfold RepL at h
    obtain ⟨v, vs', rfl, h1, h2⟩ := h
    rw [List.reverse_cons, List.reverse_cons]
    refine repL_app (repL_rev h2) ?_
    unfold RepL
    exact ⟨v, [], rfl, h1, by unfold RepL; rfl⟩
section
variable {b : Bd} {X : Cx} {x : Expr} {ex : E} {k : Nat} {p1 p2 p3 pos : Pos}
/-- a list the other way round: a new list -/
theorem mf_rev (hx : ME b X x ex) : MF b X (.Subscript x (.Slice none none (some (.UnaryOp .USub (.Constant (.int 1) k p1) p2)) p3) pos) (.opN fRevL (.cons ex .nil)) := fun W tk =>
  PE.imp (pe_revL (hx W tk)) fun σ H Q h => E_mono (es_cons (many_rawF h)) fun v H1 h1 => by
    obtain ⟨B, ds, d3, e, r, hf, k⟩ := es_nil h1
    unfold fRevL at hf
    split at hf
    · rename_i xs
      cases hf
      unfold RepL at r
      obtain ⟨v', vs', e0, h1, h2⟩ := r
      injection e0 with e0 e1
      subst e0
      obtain ⟨a, vs, rfl, h1, h2⟩ := rep_lst h1
      exact ⟨a, vs, rfl, e.l h1, fun p hp => k p _ hp (.inl ⟨_, _, rfl, rfl, repL_rev h2⟩)⟩
    · cases hf
end
end Mi
/-! Mi30: more of the plain law: ranges, loops that may return. -/
namespace Mi
open PySem L2
theorem fRange1_len (n : Nat) (h : n ≤ 100000) : fRange1 [.int (n : Int)] = some ((List.range n).map fun i => .int (0 + (i : Nat))) := fRange1_n (by omega)
theorem range_get {n j : Nat} {d : D} (h : ((List.range n).map fun i => D.int (0 + (i : Nat)))[j]? = some d) : j < n ∧ d = .int (j : Nat) := by
  rw [List.getElem?_map] at h
  cases q : (List.range n)[j]? with
  | none => rw [q] at h; cases h
  | some i =>
    rw [q] at h
    have hj : j < n := by
      have := (List.getElem?_eq_some_iff.mp q).1
      simpa using this
    have e : i = j := by
      rw [List.getElem?_range hj] at q
      cases q
      rfl
    subst e
    cases h
    exact ⟨hj, by simp⟩
theorem fRangeD_n {a b : Int} (h1 : -100000 ≤ a) (h2 : a ≤ 100000) (h3 : -100000 ≤ b) (h4 : b ≤ 100000) : fRangeD [.int a, .int b, .int (-1)] = some ((List.range (a - b).toNat).map fun k => .int (a + (k : Nat) * -1)) := by
  show (if (-1 : Int) = -1 ∧ (-(2 ^ 62) ≤ a ∧ a < 2 ^ 62) ∧ -(2 ^ 62) ≤ b ∧ b < 2 ^ 62 then _ else none) = _
  rw [if_pos ⟨rfl, ⟨by omega, by omega⟩, by omega, by omega⟩]
theorem rangeD_get {a : Int} {n j : Nat} {d : D} (h : ((List.range n).map fun k => D.int (a + (k : Nat) * -1))[j]? = some d) : j < n ∧ d = .int (a - j) := by
  rw [List.getElem?_map] at h
  cases q : (List.range n)[j]? with
  | none => rw [q] at h; cases h
  | some i =>
    rw [q] at h
    have hj : j < n := by
      have := (List.getElem?_eq_some_iff.mp q).1
      simpa using this
    have e : i = j := by
      rw [List.getElem?_range hj] at q
      cases q
      rfl
    subst e
    cases h
    exact ⟨hj, by show D.int (a + (i : Int) * -1) = _; rw [show a + (i : Int) * -1 = a - i by omega]⟩
/-- a loop whose turns may return: by a state and a step -/
def foldX {α : Type} (g : Nat → α → Except M α) : Nat → Nat → α → Except M α
  | _, 0, a => .ok a
  | i, n + 1, a => match g i a with
    | .ok a1 => foldX g (i + 1) n a1
    | .error m => .error m
theorem forLoop_ex {α : Type} {t : Tg} {b : Mi.Env → Mi.Res} {S : α → Mi.Env → Prop} {g : Nat → α → Except M α} : ∀ {ds : List D} {i : Nat} {a : α} {μ : Mi.Env}, S a μ →
    (∀ j d a μ, ds[j]? = some d → S a μ → ∃ μ1, setTg t (.dat d) μ = some μ1 ∧ match g (i + j) a with
      | .ok a1 => ∃ μ2, b μ1 = .nx μ2 ∧ S a1 μ2
      | .error m => ∃ μ2, b μ1 = .ret m μ2) →
    match foldX g i ds.length a with
      | .ok a1 => ∃ μ2, forLoop t b ds μ = .nx μ2 ∧ S a1 μ2
      | .error m => ∃ μ2, forLoop t b ds μ = .ret m μ2
  | [], i, a, μ, h, _ => ⟨μ, rfl, h⟩
  | d :: ds, i, a, μ, h, k => by
    obtain ⟨μ1, e1, e2⟩ := k 0 d a μ rfl h
    rw [Nat.add_zero] at e2
    have k' : ∀ j d' a μ, ds[j]? = some d' → S a μ → ∃ μ1, setTg t (.dat d') μ = some μ1 ∧ match g (i + 1 + j) a with
      | .ok a1 => ∃ μ2, b μ1 = .nx μ2 ∧ S a1 μ2
      | .error m => ∃ μ2, b μ1 = .ret m μ2 := fun j d' a μ hd hs => by
        have := k (j + 1) d' a μ (by simpa using hd) hs
        rw [show i + (j + 1) = i + 1 + j by omega] at this
        exact this
    show (match (match g i a with | .ok a1 => foldX g (i + 1) ds.length a1 | .error m => .error m) with
      | .ok a1 => ∃ μ2, forLoop t b (d :: ds) μ = .nx μ2 ∧ S a1 μ2
      | .error m => ∃ μ2, forLoop t b (d :: ds) μ = .ret m μ2)
    cases q : g i a with
    | error m =>
      rw [q] at e2
      obtain ⟨μ2, e2⟩ := e2
      refine ⟨μ2, ?_⟩
      unfold forLoop
      rw [e1]
      dsimp only
      rw [e2]
    | ok a1 =>
      rw [q] at e2
      obtain ⟨μ2, e2, s2⟩ := e2
      have ih := forLoop_ex (i := i + 1) s2 k'
      dsimp only
      have un : forLoop t b (d :: ds) μ = forLoop t b ds μ2 := by
        rw [forLoop.eq_2, e1]
        dsimp only
        rw [e2]
      rw [un]
      exact ih
theorem cutD_map {α : Type} (f : α → D) (xs : List α) (lo hi : Option Int) : cutD (xs.map f) lo hi = ((xs.drop (HT.sIx xs.length 0 lo)).take (HT.sIx xs.length xs.length hi - HT.sIx xs.length 0 lo)).map f := by
  unfold cutD
  rw [List.length_map, ← List.map_drop, ← List.map_take]
theorem sl_upto (xs : List D) (hi : Int) (n : Nat) (h0 : hi = n) : ∃ ys, fSlL [.lst xs, .non, .int hi] = some (.lst ys) ∧ ys = xs.take n := by
  subst h0
  have h1 : HT.sIx xs.length xs.length (some (n : Int)) = min n xs.length := by
    simp [HT.sIx]
    intro h
    omega
  have h2 : HT.sIx xs.length 0 none = 0 := by simp [HT.sIx]
  refine ⟨_, rfl, ?_⟩
  unfold cutD
  rw [h1, h2, List.drop_zero, Nat.sub_zero, ← List.take_eq_take_min]
theorem flat_b {b : Bool} : (D.bl b).flat = true := rfl
theorem ts2 {a b : M} : M.toDs [a, b] = [a.toD, b.toD] := rfl
end Mi
namespace K16
open PySem L2 Mi
def top (i : Nat) : Stmt := PySem.Challenge.pw_fieldgate_k16_great_lists_and_many_calls.main.body.getD i (.Pass ⟨0, 0, 0, 0⟩)
abbrev s0 : Stmt := inClass (top 10) 0
abbrev s1 : Stmt := inClass (top 10) 1
abbrev s2 : Stmt := inClass (top 10) 2
abbrev s3 : Stmt := top 11
abbrev s4 : Stmt := top 12
abbrev s5 : Stmt := top 13
abbrev s6 : Stmt := top 14
abbrev s7 : Stmt := top 15
abbrev s8 : Stmt := top 16
abbrev s9 : Stmt := top 17
abbrev s10 : Stmt := top 18
abbrev s11 : Stmt := top 20
abbrev s12 : Stmt := top 21
abbrev s13 : Stmt := top 22
abbrev s14 : Stmt := top 23
abbrev s15 : Stmt := top 24
abbrev s16 : Stmt := top 25
abbrev s17 : Stmt := top 26
abbrev s18 : Stmt := top 27
abbrev s19 : Stmt := top 28
/-! ### the functions -/
def w7_0b : Mi.Ss := (.cons (.expr (.mut 1 fPutD (.cons (.var 9) .nil) (.root 6) (.cons (.op2 fIx (.var 8) (.con (.int 0))) .nil)))
  .nil)
def w9_0c : Mi.E := (.op2 fIsNotN (.var 0) (.con .non))
def w9_0b : Mi.Ss := (.cons (.expr (.mut 0 fAppend .nil (.root 2) (.cons (.call true 9 (.val (.op2 fIx (.var 0) (.con (.int 0))) (.val (.op2 fIx (.var 1) (.con (.int 1))) .nil))) .nil)))
  (.cons (.set (.one 0) (.op2 fIx (.var 0) (.con (.int 1))))
  .nil))
def w10_0b : Mi.Ss := (.cons (.expr (.mut 1 fPutD (.cons (.var 4) .nil) (.root 3) (.cons (.op2 fIx (.var 4) (.con (.int 0))) .nil)))
  .nil)
def w10_1b : Mi.Ss := (.cons (.expr (.mut 1 fPutD (.cons (.var 8) .nil) (.root 6) (.cons (.op2 fIx (.var 7) (.con (.int 0))) .nil)))
  .nil)
def w12_0b : Mi.Ss := (.cons (.set (.one 0) (.opN fTup (.cons (.con (.str "cons")) (.cons (.opN fTup (.cons (.con (.str "number")) (.cons (.op2 fSub (.var 1) (.var 2)) .nil))) (.cons (.var 0) .nil)))))
  .nil)
def w13_0b : Mi.Ss := (.cons (.set (.one 1) (.opN fTup (.cons (.con (.str "call")) (.cons (.var 0) (.cons (.var 1) .nil)))))
  .nil)
def w15_0b : Mi.Ss := (.cons (.set (.one 4) (.opN fTup (.cons (.con (.str "plus")) (.cons (.opN fTup (.cons (.con (.str "none")) (.cons (.opN fTup (.cons (.con (.str "call")) (.cons (.con (.str "down")) (.cons (.opN fTup (.cons (.con (.str "name")) (.cons (.con (.str "n")) .nil))) .nil)))) .nil))) (.cons (.var 4) .nil)))))
  .nil)
def w15_1b : Mi.Ss := (.cons (.set (.one 4) (.opN fTup (.cons (.con (.str "plus")) (.cons (.opN fTup (.cons (.con (.str "call")) (.cons (.con (.str "block")) (.cons (.opN fTup (.cons (.con (.str "name")) (.cons (.con (.str "u")) .nil))) .nil)))) (.cons (.var 4) .nil)))))
  .nil)
def w16_0b : Mi.Ss := (.cons (.expr (.mut 0 fAppend .nil (.root 4) (.cons (.var 6) .nil)))
  (.cons (.ite (.view (.op2 fGt (.op2 fAddX (.con (.int 1)) (.op2 fMul (.con (.int 2)) (.opN fLen (.cons (.var 4) .nil)))) (.con (.int 1000)))) (.cons (.ret (.opN fTup (.cons (.con (.str "great")) (.cons (.con .non) .nil))))
  .nil) .nil)
  .nil))
def w16_1b : Mi.Ss := (.cons (.set (.one 3) (.op2 fAddX (.var 3) (.con (.int 1))))
  (.cons (.ite (.op2 fGt (.var 3) (.var 2)) (.cons (.ret (.opN fTup (.cons (.con (.str "long")) (.cons (.con .non) .nil))))
  .nil) .nil)
  (.cons (.ite (.or (.op2 fGe (.var 5) (.con (.int 64))) (.op2 fGt (.op2 fMod (.var 5) (.con (.int 8))) (.con (.int 0)))) (.cons (.for_ (.one 6) fRangeD (.cons (.con (.int 8)) (.cons (.con (.int 0)) (.cons (.op1 fNeg (.con (.int 1))) .nil))) w16_0b)
  .nil) .nil)
  .nil)))
def w16_2b : Mi.Ss := (.cons (.expr (.mut 0 fAppend .nil (.root 4) (.cons (.var 6) .nil)))
  (.cons (.ite (.view (.op2 fGt (.op2 fAddX (.con (.int 1)) (.op2 fMul (.con (.int 2)) (.opN fLen (.cons (.var 4) .nil)))) (.con (.int 1000)))) (.cons (.ret (.opN fTup (.cons (.con (.str "great")) (.cons (.con .non) .nil))))
  .nil) .nil)
  .nil))
def w17_0b : Mi.Ss := (.cons (.set (.one 3) (.op2 fAddX (.var 3) (.con (.int 1))))
  (.cons (.ite (.op2 fGt (.var 3) (.var 2)) (.cons (.ret (.opN fTup (.cons (.con (.str "long")) (.cons (.con .non) .nil))))
  .nil) .nil)
  (.cons (.ite (.op2 fGt (.var 6) (.con (.int 12))) (.cons (.ret (.opN fTup (.cons (.con (.str "deep")) (.cons (.con .non) .nil))))
  .nil) .nil)
  .nil)))
def w17_1b : Mi.Ss := (.cons (.for_ (.one 6) fRange2 (.cons (.con (.int 2)) (.cons (.op2 fAddX (.con (.int 3)) (.opN fMax (.cons (.con (.int 0)) (.cons (.var 1) .nil)))) .nil)) w17_0b)
  .nil)
def w17_2b : Mi.Ss := (.cons (.set (.one 3) (.op2 fAddX (.var 3) (.con (.int 1))))
  (.cons (.ite (.op2 fGt (.var 3) (.var 2)) (.cons (.ret (.opN fTup (.cons (.con (.str "long")) (.cons (.con .non) .nil))))
  .nil) .nil)
  (.cons (.for_ (.one 5) fRange1 (.cons (.con (.int 7)) .nil) w17_1b)
  .nil)))
def w18_0b : Mi.Ss := (.cons (.set (.one 4) (.call true 10 (.val (.var 0) (.val (.var 1) (.val (.var 2) .nil)))))
  .nil)
def w19_0b : Mi.Ss := (.cons (.set (.one 2) (.call false 11 (.val (.var 1) .nil)))
  (.cons (.set (.one 3) (.op2 fMod (.op2 fDivW (.var 2) (.con (.int 7))) (.con (.int 401))))
  (.cons (.ite (.op2 fEq (.op2 fMod (.var 2) (.con (.int 2))) (.con (.int 0))) (.cons (.set (.one 4) (.op2 fMod (.op2 fDivW (.var 2) (.con (.int 2807))) (.con (.int 8))))
  (.cons (.set (.one 5) (.op2 fMod (.op2 fDivW (.var 2) (.con (.int 22456))) (.con (.int 8))))
  (.cons (.set (.one 6) (.call true 18 (.val (.call false 14 (.val (.var 4) (.val (.var 5) .nil))) (.val (.opN fLst .nil) (.val (.var 3) .nil)))))
  (.cons (.set (.one 7) (.call false 16 (.val (.var 4) (.val (.var 5) (.val (.var 3) .nil)))))
  .nil)))) (.cons (.set (.one 4) (.op2 fAddX (.con (.int 1)) (.op2 fMod (.op2 fDivW (.var 2) (.con (.int 2807))) (.con (.int 5)))))
  (.cons (.set (.one 8) (.op2 fSub (.op2 fMod (.op2 fDivW (.var 2) (.con (.int 14035))) (.con (.int 13))) (.con (.int 1))))
  (.cons (.set (.one 6) (.call true 18 (.val (.call false 15 (.val (.var 4) .nil)) (.val (.opN fLst (.cons (.var 8) .nil)) (.val (.var 3) .nil)))))
  (.cons (.set (.one 7) (.call false 17 (.val (.var 4) (.val (.var 8) (.val (.var 3) .nil)))))
  .nil)))))
  (.cons (.ite (.view (.op2 fNe (.var 6) (.var 7))) (.cons (.ret (.con (.bl false)))
  .nil) .nil)
  .nil))))
def fn0 : Fn := ⟨2, 2, [0],
  (.cons (.expr (.mut 2 (fSetFld "Count" "most") (.cons (.var 1) .nil) (.root 0) .nil))
  (.cons (.expr (.mut 2 (fSetFld "Count" "begun") (.cons (.con (.int 0)) .nil) (.root 0) .nil))
  (.cons (.expr (.mut 2 (fSetFld "Count" "under") (.cons (.con (.int 0)) .nil) (.root 0) .nil))
  .nil)))⟩
def fn1 : Fn := ⟨1, 1, [0],
  (.cons (.ite (.view (.op2 fGt (.op2 fAddX (.op1 (fFld "Count" "begun") (.var 0)) (.con (.int 1))) (.op1 (fFld "Count" "most") (.var 0)))) (.cons (.raise "TooLong")
  .nil) .nil)
  (.cons (.ite (.view (.op2 fGt (.op2 fAddX (.op1 (fFld "Count" "under") (.var 0)) (.con (.int 1))) (.con (.int 12)))) (.cons (.raise "TooDeep")
  .nil) .nil)
  (.cons (.expr (.mut 2 (fAugFld "Count" "begun" (· + ·) 1) .nil (.root 0) .nil))
  (.cons (.expr (.mut 2 (fAugFld "Count" "under" (· + ·) 1) .nil (.root 0) .nil))
  .nil))))⟩
def fn2 : Fn := ⟨1, 1, [0],
  (.cons (.expr (.mut 2 (fAugFld "Count" "under" (· - ·) 1) .nil (.root 0) .nil))
  .nil)⟩
def fn3 : Fn := ⟨1, 1, [],
  (.cons (.ite (.or (.op2 fIsN (.var 0) (.con .non)) (.op1 (fIsi "int") (.var 0))) (.cons (.ret (.con (.int 1)))
  .nil) .nil)
  (.cons (.ret (.op2 fIx (.var 0) (.con (.int 2))))
  .nil))⟩
def fn4 : Fn := ⟨2, 3, [],
  (.cons (.set (.one 2) (.op2 fAddX (.op2 fAddX (.con (.int 1)) (.call false 3 (.val (.var 0) .nil))) (.call false 3 (.val (.var 1) .nil))))
  (.cons (.ite (.op2 fGt (.var 2) (.con (.int 1000))) (.cons (.raise "TooGreat")
  .nil) .nil)
  (.cons (.ret (.opN fTup (.cons (.var 0) (.cons (.var 1) (.cons (.var 2) .nil)))))
  .nil)))⟩
def fn5 : Fn := ⟨3, 4, [],
  (.cons (.ite (.op2 fEq (.var 0) (.con (.str "less"))) (.cons (.ret (.opN fInt (.cons (.op2 fLt (.var 1) (.var 2)) .nil)))
  .nil) .nil)
  (.cons (.set (.one 3) (.op2 fMul (.var 1) (.var 2)))
  (.cons (.ite (.op2 fEq (.var 0) (.con (.str "plus"))) (.cons (.set (.one 3) (.op2 fAddX (.var 1) (.var 2)))
  .nil) .nil)
  (.cons (.ite (.op2 fEq (.var 0) (.con (.str "minus"))) (.cons (.set (.one 3) (.op2 fSub (.var 1) (.var 2)))
  .nil) .nil)
  (.cons (.ite (.op2 fGe (.opN fAbs (.cons (.var 3) .nil)) (.con (.int 1000000000000000000000000000000000000000000000000000000000000))) (.cons (.raise "TooGreat")
  .nil) .nil)
  (.cons (.ret (.var 3))
  .nil))))))⟩
def fn6 : Fn := ⟨2, 2, [],
  (.cons (.ite (.op2 fEq (.var 0) (.con (.str "none"))) (.cons (.ret (.opN fInt (.cons (.op2 fIsN (.var 1) (.con .non)) .nil)))
  .nil) .nil)
  (.cons (.ite (.op2 fIsN (.var 1) (.con .non)) (.cons (.raise "Empty")
  .nil) .nil)
  (.cons (.ret (.op2 fIx (.var 1) (.opN fInt (.cons (.or (.op2 fEq (.var 0) (.con (.str "second"))) (.op2 fEq (.var 0) (.con (.str "tail")))) .nil))))
  .nil)))⟩
def fn7 : Fn := ⟨4, 10, [3],
  (.cons (.set (.one 4) (.comp true [6] (.one 6) fSeq (.cons (.opN fSl (.cons (.var 1) (.cons (.op1 fI (.con (.int 2))) (.cons (.con .non) .nil)))) .nil) (.con (.bl true)) (.call false 8 (.val (.var 0) (.val (.var 6) (.val (.var 2) (.ref (.root 3) .nil)))))))
  (.cons (.expr (.meth false "Count" "begin" 1 (.root 3) .nil))
  (.cons (.set (.one 5) (.op2 fIxD (.var 0) (.op2 fIx (.var 1) (.con (.int 1)))))
  (.cons (.set (.one 6) (.own (.con (.dct [] []))))
  (.cons (.for_ (.many [8, 9]) fZip (.cons (.op2 fIx (.var 5) (.con (.int 1))) (.cons (.var 4) .nil)) w7_0b)
  (.cons (.frz 6 (.set (.one 7) (.call false 8 (.val (.var 0) (.val (.op2 fIx (.var 5) (.con (.int 3))) (.val (.var 6) (.ref (.root 3) .nil)))))))
  (.cons (.expr (.meth false "Count" "end" 2 (.root 3) .nil))
  (.cons (.ret (.var 7))
  .nil))))))))⟩
def fn8 : Fn := ⟨4, 8, [3],
  (.cons (.set (.one 4) (.op2 fIx (.var 1) (.con (.int 0))))
  (.cons (.ite (.op2 fEq (.var 4) (.con (.str "number"))) (.cons (.ret (.op2 fIx (.var 1) (.con (.int 1))))
  .nil) .nil)
  (.cons (.ite (.op2 fEq (.var 4) (.con (.str "name"))) (.cons (.ret (.op2 fIxD (.var 2) (.op2 fIx (.var 1) (.con (.int 1)))))
  .nil) .nil)
  (.cons (.ite (.op2 fEq (.var 4) (.con (.str "nil"))) (.cons (.ret (.con .non))
  .nil) .nil)
  (.cons (.ite (.op2 fEq (.var 4) (.con (.str "call"))) (.cons (.ret (.call false 7 (.val (.var 0) (.val (.var 1) (.val (.var 2) (.ref (.root 3) .nil))))))
  .nil) .nil)
  (.cons (.ite (.op2 fEq (.var 4) (.con (.str "let"))) (.cons (.set (.one 7) (.own (.opN fDictC (.cons (.var 2) .nil))))
  (.cons (.expr (.mut 1 fPutD (.cons (.call false 8 (.val (.var 0) (.val (.op2 fIx (.var 1) (.con (.int 2))) (.val (.var 2) (.ref (.root 3) .nil))))) .nil) (.root 7) (.cons (.op2 fIx (.var 1) (.con (.int 1))) .nil)))
  (.cons (.frz 7 (.ret (.call false 8 (.val (.var 0) (.val (.op2 fIx (.var 1) (.con (.int 3))) (.val (.var 7) (.ref (.root 3) .nil)))))))
  .nil))) .nil)
  (.cons (.ite (.op2 fEq (.var 4) (.con (.str "if"))) (.cons (.ite (.op2 fNe (.call false 8 (.val (.var 0) (.val (.op2 fIx (.var 1) (.con (.int 1))) (.val (.var 2) (.ref (.root 3) .nil))))) (.con (.int 0))) (.cons (.ret (.call false 8 (.val (.var 0) (.val (.op2 fIx (.var 1) (.con (.int 2))) (.val (.var 2) (.ref (.root 3) .nil))))))
  .nil) .nil)
  (.cons (.ret (.call false 8 (.val (.var 0) (.val (.op2 fIx (.var 1) (.con (.int 3))) (.val (.var 2) (.ref (.root 3) .nil))))))
  .nil)) .nil)
  (.cons (.set (.one 5) (.call false 8 (.val (.var 0) (.val (.op2 fIx (.var 1) (.con (.int 1))) (.val (.var 2) (.ref (.root 3) .nil))))))
  (.cons (.ite (.op2 fEq (.opN fLen (.cons (.var 1) .nil)) (.con (.int 2))) (.cons (.ret (.call false 6 (.val (.var 4) (.val (.var 5) .nil))))
  .nil) .nil)
  (.cons (.set (.one 6) (.call false 8 (.val (.var 0) (.val (.op2 fIx (.var 1) (.con (.int 2))) (.val (.var 2) (.ref (.root 3) .nil))))))
  (.cons (.ite (.or (.op2 fEq (.var 4) (.con (.str "pair"))) (.op2 fEq (.var 4) (.con (.str "cons")))) (.cons (.ret (.call false 4 (.val (.var 5) (.val (.var 6) .nil))))
  .nil) .nil)
  (.cons (.ret (.call false 5 (.val (.var 4) (.val (.var 5) (.val (.var 6) .nil)))))
  .nil))))))))))))⟩
def fn9 : Fn := ⟨2, 3, [],
  (.cons (.ite (.op2 fEq (.op2 fIx (.var 1) (.con (.int 0))) (.con (.str "num"))) (.cons (.ret (.var 0))
  .nil) .nil)
  (.cons (.ite (.op2 fEq (.op2 fIx (.var 1) (.con (.int 0))) (.con (.str "pair"))) (.cons (.ret (.mt (.cons (.call true 9 (.val (.op2 fIx (.var 0) (.con (.int 0))) (.val (.op2 fIx (.var 1) (.con (.int 1))) .nil))) (.cons (.call true 9 (.val (.op2 fIx (.var 0) (.con (.int 1))) (.val (.op2 fIx (.var 1) (.con (.int 2))) .nil))) .nil))))
  .nil) .nil)
  (.cons (.set (.one 2) (.own (.opN fLst .nil)))
  (.cons (.wh w9_0c w9_0b)
  (.cons (.ret (.mov 2))
  .nil)))))⟩
def fn10 : Fn := ⟨3, 9, [],
  (.cons (.set (.one 3) (.own (.con (.dct [] []))))
  (.cons (.for_ (.one 4) fSeq (.cons (.var 0) .nil) w10_0b)
  (.cons (.frz 3 (.set (.one 5) (.op2 fIxD (.var 3) (.con (.str "main")))))
  (.cons (.set (.one 6) (.own (.con (.dct [] []))))
  (.cons (.for_ (.many [7, 8]) fZip (.cons (.op2 fIx (.var 5) (.con (.int 1))) (.cons (.var 1) .nil)) w10_1b)
  (.cons (.frz 6 (.ret (.call true 9 (.val (.call false 8 (.val (.var 3) (.val (.op2 fIx (.var 5) (.con (.int 3))) (.val (.var 6) (.val (.new "Count" 0 (.val (.var 2) .nil)) .nil))))) (.val (.op2 fIx (.var 5) (.con (.int 2))) .nil)))))
  .nil))))))⟩
def fn11 : Fn := ⟨1, 1, [],
  (.cons (.ret (.op2 fMod (.op2 fMul (.op2 fMul (.op2 fAddX (.op2 fMod (.var 0) (.con (.int 2147483647))) (.con (.int 11))) (.con (.int 48271))) (.con (.int 69621))) (.con (.int 2147483629))))
  .nil)⟩
def fn12 : Fn := ⟨2, 3, [],
  (.cons (.for_ (.one 2) fRange1 (.cons (.var 1) .nil) w12_0b)
  (.cons (.ret (.var 0))
  .nil))⟩
def fn13 : Fn := ⟨3, 4, [],
  (.cons (.for_ (.one 3) fRange1 (.cons (.var 2) .nil) w13_0b)
  (.cons (.ret (.var 1))
  .nil))⟩
def fn14 : Fn := ⟨2, 8, [],
  (.cons (.set (.one 2) (.opN fTup (.cons (.con (.str "list")) (.cons (.opN fTup (.cons (.con (.str "num")) .nil)) .nil))))
  (.cons (.set (.one 3) (.opN fTup (.cons (.con (.str "name")) (.cons (.con (.str "l")) .nil))))
  (.cons (.set (.one 4) (.opN fTup (.cons (.con (.str "eight")) (.cons (.opN fLst (.cons (.opN fTup (.cons (.con (.str "l")) (.cons (.var 2) .nil))) .nil)) (.cons (.var 2) (.cons (.call false 12 (.val (.var 3) (.val (.con (.int 8)) .nil))) .nil))))))
  (.cons (.set (.one 5) (.opN fTup (.cons (.con (.str "more")) (.cons (.opN fLst (.cons (.opN fTup (.cons (.con (.str "l")) (.cons (.var 2) .nil))) .nil)) (.cons (.var 2) (.cons (.call false 13 (.val (.con (.str "eight")) (.val (.var 3) (.val (.con (.int 7)) .nil)))) .nil))))))
  (.cons (.set (.one 6) (.opN fTup (.cons (.con (.str "let")) (.cons (.con (.str "b")) (.cons (.call false 13 (.val (.con (.str "eight")) (.val (.opN fTup (.cons (.con (.str "name")) (.cons (.con (.str "a")) .nil))) (.val (.var 0) .nil)))) (.cons (.call false 12 (.val (.opN fTup (.cons (.con (.str "name")) (.cons (.con (.str "b")) .nil))) (.val (.var 1) .nil))) .nil))))))
  (.cons (.set (.one 7) (.opN fTup (.cons (.con (.str "main")) (.cons (.opN fLst .nil) (.cons (.var 2) (.cons (.opN fTup (.cons (.con (.str "let")) (.cons (.con (.str "a")) (.cons (.call false 13 (.val (.con (.str "more")) (.val (.opN fTup (.cons (.con (.str "nil")) (.cons (.opN fTup (.cons (.con (.str "num")) .nil)) .nil))) (.val (.con (.int 8)) .nil)))) (.cons (.var 6) .nil))))) .nil))))))
  (.cons (.ret (.opN fLst (.cons (.var 7) (.cons (.var 4) (.cons (.var 5) .nil)))))
  .nil)))))))⟩
def fn15 : Fn := ⟨1, 7, [],
  (.cons (.set (.one 1) (.opN fTup (.cons (.con (.str "call")) (.cons (.con (.str "down")) (.cons (.opN fTup (.cons (.con (.str "minus")) (.cons (.opN fTup (.cons (.con (.str "name")) (.cons (.con (.str "n")) .nil))) (.cons (.opN fTup (.cons (.con (.str "number")) (.cons (.con (.int 1)) .nil))) .nil)))) .nil)))))
  (.cons (.set (.one 2) (.opN fTup (.cons (.con (.str "if")) (.cons (.opN fTup (.cons (.con (.str "less")) (.cons (.opN fTup (.cons (.con (.str "name")) (.cons (.con (.str "n")) .nil))) (.cons (.opN fTup (.cons (.con (.str "number")) (.cons (.con (.int 1)) .nil))) .nil)))) (.cons (.opN fTup (.cons (.con (.str "nil")) (.cons (.opN fTup (.cons (.con (.str "num")) .nil)) .nil))) (.cons (.opN fTup (.cons (.con (.str "cons")) (.cons (.opN fTup (.cons (.con (.str "name")) (.cons (.con (.str "n")) .nil))) (.cons (.var 1) .nil)))) .nil))))))
  (.cons (.set (.one 3) (.opN fTup (.cons (.con (.str "down")) (.cons (.opN fLst (.cons (.opN fTup (.cons (.con (.str "n")) (.cons (.opN fTup (.cons (.con (.str "num")) .nil)) .nil))) .nil)) (.cons (.opN fTup (.cons (.con (.str "list")) (.cons (.opN fTup (.cons (.con (.str "num")) .nil)) .nil))) (.cons (.var 2) .nil))))))
  (.cons (.set (.one 4) (.opN fTup (.cons (.con (.str "none")) (.cons (.opN fTup (.cons (.con (.str "call")) (.cons (.con (.str "down")) (.cons (.opN fTup (.cons (.con (.str "name")) (.cons (.con (.str "n")) .nil))) .nil)))) .nil))))
  (.cons (.for_ (.one 5) fRange1 (.cons (.con (.int 6)) .nil) w15_0b)
  (.cons (.set (.one 6) (.opN fTup (.cons (.con (.str "block")) (.cons (.opN fLst (.cons (.opN fTup (.cons (.con (.str "n")) (.cons (.opN fTup (.cons (.con (.str "num")) .nil)) .nil))) .nil)) (.cons (.opN fTup (.cons (.con (.str "num")) .nil)) (.cons (.var 4) .nil))))))
  (.cons (.set (.one 4) (.opN fTup (.cons (.con (.str "call")) (.cons (.con (.str "block")) (.cons (.opN fTup (.cons (.con (.str "name")) (.cons (.con (.str "u")) .nil))) .nil)))))
  (.cons (.for_ (.one 5) fRange1 (.cons (.op2 fSub (.var 0) (.con (.int 1))) .nil) w15_1b)
  (.cons (.ret (.opN fLst (.cons (.var 3) (.cons (.var 6) (.cons (.opN fTup (.cons (.con (.str "main")) (.cons (.opN fLst (.cons (.opN fTup (.cons (.con (.str "u")) (.cons (.opN fTup (.cons (.con (.str "num")) .nil)) .nil))) .nil)) (.cons (.opN fTup (.cons (.con (.str "num")) .nil)) (.cons (.var 4) .nil))))) .nil)))))
  .nil)))))))))⟩
def fn16 : Fn := ⟨3, 7, [],
  (.cons (.set (.one 3) (.con (.int 0)))
  (.cons (.set (.one 4) (.own (.opN fLst .nil)))
  (.cons (.for_ (.one 5) fRange1 (.cons (.op2 fAddX (.con (.int 64)) (.var 0)) .nil) w16_1b)
  (.cons (.for_ (.one 6) fRangeD (.cons (.var 1) (.cons (.con (.int 0)) (.cons (.op1 fNeg (.con (.int 1))) .nil))) w16_2b)
  (.cons (.ret (.opN fTup (.cons (.con (.str "")) (.cons (.viewF (.opN fRevL (.cons (.var 4) .nil))) .nil))))
  .nil)))))⟩
def fn17 : Fn := ⟨3, 7, [],
  (.cons (.set (.one 3) (.con (.int 0)))
  (.cons (.for_ (.one 4) fRange1 (.cons (.var 0) .nil) w17_2b)
  (.cons (.ret (.opN fTup (.cons (.con (.str "")) (.cons (.op2 fMul (.op2 fMul (.con (.int 7)) (.var 0)) (.opN fInt (.cons (.op2 fLt (.var 1) (.con (.int 1))) .nil))) .nil))))
  .nil)))⟩
def fn18 : Fn := ⟨3, 5, [],
  (.cons (.set (.one 3) (.con (.str "")))
  (.cons (.set (.one 4) (.con .non))
  (.cons (.try_ w18_0b (.cons "TooGreat" none (.cons (.set (.one 3) (.con (.str "great")))
  .nil) (.cons "Empty" none (.cons (.set (.one 3) (.con (.str "empty")))
  .nil) (.cons "TooLong" none (.cons (.set (.one 3) (.con (.str "long")))
  .nil) (.cons "TooDeep" none (.cons (.set (.one 3) (.con (.str "deep")))
  .nil) .nil)))))
  (.cons (.ret (.mt (.cons (.var 3) (.cons (.mov 4) .nil))))
  .nil))))⟩
def fn19 : Fn := ⟨1, 9, [],
  (.cons (.for_ (.one 1) fSeq (.cons (.op2 fAddX (.opN fLst (.cons (.con (.int 0)) .nil)) (.opN fSlL (.cons (.var 0) (.cons (.con .non) (.cons (.op1 fI (.con (.int 12))) .nil))))) .nil) w19_0b)
  (.cons (.ret (.con (.bl true)))
  .nil))⟩
def tab : Nat → Option Fn
  | 0 => some fn0
  | 1 => some fn1
  | 2 => some fn2
  | 3 => some fn3
  | 4 => some fn4
  | 5 => some fn5
  | 6 => some fn6
  | 7 => some fn7
  | 8 => some fn8
  | 9 => some fn9
  | 10 => some fn10
  | 11 => some fn11
  | 12 => some fn12
  | 13 => some fn13
  | 14 => some fn14
  | 15 => some fn15
  | 16 => some fn16
  | 17 => some fn17
  | 18 => some fn18
  | 19 => some fn19
  | _ => none
def psOf : Nat → List Str
  | 0 => ["self", "most"]
  | 1 => ["self"]
  | 2 => ["self"]
  | 3 => ["value"]
  | 4 => ["one", "other"]
  | 5 => ["word", "one", "other"]
  | 6 => ["word", "value"]
  | 7 => ["functions", "part", "names", "count"]
  | 8 => ["functions", "part", "names", "count"]
  | 9 => ["value", "kind"]
  | 10 => ["program", "numbers", "most"]
  | 11 => ["cell"]
  | 12 => ["part", "many"]
  | 13 => ["name", "part", "many"]
  | 14 => ["many", "few"]
  | 15 => ["many"]
  | 16 => ["many", "few", "most"]
  | 17 => ["many", "number", "most"]
  | 18 => ["program", "numbers", "most"]
  | 19 => ["script"]
  | _ => []
def exN : List Str := ["GateError", "TooGreat", "Empty", "TooLong", "TooDeep"]
def exR : List (Str × Str) := [("TooGreat", "GateError"), ("Empty", "GateError"), ("TooLong", "GateError"), ("TooDeep", "GateError")]
def sub : Str → Str → Bool := subOf exN exR
structure Txt (K : PySem.W.Frag) (mg : Str → Option Value) (A : Nat → Addr) (Dd : Nat → FuncData) (AC : Nat → Addr) : Prop where
  f0 : Fun K "__init__" "Count.__init__" s0 (A 0) (Dd 0)
  b0 : Binds K (Dd 0) ["self", "most"] []
  f1 : Fun K "begin" "Count.begin" s1 (A 1) (Dd 1)
  b1 : Binds K (Dd 1) ["self"] []
  mt1 : Meth K (AC 0) "begin" (A 1)
  f2 : Fun K "end" "Count.end" s2 (A 2) (Dd 2)
  b2 : Binds K (Dd 2) ["self"] []
  mt2 : Meth K (AC 0) "end" (A 2)
  f3 : Fun K "size_of" "size_of" s3 (A 3) (Dd 3)
  b3 : Binds K (Dd 3) ["value"] []
  m3 : mg "size_of" = some (.ref (A 3))
  f4 : Fun K "cell_of" "cell_of" s4 (A 4) (Dd 4)
  b4 : Binds K (Dd 4) ["one", "other"] []
  m4 : mg "cell_of" = some (.ref (A 4))
  f5 : Fun K "reckoned" "reckoned" s5 (A 5) (Dd 5)
  b5 : Binds K (Dd 5) ["word", "one", "other"] []
  m5 : mg "reckoned" = some (.ref (A 5))
  f6 : Fun K "looked" "looked" s6 (A 6) (Dd 6)
  b6 : Binds K (Dd 6) ["word", "value"] []
  m6 : mg "looked" = some (.ref (A 6))
  f7 : Fun K "called" "called" s7 (A 7) (Dd 7)
  b7 : Binds K (Dd 7) ["functions", "part", "names", "count"] []
  m7 : mg "called" = some (.ref (A 7))
  f8 : Fun K "worked" "worked" s8 (A 8) (Dd 8)
  b8 : Binds K (Dd 8) ["functions", "part", "names", "count"] []
  m8 : mg "worked" = some (.ref (A 8))
  f9 : Fun K "told" "told" s9 (A 9) (Dd 9)
  b9 : Binds K (Dd 9) ["value", "kind"] []
  m9 : mg "told" = some (.ref (A 9))
  f10 : FunD K "plain_run" "plain_run" (defArgs s10) (defBody s10) (defScope s10) [.int 200] [] (A 10) (Dd 10)
  bd10 : ∃ ds, Vals [.int 200] ds ∧ Binds K (Dd 10) ["program", "numbers", "most"] ds
  b10 : Binds K (Dd 10) ["program", "numbers", "most"] []
  m10 : mg "plain_run" = some (.ref (A 10))
  f11 : Fun K "_law_mixed" "_law_mixed" s11 (A 11) (Dd 11)
  b11 : Binds K (Dd 11) ["cell"] []
  m11 : mg "_law_mixed" = some (.ref (A 11))
  f12 : Fun K "_law_put" "_law_put" s12 (A 12) (Dd 12)
  b12 : Binds K (Dd 12) ["part", "many"] []
  m12 : mg "_law_put" = some (.ref (A 12))
  f13 : Fun K "_law_nested" "_law_nested" s13 (A 13) (Dd 13)
  b13 : Binds K (Dd 13) ["name", "part", "many"] []
  m13 : mg "_law_nested" = some (.ref (A 13))
  f14 : Fun K "_law_lists" "_law_lists" s14 (A 14) (Dd 14)
  b14 : Binds K (Dd 14) ["many", "few"] []
  m14 : mg "_law_lists" = some (.ref (A 14))
  f15 : Fun K "_law_counts" "_law_counts" s15 (A 15) (Dd 15)
  b15 : Binds K (Dd 15) ["many"] []
  m15 : mg "_law_counts" = some (.ref (A 15))
  f16 : Fun K "_law_list_due" "_law_list_due" s16 (A 16) (Dd 16)
  b16 : Binds K (Dd 16) ["many", "few", "most"] []
  m16 : mg "_law_list_due" = some (.ref (A 16))
  f17 : Fun K "_law_count_due" "_law_count_due" s17 (A 17) (Dd 17)
  b17 : Binds K (Dd 17) ["many", "number", "most"] []
  m17 : mg "_law_count_due" = some (.ref (A 17))
  f18 : Fun K "_law_asked" "_law_asked" s18 (A 18) (Dd 18)
  b18 : Binds K (Dd 18) ["program", "numbers", "most"] []
  m18 : mg "_law_asked" = some (.ref (A 18))
  f19 : Fun K "law" "law" s19 (A 19) (Dd 19)
  b19 : Binds K (Dd 19) ["script"] []
  m19 : mg "law" = some (.ref (A 19))
  c0 : mg "Count" = some (.ref (AC 0))
  cl0 : Cls K (AC 0)
  mk0 : Mk K (AC 0) (A 0)
  na0_begun : NoAttr K (AC 0) "begun"
  na0_most : NoAttr K (AC 0) "most"
  na0_under : NoAttr K (AC 0) "under"
  z_abs : mg "abs" = none
  z_dict : mg "dict" = none
  z_int : mg "int" = none
  z_isinstance : mg "isinstance" = none
  z_len : mg "len" = none
  z_max : mg "max" = none
  z_range : mg "range" = none
  z_zip : mg "zip" = none
  v_MOST_DEEP : ∃ t, mg "MOST_DEEP" = some (.int 12 t)
  v_MOST_SIZE : ∃ t, mg "MOST_SIZE" = some (.int 1000 t)
  v_OVER : ∃ t, mg "OVER" = some (.int 1000000000000000000000000000000000000000000000000000000000000 t)
  c1 : mg "GateError" = some (.ref (AC 1))
  xc1 : XCls K (AC 1)
  c2 : mg "TooGreat" = some (.ref (AC 2))
  xc2 : XCls K (AC 2)
  c3 : mg "Empty" = some (.ref (AC 3))
  xc3 : XCls K (AC 3)
  c4 : mg "TooLong" = some (.ref (AC 4))
  xc4 : XCls K (AC 4)
  c5 : mg "TooDeep" = some (.ref (AC 5))
  xc5 : XCls K (AC 5)
  so : SubOk K mg sub
section
variable {P : Program} {w : World} {K : PySem.W.Frag} {mg : Str → Option Value} {base : Heap} {A : Nat → Addr} {Dd : Nat → FuncData} {AC : Nat → Addr} {k NN : Nat}
theorem sc0 : FnScope ["self", "most"] ["self", "most"] (defScope s0) := ⟨rfl, rfl, rfl, by decide +kernel, rfl, by decide +kernel, by decide +kernel⟩
theorem sc1 : FnScope ["self"] ["self"] (defScope s1) := ⟨rfl, rfl, rfl, by decide +kernel, rfl, by decide +kernel, by decide +kernel⟩
theorem sc2 : FnScope ["self"] ["self"] (defScope s2) := ⟨rfl, rfl, rfl, by decide +kernel, rfl, by decide +kernel, by decide +kernel⟩
theorem sc3 : FnScope ["value"] ["value"] (defScope s3) := ⟨rfl, rfl, rfl, by decide +kernel, rfl, by decide +kernel, by decide +kernel⟩
theorem sc4 : FnScope ["one", "other", "size"] ["one", "other"] (defScope s4) := ⟨rfl, rfl, rfl, by decide +kernel, rfl, by decide +kernel, by decide +kernel⟩
theorem sc5 : FnScope ["word", "one", "other", "found"] ["word", "one", "other"] (defScope s5) := ⟨rfl, rfl, rfl, by decide +kernel, rfl, by decide +kernel, by decide +kernel⟩
theorem sc6 : FnScope ["word", "value"] ["word", "value"] (defScope s6) := ⟨rfl, rfl, rfl, by decide +kernel, rfl, by decide +kernel, by decide +kernel⟩
theorem sc7 : FnScope ["functions", "part", "names", "count", "values", "function", "inner", "found", "taker", "value"] ["functions", "part", "names", "count"] (defScope s7) := ⟨rfl, rfl, rfl, by decide +kernel, rfl, by decide +kernel, by decide +kernel⟩
theorem sc8 : FnScope ["functions", "part", "names", "count", "word", "one", "other", "inner"] ["functions", "part", "names", "count"] (defScope s8) := ⟨rfl, rfl, rfl, by decide +kernel, rfl, by decide +kernel, by decide +kernel⟩
theorem sc9 : FnScope ["value", "kind", "found"] ["value", "kind"] (defScope s9) := ⟨rfl, rfl, rfl, by decide +kernel, rfl, by decide +kernel, by decide +kernel⟩
theorem sc10 : FnScope ["program", "numbers", "most", "functions", "function", "main", "names", "taker", "number"] ["program", "numbers", "most"] (defScope s10) := ⟨rfl, rfl, rfl, by decide +kernel, rfl, by decide +kernel, by decide +kernel⟩
theorem sc11 : FnScope ["cell"] ["cell"] (defScope s11) := ⟨rfl, rfl, rfl, by decide +kernel, rfl, by decide +kernel, by decide +kernel⟩
theorem sc12 : FnScope ["part", "many", "k"] ["part", "many"] (defScope s12) := ⟨rfl, rfl, rfl, by decide +kernel, rfl, by decide +kernel, by decide +kernel⟩
theorem sc13 : FnScope ["name", "part", "many", "k"] ["name", "part", "many"] (defScope s13) := ⟨rfl, rfl, rfl, by decide +kernel, rfl, by decide +kernel, by decide +kernel⟩
theorem sc14 : FnScope ["many", "few", "row", "name", "eight", "more", "body", "main"] ["many", "few"] (defScope s14) := ⟨rfl, rfl, rfl, by decide +kernel, rfl, by decide +kernel, by decide +kernel⟩
theorem sc15 : FnScope ["many", "again", "body", "down", "part", "k", "block"] ["many"] (defScope s15) := ⟨rfl, rfl, rfl, by decide +kernel, rfl, by decide +kernel, by decide +kernel⟩
theorem sc16 : FnScope ["many", "few", "most", "begun", "row", "k", "member"] ["many", "few", "most"] (defScope s16) := ⟨rfl, rfl, rfl, by decide +kernel, rfl, by decide +kernel, by decide +kernel⟩
theorem sc17 : FnScope ["many", "number", "most", "begun", "k", "turn", "under"] ["many", "number", "most"] (defScope s17) := ⟨rfl, rfl, rfl, by decide +kernel, rfl, by decide +kernel, by decide +kernel⟩
theorem sc18 : FnScope ["program", "numbers", "most", "word", "found"] ["program", "numbers", "most"] (defScope s18) := ⟨rfl, rfl, rfl, by decide +kernel, rfl, by decide +kernel, by decide +kernel⟩
theorem sc19 : FnScope ["script", "cell", "number", "most", "many", "few", "found", "due", "given"] ["script"] (defScope s19) := ⟨rfl, rfl, rfl, by decide +kernel, rfl, by decide +kernel, by decide +kernel⟩
abbrev Gs (P : Program) (w : World) (K : PySem.W.Frag) (mg : Str → Option Value) (base : Heap) (A : Nat → Addr) (Dd : Nat → FuncData) (k NN : Nat) : Prop := ∀ g, FnOk P w K mg base (L2.CX P w) (2 * k) (A g) (Dd g) (psOf g) (spF K mg (callF sub tab NN k g))
theorem ok0 (T : Txt K mg A Dd AC) (G : Gs P w K mg base A Dd k NN) : FnOk P w K mg base (L2.CX P w) (2 * (k + 1)) (A 0) (Dd 0) ["self", "most"] (spF K mg (callF sub tab NN (k + 1) 0)) := by
  have S := sc0
  refine fn_okX (k := 2 * k + 1) (fn := fn0) (C := callF sub tab NN k) (sub := sub) (NN := NN) (okx_of T.f0) S (fun ms => rfl) rfl rfl (by decide) fun cdv A0 outer s H E hr => ?_
  have hr0 := Room.mono hr (Nat.le_succ (2 * k))
  exact (mss_cons (ms_setFld T.c0 T.cl0 T.na0_most (mr 0) (mv 1))
  (mss_cons (ms_setFld T.c0 T.cl0 T.na0_begun (mr 0) me_int)
  (mss_cons (ms_setFld T.c0 T.cl0 T.na0_under (mr 0) me_int)
  mss_nil)))
theorem ok1 (T : Txt K mg A Dd AC) (G : Gs P w K mg base A Dd k NN) : FnOk P w K mg base (L2.CX P w) (2 * (k + 1)) (A 1) (Dd 1) ["self"] (spF K mg (callF sub tab NN (k + 1) 1)) := by
  have S := sc1
  refine fn_okX (k := 2 * k + 1) (fn := fn1) (C := callF sub tab NN k) (sub := sub) (NN := NN) (okx_of T.f1) S (fun ms => rfl) rfl rfl (by decide) fun cdv A0 outer s H E hr => ?_
  have hr0 := Room.mono hr (Nat.le_succ (2 * k))
  exact (mss_cons (ms_if (mt_view (mt_cmp op_gt imp_gt (me_op op_addX imp_addX (me_fld T.c0 T.cl0 T.na0_begun (mv 0)) me_int) (me_fld T.c0 T.cl0 T.na0_most (mv 0)) rfl)) (mss_cons (ms_raiseC (by rfl) T.xc4 T.c4 (by rfl))
  mss_nil) mss_nil)
  (mss_cons (ms_if (mt_view (mt_cmp op_gt imp_gt (me_op op_addX imp_addX (me_fld T.c0 T.cl0 T.na0_under (mv 0)) me_int) (me_globI (by rfl) T.v_MOST_DEEP) rfl)) (mss_cons (ms_raiseC (by rfl) T.xc5 T.c5 (by rfl))
  mss_nil) mss_nil)
  (mss_cons (ms_fldaug T.c0 T.cl0 T.na0_begun in_add (mr 0))
  (mss_cons (ms_fldaug T.c0 T.cl0 T.na0_under in_add (mr 0))
  mss_nil))))
theorem ok2 (T : Txt K mg A Dd AC) (G : Gs P w K mg base A Dd k NN) : FnOk P w K mg base (L2.CX P w) (2 * (k + 1)) (A 2) (Dd 2) ["self"] (spF K mg (callF sub tab NN (k + 1) 2)) := by
  have S := sc2
  refine fn_okX (k := 2 * k + 1) (fn := fn2) (C := callF sub tab NN k) (sub := sub) (NN := NN) (okx_of T.f2) S (fun ms => rfl) rfl rfl (by decide) fun cdv A0 outer s H E hr => ?_
  have hr0 := Room.mono hr (Nat.le_succ (2 * k))
  exact (mss_cons (ms_fldaug T.c0 T.cl0 T.na0_under in_sub (mr 0))
  mss_nil)
theorem ok3 (T : Txt K mg A Dd AC) (G : Gs P w K mg base A Dd k NN) : FnOk P w K mg base (L2.CX P w) (2 * (k + 1)) (A 3) (Dd 3) ["value"] (spF K mg (callF sub tab NN (k + 1) 3)) := by
  have S := sc3
  refine fn_okX (k := 2 * k + 1) (fn := fn3) (C := callF sub tab NN k) (sub := sub) (NN := NN) (okx_of T.f3) S (fun ms => rfl) rfl rfl (by decide) fun cdv A0 outer s H E hr => ?_
  have hr0 := Room.mono hr (Nat.le_succ (2 * k))
  exact (mss_cons (ms_if (MW.mt (mw_or (mt_cmp op_isN imp_isN (mv 0) me_non rfl) (mw_or1 (mt_val (me_isi (by rfl) T.z_isinstance (by rfl) T.z_int bt_int (mv 0)))))) (mss_cons (ms_ret me_int)
  mss_nil) mss_nil)
  (mss_cons (ms_ret (me_ix ix_seq imp_ix (mv 0) me_int (fun _ _ => rfl)))
  mss_nil))
theorem ok4 (T : Txt K mg A Dd AC) (G : Gs P w K mg base A Dd k NN) : FnOk P w K mg base (L2.CX P w) (2 * (k + 1)) (A 4) (Dd 4) ["one", "other"] (spF K mg (callF sub tab NN (k + 1) 4)) := by
  have S := sc4
  refine fn_okX (k := 2 * k + 1) (fn := fn4) (C := callF sub tab NN k) (sub := sub) (NN := NN) (okx_of T.f4) S (fun ms => rfl) rfl rfl (by decide) fun cdv A0 outer s H E hr => ?_
  have hr0 := Room.mono hr (Nat.le_succ (2 * k))
  exact (mss_cons (ms_asg (me_op op_addX imp_addX (me_op op_addX imp_addX me_int (me_call (G 3) hr0 (by rfl) T.m3 T.f3.kp T.b3 (mas_val (mv 0) mas_nil))) (me_call (G 3) hr0 (by rfl) T.m3 T.f3.kp T.b3 (mas_val (mv 1) mas_nil))) (gn 2 S.nd))
  (mss_cons (ms_if (mt_cmp op_gt imp_gt (mv 2) (me_globI (by rfl) T.v_MOST_SIZE) rfl) (mss_cons (ms_raiseC (by rfl) T.xc2 T.c2 (by rfl))
  mss_nil) mss_nil)
  (mss_cons (ms_ret (me_tup (mes_cons (mv 0) (mes_cons (mv 1) (mes_cons (mv 2) mes_nil)))))
  mss_nil)))
theorem ok5 (T : Txt K mg A Dd AC) (G : Gs P w K mg base A Dd k NN) : FnOk P w K mg base (L2.CX P w) (2 * (k + 1)) (A 5) (Dd 5) ["word", "one", "other"] (spF K mg (callF sub tab NN (k + 1) 5)) := by
  have S := sc5
  refine fn_okX (k := 2 * k + 1) (fn := fn5) (C := callF sub tab NN k) (sub := sub) (NN := NN) (okx_of T.f5) S (fun ms => rfl) rfl rfl (by decide) fun cdv A0 outer s H E hr => ?_
  have hr0 := Room.mono hr (Nat.le_succ (2 * k))
  exact (mss_cons (ms_if (mt_cmp (op_eqA hr.units) imp_eq (mv 0) me_str rfl) (mss_cons (ms_ret (me_ty call_int1 imp_int rfl T.z_int bt_int (mes_cons (me_cmp op_lt imp_lt (mv 1) (mv 2) rfl) mes_nil)))
  mss_nil) mss_nil)
  (mss_cons (ms_asg (me_op op_mulA imp_mul (mv 1) (mv 2)) (gn 3 S.nd))
  (mss_cons (ms_if (mt_cmp (op_eqA hr.units) imp_eq (mv 0) me_str rfl) (mss_cons (ms_asg (me_op op_addX imp_addX (mv 1) (mv 2)) (gn 3 S.nd))
  mss_nil) mss_nil)
  (mss_cons (ms_if (mt_cmp (op_eqA hr.units) imp_eq (mv 0) me_str rfl) (mss_cons (ms_asg (me_op op_sub imp_sub (mv 1) (mv 2)) (gn 3 S.nd))
  mss_nil) mss_nil)
  (mss_cons (ms_if (mt_cmp op_ge imp_ge (me_bi call_abs imp_abs rfl T.z_abs bt_abs (mes_cons (mv 3) mes_nil)) (me_globI (by rfl) T.v_OVER) rfl) (mss_cons (ms_raiseC (by rfl) T.xc2 T.c2 (by rfl))
  mss_nil) mss_nil)
  (mss_cons (ms_ret (mv 3))
  mss_nil))))))
theorem ok6 (T : Txt K mg A Dd AC) (G : Gs P w K mg base A Dd k NN) : FnOk P w K mg base (L2.CX P w) (2 * (k + 1)) (A 6) (Dd 6) ["word", "value"] (spF K mg (callF sub tab NN (k + 1) 6)) := by
  have S := sc6
  refine fn_okX (k := 2 * k + 1) (fn := fn6) (C := callF sub tab NN k) (sub := sub) (NN := NN) (okx_of T.f6) S (fun ms => rfl) rfl rfl (by decide) fun cdv A0 outer s H E hr => ?_
  have hr0 := Room.mono hr (Nat.le_succ (2 * k))
  exact (mss_cons (ms_if (mt_cmp (op_eqA hr.units) imp_eq (mv 0) me_str rfl) (mss_cons (ms_ret (me_ty call_int1 imp_int rfl T.z_int bt_int (mes_cons (me_cmp op_isN imp_isN (mv 1) me_non rfl) mes_nil)))
  mss_nil) mss_nil)
  (mss_cons (ms_if (mt_cmp op_isN imp_isN (mv 1) me_non rfl) (mss_cons (ms_raiseC (by rfl) T.xc3 T.c3 (by rfl))
  mss_nil) mss_nil)
  (mss_cons (ms_ret (me_ix ix_seq imp_ix (mv 1) (me_ty call_int1 imp_int rfl T.z_int bt_int (mes_cons (me_or (me_cmp (op_eqA hr.units) imp_eq (mv 0) me_str rfl) (me_one (me_cmp (op_eqA hr.units) imp_eq (mv 0) me_str rfl))) mes_nil)) (fun _ _ => rfl)))
  mss_nil)))
theorem ok7 (T : Txt K mg A Dd AC) (G : Gs P w K mg base A Dd k NN) : FnOk P w K mg base (L2.CX P w) (2 * (k + 1)) (A 7) (Dd 7) ["functions", "part", "names", "count"] (spF K mg (callF sub tab NN (k + 1) 7)) := by
  have S := sc7
  refine fn_okX (k := 2 * k + 1) (fn := fn7) (C := callF sub tab NN k) (sub := sub) (NN := NN) (okx_of T.f7) S (fun ms => rfl) rfl rfl (by decide) fun cdv A0 outer s H E hr => ?_
  have hr0 := Room.mono hr (Nat.le_succ (2 * k))
  exact (mss_cons (ms_setLcX (by rfl) (by rfl) (by rfl) S.nd (by rfl) (by rfl) (sw_true (by rfl) (by rfl) (by rfl) (by rfl)) (mi_list (me_slice (mv 1) (mo_some me_int) mo_none)) (own := [("inner", 6)]) (blkOk_by (by rfl)) ⟨fun s H C cl fp W => (gn 6 S.nd), fun s H C cl fp W => mts_nil, fun s H C cl fp W => (me_call (G 8) hr0 (by rfl) T.m8 T.f8.kp T.b8 (mas_val (mv 0) (mas_val (mv 6) (mas_val (mv 2) (mas_ref (mr 3) mas_nil)))))⟩ false)
  (mss_cons (ms_expr (me_meth0 T.c0 T.cl0 T.mt1 (G 1) hr0 T.b1 (mr 3)))
  (mss_cons (ms_asg (me_ixD (hu_of hr) (mv 0) (me_ix ix_seq imp_ix (mv 1) me_int (fun _ _ => rfl)) (fun _ _ => rfl)) (gn 5 S.nd))
  (mss_cons (ms_asg (me_own mf_dct0) (gn 6 S.nd))
  (mss_cons (ms_for (fun _ _ => passes_of rfl) (by rfl) (mi_zip (by rfl) T.z_zip (mes_cons (me_ix ix_seq imp_ix (mv 5) me_int (fun _ _ => rfl)) (mes_cons (mv 4) mes_nil))) (mg_tup (by rfl) (mgs_cons (i := 8) S.nd rfl (by first | exact Or.inl rfl | exact Or.inr rfl) (mgs_cons (i := 9) S.nd rfl (by first | exact Or.inl rfl | exact Or.inr rfl) mgs_nil))) (mss_cons (ms_putD (hu_of hr) (mr 6) (me_ix ix_seq imp_ix (mv 8) me_int (fun _ _ => rfl)) (mv 9))
  mss_nil))
  (mss_cons (ms_frz (ms_asg (me_call (G 8) hr0 (by rfl) T.m8 T.f8.kp T.b8 (mas_val (mv 0) (mas_val (me_ix ix_seq imp_ix (mv 5) me_int (fun _ _ => rfl)) (mas_val (mv 6) (mas_ref (mr 3) mas_nil))))) (gn 7 S.nd)))
  (mss_cons (ms_expr (me_meth0 T.c0 T.cl0 T.mt2 (G 2) hr0 T.b2 (mr 3)))
  (mss_cons (ms_ret (mv 7))
  mss_nil))))))))
theorem ok8 (T : Txt K mg A Dd AC) (G : Gs P w K mg base A Dd k NN) : FnOk P w K mg base (L2.CX P w) (2 * (k + 1)) (A 8) (Dd 8) ["functions", "part", "names", "count"] (spF K mg (callF sub tab NN (k + 1) 8)) := by
  have S := sc8
  refine fn_okX (k := 2 * k + 1) (fn := fn8) (C := callF sub tab NN k) (sub := sub) (NN := NN) (okx_of T.f8) S (fun ms => rfl) rfl rfl (by decide) fun cdv A0 outer s H E hr => ?_
  have hr0 := Room.mono hr (Nat.le_succ (2 * k))
  exact (mss_cons (ms_asg (me_ix ix_seq imp_ix (mv 1) me_int (fun _ _ => rfl)) (gn 4 S.nd))
  (mss_cons (ms_if (mt_cmp (op_eqA hr.units) imp_eq (mv 4) me_str rfl) (mss_cons (ms_ret (me_ix ix_seq imp_ix (mv 1) me_int (fun _ _ => rfl)))
  mss_nil) mss_nil)
  (mss_cons (ms_if (mt_cmp (op_eqA hr.units) imp_eq (mv 4) me_str rfl) (mss_cons (ms_ret (me_ixD (hu_of hr) (mv 2) (me_ix ix_seq imp_ix (mv 1) me_int (fun _ _ => rfl)) (fun _ _ => rfl)))
  mss_nil) mss_nil)
  (mss_cons (ms_if (mt_cmp (op_eqA hr.units) imp_eq (mv 4) me_str rfl) (mss_cons (ms_ret me_non)
  mss_nil) mss_nil)
  (mss_cons (ms_if (mt_cmp (op_eqA hr.units) imp_eq (mv 4) me_str rfl) (mss_cons (ms_ret (me_call (G 7) hr0 (by rfl) T.m7 T.f7.kp T.b7 (mas_val (mv 0) (mas_val (mv 1) (mas_val (mv 2) (mas_ref (mr 3) mas_nil))))))
  mss_nil) mss_nil)
  (mss_cons (ms_if (mt_cmp (op_eqA hr.units) imp_eq (mv 4) me_str rfl) (mss_cons (ms_asg (me_own (mf_ty call_dictD impN_dictC rfl T.z_dict bt_dict (mes_cons (mv 2) mes_nil))) (gn 7 S.nd))
  (mss_cons (ms_putD (hu_of hr) (mr 7) (me_ix ix_seq imp_ix (mv 1) me_int (fun _ _ => rfl)) (me_call (G 8) hr0 (by rfl) T.m8 T.f8.kp T.b8 (mas_val (mv 0) (mas_val (me_ix ix_seq imp_ix (mv 1) me_int (fun _ _ => rfl)) (mas_val (mv 2) (mas_ref (mr 3) mas_nil))))))
  (mss_cons (ms_frz (ms_ret (me_call (G 8) hr0 (by rfl) T.m8 T.f8.kp T.b8 (mas_val (mv 0) (mas_val (me_ix ix_seq imp_ix (mv 1) me_int (fun _ _ => rfl)) (mas_val (mv 7) (mas_ref (mr 3) mas_nil)))))))
  mss_nil))) mss_nil)
  (mss_cons (ms_if (mt_cmp (op_eqA hr.units) imp_eq (mv 4) me_str rfl) (mss_cons (ms_if (mt_cmp (op_neA hr.units) imp_ne (me_call (G 8) hr0 (by rfl) T.m8 T.f8.kp T.b8 (mas_val (mv 0) (mas_val (me_ix ix_seq imp_ix (mv 1) me_int (fun _ _ => rfl)) (mas_val (mv 2) (mas_ref (mr 3) mas_nil))))) me_int rfl) (mss_cons (ms_ret (me_call (G 8) hr0 (by rfl) T.m8 T.f8.kp T.b8 (mas_val (mv 0) (mas_val (me_ix ix_seq imp_ix (mv 1) me_int (fun _ _ => rfl)) (mas_val (mv 2) (mas_ref (mr 3) mas_nil))))))
  mss_nil) mss_nil)
  (mss_cons (ms_ret (me_call (G 8) hr0 (by rfl) T.m8 T.f8.kp T.b8 (mas_val (mv 0) (mas_val (me_ix ix_seq imp_ix (mv 1) me_int (fun _ _ => rfl)) (mas_val (mv 2) (mas_ref (mr 3) mas_nil))))))
  mss_nil)) mss_nil)
  (mss_cons (ms_asg (me_call (G 8) hr0 (by rfl) T.m8 T.f8.kp T.b8 (mas_val (mv 0) (mas_val (me_ix ix_seq imp_ix (mv 1) me_int (fun _ _ => rfl)) (mas_val (mv 2) (mas_ref (mr 3) mas_nil))))) (gn 5 S.nd))
  (mss_cons (ms_if (mt_cmp (op_eqA hr.units) imp_eq (me_bi call_lenA imp_len rfl T.z_len bt_len (mes_cons (mv 1) mes_nil)) me_int rfl) (mss_cons (ms_ret (me_call (G 6) hr0 (by rfl) T.m6 T.f6.kp T.b6 (mas_val (mv 4) (mas_val (mv 5) mas_nil))))
  mss_nil) mss_nil)
  (mss_cons (ms_asg (me_call (G 8) hr0 (by rfl) T.m8 T.f8.kp T.b8 (mas_val (mv 0) (mas_val (me_ix ix_seq imp_ix (mv 1) me_int (fun _ _ => rfl)) (mas_val (mv 2) (mas_ref (mr 3) mas_nil))))) (gn 6 S.nd))
  (mss_cons (ms_if (MW.mt (mw_or (mt_cmp (op_eqA hr.units) imp_eq (mv 4) me_str rfl) (mw_or1 (mt_cmp (op_eqA hr.units) imp_eq (mv 4) me_str rfl)))) (mss_cons (ms_ret (me_call (G 4) hr0 (by rfl) T.m4 T.f4.kp T.b4 (mas_val (mv 5) (mas_val (mv 6) mas_nil))))
  mss_nil) mss_nil)
  (mss_cons (ms_ret (me_call (G 5) hr0 (by rfl) T.m5 T.f5.kp T.b5 (mas_val (mv 4) (mas_val (mv 5) (mas_val (mv 6) mas_nil)))))
  mss_nil))))))))))))
theorem ok9 (T : Txt K mg A Dd AC) (G : Gs P w K mg base A Dd k NN) : FnOk P w K mg base (L2.CX P w) (2 * (k + 1)) (A 9) (Dd 9) ["value", "kind"] (spF K mg (callF sub tab NN (k + 1) 9)) := by
  have S := sc9
  refine fn_okX (k := 2 * k + 1) (fn := fn9) (C := callF sub tab NN k) (sub := sub) (NN := NN) (okx_of T.f9) S (fun ms => rfl) rfl rfl (by decide) fun cdv A0 outer s H E hr => ?_
  have hr0 := Room.mono hr (Nat.le_succ (2 * k))
  exact (mss_cons (ms_if (mt_cmp (op_eqA hr.units) imp_eq (me_ix ix_seq imp_ix (mv 1) me_int (fun _ _ => rfl)) me_str rfl) (mss_cons (ms_ret (mv 0))
  mss_nil) mss_nil)
  (mss_cons (ms_if (mt_cmp (op_eqA hr.units) imp_eq (me_ix ix_seq imp_ix (mv 1) me_int (fun _ _ => rfl)) me_str rfl) (mss_cons (ms_ret (me_mt (mes_cons (me_call (G 9) hr0 (by rfl) T.m9 T.f9.kp T.b9 (mas_val (me_ix ix_seq imp_ix (mv 0) me_int (fun _ _ => rfl)) (mas_val (me_ix ix_seq imp_ix (mv 1) me_int (fun _ _ => rfl)) mas_nil))) (mes_cons (me_call (G 9) hr0 (by rfl) T.m9 T.f9.kp T.b9 (mas_val (me_ix ix_seq imp_ix (mv 0) me_int (fun _ _ => rfl)) (mas_val (me_ix ix_seq imp_ix (mv 1) me_int (fun _ _ => rfl)) mas_nil))) mes_nil))))
  mss_nil) mss_nil)
  (mss_cons (ms_asg (me_own (mf_lst mes_nil)) (gn 2 S.nd))
  (mss_cons (ms_while (fun _ _ => passes_of rfl) (mt_cmp op_notN imp_isNotN (mv 0) me_non rfl) (mss_cons (ms_expr (me_bm PySem.F.plainAttrs_list PySem.F.slot_list_append PySem.F.type_list_append mt_append rfl mut_append (mr 2) (mes_cons (me_call (G 9) hr0 (by rfl) T.m9 T.f9.kp T.b9 (mas_val (me_ix ix_seq imp_ix (mv 0) me_int (fun _ _ => rfl)) (mas_val (me_ix ix_seq imp_ix (mv 1) me_int (fun _ _ => rfl)) mas_nil))) mes_nil)))
  (mss_cons (ms_asg (me_ix ix_seq imp_ix (mv 0) me_int (fun _ _ => rfl)) (gn 0 S.nd))
  mss_nil)))
  (mss_cons (ms_ret (mm 2))
  mss_nil)))))
theorem ok10 (T : Txt K mg A Dd AC) (G : Gs P w K mg base A Dd k NN) : FnOk P w K mg base (L2.CX P w) (2 * (k + 1)) (A 10) (Dd 10) ["program", "numbers", "most"] (spF K mg (callF sub tab NN (k + 1) 10)) := by
  have S := sc10
  refine fn_okX (k := 2 * k + 1) (fn := fn10) (C := callF sub tab NN k) (sub := sub) (NN := NN) (okx_ofD T.f10) S (fun ms => rfl) rfl rfl (by decide) fun cdv A0 outer s H E hr => ?_
  have hr0 := Room.mono hr (Nat.le_succ (2 * k))
  exact (mss_cons (ms_asg (me_own mf_dct0) (gn 3 S.nd))
  (mss_cons (ms_for (fun _ _ => passes_of rfl) (by rfl) (mi_list (mv 0)) (gn 4 S.nd) (mss_cons (ms_putD (hu_of hr) (mr 3) (me_ix ix_seq imp_ix (mv 4) me_int (fun _ _ => rfl)) (mv 4))
  mss_nil))
  (mss_cons (ms_frz (ms_asg (me_ixD (hu_of hr) (mv 3) me_str (fun _ _ => rfl)) (gn 5 S.nd)))
  (mss_cons (ms_asg (me_own mf_dct0) (gn 6 S.nd))
  (mss_cons (ms_for (fun _ _ => passes_of rfl) (by rfl) (mi_zip (by rfl) T.z_zip (mes_cons (me_ix ix_seq imp_ix (mv 5) me_int (fun _ _ => rfl)) (mes_cons (mv 1) mes_nil))) (mg_tup (by rfl) (mgs_cons (i := 7) S.nd rfl (by first | exact Or.inl rfl | exact Or.inr rfl) (mgs_cons (i := 8) S.nd rfl (by first | exact Or.inl rfl | exact Or.inr rfl) mgs_nil))) (mss_cons (ms_putD (hu_of hr) (mr 6) (me_ix ix_seq imp_ix (mv 7) me_int (fun _ _ => rfl)) (mv 8))
  mss_nil))
  (mss_cons (ms_frz (ms_ret (me_call (G 9) hr0 (by rfl) T.m9 T.f9.kp T.b9 (mas_val (me_call (G 8) hr0 (by rfl) T.m8 T.f8.kp T.b8 (mas_val (mv 3) (mas_val (me_ix ix_seq imp_ix (mv 5) me_int (fun _ _ => rfl)) (mas_val (mv 6) (mas_val (me_new T.mk0 (G 0) hr rfl T.c0 T.b0 (mas_val (mv 2) mas_nil)) mas_nil))))) (mas_val (me_ix ix_seq imp_ix (mv 5) me_int (fun _ _ => rfl)) mas_nil)))))
  mss_nil))))))
theorem ok11 (T : Txt K mg A Dd AC) (G : Gs P w K mg base A Dd k NN) : FnOk P w K mg base (L2.CX P w) (2 * (k + 1)) (A 11) (Dd 11) ["cell"] (spF K mg (callF sub tab NN (k + 1) 11)) := by
  have S := sc11
  refine fn_okX (k := 2 * k + 1) (fn := fn11) (C := callF sub tab NN k) (sub := sub) (NN := NN) (okx_of T.f11) S (fun ms => rfl) rfl rfl (by decide) fun cdv A0 outer s H E hr => ?_
  have hr0 := Room.mono hr (Nat.le_succ (2 * k))
  exact (mss_cons (ms_ret (me_op op_mod imp_mod (me_op op_mulA imp_mul (me_op op_mulA imp_mul (me_op op_addX imp_addX (me_op op_mod imp_mod (mv 0) me_int) me_int) me_int) me_int) me_int))
  mss_nil)
theorem ok12 (T : Txt K mg A Dd AC) (G : Gs P w K mg base A Dd k NN) : FnOk P w K mg base (L2.CX P w) (2 * (k + 1)) (A 12) (Dd 12) ["part", "many"] (spF K mg (callF sub tab NN (k + 1) 12)) := by
  have S := sc12
  refine fn_okX (k := 2 * k + 1) (fn := fn12) (C := callF sub tab NN k) (sub := sub) (NN := NN) (okx_of T.f12) S (fun ms => rfl) rfl rfl (by decide) fun cdv A0 outer s H E hr => ?_
  have hr0 := Room.mono hr (Nat.le_succ (2 * k))
  exact (mss_cons (ms_for (fun _ _ => passes_of rfl) (by rfl) (mi_range1 (by rfl) T.z_range (mes_cons (mv 1) mes_nil)) (gn 2 S.nd) (mss_cons (ms_asg (me_tup (mes_cons me_str (mes_cons (me_tup (mes_cons me_str (mes_cons (me_op op_sub imp_sub (mv 1) (mv 2)) mes_nil))) (mes_cons (mv 0) mes_nil)))) (gn 0 S.nd))
  mss_nil))
  (mss_cons (ms_ret (mv 0))
  mss_nil))
theorem ok13 (T : Txt K mg A Dd AC) (G : Gs P w K mg base A Dd k NN) : FnOk P w K mg base (L2.CX P w) (2 * (k + 1)) (A 13) (Dd 13) ["name", "part", "many"] (spF K mg (callF sub tab NN (k + 1) 13)) := by
  have S := sc13
  refine fn_okX (k := 2 * k + 1) (fn := fn13) (C := callF sub tab NN k) (sub := sub) (NN := NN) (okx_of T.f13) S (fun ms => rfl) rfl rfl (by decide) fun cdv A0 outer s H E hr => ?_
  have hr0 := Room.mono hr (Nat.le_succ (2 * k))
  exact (mss_cons (ms_for (fun _ _ => passes_of rfl) (by rfl) (mi_range1 (by rfl) T.z_range (mes_cons (mv 2) mes_nil)) (gn 3 S.nd) (mss_cons (ms_asg (me_tup (mes_cons me_str (mes_cons (mv 0) (mes_cons (mv 1) mes_nil)))) (gn 1 S.nd))
  mss_nil))
  (mss_cons (ms_ret (mv 1))
  mss_nil))
theorem ok14 (T : Txt K mg A Dd AC) (G : Gs P w K mg base A Dd k NN) : FnOk P w K mg base (L2.CX P w) (2 * (k + 1)) (A 14) (Dd 14) ["many", "few"] (spF K mg (callF sub tab NN (k + 1) 14)) := by
  have S := sc14
  refine fn_okX (k := 2 * k + 1) (fn := fn14) (C := callF sub tab NN k) (sub := sub) (NN := NN) (okx_of T.f14) S (fun ms => rfl) rfl rfl (by decide) fun cdv A0 outer s H E hr => ?_
  have hr0 := Room.mono hr (Nat.le_succ (2 * k))
  exact (mss_cons (ms_asg (me_tup (mes_cons me_str (mes_cons (me_tup (mes_cons me_str mes_nil)) mes_nil))) (gn 2 S.nd))
  (mss_cons (ms_asg (me_tup (mes_cons me_str (mes_cons me_str mes_nil))) (gn 3 S.nd))
  (mss_cons (ms_asg (me_tup (mes_cons me_str (mes_cons (MF.me (mf_lst (mes_cons (me_tup (mes_cons me_str (mes_cons (mv 2) mes_nil))) mes_nil))) (mes_cons (mv 2) (mes_cons (me_call (G 12) hr0 (by rfl) T.m12 T.f12.kp T.b12 (mas_val (mv 3) (mas_val me_int mas_nil))) mes_nil))))) (gn 4 S.nd))
  (mss_cons (ms_asg (me_tup (mes_cons me_str (mes_cons (MF.me (mf_lst (mes_cons (me_tup (mes_cons me_str (mes_cons (mv 2) mes_nil))) mes_nil))) (mes_cons (mv 2) (mes_cons (me_call (G 13) hr0 (by rfl) T.m13 T.f13.kp T.b13 (mas_val me_str (mas_val (mv 3) (mas_val me_int mas_nil)))) mes_nil))))) (gn 5 S.nd))
  (mss_cons (ms_asg (me_tup (mes_cons me_str (mes_cons me_str (mes_cons (me_call (G 13) hr0 (by rfl) T.m13 T.f13.kp T.b13 (mas_val me_str (mas_val (me_tup (mes_cons me_str (mes_cons me_str mes_nil))) (mas_val (mv 0) mas_nil)))) (mes_cons (me_call (G 12) hr0 (by rfl) T.m12 T.f12.kp T.b12 (mas_val (me_tup (mes_cons me_str (mes_cons me_str mes_nil))) (mas_val (mv 1) mas_nil))) mes_nil))))) (gn 6 S.nd))
  (mss_cons (ms_asg (me_tup (mes_cons me_str (mes_cons (MF.me (mf_lst mes_nil)) (mes_cons (mv 2) (mes_cons (me_tup (mes_cons me_str (mes_cons me_str (mes_cons (me_call (G 13) hr0 (by rfl) T.m13 T.f13.kp T.b13 (mas_val me_str (mas_val (me_tup (mes_cons me_str (mes_cons (me_tup (mes_cons me_str mes_nil)) mes_nil))) (mas_val me_int mas_nil)))) (mes_cons (mv 6) mes_nil))))) mes_nil))))) (gn 7 S.nd))
  (mss_cons (ms_ret (MF.me (mf_lst (mes_cons (mv 7) (mes_cons (mv 4) (mes_cons (mv 5) mes_nil))))))
  mss_nil)))))))
theorem ok15 (T : Txt K mg A Dd AC) (G : Gs P w K mg base A Dd k NN) : FnOk P w K mg base (L2.CX P w) (2 * (k + 1)) (A 15) (Dd 15) ["many"] (spF K mg (callF sub tab NN (k + 1) 15)) := by
  have S := sc15
  refine fn_okX (k := 2 * k + 1) (fn := fn15) (C := callF sub tab NN k) (sub := sub) (NN := NN) (okx_of T.f15) S (fun ms => rfl) rfl rfl (by decide) fun cdv A0 outer s H E hr => ?_
  have hr0 := Room.mono hr (Nat.le_succ (2 * k))
  exact (mss_cons (ms_asg (me_tup (mes_cons me_str (mes_cons me_str (mes_cons (me_tup (mes_cons me_str (mes_cons (me_tup (mes_cons me_str (mes_cons me_str mes_nil))) (mes_cons (me_tup (mes_cons me_str (mes_cons me_int mes_nil))) mes_nil)))) mes_nil)))) (gn 1 S.nd))
  (mss_cons (ms_asg (me_tup (mes_cons me_str (mes_cons (me_tup (mes_cons me_str (mes_cons (me_tup (mes_cons me_str (mes_cons me_str mes_nil))) (mes_cons (me_tup (mes_cons me_str (mes_cons me_int mes_nil))) mes_nil)))) (mes_cons (me_tup (mes_cons me_str (mes_cons (me_tup (mes_cons me_str mes_nil)) mes_nil))) (mes_cons (me_tup (mes_cons me_str (mes_cons (me_tup (mes_cons me_str (mes_cons me_str mes_nil))) (mes_cons (mv 1) mes_nil)))) mes_nil))))) (gn 2 S.nd))
  (mss_cons (ms_asg (me_tup (mes_cons me_str (mes_cons (MF.me (mf_lst (mes_cons (me_tup (mes_cons me_str (mes_cons (me_tup (mes_cons me_str mes_nil)) mes_nil))) mes_nil))) (mes_cons (me_tup (mes_cons me_str (mes_cons (me_tup (mes_cons me_str mes_nil)) mes_nil))) (mes_cons (mv 2) mes_nil))))) (gn 3 S.nd))
  (mss_cons (ms_asg (me_tup (mes_cons me_str (mes_cons (me_tup (mes_cons me_str (mes_cons me_str (mes_cons (me_tup (mes_cons me_str (mes_cons me_str mes_nil))) mes_nil)))) mes_nil))) (gn 4 S.nd))
  (mss_cons (ms_for (fun _ _ => passes_of rfl) (by rfl) (mi_range1 (by rfl) T.z_range (mes_cons me_int mes_nil)) (gn 5 S.nd) (mss_cons (ms_asg (me_tup (mes_cons me_str (mes_cons (me_tup (mes_cons me_str (mes_cons (me_tup (mes_cons me_str (mes_cons me_str (mes_cons (me_tup (mes_cons me_str (mes_cons me_str mes_nil))) mes_nil)))) mes_nil))) (mes_cons (mv 4) mes_nil)))) (gn 4 S.nd))
  mss_nil))
  (mss_cons (ms_asg (me_tup (mes_cons me_str (mes_cons (MF.me (mf_lst (mes_cons (me_tup (mes_cons me_str (mes_cons (me_tup (mes_cons me_str mes_nil)) mes_nil))) mes_nil))) (mes_cons (me_tup (mes_cons me_str mes_nil)) (mes_cons (mv 4) mes_nil))))) (gn 6 S.nd))
  (mss_cons (ms_asg (me_tup (mes_cons me_str (mes_cons me_str (mes_cons (me_tup (mes_cons me_str (mes_cons me_str mes_nil))) mes_nil)))) (gn 4 S.nd))
  (mss_cons (ms_for (fun _ _ => passes_of rfl) (by rfl) (mi_range1 (by rfl) T.z_range (mes_cons (me_op op_sub imp_sub (mv 0) me_int) mes_nil)) (gn 5 S.nd) (mss_cons (ms_asg (me_tup (mes_cons me_str (mes_cons (me_tup (mes_cons me_str (mes_cons me_str (mes_cons (me_tup (mes_cons me_str (mes_cons me_str mes_nil))) mes_nil)))) (mes_cons (mv 4) mes_nil)))) (gn 4 S.nd))
  mss_nil))
  (mss_cons (ms_ret (MF.me (mf_lst (mes_cons (mv 3) (mes_cons (mv 6) (mes_cons (me_tup (mes_cons me_str (mes_cons (MF.me (mf_lst (mes_cons (me_tup (mes_cons me_str (mes_cons (me_tup (mes_cons me_str mes_nil)) mes_nil))) mes_nil))) (mes_cons (me_tup (mes_cons me_str mes_nil)) (mes_cons (mv 4) mes_nil))))) mes_nil))))))
  mss_nil)))))))))
theorem ok16 (T : Txt K mg A Dd AC) (G : Gs P w K mg base A Dd k NN) : FnOk P w K mg base (L2.CX P w) (2 * (k + 1)) (A 16) (Dd 16) ["many", "few", "most"] (spF K mg (callF sub tab NN (k + 1) 16)) := by
  have S := sc16
  refine fn_okX (k := 2 * k + 1) (fn := fn16) (C := callF sub tab NN k) (sub := sub) (NN := NN) (okx_of T.f16) S (fun ms => rfl) rfl rfl (by decide) fun cdv A0 outer s H E hr => ?_
  have hr0 := Room.mono hr (Nat.le_succ (2 * k))
  exact (mss_cons (ms_asg me_int (gn 3 S.nd))
  (mss_cons (ms_asg (me_own (mf_lst mes_nil)) (gn 4 S.nd))
  (mss_cons (ms_for (fun _ _ => passes_of rfl) (by rfl) (mi_range1 (by rfl) T.z_range (mes_cons (me_op op_addX imp_addX me_int (mv 0)) mes_nil)) (gn 5 S.nd) (mss_cons (ms_asg (me_op op_addX imp_addX (mv 3) me_int) (gn 3 S.nd))
  (mss_cons (ms_if (mt_cmp op_gt imp_gt (mv 3) (mv 2) rfl) (mss_cons (ms_ret (me_tup (mes_cons me_str (mes_cons me_non mes_nil))))
  mss_nil) mss_nil)
  (mss_cons (ms_if (MW.mt (mw_or (mt_cmp op_ge imp_ge (mv 5) me_int rfl) (mw_or1 (mt_cmp op_gt imp_gt (me_op op_mod imp_mod (mv 5) me_int) me_int rfl)))) (mss_cons (ms_for (fun _ _ => passes_of rfl) (by rfl) (mi_rangeD (by rfl) T.z_range (mes_cons me_int (mes_cons me_int (mes_cons (me_un un_neg imp_neg me_int) mes_nil)))) (gn 6 S.nd) (mss_cons (ms_expr (me_bm PySem.F.plainAttrs_list PySem.F.slot_list_append PySem.F.type_list_append mt_append rfl mut_append (mr 4) (mes_cons (mv 6) mes_nil)))
  (mss_cons (ms_if (mt_view (mt_cmp op_gt imp_gt (me_op op_addX imp_addX me_int (me_op op_mulA imp_mul me_int (me_bi call_lenA imp_len rfl T.z_len bt_len (mes_cons (mv 4) mes_nil)))) me_int rfl)) (mss_cons (ms_ret (me_tup (mes_cons me_str (mes_cons me_non mes_nil))))
  mss_nil) mss_nil)
  mss_nil)))
  mss_nil) mss_nil)
  mss_nil))))
  (mss_cons (ms_for (fun _ _ => passes_of rfl) (by rfl) (mi_rangeD (by rfl) T.z_range (mes_cons (mv 1) (mes_cons me_int (mes_cons (me_un un_neg imp_neg me_int) mes_nil)))) (gn 6 S.nd) (mss_cons (ms_expr (me_bm PySem.F.plainAttrs_list PySem.F.slot_list_append PySem.F.type_list_append mt_append rfl mut_append (mr 4) (mes_cons (mv 6) mes_nil)))
  (mss_cons (ms_if (mt_view (mt_cmp op_gt imp_gt (me_op op_addX imp_addX me_int (me_op op_mulA imp_mul me_int (me_bi call_lenA imp_len rfl T.z_len bt_len (mes_cons (mv 4) mes_nil)))) me_int rfl)) (mss_cons (ms_ret (me_tup (mes_cons me_str (mes_cons me_non mes_nil))))
  mss_nil) mss_nil)
  mss_nil)))
  (mss_cons (ms_ret (me_tup (mes_cons me_str (mes_cons (MF.me (mf_viewF (mf_rev (mv 4)))) mes_nil))))
  mss_nil)))))
theorem ok17 (T : Txt K mg A Dd AC) (G : Gs P w K mg base A Dd k NN) : FnOk P w K mg base (L2.CX P w) (2 * (k + 1)) (A 17) (Dd 17) ["many", "number", "most"] (spF K mg (callF sub tab NN (k + 1) 17)) := by
  have S := sc17
  refine fn_okX (k := 2 * k + 1) (fn := fn17) (C := callF sub tab NN k) (sub := sub) (NN := NN) (okx_of T.f17) S (fun ms => rfl) rfl rfl (by decide) fun cdv A0 outer s H E hr => ?_
  have hr0 := Room.mono hr (Nat.le_succ (2 * k))
  exact (mss_cons (ms_asg me_int (gn 3 S.nd))
  (mss_cons (ms_for (fun _ _ => passes_of rfl) (by rfl) (mi_range1 (by rfl) T.z_range (mes_cons (mv 0) mes_nil)) (gn 4 S.nd) (mss_cons (ms_asg (me_op op_addX imp_addX (mv 3) me_int) (gn 3 S.nd))
  (mss_cons (ms_if (mt_cmp op_gt imp_gt (mv 3) (mv 2) rfl) (mss_cons (ms_ret (me_tup (mes_cons me_str (mes_cons me_non mes_nil))))
  mss_nil) mss_nil)
  (mss_cons (ms_for (fun _ _ => passes_of rfl) (by rfl) (mi_range1 (by rfl) T.z_range (mes_cons me_int mes_nil)) (gn 5 S.nd) (mss_cons (ms_for (fun _ _ => passes_of rfl) (by rfl) (mi_range2 (by rfl) T.z_range (mes_cons me_int (mes_cons (me_op op_addX imp_addX me_int (me_bi (call_max2 (by rfl)) imp_max rfl T.z_max bt_max (mes_cons me_int (mes_cons (mv 1) mes_nil)))) mes_nil))) (gn 6 S.nd) (mss_cons (ms_asg (me_op op_addX imp_addX (mv 3) me_int) (gn 3 S.nd))
  (mss_cons (ms_if (mt_cmp op_gt imp_gt (mv 3) (mv 2) rfl) (mss_cons (ms_ret (me_tup (mes_cons me_str (mes_cons me_non mes_nil))))
  mss_nil) mss_nil)
  (mss_cons (ms_if (mt_cmp op_gt imp_gt (mv 6) me_int rfl) (mss_cons (ms_ret (me_tup (mes_cons me_str (mes_cons me_non mes_nil))))
  mss_nil) mss_nil)
  mss_nil))))
  mss_nil))
  mss_nil))))
  (mss_cons (ms_ret (me_tup (mes_cons me_str (mes_cons (me_op op_mulA imp_mul (me_op op_mulA imp_mul me_int (mv 0)) (me_ty call_int1 imp_int rfl T.z_int bt_int (mes_cons (me_cmp op_lt imp_lt (mv 1) me_int rfl) mes_nil))) mes_nil))))
  mss_nil)))
theorem ok18 (T : Txt K mg A Dd AC) (G : Gs P w K mg base A Dd k NN) : FnOk P w K mg base (L2.CX P w) (2 * (k + 1)) (A 18) (Dd 18) ["program", "numbers", "most"] (spF K mg (callF sub tab NN (k + 1) 18)) := by
  have S := sc18
  refine fn_okX (k := 2 * k + 1) (fn := fn18) (C := callF sub tab NN k) (sub := sub) (NN := NN) (okx_of T.f18) S (fun ms => rfl) rfl rfl (by decide) fun cdv A0 outer s H E hr => ?_
  have SO := T.so
  have hr0 := Room.mono hr (Nat.le_succ (2 * k))
  exact (mss_cons (ms_asg me_str (gn 3 S.nd))
  (mss_cons (ms_asg me_non (gn 4 S.nd))
  (mss_cons (ms_try (by rfl) (by rfl) SO (fun pn xe hps => (mss_cons (ms_asg (me_call (G 10) hr0 (by rfl) T.m10 T.f10.kp T.b10 (mas_val (mv 0) (mas_val (mv 1) (mas_val (mv 2) mas_nil)))) (gn 4 S.nd))
  mss_nil)) (.cons ⟨by rfl, by decide, .inl T.c2⟩ T.c2 rfl (fun a pn => (mss_cons (ms_asg me_str (gn 3 S.nd))
  mss_nil)) (.cons ⟨by rfl, by decide, .inl T.c3⟩ T.c3 rfl (fun a pn => (mss_cons (ms_asg me_str (gn 3 S.nd))
  mss_nil)) (.cons ⟨by rfl, by decide, .inl T.c4⟩ T.c4 rfl (fun a pn => (mss_cons (ms_asg me_str (gn 3 S.nd))
  mss_nil)) (.cons ⟨by rfl, by decide, .inl T.c5⟩ T.c5 rfl (fun a pn => (mss_cons (ms_asg me_str (gn 3 S.nd))
  mss_nil)) .nil)))))
  (mss_cons (ms_ret (me_mt (mes_cons (mv 3) (mes_cons (mm 4) mes_nil))))
  mss_nil))))
theorem ok19 (T : Txt K mg A Dd AC) (G : Gs P w K mg base A Dd k NN) : FnOk P w K mg base (L2.CX P w) (2 * (k + 1)) (A 19) (Dd 19) ["script"] (spF K mg (callF sub tab NN (k + 1) 19)) := by
  have S := sc19
  refine fn_okX (k := 2 * k + 1) (fn := fn19) (C := callF sub tab NN k) (sub := sub) (NN := NN) (okx_of T.f19) S (fun ms => rfl) rfl rfl (by decide) fun cdv A0 outer s H E hr => ?_
  have hr0 := Room.mono hr (Nat.le_succ (2 * k))
  exact (mss_cons (ms_for (fun _ _ => passes_of rfl) (by rfl) (mi_list (me_op op_addX imp_addX (MF.me (mf_lst (mes_cons me_int mes_nil))) (MF.me (mf_slice (mv 0) mo_none (mo_some me_int))))) (gn 1 S.nd) (mss_cons (ms_asg (me_call (G 11) hr0 (by rfl) T.m11 T.f11.kp T.b11 (mas_val (mv 1) mas_nil)) (gn 2 S.nd))
  (mss_cons (ms_asg (me_op op_mod imp_mod (me_op op_fdivW imp_divW (mv 2) me_int) me_int) (gn 3 S.nd))
  (mss_cons (ms_if (mt_cmp (op_eqA hr.units) imp_eq (me_op op_mod imp_mod (mv 2) me_int) me_int rfl) (mss_cons (ms_asg (me_op op_mod imp_mod (me_op op_fdivW imp_divW (mv 2) me_int) me_int) (gn 4 S.nd))
  (mss_cons (ms_asg (me_op op_mod imp_mod (me_op op_fdivW imp_divW (mv 2) me_int) me_int) (gn 5 S.nd))
  (mss_cons (ms_asg (me_call (G 18) hr0 (by rfl) T.m18 T.f18.kp T.b18 (mas_val (me_call (G 14) hr0 (by rfl) T.m14 T.f14.kp T.b14 (mas_val (mv 4) (mas_val (mv 5) mas_nil))) (mas_val (MF.me (mf_lst mes_nil)) (mas_val (mv 3) mas_nil)))) (gn 6 S.nd))
  (mss_cons (ms_asg (me_call (G 16) hr0 (by rfl) T.m16 T.f16.kp T.b16 (mas_val (mv 4) (mas_val (mv 5) (mas_val (mv 3) mas_nil)))) (gn 7 S.nd))
  mss_nil)))) (mss_cons (ms_asg (me_op op_addX imp_addX me_int (me_op op_mod imp_mod (me_op op_fdivW imp_divW (mv 2) me_int) me_int)) (gn 4 S.nd))
  (mss_cons (ms_asg (me_op op_sub imp_sub (me_op op_mod imp_mod (me_op op_fdivW imp_divW (mv 2) me_int) me_int) me_int) (gn 8 S.nd))
  (mss_cons (ms_asg (me_call (G 18) hr0 (by rfl) T.m18 T.f18.kp T.b18 (mas_val (me_call (G 15) hr0 (by rfl) T.m15 T.f15.kp T.b15 (mas_val (mv 4) mas_nil)) (mas_val (MF.me (mf_lst (mes_cons (mv 8) mes_nil))) (mas_val (mv 3) mas_nil)))) (gn 6 S.nd))
  (mss_cons (ms_asg (me_call (G 17) hr0 (by rfl) T.m17 T.f17.kp T.b17 (mas_val (mv 4) (mas_val (mv 8) (mas_val (mv 3) mas_nil)))) (gn 7 S.nd))
  mss_nil)))))
  (mss_cons (ms_if (mt_view (mt_cmp (op_neA hr.units) imp_ne (mv 6) (mv 7) rfl)) (mss_cons (ms_ret me_bl)
  mss_nil) mss_nil)
  mss_nil)))))
  (mss_cons (ms_ret me_bl)
  mss_nil))
theorem all_ok (T : Txt K mg A Dd AC) : ∀ k, Gs P w K mg base A Dd k NN
  | 0, g => fn_none
  | k + 1, g => by
    have G := all_ok T k
    match g with
    | 0 => exact ok0 T G
    | 1 => exact ok1 T G
    | 2 => exact ok2 T G
    | 3 => exact ok3 T G
    | 4 => exact ok4 T G
    | 5 => exact ok5 T G
    | 6 => exact ok6 T G
    | 7 => exact ok7 T G
    | 8 => exact ok8 T G
    | 9 => exact ok9 T G
    | 10 => exact ok10 T G
    | 11 => exact ok11 T G
    | 12 => exact ok12 T G
    | 13 => exact ok13 T G
    | 14 => exact ok14 T G
    | 15 => exact ok15 T G
    | 16 => exact ok16 T G
    | 17 => exact ok17 T G
    | 18 => exact ok18 T G
    | 19 => exact ok19 T G
    | g + 20 => exact fn_stuck fun ms => rfl
end
end K16
namespace K16
open PySem L2 Mi
section
variable {sub : Str → Str → Bool} {C : Nat → List M → Mi.CR} {pin : List Nat} {N : Nat} {st : S} {r : Ss} {μ μ1 : Mi.Env} {c : Str}
theorem ex_er (h : execS sub C pin N st μ = .err c μ1) : execSs sub C pin N (.cons st r) μ = .err c μ1 := by
  show (match execS sub C pin N st μ with | .nx μ1 => execSs sub C pin N r μ1 | q => q) = _
  rw [h]
end
theorem call_err {sub : Str → Str → Bool} {tab : Nat → Option Fn} {N k g : Nat} {fn : Fn} {ms : List M} {c : Str} {μ' : Mi.Env} (h : tab g = some fn) (hl : ms.length = fn.np) (e : execSs sub (callF sub tab N k) fn.pin N fn.body (startE fn ms) = .err c μ') : callF sub tab N (k + 1) g ms = .err c (outsOf fn μ') := by
  show (match tab g with | some fn => if ms.length = fn.np then fnEnd fn (execSs sub (callF sub tab N k) fn.pin N fn.body (startE fn ms)) else .stuck | none => .stuck) = _
  rw [h]
  dsimp only
  rw [if_pos hl, e]
  rfl
abbrev OV : Int := 1000000000000000000000000000000000000000000000000000000000000
theorem fAbs_n (i : Int) : fAbs [.int i] = some (.int (i.natAbs : Int)) := by
  show some (D.int (if i < 0 then -i else i)) = _
  have e : (if i < 0 then -i else i) = (i.natAbs : Int) := by split <;> omega
  rw [e]
theorem fInt_b (k : Bool) : fInt [.bl k] = some (.int (if k then 1 else 0)) := rfl
def Sm (x : Int) : Prop := x.natAbs < 10 ^ 60
theorem log_sm {x : Int} (h : Sm x) : x.natAbs.log2 < 200 := by
  by_cases h0 : x.natAbs = 0
  · rw [h0]; decide
  · exact (Nat.log2_lt h0).mpr (Nat.lt_trans h (by decide))
theorem fMul_sm {x y : Int} (hx : Sm x) (hy : Sm y) : fMul (.int x) (.int y) = some (.int (x * y)) := by
  show (if CMul x y ∨ CMulW x y then some (D.int (x * y)) else none) = _
  have hp : CMulW x y := by
    have := log_sm hx
    have := log_sm hy
    show _ + _ < _
    omega
  rw [if_pos (.inr hp)]
/-- a number, or too great a one -/
def chk (z : Int) : Option Int := if OV ≤ (z.natAbs : Int) then none else some z
def opr (w : Str) (x y : Int) : Option Int :=
  if w = "less" then some (if x < y then 1 else 0) else if w = "plus" then chk (x + y) else if w = "minus" then chk (x - y) else chk (x * y)
theorem chk_sm {z v : Int} (h : chk z = some v) : Sm v := by
  unfold chk at h
  split at h
  · cases h
  · cases h
    rename_i n
    show z.natAbs < 10 ^ 60
    have e : (10 : Nat) ^ 60 = 1000000000000000000000000000000000000000000000000000000000000 := by decide
    rw [e]
    have n' : ¬ (1000000000000000000000000000000000000000000000000000000000000 : Int) ≤ (z.natAbs : Int) := n
    omega
theorem opr_sm {w : Str} {x y v : Int} (h : opr w x y = some v) : Sm v := by
  unfold opr at h
  split at h
  · cases h
    unfold Sm
    split <;> decide
  · split at h
    · exact chk_sm h
    · split at h <;> exact chk_sm h
def Wd (w : Str) : Prop := w = "less" ∨ w = "plus" ∨ w = "minus" ∨ w = "times"
def crO (o : Option Int) (outs : List (Option M)) : CR := match o with
  | some z => .ok (.dat (.int z)) outs
  | none => .err "TooGreat" outs
theorem reck (k : Nat) {w : Str} {x y : Int} (hw : Wd w) (hx : Sm x) (hy : Sm y) : callF sub tab bigN (k + 1) 5 [.dat (.str w), .dat (.int x), .dat (.int y)] = crO (opr w x y) [none, none, none] := by
  have hm := fMul_sm hx hy
  by_cases hl : w = "less"
  · subst hl
    have e : opr "less" x y = some (if x < y then 1 else 0) := if_pos rfl
    rw [e]
    refine call_ret (fn := fn5) rfl rfl ?_ (μ' := [some (.dat (.str "less")), some (.dat (.int x)), some (.dat (.int y)), none])
    refine ex_ret (by first | (simp (decide := true) [execSs, execS, evalE, evalAs, evalEs, evalP, evalI, slot, insOk, atPl, M.at, M.kids, M.kind, nodupB, Ag.roots, Ag.flat, As.vals, E.pure, Es.pure, As.pure, Path.pure, argMs, Mi.callEnd, backAs, putPl, M.put, M.setKid, M.toD, viewE, D.hard, D.hard.hards, datsOf, onDat, outD, fSub_i, fAddI_i, fAddX_i, fLt_i, fLe_i, fGt_i, fGe_i, fEq_i, fEq_s, fEq_b, fNe_i, fNe_s, fNe_b, fNot_b, fNeg_i, fIx_l, fIx_t, fLen_l, fLen_t, fIsi_int_i, fIsi_bool_i, fIsi_bool_b, setTg, Tg.slots, setMany, fldIx, toOwned, datOf, startE, fn5, fInt_b]; done) | (simp (decide := true) [execSs, execS, evalE, evalAs, evalEs, evalP, evalI, slot, insOk, atPl, M.at, M.kids, M.kind, nodupB, Ag.roots, Ag.flat, As.vals, E.pure, Es.pure, As.pure, Path.pure, argMs, Mi.callEnd, backAs, putPl, M.put, M.setKid, M.toD, viewE, D.hard, D.hard.hards, datsOf, onDat, outD, fSub_i, fAddI_i, fAddX_i, fLt_i, fLe_i, fGt_i, fGe_i, fEq_i, fEq_s, fEq_b, fNe_i, fNe_s, fNe_b, fNot_b, fNeg_i, fIx_l, fIx_t, fLen_l, fLen_t, fIsi_int_i, fIsi_bool_i, fIsi_bool_b, setTg, Tg.slots, setMany, fldIx, toOwned, datOf, startE, fn5, fInt_b]; rfl))
  · have go : ∀ z : Int, (∀ μ0, execSs sub (callF sub tab bigN k) fn5.pin bigN (.cons (.ite (.op2 fEq (.var 0) (.con (.str "plus"))) (.cons (.set (.one 3) (.op2 fAddX (.var 1) (.var 2))) .nil) .nil)
          (.cons (.ite (.op2 fEq (.var 0) (.con (.str "minus"))) (.cons (.set (.one 3) (.op2 fSub (.var 1) (.var 2))) .nil) .nil) μ0)) [some (.dat (.str w)), some (.dat (.int x)), some (.dat (.int y)), some (.dat (.int (x * y)))] =
          execSs sub (callF sub tab bigN k) fn5.pin bigN μ0 [some (.dat (.str w)), some (.dat (.int x)), some (.dat (.int y)), some (.dat (.int z))]) → opr w x y = chk z → callF sub tab bigN (k + 1) 5 [.dat (.str w), .dat (.int x), .dat (.int y)] = crO (opr w x y) [none, none, none] := fun z h1 h2 => by
      rw [h2]
      unfold chk
      by_cases hz : OV ≤ (z.natAbs : Int)
      · rw [if_pos hz]
        refine call_err (fn := fn5) rfl rfl ?_ (μ' := [some (.dat (.str w)), some (.dat (.int x)), some (.dat (.int y)), some (.dat (.int z))])
        unfold fn5
        refine (ex_nx (by first | (simp (decide := true) [execSs, execS, evalE, evalAs, evalEs, evalP, evalI, slot, insOk, atPl, M.at, M.kids, M.kind, nodupB, Ag.roots, Ag.flat, As.vals, E.pure, Es.pure, As.pure, Path.pure, argMs, Mi.callEnd, backAs, putPl, M.put, M.setKid, M.toD, viewE, D.hard, D.hard.hards, datsOf, onDat, outD, fSub_i, fAddI_i, fAddX_i, fLt_i, fLe_i, fGt_i, fGe_i, fEq_i, fEq_s, fEq_b, fNe_i, fNe_s, fNe_b, fNot_b, fNeg_i, fIx_l, fIx_t, fLen_l, fLen_t, fIsi_int_i, fIsi_bool_i, fIsi_bool_b, setTg, Tg.slots, setMany, fldIx, toOwned, datOf, startE, hl]; done) | (simp (decide := true) [execSs, execS, evalE, evalAs, evalEs, evalP, evalI, slot, insOk, atPl, M.at, M.kids, M.kind, nodupB, Ag.roots, Ag.flat, As.vals, E.pure, Es.pure, As.pure, Path.pure, argMs, Mi.callEnd, backAs, putPl, M.put, M.setKid, M.toD, viewE, D.hard, D.hard.hards, datsOf, onDat, outD, fSub_i, fAddI_i, fAddX_i, fLt_i, fLe_i, fGt_i, fGe_i, fEq_i, fEq_s, fEq_b, fNe_i, fNe_s, fNe_b, fNot_b, fNeg_i, fIx_l, fIx_t, fLen_l, fLen_t, fIsi_int_i, fIsi_bool_i, fIsi_bool_b, setTg, Tg.slots, setMany, fldIx, toOwned, datOf, startE, hl]; rfl))).trans ?_
        refine (ex_nx (by first | (simp (decide := true) [execSs, execS, evalE, evalAs, evalEs, evalP, evalI, slot, insOk, atPl, M.at, M.kids, M.kind, nodupB, Ag.roots, Ag.flat, As.vals, E.pure, Es.pure, As.pure, Path.pure, argMs, Mi.callEnd, backAs, putPl, M.put, M.setKid, M.toD, viewE, D.hard, D.hard.hards, datsOf, onDat, outD, fSub_i, fAddI_i, fAddX_i, fLt_i, fLe_i, fGt_i, fGe_i, fEq_i, fEq_s, fEq_b, fNe_i, fNe_s, fNe_b, fNot_b, fNeg_i, fIx_l, fIx_t, fLen_l, fLen_t, fIsi_int_i, fIsi_bool_i, fIsi_bool_b, setTg, Tg.slots, setMany, fldIx, toOwned, datOf, hm]; done) | (simp (decide := true) [execSs, execS, evalE, evalAs, evalEs, evalP, evalI, slot, insOk, atPl, M.at, M.kids, M.kind, nodupB, Ag.roots, Ag.flat, As.vals, E.pure, Es.pure, As.pure, Path.pure, argMs, Mi.callEnd, backAs, putPl, M.put, M.setKid, M.toD, viewE, D.hard, D.hard.hards, datsOf, onDat, outD, fSub_i, fAddI_i, fAddX_i, fLt_i, fLe_i, fGt_i, fGe_i, fEq_i, fEq_s, fEq_b, fNe_i, fNe_s, fNe_b, fNot_b, fNeg_i, fIx_l, fIx_t, fLen_l, fLen_t, fIsi_int_i, fIsi_bool_i, fIsi_bool_b, setTg, Tg.slots, setMany, fldIx, toOwned, datOf, hm]; rfl))).trans ?_
        refine (h1 _).trans ?_
        refine ex_er ?_
        simp (decide := true) [execSs, execS, evalE, evalAs, evalEs, evalP, evalI, slot, insOk, atPl, M.at, M.kids, M.kind, nodupB, Ag.roots, Ag.flat, As.vals, E.pure, Es.pure, As.pure, Path.pure, argMs, Mi.callEnd, backAs, putPl, M.put, M.setKid, M.toD, viewE, D.hard, D.hard.hards, datsOf, onDat, outD, fSub_i, fAddI_i, fAddX_i, fLt_i, fLe_i, fGt_i, fGe_i, fEq_i, fEq_s, fEq_b, fNe_i, fNe_s, fNe_b, fNot_b, fNeg_i, fIx_l, fIx_t, fLen_l, fLen_t, fIsi_int_i, fIsi_bool_i, fIsi_bool_b, setTg, Tg.slots, setMany, fldIx, toOwned, datOf, fAbs_n, hz]
      · rw [if_neg hz]
        refine call_ret (fn := fn5) rfl rfl ?_ (μ' := [some (.dat (.str w)), some (.dat (.int x)), some (.dat (.int y)), some (.dat (.int z))])
        unfold fn5
        refine (ex_nx (by first | (simp (decide := true) [execSs, execS, evalE, evalAs, evalEs, evalP, evalI, slot, insOk, atPl, M.at, M.kids, M.kind, nodupB, Ag.roots, Ag.flat, As.vals, E.pure, Es.pure, As.pure, Path.pure, argMs, Mi.callEnd, backAs, putPl, M.put, M.setKid, M.toD, viewE, D.hard, D.hard.hards, datsOf, onDat, outD, fSub_i, fAddI_i, fAddX_i, fLt_i, fLe_i, fGt_i, fGe_i, fEq_i, fEq_s, fEq_b, fNe_i, fNe_s, fNe_b, fNot_b, fNeg_i, fIx_l, fIx_t, fLen_l, fLen_t, fIsi_int_i, fIsi_bool_i, fIsi_bool_b, setTg, Tg.slots, setMany, fldIx, toOwned, datOf, startE, hl]; done) | (simp (decide := true) [execSs, execS, evalE, evalAs, evalEs, evalP, evalI, slot, insOk, atPl, M.at, M.kids, M.kind, nodupB, Ag.roots, Ag.flat, As.vals, E.pure, Es.pure, As.pure, Path.pure, argMs, Mi.callEnd, backAs, putPl, M.put, M.setKid, M.toD, viewE, D.hard, D.hard.hards, datsOf, onDat, outD, fSub_i, fAddI_i, fAddX_i, fLt_i, fLe_i, fGt_i, fGe_i, fEq_i, fEq_s, fEq_b, fNe_i, fNe_s, fNe_b, fNot_b, fNeg_i, fIx_l, fIx_t, fLen_l, fLen_t, fIsi_int_i, fIsi_bool_i, fIsi_bool_b, setTg, Tg.slots, setMany, fldIx, toOwned, datOf, startE, hl]; rfl))).trans ?_
        refine (ex_nx (by first | (simp (decide := true) [execSs, execS, evalE, evalAs, evalEs, evalP, evalI, slot, insOk, atPl, M.at, M.kids, M.kind, nodupB, Ag.roots, Ag.flat, As.vals, E.pure, Es.pure, As.pure, Path.pure, argMs, Mi.callEnd, backAs, putPl, M.put, M.setKid, M.toD, viewE, D.hard, D.hard.hards, datsOf, onDat, outD, fSub_i, fAddI_i, fAddX_i, fLt_i, fLe_i, fGt_i, fGe_i, fEq_i, fEq_s, fEq_b, fNe_i, fNe_s, fNe_b, fNot_b, fNeg_i, fIx_l, fIx_t, fLen_l, fLen_t, fIsi_int_i, fIsi_bool_i, fIsi_bool_b, setTg, Tg.slots, setMany, fldIx, toOwned, datOf, hm]; done) | (simp (decide := true) [execSs, execS, evalE, evalAs, evalEs, evalP, evalI, slot, insOk, atPl, M.at, M.kids, M.kind, nodupB, Ag.roots, Ag.flat, As.vals, E.pure, Es.pure, As.pure, Path.pure, argMs, Mi.callEnd, backAs, putPl, M.put, M.setKid, M.toD, viewE, D.hard, D.hard.hards, datsOf, onDat, outD, fSub_i, fAddI_i, fAddX_i, fLt_i, fLe_i, fGt_i, fGe_i, fEq_i, fEq_s, fEq_b, fNe_i, fNe_s, fNe_b, fNot_b, fNeg_i, fIx_l, fIx_t, fLen_l, fLen_t, fIsi_int_i, fIsi_bool_i, fIsi_bool_b, setTg, Tg.slots, setMany, fldIx, toOwned, datOf, hm]; rfl))).trans ?_
        refine (h1 _).trans ?_
        refine (ex_nx (by first | (simp (decide := true) [execSs, execS, evalE, evalAs, evalEs, evalP, evalI, slot, insOk, atPl, M.at, M.kids, M.kind, nodupB, Ag.roots, Ag.flat, As.vals, E.pure, Es.pure, As.pure, Path.pure, argMs, Mi.callEnd, backAs, putPl, M.put, M.setKid, M.toD, viewE, D.hard, D.hard.hards, datsOf, onDat, outD, fSub_i, fAddI_i, fAddX_i, fLt_i, fLe_i, fGt_i, fGe_i, fEq_i, fEq_s, fEq_b, fNe_i, fNe_s, fNe_b, fNot_b, fNeg_i, fIx_l, fIx_t, fLen_l, fLen_t, fIsi_int_i, fIsi_bool_i, fIsi_bool_b, setTg, Tg.slots, setMany, fldIx, toOwned, datOf, fAbs_n, hz]; done) | (simp (decide := true) [execSs, execS, evalE, evalAs, evalEs, evalP, evalI, slot, insOk, atPl, M.at, M.kids, M.kind, nodupB, Ag.roots, Ag.flat, As.vals, E.pure, Es.pure, As.pure, Path.pure, argMs, Mi.callEnd, backAs, putPl, M.put, M.setKid, M.toD, viewE, D.hard, D.hard.hards, datsOf, onDat, outD, fSub_i, fAddI_i, fAddX_i, fLt_i, fLe_i, fGt_i, fGe_i, fEq_i, fEq_s, fEq_b, fNe_i, fNe_s, fNe_b, fNot_b, fNeg_i, fIx_l, fIx_t, fLen_l, fLen_t, fIsi_int_i, fIsi_bool_i, fIsi_bool_b, setTg, Tg.slots, setMany, fldIx, toOwned, datOf, fAbs_n, hz]; rfl))).trans ?_
        refine ex_ret (by first | (simp (decide := true) [execSs, execS, evalE, evalAs, evalEs, evalP, evalI, slot, insOk, atPl, M.at, M.kids, M.kind, nodupB, Ag.roots, Ag.flat, As.vals, E.pure, Es.pure, As.pure, Path.pure, argMs, Mi.callEnd, backAs, putPl, M.put, M.setKid, M.toD, viewE, D.hard, D.hard.hards, datsOf, onDat, outD, fSub_i, fAddI_i, fAddX_i, fLt_i, fLe_i, fGt_i, fGe_i, fEq_i, fEq_s, fEq_b, fNe_i, fNe_s, fNe_b, fNot_b, fNeg_i, fIx_l, fIx_t, fLen_l, fLen_t, fIsi_int_i, fIsi_bool_i, fIsi_bool_b, setTg, Tg.slots, setMany, fldIx, toOwned, datOf]; done) | (simp (decide := true) [execSs, execS, evalE, evalAs, evalEs, evalP, evalI, slot, insOk, atPl, M.at, M.kids, M.kind, nodupB, Ag.roots, Ag.flat, As.vals, E.pure, Es.pure, As.pure, Path.pure, argMs, Mi.callEnd, backAs, putPl, M.put, M.setKid, M.toD, viewE, D.hard, D.hard.hards, datsOf, onDat, outD, fSub_i, fAddI_i, fAddX_i, fLt_i, fLe_i, fGt_i, fGe_i, fEq_i, fEq_s, fEq_b, fNe_i, fNe_s, fNe_b, fNot_b, fNeg_i, fIx_l, fIx_t, fLen_l, fLen_t, fIsi_int_i, fIsi_bool_i, fIsi_bool_b, setTg, Tg.slots, setMany, fldIx, toOwned, datOf]; rfl))
    have ol : opr w x y = if w = "plus" then chk (x + y) else if w = "minus" then chk (x - y) else chk (x * y) := if_neg hl
    rcases hw with h | rfl | rfl | rfl
    · exact absurd h hl
    · refine go (x + y) (fun μ0 => ?_) ol
      refine (ex_nx (by first | (simp (decide := true) [execSs, execS, evalE, evalAs, evalEs, evalP, evalI, slot, insOk, atPl, M.at, M.kids, M.kind, nodupB, Ag.roots, Ag.flat, As.vals, E.pure, Es.pure, As.pure, Path.pure, argMs, Mi.callEnd, backAs, putPl, M.put, M.setKid, M.toD, viewE, D.hard, D.hard.hards, datsOf, onDat, outD, fSub_i, fAddI_i, fAddX_i, fLt_i, fLe_i, fGt_i, fGe_i, fEq_i, fEq_s, fEq_b, fNe_i, fNe_s, fNe_b, fNot_b, fNeg_i, fIx_l, fIx_t, fLen_l, fLen_t, fIsi_int_i, fIsi_bool_i, fIsi_bool_b, setTg, Tg.slots, setMany, fldIx, toOwned, datOf]; done) | (simp (decide := true) [execSs, execS, evalE, evalAs, evalEs, evalP, evalI, slot, insOk, atPl, M.at, M.kids, M.kind, nodupB, Ag.roots, Ag.flat, As.vals, E.pure, Es.pure, As.pure, Path.pure, argMs, Mi.callEnd, backAs, putPl, M.put, M.setKid, M.toD, viewE, D.hard, D.hard.hards, datsOf, onDat, outD, fSub_i, fAddI_i, fAddX_i, fLt_i, fLe_i, fGt_i, fGe_i, fEq_i, fEq_s, fEq_b, fNe_i, fNe_s, fNe_b, fNot_b, fNeg_i, fIx_l, fIx_t, fLen_l, fLen_t, fIsi_int_i, fIsi_bool_i, fIsi_bool_b, setTg, Tg.slots, setMany, fldIx, toOwned, datOf]; rfl))).trans ?_
      refine (ex_nx (by first | (simp (decide := true) [execSs, execS, evalE, evalAs, evalEs, evalP, evalI, slot, insOk, atPl, M.at, M.kids, M.kind, nodupB, Ag.roots, Ag.flat, As.vals, E.pure, Es.pure, As.pure, Path.pure, argMs, Mi.callEnd, backAs, putPl, M.put, M.setKid, M.toD, viewE, D.hard, D.hard.hards, datsOf, onDat, outD, fSub_i, fAddI_i, fAddX_i, fLt_i, fLe_i, fGt_i, fGe_i, fEq_i, fEq_s, fEq_b, fNe_i, fNe_s, fNe_b, fNot_b, fNeg_i, fIx_l, fIx_t, fLen_l, fLen_t, fIsi_int_i, fIsi_bool_i, fIsi_bool_b, setTg, Tg.slots, setMany, fldIx, toOwned, datOf]; done) | (simp (decide := true) [execSs, execS, evalE, evalAs, evalEs, evalP, evalI, slot, insOk, atPl, M.at, M.kids, M.kind, nodupB, Ag.roots, Ag.flat, As.vals, E.pure, Es.pure, As.pure, Path.pure, argMs, Mi.callEnd, backAs, putPl, M.put, M.setKid, M.toD, viewE, D.hard, D.hard.hards, datsOf, onDat, outD, fSub_i, fAddI_i, fAddX_i, fLt_i, fLe_i, fGt_i, fGe_i, fEq_i, fEq_s, fEq_b, fNe_i, fNe_s, fNe_b, fNot_b, fNeg_i, fIx_l, fIx_t, fLen_l, fLen_t, fIsi_int_i, fIsi_bool_i, fIsi_bool_b, setTg, Tg.slots, setMany, fldIx, toOwned, datOf]; rfl))).trans ?_
      rfl
    · refine go (x - y) (fun μ0 => ?_) ol
      refine (ex_nx (by first | (simp (decide := true) [execSs, execS, evalE, evalAs, evalEs, evalP, evalI, slot, insOk, atPl, M.at, M.kids, M.kind, nodupB, Ag.roots, Ag.flat, As.vals, E.pure, Es.pure, As.pure, Path.pure, argMs, Mi.callEnd, backAs, putPl, M.put, M.setKid, M.toD, viewE, D.hard, D.hard.hards, datsOf, onDat, outD, fSub_i, fAddI_i, fAddX_i, fLt_i, fLe_i, fGt_i, fGe_i, fEq_i, fEq_s, fEq_b, fNe_i, fNe_s, fNe_b, fNot_b, fNeg_i, fIx_l, fIx_t, fLen_l, fLen_t, fIsi_int_i, fIsi_bool_i, fIsi_bool_b, setTg, Tg.slots, setMany, fldIx, toOwned, datOf]; done) | (simp (decide := true) [execSs, execS, evalE, evalAs, evalEs, evalP, evalI, slot, insOk, atPl, M.at, M.kids, M.kind, nodupB, Ag.roots, Ag.flat, As.vals, E.pure, Es.pure, As.pure, Path.pure, argMs, Mi.callEnd, backAs, putPl, M.put, M.setKid, M.toD, viewE, D.hard, D.hard.hards, datsOf, onDat, outD, fSub_i, fAddI_i, fAddX_i, fLt_i, fLe_i, fGt_i, fGe_i, fEq_i, fEq_s, fEq_b, fNe_i, fNe_s, fNe_b, fNot_b, fNeg_i, fIx_l, fIx_t, fLen_l, fLen_t, fIsi_int_i, fIsi_bool_i, fIsi_bool_b, setTg, Tg.slots, setMany, fldIx, toOwned, datOf]; rfl))).trans ?_
      refine (ex_nx (by first | (simp (decide := true) [execSs, execS, evalE, evalAs, evalEs, evalP, evalI, slot, insOk, atPl, M.at, M.kids, M.kind, nodupB, Ag.roots, Ag.flat, As.vals, E.pure, Es.pure, As.pure, Path.pure, argMs, Mi.callEnd, backAs, putPl, M.put, M.setKid, M.toD, viewE, D.hard, D.hard.hards, datsOf, onDat, outD, fSub_i, fAddI_i, fAddX_i, fLt_i, fLe_i, fGt_i, fGe_i, fEq_i, fEq_s, fEq_b, fNe_i, fNe_s, fNe_b, fNot_b, fNeg_i, fIx_l, fIx_t, fLen_l, fLen_t, fIsi_int_i, fIsi_bool_i, fIsi_bool_b, setTg, Tg.slots, setMany, fldIx, toOwned, datOf]; done) | (simp (decide := true) [execSs, execS, evalE, evalAs, evalEs, evalP, evalI, slot, insOk, atPl, M.at, M.kids, M.kind, nodupB, Ag.roots, Ag.flat, As.vals, E.pure, Es.pure, As.pure, Path.pure, argMs, Mi.callEnd, backAs, putPl, M.put, M.setKid, M.toD, viewE, D.hard, D.hard.hards, datsOf, onDat, outD, fSub_i, fAddI_i, fAddX_i, fLt_i, fLe_i, fGt_i, fGe_i, fEq_i, fEq_s, fEq_b, fNe_i, fNe_s, fNe_b, fNot_b, fNeg_i, fIx_l, fIx_t, fLen_l, fLen_t, fIsi_int_i, fIsi_bool_i, fIsi_bool_b, setTg, Tg.slots, setMany, fldIx, toOwned, datOf]; rfl))).trans ?_
      rfl
    · refine go (x * y) (fun μ0 => ?_) ol
      refine (ex_nx (by first | (simp (decide := true) [execSs, execS, evalE, evalAs, evalEs, evalP, evalI, slot, insOk, atPl, M.at, M.kids, M.kind, nodupB, Ag.roots, Ag.flat, As.vals, E.pure, Es.pure, As.pure, Path.pure, argMs, Mi.callEnd, backAs, putPl, M.put, M.setKid, M.toD, viewE, D.hard, D.hard.hards, datsOf, onDat, outD, fSub_i, fAddI_i, fAddX_i, fLt_i, fLe_i, fGt_i, fGe_i, fEq_i, fEq_s, fEq_b, fNe_i, fNe_s, fNe_b, fNot_b, fNeg_i, fIx_l, fIx_t, fLen_l, fLen_t, fIsi_int_i, fIsi_bool_i, fIsi_bool_b, setTg, Tg.slots, setMany, fldIx, toOwned, datOf]; done) | (simp (decide := true) [execSs, execS, evalE, evalAs, evalEs, evalP, evalI, slot, insOk, atPl, M.at, M.kids, M.kind, nodupB, Ag.roots, Ag.flat, As.vals, E.pure, Es.pure, As.pure, Path.pure, argMs, Mi.callEnd, backAs, putPl, M.put, M.setKid, M.toD, viewE, D.hard, D.hard.hards, datsOf, onDat, outD, fSub_i, fAddI_i, fAddX_i, fLt_i, fLe_i, fGt_i, fGe_i, fEq_i, fEq_s, fEq_b, fNe_i, fNe_s, fNe_b, fNot_b, fNeg_i, fIx_l, fIx_t, fLen_l, fLen_t, fIsi_int_i, fIsi_bool_i, fIsi_bool_b, setTg, Tg.slots, setMany, fldIx, toOwned, datOf]; rfl))).trans ?_
      refine (ex_nx (by first | (simp (decide := true) [execSs, execS, evalE, evalAs, evalEs, evalP, evalI, slot, insOk, atPl, M.at, M.kids, M.kind, nodupB, Ag.roots, Ag.flat, As.vals, E.pure, Es.pure, As.pure, Path.pure, argMs, Mi.callEnd, backAs, putPl, M.put, M.setKid, M.toD, viewE, D.hard, D.hard.hards, datsOf, onDat, outD, fSub_i, fAddI_i, fAddX_i, fLt_i, fLe_i, fGt_i, fGe_i, fEq_i, fEq_s, fEq_b, fNe_i, fNe_s, fNe_b, fNot_b, fNeg_i, fIx_l, fIx_t, fLen_l, fLen_t, fIsi_int_i, fIsi_bool_i, fIsi_bool_b, setTg, Tg.slots, setMany, fldIx, toOwned, datOf]; done) | (simp (decide := true) [execSs, execS, evalE, evalAs, evalEs, evalP, evalI, slot, insOk, atPl, M.at, M.kids, M.kind, nodupB, Ag.roots, Ag.flat, As.vals, E.pure, Es.pure, As.pure, Path.pure, argMs, Mi.callEnd, backAs, putPl, M.put, M.setKid, M.toD, viewE, D.hard, D.hard.hards, datsOf, onDat, outD, fSub_i, fAddI_i, fAddX_i, fLt_i, fLe_i, fGt_i, fGe_i, fEq_i, fEq_s, fEq_b, fNe_i, fNe_s, fNe_b, fNot_b, fNeg_i, fIx_l, fIx_t, fLen_l, fLen_t, fIsi_int_i, fIsi_bool_i, fIsi_bool_b, setTg, Tg.slots, setMany, fldIx, toOwned, datOf]; rfl))).trans ?_
      rfl
theorem call_nx {sub : Str → Str → Bool} {tab : Nat → Option Fn} {N k g : Nat} {fn : Fn} {ms : List M} {μ' : Mi.Env} (h : tab g = some fn) (hl : ms.length = fn.np) (e : execSs sub (callF sub tab N k) fn.pin N fn.body (startE fn ms) = .nx μ') : callF sub tab N (k + 1) g ms = .ok (.dat .non) (outsOf fn μ') := by
  show (match tab g with | some fn => if ms.length = fn.np then fnEnd fn (execSs sub (callF sub tab N k) fn.pin N fn.body (startE fn ms)) else .stuck | none => .stuck) = _
  rw [h]
  dsimp only
  rw [if_pos hl, e]
  rfl
def cnt (most b u : Int) : M := .ins "Count" ["most", "begun", "under"] [.dat (.int most), .dat (.int b), .dat (.int u)]
theorem count_ok (k : Nat) (m : Int) : callF sub tab bigN (k + 1) 0 [.ins "Count" [] [], .dat (.int m)] = .ok (.dat .non) [some (cnt m 0 0), none] := by
  refine call_nx (fn := fn0) rfl rfl ?_ (μ' := [some (cnt m 0 0), some (.dat (.int m))])
  unfold fn0
  refine (ex_nx (by first | (simp (decide := true) [execSs, execS, evalE, evalAs, evalEs, evalP, evalI, slot, insOk, atPl, M.at, M.kids, M.kind, nodupB, Ag.roots, Ag.flat, As.vals, E.pure, Es.pure, As.pure, Path.pure, argMs, Mi.callEnd, backAs, putPl, M.put, M.setKid, M.toD, viewE, D.hard, D.hard.hards, datsOf, onDat, outD, fSub_i, fAddI_i, fAddX_i, fLt_i, fLe_i, fGt_i, fGe_i, fEq_i, fEq_s, fEq_b, fNe_i, fNe_s, fNe_b, fNot_b, fNeg_i, fIx_l, fIx_t, fLen_l, fLen_t, fIsi_int_i, fIsi_bool_i, fIsi_bool_b, setTg, Tg.slots, setMany, fldIx, toOwned, datOf, startE, fSetFld, setFld]; done) | (simp (decide := true) [execSs, execS, evalE, evalAs, evalEs, evalP, evalI, slot, insOk, atPl, M.at, M.kids, M.kind, nodupB, Ag.roots, Ag.flat, As.vals, E.pure, Es.pure, As.pure, Path.pure, argMs, Mi.callEnd, backAs, putPl, M.put, M.setKid, M.toD, viewE, D.hard, D.hard.hards, datsOf, onDat, outD, fSub_i, fAddI_i, fAddX_i, fLt_i, fLe_i, fGt_i, fGe_i, fEq_i, fEq_s, fEq_b, fNe_i, fNe_s, fNe_b, fNot_b, fNeg_i, fIx_l, fIx_t, fLen_l, fLen_t, fIsi_int_i, fIsi_bool_i, fIsi_bool_b, setTg, Tg.slots, setMany, fldIx, toOwned, datOf, startE, fSetFld, setFld]; rfl))).trans ?_
  refine (ex_nx (by first | (simp (decide := true) [execSs, execS, evalE, evalAs, evalEs, evalP, evalI, slot, insOk, atPl, M.at, M.kids, M.kind, nodupB, Ag.roots, Ag.flat, As.vals, E.pure, Es.pure, As.pure, Path.pure, argMs, Mi.callEnd, backAs, putPl, M.put, M.setKid, M.toD, viewE, D.hard, D.hard.hards, datsOf, onDat, outD, fSub_i, fAddI_i, fAddX_i, fLt_i, fLe_i, fGt_i, fGe_i, fEq_i, fEq_s, fEq_b, fNe_i, fNe_s, fNe_b, fNot_b, fNeg_i, fIx_l, fIx_t, fLen_l, fLen_t, fIsi_int_i, fIsi_bool_i, fIsi_bool_b, setTg, Tg.slots, setMany, fldIx, toOwned, datOf, fSetFld, setFld]; done) | (simp (decide := true) [execSs, execS, evalE, evalAs, evalEs, evalP, evalI, slot, insOk, atPl, M.at, M.kids, M.kind, nodupB, Ag.roots, Ag.flat, As.vals, E.pure, Es.pure, As.pure, Path.pure, argMs, Mi.callEnd, backAs, putPl, M.put, M.setKid, M.toD, viewE, D.hard, D.hard.hards, datsOf, onDat, outD, fSub_i, fAddI_i, fAddX_i, fLt_i, fLe_i, fGt_i, fGe_i, fEq_i, fEq_s, fEq_b, fNe_i, fNe_s, fNe_b, fNot_b, fNeg_i, fIx_l, fIx_t, fLen_l, fLen_t, fIsi_int_i, fIsi_bool_i, fIsi_bool_b, setTg, Tg.slots, setMany, fldIx, toOwned, datOf, fSetFld, setFld]; rfl))).trans ?_
  refine (ex_nx (by first | (simp (decide := true) [execSs, execS, evalE, evalAs, evalEs, evalP, evalI, slot, insOk, atPl, M.at, M.kids, M.kind, nodupB, Ag.roots, Ag.flat, As.vals, E.pure, Es.pure, As.pure, Path.pure, argMs, Mi.callEnd, backAs, putPl, M.put, M.setKid, M.toD, viewE, D.hard, D.hard.hards, datsOf, onDat, outD, fSub_i, fAddI_i, fAddX_i, fLt_i, fLe_i, fGt_i, fGe_i, fEq_i, fEq_s, fEq_b, fNe_i, fNe_s, fNe_b, fNot_b, fNeg_i, fIx_l, fIx_t, fLen_l, fLen_t, fIsi_int_i, fIsi_bool_i, fIsi_bool_b, setTg, Tg.slots, setMany, fldIx, toOwned, datOf, fSetFld, setFld]; done) | (simp (decide := true) [execSs, execS, evalE, evalAs, evalEs, evalP, evalI, slot, insOk, atPl, M.at, M.kids, M.kind, nodupB, Ag.roots, Ag.flat, As.vals, E.pure, Es.pure, As.pure, Path.pure, argMs, Mi.callEnd, backAs, putPl, M.put, M.setKid, M.toD, viewE, D.hard, D.hard.hards, datsOf, onDat, outD, fSub_i, fAddI_i, fAddX_i, fLt_i, fLe_i, fGt_i, fGe_i, fEq_i, fEq_s, fEq_b, fNe_i, fNe_s, fNe_b, fNot_b, fNeg_i, fIx_l, fIx_t, fLen_l, fLen_t, fIsi_int_i, fIsi_bool_i, fIsi_bool_b, setTg, Tg.slots, setMany, fldIx, toOwned, datOf, fSetFld, setFld]; rfl))).trans ?_
  rfl

section
variable {sub : Str → Str → Bool} {C : Nat → List M → Mi.CR} {pin : List Nat} {N : Nat} {c : E} {a b : Ss} {μ μ1 μ2 : Mi.Env} {R : Mi.Res}
theorem ite_t (h : evalE C pin c μ = .ok (.dat (.bl true)) μ1) (h2 : execSs sub C pin N a μ1 = R) : execS sub C pin N (.ite c a b) μ = R := by
  show ((evalE C pin c μ).res _) = _
  rw [h]
  exact h2
theorem ite_f (h : evalE C pin c μ = .ok (.dat (.bl false)) μ1) (h2 : execSs sub C pin N b μ1 = R) : execS sub C pin N (.ite c a b) μ = R := by
  show ((evalE C pin c μ).res _) = _
  rw [h]
  exact h2
theorem ex_last {st : S} (h : execS sub C pin N st μ = .nx μ1) : execSs sub C pin N (.cons st .nil) μ = .nx μ1 := by
  rw [ex_nx h]
  unfold execSs
  rfl
end
/-! ### values -/
inductive Vl where
  | num (i : Int)
  | non
  | cell (a b : Vl) (s : Int)
def Vl.d : Vl → D
  | .num i => .int i
  | .non => .non
  | .cell a b s => .tup [a.d, b.d, .int s]
def Vl.sz : Vl → Int
  | .num _ => 1
  | .non => 1
  | .cell _ _ s => s
theorem size_ok (k : Nat) (v : Vl) : callF sub tab bigN (k + 1) 3 [.dat v.d] = .ok (.dat (.int v.sz)) [none] := by
  refine call_ret (fn := fn3) rfl rfl ?_ (μ' := [some (.dat v.d)])
  unfold fn3
  cases v with
  | num i => refine ex_ret (by first | (simp (decide := true) [execSs, execS, evalE, evalAs, evalEs, evalP, evalI, slot, insOk, atPl, M.at, M.kids, M.kind, nodupB, Ag.roots, Ag.flat, As.vals, E.pure, Es.pure, As.pure, Path.pure, argMs, Mi.callEnd, backAs, putPl, M.put, M.setKid, M.toD, viewE, D.hard, D.hard.hards, datsOf, onDat, outD, fSub_i, fAddI_i, fAddX_i, fLt_i, fLe_i, fGt_i, fGe_i, fEq_i, fEq_s, fEq_b, fNe_i, fNe_s, fNe_b, fNot_b, fNeg_i, fIx_l, fIx_t, fLen_l, fLen_t, fIsi_int_i, fIsi_bool_i, fIsi_bool_b, setTg, Tg.slots, setMany, fldIx, toOwned, datOf, startE, Vl.d, Vl.sz, fIsN]; done) | (simp (decide := true) [execSs, execS, evalE, evalAs, evalEs, evalP, evalI, slot, insOk, atPl, M.at, M.kids, M.kind, nodupB, Ag.roots, Ag.flat, As.vals, E.pure, Es.pure, As.pure, Path.pure, argMs, Mi.callEnd, backAs, putPl, M.put, M.setKid, M.toD, viewE, D.hard, D.hard.hards, datsOf, onDat, outD, fSub_i, fAddI_i, fAddX_i, fLt_i, fLe_i, fGt_i, fGe_i, fEq_i, fEq_s, fEq_b, fNe_i, fNe_s, fNe_b, fNot_b, fNeg_i, fIx_l, fIx_t, fLen_l, fLen_t, fIsi_int_i, fIsi_bool_i, fIsi_bool_b, setTg, Tg.slots, setMany, fldIx, toOwned, datOf, startE, Vl.d, Vl.sz, fIsN]; rfl))
  | non => refine ex_ret (by first | (simp (decide := true) [execSs, execS, evalE, evalAs, evalEs, evalP, evalI, slot, insOk, atPl, M.at, M.kids, M.kind, nodupB, Ag.roots, Ag.flat, As.vals, E.pure, Es.pure, As.pure, Path.pure, argMs, Mi.callEnd, backAs, putPl, M.put, M.setKid, M.toD, viewE, D.hard, D.hard.hards, datsOf, onDat, outD, fSub_i, fAddI_i, fAddX_i, fLt_i, fLe_i, fGt_i, fGe_i, fEq_i, fEq_s, fEq_b, fNe_i, fNe_s, fNe_b, fNot_b, fNeg_i, fIx_l, fIx_t, fLen_l, fLen_t, fIsi_int_i, fIsi_bool_i, fIsi_bool_b, setTg, Tg.slots, setMany, fldIx, toOwned, datOf, startE, Vl.d, Vl.sz, fIsN]; done) | (simp (decide := true) [execSs, execS, evalE, evalAs, evalEs, evalP, evalI, slot, insOk, atPl, M.at, M.kids, M.kind, nodupB, Ag.roots, Ag.flat, As.vals, E.pure, Es.pure, As.pure, Path.pure, argMs, Mi.callEnd, backAs, putPl, M.put, M.setKid, M.toD, viewE, D.hard, D.hard.hards, datsOf, onDat, outD, fSub_i, fAddI_i, fAddX_i, fLt_i, fLe_i, fGt_i, fGe_i, fEq_i, fEq_s, fEq_b, fNe_i, fNe_s, fNe_b, fNot_b, fNeg_i, fIx_l, fIx_t, fLen_l, fLen_t, fIsi_int_i, fIsi_bool_i, fIsi_bool_b, setTg, Tg.slots, setMany, fldIx, toOwned, datOf, startE, Vl.d, Vl.sz, fIsN]; rfl))
  | cell a b s =>
    have e : fIsi "int" (.tup [a.d, b.d, .int s]) = some (.bl false) := by rfl
    refine (ex_nx (by first | (simp (decide := true) [execSs, execS, evalE, evalAs, evalEs, evalP, evalI, slot, insOk, atPl, M.at, M.kids, M.kind, nodupB, Ag.roots, Ag.flat, As.vals, E.pure, Es.pure, As.pure, Path.pure, argMs, Mi.callEnd, backAs, putPl, M.put, M.setKid, M.toD, viewE, D.hard, D.hard.hards, datsOf, onDat, outD, fSub_i, fAddI_i, fAddX_i, fLt_i, fLe_i, fGt_i, fGe_i, fEq_i, fEq_s, fEq_b, fNe_i, fNe_s, fNe_b, fNot_b, fNeg_i, fIx_l, fIx_t, fLen_l, fLen_t, fIsi_int_i, fIsi_bool_i, fIsi_bool_b, setTg, Tg.slots, setMany, fldIx, toOwned, datOf, startE, Vl.d, fIsN, e]; done) | (simp (decide := true) [execSs, execS, evalE, evalAs, evalEs, evalP, evalI, slot, insOk, atPl, M.at, M.kids, M.kind, nodupB, Ag.roots, Ag.flat, As.vals, E.pure, Es.pure, As.pure, Path.pure, argMs, Mi.callEnd, backAs, putPl, M.put, M.setKid, M.toD, viewE, D.hard, D.hard.hards, datsOf, onDat, outD, fSub_i, fAddI_i, fAddX_i, fLt_i, fLe_i, fGt_i, fGe_i, fEq_i, fEq_s, fEq_b, fNe_i, fNe_s, fNe_b, fNot_b, fNeg_i, fIx_l, fIx_t, fLen_l, fLen_t, fIsi_int_i, fIsi_bool_i, fIsi_bool_b, setTg, Tg.slots, setMany, fldIx, toOwned, datOf, startE, Vl.d, fIsN, e]; rfl))).trans ?_
    refine ex_ret (by first | (simp (decide := true) [execSs, execS, evalE, evalAs, evalEs, evalP, evalI, slot, insOk, atPl, M.at, M.kids, M.kind, nodupB, Ag.roots, Ag.flat, As.vals, E.pure, Es.pure, As.pure, Path.pure, argMs, Mi.callEnd, backAs, putPl, M.put, M.setKid, M.toD, viewE, D.hard, D.hard.hards, datsOf, onDat, outD, fSub_i, fAddI_i, fAddX_i, fLt_i, fLe_i, fGt_i, fGe_i, fEq_i, fEq_s, fEq_b, fNe_i, fNe_s, fNe_b, fNot_b, fNeg_i, fIx_l, fIx_t, fLen_l, fLen_t, fIsi_int_i, fIsi_bool_i, fIsi_bool_b, setTg, Tg.slots, setMany, fldIx, toOwned, datOf, Vl.sz, atI_2]; done) | (simp (decide := true) [execSs, execS, evalE, evalAs, evalEs, evalP, evalI, slot, insOk, atPl, M.at, M.kids, M.kind, nodupB, Ag.roots, Ag.flat, As.vals, E.pure, Es.pure, As.pure, Path.pure, argMs, Mi.callEnd, backAs, putPl, M.put, M.setKid, M.toD, viewE, D.hard, D.hard.hards, datsOf, onDat, outD, fSub_i, fAddI_i, fAddX_i, fLt_i, fLe_i, fGt_i, fGe_i, fEq_i, fEq_s, fEq_b, fNe_i, fNe_s, fNe_b, fNot_b, fNeg_i, fIx_l, fIx_t, fLen_l, fLen_t, fIsi_int_i, fIsi_bool_i, fIsi_bool_b, setTg, Tg.slots, setMany, fldIx, toOwned, datOf, Vl.sz, atI_2]; rfl))
def cellO (a b : Vl) : Option Vl := if 1 + a.sz + b.sz > 1000 then none else some (.cell a b (1 + a.sz + b.sz))
theorem cell_ok (k : Nat) (a b : Vl) : callF sub tab bigN (k + 2) 4 [.dat a.d, .dat b.d] = match cellO a b with
    | some v => .ok (.dat v.d) [none, none]
    | none => .err "TooGreat" [none, none] := by
  have e1 := size_ok k a
  have e2 := size_ok k b
  unfold cellO
  by_cases h : 1 + a.sz + b.sz > 1000
  · rw [if_pos h]
    refine call_err (fn := fn4) rfl rfl ?_ (μ' := [some (.dat a.d), some (.dat b.d), some (.dat (.int (1 + a.sz + b.sz)))])
    unfold fn4
    refine (ex_nx (by first | (simp (decide := true) [execSs, execS, evalE, evalAs, evalEs, evalP, evalI, slot, insOk, atPl, M.at, M.kids, M.kind, nodupB, Ag.roots, Ag.flat, As.vals, E.pure, Es.pure, As.pure, Path.pure, argMs, Mi.callEnd, backAs, putPl, M.put, M.setKid, M.toD, viewE, D.hard, D.hard.hards, datsOf, onDat, outD, fSub_i, fAddI_i, fAddX_i, fLt_i, fLe_i, fGt_i, fGe_i, fEq_i, fEq_s, fEq_b, fNe_i, fNe_s, fNe_b, fNot_b, fNeg_i, fIx_l, fIx_t, fLen_l, fLen_t, fIsi_int_i, fIsi_bool_i, fIsi_bool_b, setTg, Tg.slots, setMany, fldIx, toOwned, datOf, startE, e1, e2]; done) | (simp (decide := true) [execSs, execS, evalE, evalAs, evalEs, evalP, evalI, slot, insOk, atPl, M.at, M.kids, M.kind, nodupB, Ag.roots, Ag.flat, As.vals, E.pure, Es.pure, As.pure, Path.pure, argMs, Mi.callEnd, backAs, putPl, M.put, M.setKid, M.toD, viewE, D.hard, D.hard.hards, datsOf, onDat, outD, fSub_i, fAddI_i, fAddX_i, fLt_i, fLe_i, fGt_i, fGe_i, fEq_i, fEq_s, fEq_b, fNe_i, fNe_s, fNe_b, fNot_b, fNeg_i, fIx_l, fIx_t, fLen_l, fLen_t, fIsi_int_i, fIsi_bool_i, fIsi_bool_b, setTg, Tg.slots, setMany, fldIx, toOwned, datOf, startE, e1, e2]; rfl))).trans ?_
    refine ex_er ?_
    have h' : (1000 : Int) < 1 + a.sz + b.sz := h
    simp (decide := true) [execSs, execS, evalE, evalAs, evalEs, evalP, evalI, slot, insOk, atPl, M.at, M.kids, M.kind, nodupB, Ag.roots, Ag.flat, As.vals, E.pure, Es.pure, As.pure, Path.pure, argMs, Mi.callEnd, backAs, putPl, M.put, M.setKid, M.toD, viewE, D.hard, D.hard.hards, datsOf, onDat, outD, fSub_i, fAddI_i, fAddX_i, fLt_i, fLe_i, fGt_i, fGe_i, fEq_i, fEq_s, fEq_b, fNe_i, fNe_s, fNe_b, fNot_b, fNeg_i, fIx_l, fIx_t, fLen_l, fLen_t, fIsi_int_i, fIsi_bool_i, fIsi_bool_b, setTg, Tg.slots, setMany, fldIx, toOwned, datOf, h']
  · rw [if_neg h]
    refine call_ret (fn := fn4) rfl rfl ?_ (μ' := [some (.dat a.d), some (.dat b.d), some (.dat (.int (1 + a.sz + b.sz)))])
    unfold fn4
    have h' : ¬ (1000 : Int) < 1 + a.sz + b.sz := h
    refine (ex_nx (by first | (simp (decide := true) [execSs, execS, evalE, evalAs, evalEs, evalP, evalI, slot, insOk, atPl, M.at, M.kids, M.kind, nodupB, Ag.roots, Ag.flat, As.vals, E.pure, Es.pure, As.pure, Path.pure, argMs, Mi.callEnd, backAs, putPl, M.put, M.setKid, M.toD, viewE, D.hard, D.hard.hards, datsOf, onDat, outD, fSub_i, fAddI_i, fAddX_i, fLt_i, fLe_i, fGt_i, fGe_i, fEq_i, fEq_s, fEq_b, fNe_i, fNe_s, fNe_b, fNot_b, fNeg_i, fIx_l, fIx_t, fLen_l, fLen_t, fIsi_int_i, fIsi_bool_i, fIsi_bool_b, setTg, Tg.slots, setMany, fldIx, toOwned, datOf, startE, e1, e2]; done) | (simp (decide := true) [execSs, execS, evalE, evalAs, evalEs, evalP, evalI, slot, insOk, atPl, M.at, M.kids, M.kind, nodupB, Ag.roots, Ag.flat, As.vals, E.pure, Es.pure, As.pure, Path.pure, argMs, Mi.callEnd, backAs, putPl, M.put, M.setKid, M.toD, viewE, D.hard, D.hard.hards, datsOf, onDat, outD, fSub_i, fAddI_i, fAddX_i, fLt_i, fLe_i, fGt_i, fGe_i, fEq_i, fEq_s, fEq_b, fNe_i, fNe_s, fNe_b, fNot_b, fNeg_i, fIx_l, fIx_t, fLen_l, fLen_t, fIsi_int_i, fIsi_bool_i, fIsi_bool_b, setTg, Tg.slots, setMany, fldIx, toOwned, datOf, startE, e1, e2]; rfl))).trans ?_
    refine (ex_nx (by first | (simp (decide := true) [execSs, execS, evalE, evalAs, evalEs, evalP, evalI, slot, insOk, atPl, M.at, M.kids, M.kind, nodupB, Ag.roots, Ag.flat, As.vals, E.pure, Es.pure, As.pure, Path.pure, argMs, Mi.callEnd, backAs, putPl, M.put, M.setKid, M.toD, viewE, D.hard, D.hard.hards, datsOf, onDat, outD, fSub_i, fAddI_i, fAddX_i, fLt_i, fLe_i, fGt_i, fGe_i, fEq_i, fEq_s, fEq_b, fNe_i, fNe_s, fNe_b, fNot_b, fNeg_i, fIx_l, fIx_t, fLen_l, fLen_t, fIsi_int_i, fIsi_bool_i, fIsi_bool_b, setTg, Tg.slots, setMany, fldIx, toOwned, datOf, h']; done) | (simp (decide := true) [execSs, execS, evalE, evalAs, evalEs, evalP, evalI, slot, insOk, atPl, M.at, M.kids, M.kind, nodupB, Ag.roots, Ag.flat, As.vals, E.pure, Es.pure, As.pure, Path.pure, argMs, Mi.callEnd, backAs, putPl, M.put, M.setKid, M.toD, viewE, D.hard, D.hard.hards, datsOf, onDat, outD, fSub_i, fAddI_i, fAddX_i, fLt_i, fLe_i, fGt_i, fGe_i, fEq_i, fEq_s, fEq_b, fNe_i, fNe_s, fNe_b, fNot_b, fNeg_i, fIx_l, fIx_t, fLen_l, fLen_t, fIsi_int_i, fIsi_bool_i, fIsi_bool_b, setTg, Tg.slots, setMany, fldIx, toOwned, datOf, h']; rfl))).trans ?_
    refine ex_ret (by first | (simp (decide := true) [execSs, execS, evalE, evalAs, evalEs, evalP, evalI, slot, insOk, atPl, M.at, M.kids, M.kind, nodupB, Ag.roots, Ag.flat, As.vals, E.pure, Es.pure, As.pure, Path.pure, argMs, Mi.callEnd, backAs, putPl, M.put, M.setKid, M.toD, viewE, D.hard, D.hard.hards, datsOf, onDat, outD, fSub_i, fAddI_i, fAddX_i, fLt_i, fLe_i, fGt_i, fGe_i, fEq_i, fEq_s, fEq_b, fNe_i, fNe_s, fNe_b, fNot_b, fNeg_i, fIx_l, fIx_t, fLen_l, fLen_t, fIsi_int_i, fIsi_bool_i, fIsi_bool_b, setTg, Tg.slots, setMany, fldIx, toOwned, datOf, fTup_n, Vl.d]; done) | (simp (decide := true) [execSs, execS, evalE, evalAs, evalEs, evalP, evalI, slot, insOk, atPl, M.at, M.kids, M.kind, nodupB, Ag.roots, Ag.flat, As.vals, E.pure, Es.pure, As.pure, Path.pure, argMs, Mi.callEnd, backAs, putPl, M.put, M.setKid, M.toD, viewE, D.hard, D.hard.hards, datsOf, onDat, outD, fSub_i, fAddI_i, fAddX_i, fLt_i, fLe_i, fGt_i, fGe_i, fEq_i, fEq_s, fEq_b, fNe_i, fNe_s, fNe_b, fNot_b, fNeg_i, fIx_l, fIx_t, fLen_l, fLen_t, fIsi_int_i, fIsi_bool_i, fIsi_bool_b, setTg, Tg.slots, setMany, fldIx, toOwned, datOf, fTup_n, Vl.d]; rfl))
/-- what a look tells -/
def Lw (w : Str) : Prop := w = "first" ∨ w = "second" ∨ w = "head" ∨ w = "tail"
def lookO (w : Str) : Vl → Option Vl
  | .cell a b _ => some (if w = "second" ∨ w = "tail" then b else a)
  | _ => none
theorem look_ok (k : Nat) {w : Str} (hw : Lw w) {a b : Vl} {s : Int} : callF sub tab bigN (k + 1) 6 [.dat (.str w), .dat (Vl.cell a b s).d] = .ok (.dat (if w = "second" ∨ w = "tail" then b else a).d) [none, none] := by
  refine call_ret (fn := fn6) rfl rfl ?_ (μ' := [some (.dat (.str w)), some (.dat (Vl.cell a b s).d)])
  unfold fn6
  rcases hw with rfl | rfl | rfl | rfl
  · refine (ex_nx (by first | (simp (decide := true) [execSs, execS, evalE, evalAs, evalEs, evalP, evalI, slot, insOk, atPl, M.at, M.kids, M.kind, nodupB, Ag.roots, Ag.flat, As.vals, E.pure, Es.pure, As.pure, Path.pure, argMs, Mi.callEnd, backAs, putPl, M.put, M.setKid, M.toD, viewE, D.hard, D.hard.hards, datsOf, onDat, outD, fSub_i, fAddI_i, fAddX_i, fLt_i, fLe_i, fGt_i, fGe_i, fEq_i, fEq_s, fEq_b, fNe_i, fNe_s, fNe_b, fNot_b, fNeg_i, fIx_l, fIx_t, fLen_l, fLen_t, fIsi_int_i, fIsi_bool_i, fIsi_bool_b, setTg, Tg.slots, setMany, fldIx, toOwned, datOf, startE]; done) | (simp (decide := true) [execSs, execS, evalE, evalAs, evalEs, evalP, evalI, slot, insOk, atPl, M.at, M.kids, M.kind, nodupB, Ag.roots, Ag.flat, As.vals, E.pure, Es.pure, As.pure, Path.pure, argMs, Mi.callEnd, backAs, putPl, M.put, M.setKid, M.toD, viewE, D.hard, D.hard.hards, datsOf, onDat, outD, fSub_i, fAddI_i, fAddX_i, fLt_i, fLe_i, fGt_i, fGe_i, fEq_i, fEq_s, fEq_b, fNe_i, fNe_s, fNe_b, fNot_b, fNeg_i, fIx_l, fIx_t, fLen_l, fLen_t, fIsi_int_i, fIsi_bool_i, fIsi_bool_b, setTg, Tg.slots, setMany, fldIx, toOwned, datOf, startE]; rfl))).trans ?_
    refine (ex_nx (by first | (simp (decide := true) [execSs, execS, evalE, evalAs, evalEs, evalP, evalI, slot, insOk, atPl, M.at, M.kids, M.kind, nodupB, Ag.roots, Ag.flat, As.vals, E.pure, Es.pure, As.pure, Path.pure, argMs, Mi.callEnd, backAs, putPl, M.put, M.setKid, M.toD, viewE, D.hard, D.hard.hards, datsOf, onDat, outD, fSub_i, fAddI_i, fAddX_i, fLt_i, fLe_i, fGt_i, fGe_i, fEq_i, fEq_s, fEq_b, fNe_i, fNe_s, fNe_b, fNot_b, fNeg_i, fIx_l, fIx_t, fLen_l, fLen_t, fIsi_int_i, fIsi_bool_i, fIsi_bool_b, setTg, Tg.slots, setMany, fldIx, toOwned, datOf, Vl.d, fIsN]; done) | (simp (decide := true) [execSs, execS, evalE, evalAs, evalEs, evalP, evalI, slot, insOk, atPl, M.at, M.kids, M.kind, nodupB, Ag.roots, Ag.flat, As.vals, E.pure, Es.pure, As.pure, Path.pure, argMs, Mi.callEnd, backAs, putPl, M.put, M.setKid, M.toD, viewE, D.hard, D.hard.hards, datsOf, onDat, outD, fSub_i, fAddI_i, fAddX_i, fLt_i, fLe_i, fGt_i, fGe_i, fEq_i, fEq_s, fEq_b, fNe_i, fNe_s, fNe_b, fNot_b, fNeg_i, fIx_l, fIx_t, fLen_l, fLen_t, fIsi_int_i, fIsi_bool_i, fIsi_bool_b, setTg, Tg.slots, setMany, fldIx, toOwned, datOf, Vl.d, fIsN]; rfl))).trans ?_
    refine ex_ret (by first | (simp (decide := true) [execSs, execS, evalE, evalAs, evalEs, evalP, evalI, slot, insOk, atPl, M.at, M.kids, M.kind, nodupB, Ag.roots, Ag.flat, As.vals, E.pure, Es.pure, As.pure, Path.pure, argMs, Mi.callEnd, backAs, putPl, M.put, M.setKid, M.toD, viewE, D.hard, D.hard.hards, datsOf, onDat, outD, fSub_i, fAddI_i, fAddX_i, fLt_i, fLe_i, fGt_i, fGe_i, fEq_i, fEq_s, fEq_b, fNe_i, fNe_s, fNe_b, fNot_b, fNeg_i, fIx_l, fIx_t, fLen_l, fLen_t, fIsi_int_i, fIsi_bool_i, fIsi_bool_b, setTg, Tg.slots, setMany, fldIx, toOwned, datOf, Vl.d, fInt_b, atI_0]; done) | (simp (decide := true) [execSs, execS, evalE, evalAs, evalEs, evalP, evalI, slot, insOk, atPl, M.at, M.kids, M.kind, nodupB, Ag.roots, Ag.flat, As.vals, E.pure, Es.pure, As.pure, Path.pure, argMs, Mi.callEnd, backAs, putPl, M.put, M.setKid, M.toD, viewE, D.hard, D.hard.hards, datsOf, onDat, outD, fSub_i, fAddI_i, fAddX_i, fLt_i, fLe_i, fGt_i, fGe_i, fEq_i, fEq_s, fEq_b, fNe_i, fNe_s, fNe_b, fNot_b, fNeg_i, fIx_l, fIx_t, fLen_l, fLen_t, fIsi_int_i, fIsi_bool_i, fIsi_bool_b, setTg, Tg.slots, setMany, fldIx, toOwned, datOf, Vl.d, fInt_b, atI_0]; rfl))
  · refine (ex_nx (by first | (simp (decide := true) [execSs, execS, evalE, evalAs, evalEs, evalP, evalI, slot, insOk, atPl, M.at, M.kids, M.kind, nodupB, Ag.roots, Ag.flat, As.vals, E.pure, Es.pure, As.pure, Path.pure, argMs, Mi.callEnd, backAs, putPl, M.put, M.setKid, M.toD, viewE, D.hard, D.hard.hards, datsOf, onDat, outD, fSub_i, fAddI_i, fAddX_i, fLt_i, fLe_i, fGt_i, fGe_i, fEq_i, fEq_s, fEq_b, fNe_i, fNe_s, fNe_b, fNot_b, fNeg_i, fIx_l, fIx_t, fLen_l, fLen_t, fIsi_int_i, fIsi_bool_i, fIsi_bool_b, setTg, Tg.slots, setMany, fldIx, toOwned, datOf, startE]; done) | (simp (decide := true) [execSs, execS, evalE, evalAs, evalEs, evalP, evalI, slot, insOk, atPl, M.at, M.kids, M.kind, nodupB, Ag.roots, Ag.flat, As.vals, E.pure, Es.pure, As.pure, Path.pure, argMs, Mi.callEnd, backAs, putPl, M.put, M.setKid, M.toD, viewE, D.hard, D.hard.hards, datsOf, onDat, outD, fSub_i, fAddI_i, fAddX_i, fLt_i, fLe_i, fGt_i, fGe_i, fEq_i, fEq_s, fEq_b, fNe_i, fNe_s, fNe_b, fNot_b, fNeg_i, fIx_l, fIx_t, fLen_l, fLen_t, fIsi_int_i, fIsi_bool_i, fIsi_bool_b, setTg, Tg.slots, setMany, fldIx, toOwned, datOf, startE]; rfl))).trans ?_
    refine (ex_nx (by first | (simp (decide := true) [execSs, execS, evalE, evalAs, evalEs, evalP, evalI, slot, insOk, atPl, M.at, M.kids, M.kind, nodupB, Ag.roots, Ag.flat, As.vals, E.pure, Es.pure, As.pure, Path.pure, argMs, Mi.callEnd, backAs, putPl, M.put, M.setKid, M.toD, viewE, D.hard, D.hard.hards, datsOf, onDat, outD, fSub_i, fAddI_i, fAddX_i, fLt_i, fLe_i, fGt_i, fGe_i, fEq_i, fEq_s, fEq_b, fNe_i, fNe_s, fNe_b, fNot_b, fNeg_i, fIx_l, fIx_t, fLen_l, fLen_t, fIsi_int_i, fIsi_bool_i, fIsi_bool_b, setTg, Tg.slots, setMany, fldIx, toOwned, datOf, Vl.d, fIsN]; done) | (simp (decide := true) [execSs, execS, evalE, evalAs, evalEs, evalP, evalI, slot, insOk, atPl, M.at, M.kids, M.kind, nodupB, Ag.roots, Ag.flat, As.vals, E.pure, Es.pure, As.pure, Path.pure, argMs, Mi.callEnd, backAs, putPl, M.put, M.setKid, M.toD, viewE, D.hard, D.hard.hards, datsOf, onDat, outD, fSub_i, fAddI_i, fAddX_i, fLt_i, fLe_i, fGt_i, fGe_i, fEq_i, fEq_s, fEq_b, fNe_i, fNe_s, fNe_b, fNot_b, fNeg_i, fIx_l, fIx_t, fLen_l, fLen_t, fIsi_int_i, fIsi_bool_i, fIsi_bool_b, setTg, Tg.slots, setMany, fldIx, toOwned, datOf, Vl.d, fIsN]; rfl))).trans ?_
    refine ex_ret (by first | (simp (decide := true) [execSs, execS, evalE, evalAs, evalEs, evalP, evalI, slot, insOk, atPl, M.at, M.kids, M.kind, nodupB, Ag.roots, Ag.flat, As.vals, E.pure, Es.pure, As.pure, Path.pure, argMs, Mi.callEnd, backAs, putPl, M.put, M.setKid, M.toD, viewE, D.hard, D.hard.hards, datsOf, onDat, outD, fSub_i, fAddI_i, fAddX_i, fLt_i, fLe_i, fGt_i, fGe_i, fEq_i, fEq_s, fEq_b, fNe_i, fNe_s, fNe_b, fNot_b, fNeg_i, fIx_l, fIx_t, fLen_l, fLen_t, fIsi_int_i, fIsi_bool_i, fIsi_bool_b, setTg, Tg.slots, setMany, fldIx, toOwned, datOf, Vl.d, fInt_b, atI_1]; done) | (simp (decide := true) [execSs, execS, evalE, evalAs, evalEs, evalP, evalI, slot, insOk, atPl, M.at, M.kids, M.kind, nodupB, Ag.roots, Ag.flat, As.vals, E.pure, Es.pure, As.pure, Path.pure, argMs, Mi.callEnd, backAs, putPl, M.put, M.setKid, M.toD, viewE, D.hard, D.hard.hards, datsOf, onDat, outD, fSub_i, fAddI_i, fAddX_i, fLt_i, fLe_i, fGt_i, fGe_i, fEq_i, fEq_s, fEq_b, fNe_i, fNe_s, fNe_b, fNot_b, fNeg_i, fIx_l, fIx_t, fLen_l, fLen_t, fIsi_int_i, fIsi_bool_i, fIsi_bool_b, setTg, Tg.slots, setMany, fldIx, toOwned, datOf, Vl.d, fInt_b, atI_1]; rfl))
  · refine (ex_nx (by first | (simp (decide := true) [execSs, execS, evalE, evalAs, evalEs, evalP, evalI, slot, insOk, atPl, M.at, M.kids, M.kind, nodupB, Ag.roots, Ag.flat, As.vals, E.pure, Es.pure, As.pure, Path.pure, argMs, Mi.callEnd, backAs, putPl, M.put, M.setKid, M.toD, viewE, D.hard, D.hard.hards, datsOf, onDat, outD, fSub_i, fAddI_i, fAddX_i, fLt_i, fLe_i, fGt_i, fGe_i, fEq_i, fEq_s, fEq_b, fNe_i, fNe_s, fNe_b, fNot_b, fNeg_i, fIx_l, fIx_t, fLen_l, fLen_t, fIsi_int_i, fIsi_bool_i, fIsi_bool_b, setTg, Tg.slots, setMany, fldIx, toOwned, datOf, startE]; done) | (simp (decide := true) [execSs, execS, evalE, evalAs, evalEs, evalP, evalI, slot, insOk, atPl, M.at, M.kids, M.kind, nodupB, Ag.roots, Ag.flat, As.vals, E.pure, Es.pure, As.pure, Path.pure, argMs, Mi.callEnd, backAs, putPl, M.put, M.setKid, M.toD, viewE, D.hard, D.hard.hards, datsOf, onDat, outD, fSub_i, fAddI_i, fAddX_i, fLt_i, fLe_i, fGt_i, fGe_i, fEq_i, fEq_s, fEq_b, fNe_i, fNe_s, fNe_b, fNot_b, fNeg_i, fIx_l, fIx_t, fLen_l, fLen_t, fIsi_int_i, fIsi_bool_i, fIsi_bool_b, setTg, Tg.slots, setMany, fldIx, toOwned, datOf, startE]; rfl))).trans ?_
    refine (ex_nx (by first | (simp (decide := true) [execSs, execS, evalE, evalAs, evalEs, evalP, evalI, slot, insOk, atPl, M.at, M.kids, M.kind, nodupB, Ag.roots, Ag.flat, As.vals, E.pure, Es.pure, As.pure, Path.pure, argMs, Mi.callEnd, backAs, putPl, M.put, M.setKid, M.toD, viewE, D.hard, D.hard.hards, datsOf, onDat, outD, fSub_i, fAddI_i, fAddX_i, fLt_i, fLe_i, fGt_i, fGe_i, fEq_i, fEq_s, fEq_b, fNe_i, fNe_s, fNe_b, fNot_b, fNeg_i, fIx_l, fIx_t, fLen_l, fLen_t, fIsi_int_i, fIsi_bool_i, fIsi_bool_b, setTg, Tg.slots, setMany, fldIx, toOwned, datOf, Vl.d, fIsN]; done) | (simp (decide := true) [execSs, execS, evalE, evalAs, evalEs, evalP, evalI, slot, insOk, atPl, M.at, M.kids, M.kind, nodupB, Ag.roots, Ag.flat, As.vals, E.pure, Es.pure, As.pure, Path.pure, argMs, Mi.callEnd, backAs, putPl, M.put, M.setKid, M.toD, viewE, D.hard, D.hard.hards, datsOf, onDat, outD, fSub_i, fAddI_i, fAddX_i, fLt_i, fLe_i, fGt_i, fGe_i, fEq_i, fEq_s, fEq_b, fNe_i, fNe_s, fNe_b, fNot_b, fNeg_i, fIx_l, fIx_t, fLen_l, fLen_t, fIsi_int_i, fIsi_bool_i, fIsi_bool_b, setTg, Tg.slots, setMany, fldIx, toOwned, datOf, Vl.d, fIsN]; rfl))).trans ?_
    refine ex_ret (by first | (simp (decide := true) [execSs, execS, evalE, evalAs, evalEs, evalP, evalI, slot, insOk, atPl, M.at, M.kids, M.kind, nodupB, Ag.roots, Ag.flat, As.vals, E.pure, Es.pure, As.pure, Path.pure, argMs, Mi.callEnd, backAs, putPl, M.put, M.setKid, M.toD, viewE, D.hard, D.hard.hards, datsOf, onDat, outD, fSub_i, fAddI_i, fAddX_i, fLt_i, fLe_i, fGt_i, fGe_i, fEq_i, fEq_s, fEq_b, fNe_i, fNe_s, fNe_b, fNot_b, fNeg_i, fIx_l, fIx_t, fLen_l, fLen_t, fIsi_int_i, fIsi_bool_i, fIsi_bool_b, setTg, Tg.slots, setMany, fldIx, toOwned, datOf, Vl.d, fInt_b, atI_0]; done) | (simp (decide := true) [execSs, execS, evalE, evalAs, evalEs, evalP, evalI, slot, insOk, atPl, M.at, M.kids, M.kind, nodupB, Ag.roots, Ag.flat, As.vals, E.pure, Es.pure, As.pure, Path.pure, argMs, Mi.callEnd, backAs, putPl, M.put, M.setKid, M.toD, viewE, D.hard, D.hard.hards, datsOf, onDat, outD, fSub_i, fAddI_i, fAddX_i, fLt_i, fLe_i, fGt_i, fGe_i, fEq_i, fEq_s, fEq_b, fNe_i, fNe_s, fNe_b, fNot_b, fNeg_i, fIx_l, fIx_t, fLen_l, fLen_t, fIsi_int_i, fIsi_bool_i, fIsi_bool_b, setTg, Tg.slots, setMany, fldIx, toOwned, datOf, Vl.d, fInt_b, atI_0]; rfl))
  · refine (ex_nx (by first | (simp (decide := true) [execSs, execS, evalE, evalAs, evalEs, evalP, evalI, slot, insOk, atPl, M.at, M.kids, M.kind, nodupB, Ag.roots, Ag.flat, As.vals, E.pure, Es.pure, As.pure, Path.pure, argMs, Mi.callEnd, backAs, putPl, M.put, M.setKid, M.toD, viewE, D.hard, D.hard.hards, datsOf, onDat, outD, fSub_i, fAddI_i, fAddX_i, fLt_i, fLe_i, fGt_i, fGe_i, fEq_i, fEq_s, fEq_b, fNe_i, fNe_s, fNe_b, fNot_b, fNeg_i, fIx_l, fIx_t, fLen_l, fLen_t, fIsi_int_i, fIsi_bool_i, fIsi_bool_b, setTg, Tg.slots, setMany, fldIx, toOwned, datOf, startE]; done) | (simp (decide := true) [execSs, execS, evalE, evalAs, evalEs, evalP, evalI, slot, insOk, atPl, M.at, M.kids, M.kind, nodupB, Ag.roots, Ag.flat, As.vals, E.pure, Es.pure, As.pure, Path.pure, argMs, Mi.callEnd, backAs, putPl, M.put, M.setKid, M.toD, viewE, D.hard, D.hard.hards, datsOf, onDat, outD, fSub_i, fAddI_i, fAddX_i, fLt_i, fLe_i, fGt_i, fGe_i, fEq_i, fEq_s, fEq_b, fNe_i, fNe_s, fNe_b, fNot_b, fNeg_i, fIx_l, fIx_t, fLen_l, fLen_t, fIsi_int_i, fIsi_bool_i, fIsi_bool_b, setTg, Tg.slots, setMany, fldIx, toOwned, datOf, startE]; rfl))).trans ?_
    refine (ex_nx (by first | (simp (decide := true) [execSs, execS, evalE, evalAs, evalEs, evalP, evalI, slot, insOk, atPl, M.at, M.kids, M.kind, nodupB, Ag.roots, Ag.flat, As.vals, E.pure, Es.pure, As.pure, Path.pure, argMs, Mi.callEnd, backAs, putPl, M.put, M.setKid, M.toD, viewE, D.hard, D.hard.hards, datsOf, onDat, outD, fSub_i, fAddI_i, fAddX_i, fLt_i, fLe_i, fGt_i, fGe_i, fEq_i, fEq_s, fEq_b, fNe_i, fNe_s, fNe_b, fNot_b, fNeg_i, fIx_l, fIx_t, fLen_l, fLen_t, fIsi_int_i, fIsi_bool_i, fIsi_bool_b, setTg, Tg.slots, setMany, fldIx, toOwned, datOf, Vl.d, fIsN]; done) | (simp (decide := true) [execSs, execS, evalE, evalAs, evalEs, evalP, evalI, slot, insOk, atPl, M.at, M.kids, M.kind, nodupB, Ag.roots, Ag.flat, As.vals, E.pure, Es.pure, As.pure, Path.pure, argMs, Mi.callEnd, backAs, putPl, M.put, M.setKid, M.toD, viewE, D.hard, D.hard.hards, datsOf, onDat, outD, fSub_i, fAddI_i, fAddX_i, fLt_i, fLe_i, fGt_i, fGe_i, fEq_i, fEq_s, fEq_b, fNe_i, fNe_s, fNe_b, fNot_b, fNeg_i, fIx_l, fIx_t, fLen_l, fLen_t, fIsi_int_i, fIsi_bool_i, fIsi_bool_b, setTg, Tg.slots, setMany, fldIx, toOwned, datOf, Vl.d, fIsN]; rfl))).trans ?_
    refine ex_ret (by first | (simp (decide := true) [execSs, execS, evalE, evalAs, evalEs, evalP, evalI, slot, insOk, atPl, M.at, M.kids, M.kind, nodupB, Ag.roots, Ag.flat, As.vals, E.pure, Es.pure, As.pure, Path.pure, argMs, Mi.callEnd, backAs, putPl, M.put, M.setKid, M.toD, viewE, D.hard, D.hard.hards, datsOf, onDat, outD, fSub_i, fAddI_i, fAddX_i, fLt_i, fLe_i, fGt_i, fGe_i, fEq_i, fEq_s, fEq_b, fNe_i, fNe_s, fNe_b, fNot_b, fNeg_i, fIx_l, fIx_t, fLen_l, fLen_t, fIsi_int_i, fIsi_bool_i, fIsi_bool_b, setTg, Tg.slots, setMany, fldIx, toOwned, datOf, Vl.d, fInt_b, atI_1]; done) | (simp (decide := true) [execSs, execS, evalE, evalAs, evalEs, evalP, evalI, slot, insOk, atPl, M.at, M.kids, M.kind, nodupB, Ag.roots, Ag.flat, As.vals, E.pure, Es.pure, As.pure, Path.pure, argMs, Mi.callEnd, backAs, putPl, M.put, M.setKid, M.toD, viewE, D.hard, D.hard.hards, datsOf, onDat, outD, fSub_i, fAddI_i, fAddX_i, fLt_i, fLe_i, fGt_i, fGe_i, fEq_i, fEq_s, fEq_b, fNe_i, fNe_s, fNe_b, fNot_b, fNeg_i, fIx_l, fIx_t, fLen_l, fLen_t, fIsi_int_i, fIsi_bool_i, fIsi_bool_b, setTg, Tg.slots, setMany, fldIx, toOwned, datOf, Vl.d, fInt_b, atI_1]; rfl))
theorem look_non (k : Nat) {w : Str} (hw : Lw w) : callF sub tab bigN (k + 1) 6 [.dat (.str w), .dat .non] = .err "Empty" [none, none] := by
  refine call_err (fn := fn6) rfl rfl ?_ (μ' := [some (.dat (.str w)), some (.dat .non)])
  unfold fn6
  have n : w ≠ "none" := by rcases hw with rfl | rfl | rfl | rfl <;> decide
  refine (ex_nx (by first | (simp (decide := true) [execSs, execS, evalE, evalAs, evalEs, evalP, evalI, slot, insOk, atPl, M.at, M.kids, M.kind, nodupB, Ag.roots, Ag.flat, As.vals, E.pure, Es.pure, As.pure, Path.pure, argMs, Mi.callEnd, backAs, putPl, M.put, M.setKid, M.toD, viewE, D.hard, D.hard.hards, datsOf, onDat, outD, fSub_i, fAddI_i, fAddX_i, fLt_i, fLe_i, fGt_i, fGe_i, fEq_i, fEq_s, fEq_b, fNe_i, fNe_s, fNe_b, fNot_b, fNeg_i, fIx_l, fIx_t, fLen_l, fLen_t, fIsi_int_i, fIsi_bool_i, fIsi_bool_b, setTg, Tg.slots, setMany, fldIx, toOwned, datOf, startE, n]; done) | (simp (decide := true) [execSs, execS, evalE, evalAs, evalEs, evalP, evalI, slot, insOk, atPl, M.at, M.kids, M.kind, nodupB, Ag.roots, Ag.flat, As.vals, E.pure, Es.pure, As.pure, Path.pure, argMs, Mi.callEnd, backAs, putPl, M.put, M.setKid, M.toD, viewE, D.hard, D.hard.hards, datsOf, onDat, outD, fSub_i, fAddI_i, fAddX_i, fLt_i, fLe_i, fGt_i, fGe_i, fEq_i, fEq_s, fEq_b, fNe_i, fNe_s, fNe_b, fNot_b, fNeg_i, fIx_l, fIx_t, fLen_l, fLen_t, fIsi_int_i, fIsi_bool_i, fIsi_bool_b, setTg, Tg.slots, setMany, fldIx, toOwned, datOf, startE, n]; rfl))).trans ?_
  refine ex_er ?_
  simp (decide := true) [execSs, execS, evalE, evalAs, evalEs, evalP, evalI, slot, insOk, atPl, M.at, M.kids, M.kind, nodupB, Ag.roots, Ag.flat, As.vals, E.pure, Es.pure, As.pure, Path.pure, argMs, Mi.callEnd, backAs, putPl, M.put, M.setKid, M.toD, viewE, D.hard, D.hard.hards, datsOf, onDat, outD, fSub_i, fAddI_i, fAddX_i, fLt_i, fLe_i, fGt_i, fGe_i, fEq_i, fEq_s, fEq_b, fNe_i, fNe_s, fNe_b, fNot_b, fNeg_i, fIx_l, fIx_t, fLen_l, fLen_t, fIsi_int_i, fIsi_bool_i, fIsi_bool_b, setTg, Tg.slots, setMany, fldIx, toOwned, datOf, fIsN]
theorem look_none (k : Nat) (v : Vl) : callF sub tab bigN (k + 1) 6 [.dat (.str "none"), .dat v.d] = .ok (.dat (.int (match v with | .non => 1 | _ => 0))) [none, none] := by
  refine call_ret (fn := fn6) rfl rfl ?_ (μ' := [some (.dat (.str "none")), some (.dat v.d)])
  unfold fn6
  cases v <;> refine ex_ret (by first | (simp (decide := true) [execSs, execS, evalE, evalAs, evalEs, evalP, evalI, slot, insOk, atPl, M.at, M.kids, M.kind, nodupB, Ag.roots, Ag.flat, As.vals, E.pure, Es.pure, As.pure, Path.pure, argMs, Mi.callEnd, backAs, putPl, M.put, M.setKid, M.toD, viewE, D.hard, D.hard.hards, datsOf, onDat, outD, fSub_i, fAddI_i, fAddX_i, fLt_i, fLe_i, fGt_i, fGe_i, fEq_i, fEq_s, fEq_b, fNe_i, fNe_s, fNe_b, fNot_b, fNeg_i, fIx_l, fIx_t, fLen_l, fLen_t, fIsi_int_i, fIsi_bool_i, fIsi_bool_b, setTg, Tg.slots, setMany, fldIx, toOwned, datOf, startE, Vl.d, fIsN, fInt_b]; done) | (simp (decide := true) [execSs, execS, evalE, evalAs, evalEs, evalP, evalI, slot, insOk, atPl, M.at, M.kids, M.kind, nodupB, Ag.roots, Ag.flat, As.vals, E.pure, Es.pure, As.pure, Path.pure, argMs, Mi.callEnd, backAs, putPl, M.put, M.setKid, M.toD, viewE, D.hard, D.hard.hards, datsOf, onDat, outD, fSub_i, fAddI_i, fAddX_i, fLt_i, fLe_i, fGt_i, fGe_i, fEq_i, fEq_s, fEq_b, fNe_i, fNe_s, fNe_b, fNot_b, fNeg_i, fIx_l, fIx_t, fLen_l, fLen_t, fIsi_int_i, fIsi_bool_i, fIsi_bool_b, setTg, Tg.slots, setMany, fldIx, toOwned, datOf, startE, Vl.d, fIsN, fInt_b]; rfl))
/-! ### what a part comes to -/
def okc (v : Vl) (c : M) : CR := .ok (.dat v.d) [none, none, none, some c]
def erc (e : Str) (c : M) : CR := .err e [none, none, none, some c]
def NW (w : Str) : Prop := (w ≠ "number" ∧ w ≠ "name" ∧ w ≠ "nil" ∧ w ≠ "call") ∧ w ≠ "let" ∧ w ≠ "if"
def tl : Ss → Ss
  | .cons _ r => r
  | .nil => .nil
def T7 : Ss := tl (tl (tl (tl (tl (tl (tl fn8.body))))))
section
variable {k : Nat} {F nm : D} {c c1 c2 : M}
theorem skip7 {w : Str} {xs : List D} (h : NW w) : execSs sub (callF sub tab bigN k) fn8.pin bigN fn8.body (startE fn8 [.dat F, .dat (.tup (.str w :: xs)), .dat nm, c]) =
    execSs sub (callF sub tab bigN k) fn8.pin bigN T7 [some (.dat F), some (.dat (.tup (.str w :: xs))), some (.dat nm), some c, some (.dat (.str w)), none, none, none] := by
  obtain ⟨⟨n1, n2, n3, n4⟩, n5, n6⟩ := h
  unfold T7 fn8
  refine (ex_nx (by first | (simp (decide := true) [execSs, execS, evalE, evalAs, evalEs, evalP, evalI, slot, insOk, atPl, M.at, M.kids, M.kind, nodupB, Ag.roots, Ag.flat, As.vals, E.pure, Es.pure, As.pure, Path.pure, argMs, Mi.callEnd, backAs, putPl, M.put, M.setKid, M.toD, viewE, D.hard, D.hard.hards, datsOf, onDat, outD, fSub_i, fAddI_i, fAddX_i, fLt_i, fLe_i, fGt_i, fGe_i, fEq_i, fEq_s, fEq_b, fNe_i, fNe_s, fNe_b, fNot_b, fNeg_i, fIx_l, fIx_t, fLen_l, fLen_t, fIsi_int_i, fIsi_bool_i, fIsi_bool_b, setTg, Tg.slots, setMany, fldIx, toOwned, datOf, startE, atI_0]; done) | (simp (decide := true) [execSs, execS, evalE, evalAs, evalEs, evalP, evalI, slot, insOk, atPl, M.at, M.kids, M.kind, nodupB, Ag.roots, Ag.flat, As.vals, E.pure, Es.pure, As.pure, Path.pure, argMs, Mi.callEnd, backAs, putPl, M.put, M.setKid, M.toD, viewE, D.hard, D.hard.hards, datsOf, onDat, outD, fSub_i, fAddI_i, fAddX_i, fLt_i, fLe_i, fGt_i, fGe_i, fEq_i, fEq_s, fEq_b, fNe_i, fNe_s, fNe_b, fNot_b, fNeg_i, fIx_l, fIx_t, fLen_l, fLen_t, fIsi_int_i, fIsi_bool_i, fIsi_bool_b, setTg, Tg.slots, setMany, fldIx, toOwned, datOf, startE, atI_0]; rfl))).trans ?_
  refine (ex_nx (by first | (simp (decide := true) [execSs, execS, evalE, evalAs, evalEs, evalP, evalI, slot, insOk, atPl, M.at, M.kids, M.kind, nodupB, Ag.roots, Ag.flat, As.vals, E.pure, Es.pure, As.pure, Path.pure, argMs, Mi.callEnd, backAs, putPl, M.put, M.setKid, M.toD, viewE, D.hard, D.hard.hards, datsOf, onDat, outD, fSub_i, fAddI_i, fAddX_i, fLt_i, fLe_i, fGt_i, fGe_i, fEq_i, fEq_s, fEq_b, fNe_i, fNe_s, fNe_b, fNot_b, fNeg_i, fIx_l, fIx_t, fLen_l, fLen_t, fIsi_int_i, fIsi_bool_i, fIsi_bool_b, setTg, Tg.slots, setMany, fldIx, toOwned, datOf, n1]; done) | (simp (decide := true) [execSs, execS, evalE, evalAs, evalEs, evalP, evalI, slot, insOk, atPl, M.at, M.kids, M.kind, nodupB, Ag.roots, Ag.flat, As.vals, E.pure, Es.pure, As.pure, Path.pure, argMs, Mi.callEnd, backAs, putPl, M.put, M.setKid, M.toD, viewE, D.hard, D.hard.hards, datsOf, onDat, outD, fSub_i, fAddI_i, fAddX_i, fLt_i, fLe_i, fGt_i, fGe_i, fEq_i, fEq_s, fEq_b, fNe_i, fNe_s, fNe_b, fNot_b, fNeg_i, fIx_l, fIx_t, fLen_l, fLen_t, fIsi_int_i, fIsi_bool_i, fIsi_bool_b, setTg, Tg.slots, setMany, fldIx, toOwned, datOf, n1]; rfl))).trans ?_
  refine (ex_nx (by first | (simp (decide := true) [execSs, execS, evalE, evalAs, evalEs, evalP, evalI, slot, insOk, atPl, M.at, M.kids, M.kind, nodupB, Ag.roots, Ag.flat, As.vals, E.pure, Es.pure, As.pure, Path.pure, argMs, Mi.callEnd, backAs, putPl, M.put, M.setKid, M.toD, viewE, D.hard, D.hard.hards, datsOf, onDat, outD, fSub_i, fAddI_i, fAddX_i, fLt_i, fLe_i, fGt_i, fGe_i, fEq_i, fEq_s, fEq_b, fNe_i, fNe_s, fNe_b, fNot_b, fNeg_i, fIx_l, fIx_t, fLen_l, fLen_t, fIsi_int_i, fIsi_bool_i, fIsi_bool_b, setTg, Tg.slots, setMany, fldIx, toOwned, datOf, n2]; done) | (simp (decide := true) [execSs, execS, evalE, evalAs, evalEs, evalP, evalI, slot, insOk, atPl, M.at, M.kids, M.kind, nodupB, Ag.roots, Ag.flat, As.vals, E.pure, Es.pure, As.pure, Path.pure, argMs, Mi.callEnd, backAs, putPl, M.put, M.setKid, M.toD, viewE, D.hard, D.hard.hards, datsOf, onDat, outD, fSub_i, fAddI_i, fAddX_i, fLt_i, fLe_i, fGt_i, fGe_i, fEq_i, fEq_s, fEq_b, fNe_i, fNe_s, fNe_b, fNot_b, fNeg_i, fIx_l, fIx_t, fLen_l, fLen_t, fIsi_int_i, fIsi_bool_i, fIsi_bool_b, setTg, Tg.slots, setMany, fldIx, toOwned, datOf, n2]; rfl))).trans ?_
  refine (ex_nx (by first | (simp (decide := true) [execSs, execS, evalE, evalAs, evalEs, evalP, evalI, slot, insOk, atPl, M.at, M.kids, M.kind, nodupB, Ag.roots, Ag.flat, As.vals, E.pure, Es.pure, As.pure, Path.pure, argMs, Mi.callEnd, backAs, putPl, M.put, M.setKid, M.toD, viewE, D.hard, D.hard.hards, datsOf, onDat, outD, fSub_i, fAddI_i, fAddX_i, fLt_i, fLe_i, fGt_i, fGe_i, fEq_i, fEq_s, fEq_b, fNe_i, fNe_s, fNe_b, fNot_b, fNeg_i, fIx_l, fIx_t, fLen_l, fLen_t, fIsi_int_i, fIsi_bool_i, fIsi_bool_b, setTg, Tg.slots, setMany, fldIx, toOwned, datOf, n3]; done) | (simp (decide := true) [execSs, execS, evalE, evalAs, evalEs, evalP, evalI, slot, insOk, atPl, M.at, M.kids, M.kind, nodupB, Ag.roots, Ag.flat, As.vals, E.pure, Es.pure, As.pure, Path.pure, argMs, Mi.callEnd, backAs, putPl, M.put, M.setKid, M.toD, viewE, D.hard, D.hard.hards, datsOf, onDat, outD, fSub_i, fAddI_i, fAddX_i, fLt_i, fLe_i, fGt_i, fGe_i, fEq_i, fEq_s, fEq_b, fNe_i, fNe_s, fNe_b, fNot_b, fNeg_i, fIx_l, fIx_t, fLen_l, fLen_t, fIsi_int_i, fIsi_bool_i, fIsi_bool_b, setTg, Tg.slots, setMany, fldIx, toOwned, datOf, n3]; rfl))).trans ?_
  refine (ex_nx (by first | (simp (decide := true) [execSs, execS, evalE, evalAs, evalEs, evalP, evalI, slot, insOk, atPl, M.at, M.kids, M.kind, nodupB, Ag.roots, Ag.flat, As.vals, E.pure, Es.pure, As.pure, Path.pure, argMs, Mi.callEnd, backAs, putPl, M.put, M.setKid, M.toD, viewE, D.hard, D.hard.hards, datsOf, onDat, outD, fSub_i, fAddI_i, fAddX_i, fLt_i, fLe_i, fGt_i, fGe_i, fEq_i, fEq_s, fEq_b, fNe_i, fNe_s, fNe_b, fNot_b, fNeg_i, fIx_l, fIx_t, fLen_l, fLen_t, fIsi_int_i, fIsi_bool_i, fIsi_bool_b, setTg, Tg.slots, setMany, fldIx, toOwned, datOf, n4]; done) | (simp (decide := true) [execSs, execS, evalE, evalAs, evalEs, evalP, evalI, slot, insOk, atPl, M.at, M.kids, M.kind, nodupB, Ag.roots, Ag.flat, As.vals, E.pure, Es.pure, As.pure, Path.pure, argMs, Mi.callEnd, backAs, putPl, M.put, M.setKid, M.toD, viewE, D.hard, D.hard.hards, datsOf, onDat, outD, fSub_i, fAddI_i, fAddX_i, fLt_i, fLe_i, fGt_i, fGe_i, fEq_i, fEq_s, fEq_b, fNe_i, fNe_s, fNe_b, fNot_b, fNeg_i, fIx_l, fIx_t, fLen_l, fLen_t, fIsi_int_i, fIsi_bool_i, fIsi_bool_b, setTg, Tg.slots, setMany, fldIx, toOwned, datOf, n4]; rfl))).trans ?_
  refine (ex_nx (by first | (simp (decide := true) [execSs, execS, evalE, evalAs, evalEs, evalP, evalI, slot, insOk, atPl, M.at, M.kids, M.kind, nodupB, Ag.roots, Ag.flat, As.vals, E.pure, Es.pure, As.pure, Path.pure, argMs, Mi.callEnd, backAs, putPl, M.put, M.setKid, M.toD, viewE, D.hard, D.hard.hards, datsOf, onDat, outD, fSub_i, fAddI_i, fAddX_i, fLt_i, fLe_i, fGt_i, fGe_i, fEq_i, fEq_s, fEq_b, fNe_i, fNe_s, fNe_b, fNot_b, fNeg_i, fIx_l, fIx_t, fLen_l, fLen_t, fIsi_int_i, fIsi_bool_i, fIsi_bool_b, setTg, Tg.slots, setMany, fldIx, toOwned, datOf, n5]; done) | (simp (decide := true) [execSs, execS, evalE, evalAs, evalEs, evalP, evalI, slot, insOk, atPl, M.at, M.kids, M.kind, nodupB, Ag.roots, Ag.flat, As.vals, E.pure, Es.pure, As.pure, Path.pure, argMs, Mi.callEnd, backAs, putPl, M.put, M.setKid, M.toD, viewE, D.hard, D.hard.hards, datsOf, onDat, outD, fSub_i, fAddI_i, fAddX_i, fLt_i, fLe_i, fGt_i, fGe_i, fEq_i, fEq_s, fEq_b, fNe_i, fNe_s, fNe_b, fNot_b, fNeg_i, fIx_l, fIx_t, fLen_l, fLen_t, fIsi_int_i, fIsi_bool_i, fIsi_bool_b, setTg, Tg.slots, setMany, fldIx, toOwned, datOf, n5]; rfl))).trans ?_
  refine (ex_nx (by first | (simp (decide := true) [execSs, execS, evalE, evalAs, evalEs, evalP, evalI, slot, insOk, atPl, M.at, M.kids, M.kind, nodupB, Ag.roots, Ag.flat, As.vals, E.pure, Es.pure, As.pure, Path.pure, argMs, Mi.callEnd, backAs, putPl, M.put, M.setKid, M.toD, viewE, D.hard, D.hard.hards, datsOf, onDat, outD, fSub_i, fAddI_i, fAddX_i, fLt_i, fLe_i, fGt_i, fGe_i, fEq_i, fEq_s, fEq_b, fNe_i, fNe_s, fNe_b, fNot_b, fNeg_i, fIx_l, fIx_t, fLen_l, fLen_t, fIsi_int_i, fIsi_bool_i, fIsi_bool_b, setTg, Tg.slots, setMany, fldIx, toOwned, datOf, n6]; done) | (simp (decide := true) [execSs, execS, evalE, evalAs, evalEs, evalP, evalI, slot, insOk, atPl, M.at, M.kids, M.kind, nodupB, Ag.roots, Ag.flat, As.vals, E.pure, Es.pure, As.pure, Path.pure, argMs, Mi.callEnd, backAs, putPl, M.put, M.setKid, M.toD, viewE, D.hard, D.hard.hards, datsOf, onDat, outD, fSub_i, fAddI_i, fAddX_i, fLt_i, fLe_i, fGt_i, fGe_i, fEq_i, fEq_s, fEq_b, fNe_i, fNe_s, fNe_b, fNot_b, fNeg_i, fIx_l, fIx_t, fLen_l, fLen_t, fIsi_int_i, fIsi_bool_i, fIsi_bool_b, setTg, Tg.slots, setMany, fldIx, toOwned, datOf, n6]; rfl))).trans ?_
  rfl
theorem wk_num {i : Int} : callF sub tab bigN (k + 1) 8 [.dat F, .dat (.tup [.str "number", .int i]), .dat nm, c] = okc (.num i) c := by
  refine call_ret (fn := fn8) rfl rfl ?_ (μ' := [some (.dat F), some (.dat (.tup [.str "number", .int i])), some (.dat nm), some c, some (.dat (.str "number")), none, none, none])
  unfold fn8
  refine (ex_nx (by first | (simp (decide := true) [execSs, execS, evalE, evalAs, evalEs, evalP, evalI, slot, insOk, atPl, M.at, M.kids, M.kind, nodupB, Ag.roots, Ag.flat, As.vals, E.pure, Es.pure, As.pure, Path.pure, argMs, Mi.callEnd, backAs, putPl, M.put, M.setKid, M.toD, viewE, D.hard, D.hard.hards, datsOf, onDat, outD, fSub_i, fAddI_i, fAddX_i, fLt_i, fLe_i, fGt_i, fGe_i, fEq_i, fEq_s, fEq_b, fNe_i, fNe_s, fNe_b, fNot_b, fNeg_i, fIx_l, fIx_t, fLen_l, fLen_t, fIsi_int_i, fIsi_bool_i, fIsi_bool_b, setTg, Tg.slots, setMany, fldIx, toOwned, datOf, startE, atI_0]; done) | (simp (decide := true) [execSs, execS, evalE, evalAs, evalEs, evalP, evalI, slot, insOk, atPl, M.at, M.kids, M.kind, nodupB, Ag.roots, Ag.flat, As.vals, E.pure, Es.pure, As.pure, Path.pure, argMs, Mi.callEnd, backAs, putPl, M.put, M.setKid, M.toD, viewE, D.hard, D.hard.hards, datsOf, onDat, outD, fSub_i, fAddI_i, fAddX_i, fLt_i, fLe_i, fGt_i, fGe_i, fEq_i, fEq_s, fEq_b, fNe_i, fNe_s, fNe_b, fNot_b, fNeg_i, fIx_l, fIx_t, fLen_l, fLen_t, fIsi_int_i, fIsi_bool_i, fIsi_bool_b, setTg, Tg.slots, setMany, fldIx, toOwned, datOf, startE, atI_0]; rfl))).trans ?_
  refine ex_ret (by first | (simp (decide := true) [execSs, execS, evalE, evalAs, evalEs, evalP, evalI, slot, insOk, atPl, M.at, M.kids, M.kind, nodupB, Ag.roots, Ag.flat, As.vals, E.pure, Es.pure, As.pure, Path.pure, argMs, Mi.callEnd, backAs, putPl, M.put, M.setKid, M.toD, viewE, D.hard, D.hard.hards, datsOf, onDat, outD, fSub_i, fAddI_i, fAddX_i, fLt_i, fLe_i, fGt_i, fGe_i, fEq_i, fEq_s, fEq_b, fNe_i, fNe_s, fNe_b, fNot_b, fNeg_i, fIx_l, fIx_t, fLen_l, fLen_t, fIsi_int_i, fIsi_bool_i, fIsi_bool_b, setTg, Tg.slots, setMany, fldIx, toOwned, datOf, atI_1, Vl.d]; done) | (simp (decide := true) [execSs, execS, evalE, evalAs, evalEs, evalP, evalI, slot, insOk, atPl, M.at, M.kids, M.kind, nodupB, Ag.roots, Ag.flat, As.vals, E.pure, Es.pure, As.pure, Path.pure, argMs, Mi.callEnd, backAs, putPl, M.put, M.setKid, M.toD, viewE, D.hard, D.hard.hards, datsOf, onDat, outD, fSub_i, fAddI_i, fAddX_i, fLt_i, fLe_i, fGt_i, fGe_i, fEq_i, fEq_s, fEq_b, fNe_i, fNe_s, fNe_b, fNot_b, fNeg_i, fIx_l, fIx_t, fLen_l, fLen_t, fIsi_int_i, fIsi_bool_i, fIsi_bool_b, setTg, Tg.slots, setMany, fldIx, toOwned, datOf, atI_1, Vl.d]; rfl))
theorem wk_nil {xs : List D} : callF sub tab bigN (k + 1) 8 [.dat F, .dat (.tup (.str "nil" :: xs)), .dat nm, c] = okc .non c := by
  refine call_ret (fn := fn8) rfl rfl ?_ (μ' := [some (.dat F), some (.dat (.tup (.str "nil" :: xs))), some (.dat nm), some c, some (.dat (.str "nil")), none, none, none])
  unfold fn8
  refine (ex_nx (by first | (simp (decide := true) [execSs, execS, evalE, evalAs, evalEs, evalP, evalI, slot, insOk, atPl, M.at, M.kids, M.kind, nodupB, Ag.roots, Ag.flat, As.vals, E.pure, Es.pure, As.pure, Path.pure, argMs, Mi.callEnd, backAs, putPl, M.put, M.setKid, M.toD, viewE, D.hard, D.hard.hards, datsOf, onDat, outD, fSub_i, fAddI_i, fAddX_i, fLt_i, fLe_i, fGt_i, fGe_i, fEq_i, fEq_s, fEq_b, fNe_i, fNe_s, fNe_b, fNot_b, fNeg_i, fIx_l, fIx_t, fLen_l, fLen_t, fIsi_int_i, fIsi_bool_i, fIsi_bool_b, setTg, Tg.slots, setMany, fldIx, toOwned, datOf, startE, atI_0]; done) | (simp (decide := true) [execSs, execS, evalE, evalAs, evalEs, evalP, evalI, slot, insOk, atPl, M.at, M.kids, M.kind, nodupB, Ag.roots, Ag.flat, As.vals, E.pure, Es.pure, As.pure, Path.pure, argMs, Mi.callEnd, backAs, putPl, M.put, M.setKid, M.toD, viewE, D.hard, D.hard.hards, datsOf, onDat, outD, fSub_i, fAddI_i, fAddX_i, fLt_i, fLe_i, fGt_i, fGe_i, fEq_i, fEq_s, fEq_b, fNe_i, fNe_s, fNe_b, fNot_b, fNeg_i, fIx_l, fIx_t, fLen_l, fLen_t, fIsi_int_i, fIsi_bool_i, fIsi_bool_b, setTg, Tg.slots, setMany, fldIx, toOwned, datOf, startE, atI_0]; rfl))).trans ?_
  refine (ex_nx (by first | (simp (decide := true) [execSs, execS, evalE, evalAs, evalEs, evalP, evalI, slot, insOk, atPl, M.at, M.kids, M.kind, nodupB, Ag.roots, Ag.flat, As.vals, E.pure, Es.pure, As.pure, Path.pure, argMs, Mi.callEnd, backAs, putPl, M.put, M.setKid, M.toD, viewE, D.hard, D.hard.hards, datsOf, onDat, outD, fSub_i, fAddI_i, fAddX_i, fLt_i, fLe_i, fGt_i, fGe_i, fEq_i, fEq_s, fEq_b, fNe_i, fNe_s, fNe_b, fNot_b, fNeg_i, fIx_l, fIx_t, fLen_l, fLen_t, fIsi_int_i, fIsi_bool_i, fIsi_bool_b, setTg, Tg.slots, setMany, fldIx, toOwned, datOf]; done) | (simp (decide := true) [execSs, execS, evalE, evalAs, evalEs, evalP, evalI, slot, insOk, atPl, M.at, M.kids, M.kind, nodupB, Ag.roots, Ag.flat, As.vals, E.pure, Es.pure, As.pure, Path.pure, argMs, Mi.callEnd, backAs, putPl, M.put, M.setKid, M.toD, viewE, D.hard, D.hard.hards, datsOf, onDat, outD, fSub_i, fAddI_i, fAddX_i, fLt_i, fLe_i, fGt_i, fGe_i, fEq_i, fEq_s, fEq_b, fNe_i, fNe_s, fNe_b, fNot_b, fNeg_i, fIx_l, fIx_t, fLen_l, fLen_t, fIsi_int_i, fIsi_bool_i, fIsi_bool_b, setTg, Tg.slots, setMany, fldIx, toOwned, datOf]; rfl))).trans ?_
  refine (ex_nx (by first | (simp (decide := true) [execSs, execS, evalE, evalAs, evalEs, evalP, evalI, slot, insOk, atPl, M.at, M.kids, M.kind, nodupB, Ag.roots, Ag.flat, As.vals, E.pure, Es.pure, As.pure, Path.pure, argMs, Mi.callEnd, backAs, putPl, M.put, M.setKid, M.toD, viewE, D.hard, D.hard.hards, datsOf, onDat, outD, fSub_i, fAddI_i, fAddX_i, fLt_i, fLe_i, fGt_i, fGe_i, fEq_i, fEq_s, fEq_b, fNe_i, fNe_s, fNe_b, fNot_b, fNeg_i, fIx_l, fIx_t, fLen_l, fLen_t, fIsi_int_i, fIsi_bool_i, fIsi_bool_b, setTg, Tg.slots, setMany, fldIx, toOwned, datOf]; done) | (simp (decide := true) [execSs, execS, evalE, evalAs, evalEs, evalP, evalI, slot, insOk, atPl, M.at, M.kids, M.kind, nodupB, Ag.roots, Ag.flat, As.vals, E.pure, Es.pure, As.pure, Path.pure, argMs, Mi.callEnd, backAs, putPl, M.put, M.setKid, M.toD, viewE, D.hard, D.hard.hards, datsOf, onDat, outD, fSub_i, fAddI_i, fAddX_i, fLt_i, fLe_i, fGt_i, fGe_i, fEq_i, fEq_s, fEq_b, fNe_i, fNe_s, fNe_b, fNot_b, fNeg_i, fIx_l, fIx_t, fLen_l, fLen_t, fIsi_int_i, fIsi_bool_i, fIsi_bool_b, setTg, Tg.slots, setMany, fldIx, toOwned, datOf]; rfl))).trans ?_
  refine ex_ret (by first | (simp (decide := true) [execSs, execS, evalE, evalAs, evalEs, evalP, evalI, slot, insOk, atPl, M.at, M.kids, M.kind, nodupB, Ag.roots, Ag.flat, As.vals, E.pure, Es.pure, As.pure, Path.pure, argMs, Mi.callEnd, backAs, putPl, M.put, M.setKid, M.toD, viewE, D.hard, D.hard.hards, datsOf, onDat, outD, fSub_i, fAddI_i, fAddX_i, fLt_i, fLe_i, fGt_i, fGe_i, fEq_i, fEq_s, fEq_b, fNe_i, fNe_s, fNe_b, fNot_b, fNeg_i, fIx_l, fIx_t, fLen_l, fLen_t, fIsi_int_i, fIsi_bool_i, fIsi_bool_b, setTg, Tg.slots, setMany, fldIx, toOwned, datOf, Vl.d]; done) | (simp (decide := true) [execSs, execS, evalE, evalAs, evalEs, evalP, evalI, slot, insOk, atPl, M.at, M.kids, M.kind, nodupB, Ag.roots, Ag.flat, As.vals, E.pure, Es.pure, As.pure, Path.pure, argMs, Mi.callEnd, backAs, putPl, M.put, M.setKid, M.toD, viewE, D.hard, D.hard.hards, datsOf, onDat, outD, fSub_i, fAddI_i, fAddX_i, fLt_i, fLe_i, fGt_i, fGe_i, fEq_i, fEq_s, fEq_b, fNe_i, fNe_s, fNe_b, fNot_b, fNeg_i, fIx_l, fIx_t, fLen_l, fLen_t, fIsi_int_i, fIsi_bool_i, fIsi_bool_b, setTg, Tg.slots, setMany, fldIx, toOwned, datOf, Vl.d]; rfl))
theorem wk_name {s : Str} {v : Vl} (h : fIxD nm (.str s) = some v.d) : callF sub tab bigN (k + 1) 8 [.dat F, .dat (.tup [.str "name", .str s]), .dat nm, c] = okc v c := by
  refine call_ret (fn := fn8) rfl rfl ?_ (μ' := [some (.dat F), some (.dat (.tup [.str "name", .str s])), some (.dat nm), some c, some (.dat (.str "name")), none, none, none])
  unfold fn8
  refine (ex_nx (by first | (simp (decide := true) [execSs, execS, evalE, evalAs, evalEs, evalP, evalI, slot, insOk, atPl, M.at, M.kids, M.kind, nodupB, Ag.roots, Ag.flat, As.vals, E.pure, Es.pure, As.pure, Path.pure, argMs, Mi.callEnd, backAs, putPl, M.put, M.setKid, M.toD, viewE, D.hard, D.hard.hards, datsOf, onDat, outD, fSub_i, fAddI_i, fAddX_i, fLt_i, fLe_i, fGt_i, fGe_i, fEq_i, fEq_s, fEq_b, fNe_i, fNe_s, fNe_b, fNot_b, fNeg_i, fIx_l, fIx_t, fLen_l, fLen_t, fIsi_int_i, fIsi_bool_i, fIsi_bool_b, setTg, Tg.slots, setMany, fldIx, toOwned, datOf, startE, atI_0]; done) | (simp (decide := true) [execSs, execS, evalE, evalAs, evalEs, evalP, evalI, slot, insOk, atPl, M.at, M.kids, M.kind, nodupB, Ag.roots, Ag.flat, As.vals, E.pure, Es.pure, As.pure, Path.pure, argMs, Mi.callEnd, backAs, putPl, M.put, M.setKid, M.toD, viewE, D.hard, D.hard.hards, datsOf, onDat, outD, fSub_i, fAddI_i, fAddX_i, fLt_i, fLe_i, fGt_i, fGe_i, fEq_i, fEq_s, fEq_b, fNe_i, fNe_s, fNe_b, fNot_b, fNeg_i, fIx_l, fIx_t, fLen_l, fLen_t, fIsi_int_i, fIsi_bool_i, fIsi_bool_b, setTg, Tg.slots, setMany, fldIx, toOwned, datOf, startE, atI_0]; rfl))).trans ?_
  refine (ex_nx (by first | (simp (decide := true) [execSs, execS, evalE, evalAs, evalEs, evalP, evalI, slot, insOk, atPl, M.at, M.kids, M.kind, nodupB, Ag.roots, Ag.flat, As.vals, E.pure, Es.pure, As.pure, Path.pure, argMs, Mi.callEnd, backAs, putPl, M.put, M.setKid, M.toD, viewE, D.hard, D.hard.hards, datsOf, onDat, outD, fSub_i, fAddI_i, fAddX_i, fLt_i, fLe_i, fGt_i, fGe_i, fEq_i, fEq_s, fEq_b, fNe_i, fNe_s, fNe_b, fNot_b, fNeg_i, fIx_l, fIx_t, fLen_l, fLen_t, fIsi_int_i, fIsi_bool_i, fIsi_bool_b, setTg, Tg.slots, setMany, fldIx, toOwned, datOf]; done) | (simp (decide := true) [execSs, execS, evalE, evalAs, evalEs, evalP, evalI, slot, insOk, atPl, M.at, M.kids, M.kind, nodupB, Ag.roots, Ag.flat, As.vals, E.pure, Es.pure, As.pure, Path.pure, argMs, Mi.callEnd, backAs, putPl, M.put, M.setKid, M.toD, viewE, D.hard, D.hard.hards, datsOf, onDat, outD, fSub_i, fAddI_i, fAddX_i, fLt_i, fLe_i, fGt_i, fGe_i, fEq_i, fEq_s, fEq_b, fNe_i, fNe_s, fNe_b, fNot_b, fNeg_i, fIx_l, fIx_t, fLen_l, fLen_t, fIsi_int_i, fIsi_bool_i, fIsi_bool_b, setTg, Tg.slots, setMany, fldIx, toOwned, datOf]; rfl))).trans ?_
  refine ex_ret (by first | (simp (decide := true) [execSs, execS, evalE, evalAs, evalEs, evalP, evalI, slot, insOk, atPl, M.at, M.kids, M.kind, nodupB, Ag.roots, Ag.flat, As.vals, E.pure, Es.pure, As.pure, Path.pure, argMs, Mi.callEnd, backAs, putPl, M.put, M.setKid, M.toD, viewE, D.hard, D.hard.hards, datsOf, onDat, outD, fSub_i, fAddI_i, fAddX_i, fLt_i, fLe_i, fGt_i, fGe_i, fEq_i, fEq_s, fEq_b, fNe_i, fNe_s, fNe_b, fNot_b, fNeg_i, fIx_l, fIx_t, fLen_l, fLen_t, fIsi_int_i, fIsi_bool_i, fIsi_bool_b, setTg, Tg.slots, setMany, fldIx, toOwned, datOf, atI_1, h]; done) | (simp (decide := true) [execSs, execS, evalE, evalAs, evalEs, evalP, evalI, slot, insOk, atPl, M.at, M.kids, M.kind, nodupB, Ag.roots, Ag.flat, As.vals, E.pure, Es.pure, As.pure, Path.pure, argMs, Mi.callEnd, backAs, putPl, M.put, M.setKid, M.toD, viewE, D.hard, D.hard.hards, datsOf, onDat, outD, fSub_i, fAddI_i, fAddX_i, fLt_i, fLe_i, fGt_i, fGe_i, fEq_i, fEq_s, fEq_b, fNe_i, fNe_s, fNe_b, fNot_b, fNeg_i, fIx_l, fIx_t, fLen_l, fLen_t, fIsi_int_i, fIsi_bool_i, fIsi_bool_b, setTg, Tg.slots, setMany, fldIx, toOwned, datOf, atI_1, h]; rfl))
theorem wk_look {w : Str} {a : D} {v : Vl} {R : Vl} (hw : NW w) (e : callF sub tab bigN (k + 1) 8 [.dat F, .dat a, .dat nm, c] = okc v c1) (h : callF sub tab bigN (k + 1) 6 [.dat (.str w), .dat v.d] = .ok (.dat R.d) [none, none]) :
    callF sub tab bigN (k + 2) 8 [.dat F, .dat (.tup [.str w, a]), .dat nm, c] = okc R c1 := by
  refine call_ret (fn := fn8) rfl rfl ((skip7 hw).trans ?_) (μ' := [some (.dat F), some (.dat (.tup [.str w, a])), some (.dat nm), some c1, some (.dat (.str w)), some (.dat v.d), none, none])
  unfold okc at e
  unfold T7 fn8
  refine (ex_nx (by first | (simp (decide := true) [execSs, execS, evalE, evalAs, evalEs, evalP, evalI, slot, insOk, atPl, M.at, M.kids, M.kind, nodupB, Ag.roots, Ag.flat, As.vals, E.pure, Es.pure, As.pure, Path.pure, argMs, Mi.callEnd, backAs, putPl, M.put, M.setKid, M.toD, viewE, D.hard, D.hard.hards, datsOf, onDat, outD, fSub_i, fAddI_i, fAddX_i, fLt_i, fLe_i, fGt_i, fGe_i, fEq_i, fEq_s, fEq_b, fNe_i, fNe_s, fNe_b, fNot_b, fNeg_i, fIx_l, fIx_t, fLen_l, fLen_t, fIsi_int_i, fIsi_bool_i, fIsi_bool_b, setTg, Tg.slots, setMany, fldIx, toOwned, datOf, atI_1, e, tl]; done) | (simp (decide := true) [execSs, execS, evalE, evalAs, evalEs, evalP, evalI, slot, insOk, atPl, M.at, M.kids, M.kind, nodupB, Ag.roots, Ag.flat, As.vals, E.pure, Es.pure, As.pure, Path.pure, argMs, Mi.callEnd, backAs, putPl, M.put, M.setKid, M.toD, viewE, D.hard, D.hard.hards, datsOf, onDat, outD, fSub_i, fAddI_i, fAddX_i, fLt_i, fLe_i, fGt_i, fGe_i, fEq_i, fEq_s, fEq_b, fNe_i, fNe_s, fNe_b, fNot_b, fNeg_i, fIx_l, fIx_t, fLen_l, fLen_t, fIsi_int_i, fIsi_bool_i, fIsi_bool_b, setTg, Tg.slots, setMany, fldIx, toOwned, datOf, atI_1, e, tl]; rfl))).trans ?_
  refine ex_ret (by first | (simp (decide := true) [execSs, execS, evalE, evalAs, evalEs, evalP, evalI, slot, insOk, atPl, M.at, M.kids, M.kind, nodupB, Ag.roots, Ag.flat, As.vals, E.pure, Es.pure, As.pure, Path.pure, argMs, Mi.callEnd, backAs, putPl, M.put, M.setKid, M.toD, viewE, D.hard, D.hard.hards, datsOf, onDat, outD, fSub_i, fAddI_i, fAddX_i, fLt_i, fLe_i, fGt_i, fGe_i, fEq_i, fEq_s, fEq_b, fNe_i, fNe_s, fNe_b, fNot_b, fNeg_i, fIx_l, fIx_t, fLen_l, fLen_t, fIsi_int_i, fIsi_bool_i, fIsi_bool_b, setTg, Tg.slots, setMany, fldIx, toOwned, datOf, h]; done) | (simp (decide := true) [execSs, execS, evalE, evalAs, evalEs, evalP, evalI, slot, insOk, atPl, M.at, M.kids, M.kind, nodupB, Ag.roots, Ag.flat, As.vals, E.pure, Es.pure, As.pure, Path.pure, argMs, Mi.callEnd, backAs, putPl, M.put, M.setKid, M.toD, viewE, D.hard, D.hard.hards, datsOf, onDat, outD, fSub_i, fAddI_i, fAddX_i, fLt_i, fLe_i, fGt_i, fGe_i, fEq_i, fEq_s, fEq_b, fNe_i, fNe_s, fNe_b, fNot_b, fNeg_i, fIx_l, fIx_t, fLen_l, fLen_t, fIsi_int_i, fIsi_bool_i, fIsi_bool_b, setTg, Tg.slots, setMany, fldIx, toOwned, datOf, h]; rfl))
theorem wk_look_er {w : Str} {a : D} {v : Vl} {x : Str} (hw : NW w) (e : callF sub tab bigN (k + 1) 8 [.dat F, .dat a, .dat nm, c] = okc v c1) (h : callF sub tab bigN (k + 1) 6 [.dat (.str w), .dat v.d] = .err x [none, none]) :
    callF sub tab bigN (k + 2) 8 [.dat F, .dat (.tup [.str w, a]), .dat nm, c] = erc x c1 := by
  refine call_err (fn := fn8) rfl rfl ((skip7 hw).trans ?_) (μ' := [some (.dat F), some (.dat (.tup [.str w, a])), some (.dat nm), some c1, some (.dat (.str w)), some (.dat v.d), none, none])
  unfold okc at e
  unfold T7 fn8
  refine (ex_nx (by first | (simp (decide := true) [execSs, execS, evalE, evalAs, evalEs, evalP, evalI, slot, insOk, atPl, M.at, M.kids, M.kind, nodupB, Ag.roots, Ag.flat, As.vals, E.pure, Es.pure, As.pure, Path.pure, argMs, Mi.callEnd, backAs, putPl, M.put, M.setKid, M.toD, viewE, D.hard, D.hard.hards, datsOf, onDat, outD, fSub_i, fAddI_i, fAddX_i, fLt_i, fLe_i, fGt_i, fGe_i, fEq_i, fEq_s, fEq_b, fNe_i, fNe_s, fNe_b, fNot_b, fNeg_i, fIx_l, fIx_t, fLen_l, fLen_t, fIsi_int_i, fIsi_bool_i, fIsi_bool_b, setTg, Tg.slots, setMany, fldIx, toOwned, datOf, atI_1, e, tl]; done) | (simp (decide := true) [execSs, execS, evalE, evalAs, evalEs, evalP, evalI, slot, insOk, atPl, M.at, M.kids, M.kind, nodupB, Ag.roots, Ag.flat, As.vals, E.pure, Es.pure, As.pure, Path.pure, argMs, Mi.callEnd, backAs, putPl, M.put, M.setKid, M.toD, viewE, D.hard, D.hard.hards, datsOf, onDat, outD, fSub_i, fAddI_i, fAddX_i, fLt_i, fLe_i, fGt_i, fGe_i, fEq_i, fEq_s, fEq_b, fNe_i, fNe_s, fNe_b, fNot_b, fNeg_i, fIx_l, fIx_t, fLen_l, fLen_t, fIsi_int_i, fIsi_bool_i, fIsi_bool_b, setTg, Tg.slots, setMany, fldIx, toOwned, datOf, atI_1, e, tl]; rfl))).trans ?_
  refine ex_er ?_
  simp (decide := true) [execSs, execS, evalE, evalAs, evalEs, evalP, evalI, slot, insOk, atPl, M.at, M.kids, M.kind, nodupB, Ag.roots, Ag.flat, As.vals, E.pure, Es.pure, As.pure, Path.pure, argMs, Mi.callEnd, backAs, putPl, M.put, M.setKid, M.toD, viewE, D.hard, D.hard.hards, datsOf, onDat, outD, fSub_i, fAddI_i, fAddX_i, fLt_i, fLe_i, fGt_i, fGe_i, fEq_i, fEq_s, fEq_b, fNe_i, fNe_s, fNe_b, fNot_b, fNeg_i, fIx_l, fIx_t, fLen_l, fLen_t, fIsi_int_i, fIsi_bool_i, fIsi_bool_b, setTg, Tg.slots, setMany, fldIx, toOwned, datOf, h]
/-- the first operand's error -/
theorem wk_er1 {w : Str} {a : D} {xs : List D} {x : Str} (hw : NW w) (e : callF sub tab bigN k 8 [.dat F, .dat a, .dat nm, c] = erc x c1) :
    callF sub tab bigN (k + 1) 8 [.dat F, .dat (.tup (.str w :: a :: xs)), .dat nm, c] = erc x c1 := by
  refine call_err (fn := fn8) rfl rfl ((skip7 hw).trans ?_) (μ' := [some (.dat F), some (.dat (.tup (.str w :: a :: xs))), some (.dat nm), some c1, some (.dat (.str w)), none, none, none])
  unfold erc at e
  unfold T7 fn8
  refine ex_er ?_
  simp (decide := true) [execSs, execS, evalE, evalAs, evalEs, evalP, evalI, slot, insOk, atPl, M.at, M.kids, M.kind, nodupB, Ag.roots, Ag.flat, As.vals, E.pure, Es.pure, As.pure, Path.pure, argMs, Mi.callEnd, backAs, putPl, M.put, M.setKid, M.toD, viewE, D.hard, D.hard.hards, datsOf, onDat, outD, fSub_i, fAddI_i, fAddX_i, fLt_i, fLe_i, fGt_i, fGe_i, fEq_i, fEq_s, fEq_b, fNe_i, fNe_s, fNe_b, fNot_b, fNeg_i, fIx_l, fIx_t, fLen_l, fLen_t, fIsi_int_i, fIsi_bool_i, fIsi_bool_b, setTg, Tg.slots, setMany, fldIx, toOwned, datOf, atI_1, e, tl]
theorem wk_er2 {w : Str} {a b : D} {v : Vl} {x : Str} (hw : NW w) (e : callF sub tab bigN k 8 [.dat F, .dat a, .dat nm, c] = okc v c1) (e2 : callF sub tab bigN k 8 [.dat F, .dat b, .dat nm, c1] = erc x c2) :
    callF sub tab bigN (k + 1) 8 [.dat F, .dat (.tup [.str w, a, b]), .dat nm, c] = erc x c2 := by
  refine call_err (fn := fn8) rfl rfl ((skip7 hw).trans ?_) (μ' := [some (.dat F), some (.dat (.tup [.str w, a, b])), some (.dat nm), some c2, some (.dat (.str w)), some (.dat v.d), none, none])
  unfold okc at e
  unfold erc at e2
  unfold T7 fn8
  refine (ex_nx (by first | (simp (decide := true) [execSs, execS, evalE, evalAs, evalEs, evalP, evalI, slot, insOk, atPl, M.at, M.kids, M.kind, nodupB, Ag.roots, Ag.flat, As.vals, E.pure, Es.pure, As.pure, Path.pure, argMs, Mi.callEnd, backAs, putPl, M.put, M.setKid, M.toD, viewE, D.hard, D.hard.hards, datsOf, onDat, outD, fSub_i, fAddI_i, fAddX_i, fLt_i, fLe_i, fGt_i, fGe_i, fEq_i, fEq_s, fEq_b, fNe_i, fNe_s, fNe_b, fNot_b, fNeg_i, fIx_l, fIx_t, fLen_l, fLen_t, fIsi_int_i, fIsi_bool_i, fIsi_bool_b, setTg, Tg.slots, setMany, fldIx, toOwned, datOf, atI_1, e, tl]; done) | (simp (decide := true) [execSs, execS, evalE, evalAs, evalEs, evalP, evalI, slot, insOk, atPl, M.at, M.kids, M.kind, nodupB, Ag.roots, Ag.flat, As.vals, E.pure, Es.pure, As.pure, Path.pure, argMs, Mi.callEnd, backAs, putPl, M.put, M.setKid, M.toD, viewE, D.hard, D.hard.hards, datsOf, onDat, outD, fSub_i, fAddI_i, fAddX_i, fLt_i, fLe_i, fGt_i, fGe_i, fEq_i, fEq_s, fEq_b, fNe_i, fNe_s, fNe_b, fNot_b, fNeg_i, fIx_l, fIx_t, fLen_l, fLen_t, fIsi_int_i, fIsi_bool_i, fIsi_bool_b, setTg, Tg.slots, setMany, fldIx, toOwned, datOf, atI_1, e, tl]; rfl))).trans ?_
  refine (ex_nx (by first | (simp (decide := true) [execSs, execS, evalE, evalAs, evalEs, evalP, evalI, slot, insOk, atPl, M.at, M.kids, M.kind, nodupB, Ag.roots, Ag.flat, As.vals, E.pure, Es.pure, As.pure, Path.pure, argMs, Mi.callEnd, backAs, putPl, M.put, M.setKid, M.toD, viewE, D.hard, D.hard.hards, datsOf, onDat, outD, fSub_i, fAddI_i, fAddX_i, fLt_i, fLe_i, fGt_i, fGe_i, fEq_i, fEq_s, fEq_b, fNe_i, fNe_s, fNe_b, fNot_b, fNeg_i, fIx_l, fIx_t, fLen_l, fLen_t, fIsi_int_i, fIsi_bool_i, fIsi_bool_b, setTg, Tg.slots, setMany, fldIx, toOwned, datOf]; done) | (simp (decide := true) [execSs, execS, evalE, evalAs, evalEs, evalP, evalI, slot, insOk, atPl, M.at, M.kids, M.kind, nodupB, Ag.roots, Ag.flat, As.vals, E.pure, Es.pure, As.pure, Path.pure, argMs, Mi.callEnd, backAs, putPl, M.put, M.setKid, M.toD, viewE, D.hard, D.hard.hards, datsOf, onDat, outD, fSub_i, fAddI_i, fAddX_i, fLt_i, fLe_i, fGt_i, fGe_i, fEq_i, fEq_s, fEq_b, fNe_i, fNe_s, fNe_b, fNot_b, fNeg_i, fIx_l, fIx_t, fLen_l, fLen_t, fIsi_int_i, fIsi_bool_i, fIsi_bool_b, setTg, Tg.slots, setMany, fldIx, toOwned, datOf]; rfl))).trans ?_
  refine ex_er ?_
  simp (decide := true) [execSs, execS, evalE, evalAs, evalEs, evalP, evalI, slot, insOk, atPl, M.at, M.kids, M.kind, nodupB, Ag.roots, Ag.flat, As.vals, E.pure, Es.pure, As.pure, Path.pure, argMs, Mi.callEnd, backAs, putPl, M.put, M.setKid, M.toD, viewE, D.hard, D.hard.hards, datsOf, onDat, outD, fSub_i, fAddI_i, fAddX_i, fLt_i, fLe_i, fGt_i, fGe_i, fEq_i, fEq_s, fEq_b, fNe_i, fNe_s, fNe_b, fNot_b, fNeg_i, fIx_l, fIx_t, fLen_l, fLen_t, fIsi_int_i, fIsi_bool_i, fIsi_bool_b, setTg, Tg.slots, setMany, fldIx, toOwned, datOf, atI_2, e2]
/-- two operands into a cell -/
theorem wk_cell {w : Str} {a b : D} {v u : Vl} (hw : w = "pair" ∨ w = "cons") (e : callF sub tab bigN (k + 2) 8 [.dat F, .dat a, .dat nm, c] = okc v c1) (e2 : callF sub tab bigN (k + 2) 8 [.dat F, .dat b, .dat nm, c1] = okc u c2) :
    callF sub tab bigN (k + 3) 8 [.dat F, .dat (.tup [.str w, a, b]), .dat nm, c] = match cellO v u with
      | some r => okc r c2
      | none => erc "TooGreat" c2 := by
  have nw : NW w := by rcases hw with rfl | rfl <;> exact ⟨by decide, by decide, by decide⟩
  have e3 := cell_ok k v u
  unfold okc at e e2
  cases q : cellO v u with
  | some r =>
    rw [q] at e3
    refine call_ret (fn := fn8) rfl rfl ((skip7 nw).trans ?_) (μ' := [some (.dat F), some (.dat (.tup [.str w, a, b])), some (.dat nm), some c2, some (.dat (.str w)), some (.dat v.d), some (.dat u.d), none])
    unfold T7 fn8
    refine (ex_nx (by first | (simp (decide := true) [execSs, execS, evalE, evalAs, evalEs, evalP, evalI, slot, insOk, atPl, M.at, M.kids, M.kind, nodupB, Ag.roots, Ag.flat, As.vals, E.pure, Es.pure, As.pure, Path.pure, argMs, Mi.callEnd, backAs, putPl, M.put, M.setKid, M.toD, viewE, D.hard, D.hard.hards, datsOf, onDat, outD, fSub_i, fAddI_i, fAddX_i, fLt_i, fLe_i, fGt_i, fGe_i, fEq_i, fEq_s, fEq_b, fNe_i, fNe_s, fNe_b, fNot_b, fNeg_i, fIx_l, fIx_t, fLen_l, fLen_t, fIsi_int_i, fIsi_bool_i, fIsi_bool_b, setTg, Tg.slots, setMany, fldIx, toOwned, datOf, atI_1, e, tl]; done) | (simp (decide := true) [execSs, execS, evalE, evalAs, evalEs, evalP, evalI, slot, insOk, atPl, M.at, M.kids, M.kind, nodupB, Ag.roots, Ag.flat, As.vals, E.pure, Es.pure, As.pure, Path.pure, argMs, Mi.callEnd, backAs, putPl, M.put, M.setKid, M.toD, viewE, D.hard, D.hard.hards, datsOf, onDat, outD, fSub_i, fAddI_i, fAddX_i, fLt_i, fLe_i, fGt_i, fGe_i, fEq_i, fEq_s, fEq_b, fNe_i, fNe_s, fNe_b, fNot_b, fNeg_i, fIx_l, fIx_t, fLen_l, fLen_t, fIsi_int_i, fIsi_bool_i, fIsi_bool_b, setTg, Tg.slots, setMany, fldIx, toOwned, datOf, atI_1, e, tl]; rfl))).trans ?_
    refine (ex_nx (by first | (simp (decide := true) [execSs, execS, evalE, evalAs, evalEs, evalP, evalI, slot, insOk, atPl, M.at, M.kids, M.kind, nodupB, Ag.roots, Ag.flat, As.vals, E.pure, Es.pure, As.pure, Path.pure, argMs, Mi.callEnd, backAs, putPl, M.put, M.setKid, M.toD, viewE, D.hard, D.hard.hards, datsOf, onDat, outD, fSub_i, fAddI_i, fAddX_i, fLt_i, fLe_i, fGt_i, fGe_i, fEq_i, fEq_s, fEq_b, fNe_i, fNe_s, fNe_b, fNot_b, fNeg_i, fIx_l, fIx_t, fLen_l, fLen_t, fIsi_int_i, fIsi_bool_i, fIsi_bool_b, setTg, Tg.slots, setMany, fldIx, toOwned, datOf]; done) | (simp (decide := true) [execSs, execS, evalE, evalAs, evalEs, evalP, evalI, slot, insOk, atPl, M.at, M.kids, M.kind, nodupB, Ag.roots, Ag.flat, As.vals, E.pure, Es.pure, As.pure, Path.pure, argMs, Mi.callEnd, backAs, putPl, M.put, M.setKid, M.toD, viewE, D.hard, D.hard.hards, datsOf, onDat, outD, fSub_i, fAddI_i, fAddX_i, fLt_i, fLe_i, fGt_i, fGe_i, fEq_i, fEq_s, fEq_b, fNe_i, fNe_s, fNe_b, fNot_b, fNeg_i, fIx_l, fIx_t, fLen_l, fLen_t, fIsi_int_i, fIsi_bool_i, fIsi_bool_b, setTg, Tg.slots, setMany, fldIx, toOwned, datOf]; rfl))).trans ?_
    refine (ex_nx (by first | (simp (decide := true) [execSs, execS, evalE, evalAs, evalEs, evalP, evalI, slot, insOk, atPl, M.at, M.kids, M.kind, nodupB, Ag.roots, Ag.flat, As.vals, E.pure, Es.pure, As.pure, Path.pure, argMs, Mi.callEnd, backAs, putPl, M.put, M.setKid, M.toD, viewE, D.hard, D.hard.hards, datsOf, onDat, outD, fSub_i, fAddI_i, fAddX_i, fLt_i, fLe_i, fGt_i, fGe_i, fEq_i, fEq_s, fEq_b, fNe_i, fNe_s, fNe_b, fNot_b, fNeg_i, fIx_l, fIx_t, fLen_l, fLen_t, fIsi_int_i, fIsi_bool_i, fIsi_bool_b, setTg, Tg.slots, setMany, fldIx, toOwned, datOf, atI_2, e2]; done) | (simp (decide := true) [execSs, execS, evalE, evalAs, evalEs, evalP, evalI, slot, insOk, atPl, M.at, M.kids, M.kind, nodupB, Ag.roots, Ag.flat, As.vals, E.pure, Es.pure, As.pure, Path.pure, argMs, Mi.callEnd, backAs, putPl, M.put, M.setKid, M.toD, viewE, D.hard, D.hard.hards, datsOf, onDat, outD, fSub_i, fAddI_i, fAddX_i, fLt_i, fLe_i, fGt_i, fGe_i, fEq_i, fEq_s, fEq_b, fNe_i, fNe_s, fNe_b, fNot_b, fNeg_i, fIx_l, fIx_t, fLen_l, fLen_t, fIsi_int_i, fIsi_bool_i, fIsi_bool_b, setTg, Tg.slots, setMany, fldIx, toOwned, datOf, atI_2, e2]; rfl))).trans ?_
    rcases hw with rfl | rfl <;> refine ex_ret (by first | (simp (decide := true) [execSs, execS, evalE, evalAs, evalEs, evalP, evalI, slot, insOk, atPl, M.at, M.kids, M.kind, nodupB, Ag.roots, Ag.flat, As.vals, E.pure, Es.pure, As.pure, Path.pure, argMs, Mi.callEnd, backAs, putPl, M.put, M.setKid, M.toD, viewE, D.hard, D.hard.hards, datsOf, onDat, outD, fSub_i, fAddI_i, fAddX_i, fLt_i, fLe_i, fGt_i, fGe_i, fEq_i, fEq_s, fEq_b, fNe_i, fNe_s, fNe_b, fNot_b, fNeg_i, fIx_l, fIx_t, fLen_l, fLen_t, fIsi_int_i, fIsi_bool_i, fIsi_bool_b, setTg, Tg.slots, setMany, fldIx, toOwned, datOf, e3]; done) | (simp (decide := true) [execSs, execS, evalE, evalAs, evalEs, evalP, evalI, slot, insOk, atPl, M.at, M.kids, M.kind, nodupB, Ag.roots, Ag.flat, As.vals, E.pure, Es.pure, As.pure, Path.pure, argMs, Mi.callEnd, backAs, putPl, M.put, M.setKid, M.toD, viewE, D.hard, D.hard.hards, datsOf, onDat, outD, fSub_i, fAddI_i, fAddX_i, fLt_i, fLe_i, fGt_i, fGe_i, fEq_i, fEq_s, fEq_b, fNe_i, fNe_s, fNe_b, fNot_b, fNeg_i, fIx_l, fIx_t, fLen_l, fLen_t, fIsi_int_i, fIsi_bool_i, fIsi_bool_b, setTg, Tg.slots, setMany, fldIx, toOwned, datOf, e3]; rfl))
  | none =>
    rw [q] at e3
    refine call_err (fn := fn8) rfl rfl ((skip7 nw).trans ?_) (μ' := [some (.dat F), some (.dat (.tup [.str w, a, b])), some (.dat nm), some c2, some (.dat (.str w)), some (.dat v.d), some (.dat u.d), none])
    unfold T7 fn8
    refine (ex_nx (by first | (simp (decide := true) [execSs, execS, evalE, evalAs, evalEs, evalP, evalI, slot, insOk, atPl, M.at, M.kids, M.kind, nodupB, Ag.roots, Ag.flat, As.vals, E.pure, Es.pure, As.pure, Path.pure, argMs, Mi.callEnd, backAs, putPl, M.put, M.setKid, M.toD, viewE, D.hard, D.hard.hards, datsOf, onDat, outD, fSub_i, fAddI_i, fAddX_i, fLt_i, fLe_i, fGt_i, fGe_i, fEq_i, fEq_s, fEq_b, fNe_i, fNe_s, fNe_b, fNot_b, fNeg_i, fIx_l, fIx_t, fLen_l, fLen_t, fIsi_int_i, fIsi_bool_i, fIsi_bool_b, setTg, Tg.slots, setMany, fldIx, toOwned, datOf, atI_1, e, tl]; done) | (simp (decide := true) [execSs, execS, evalE, evalAs, evalEs, evalP, evalI, slot, insOk, atPl, M.at, M.kids, M.kind, nodupB, Ag.roots, Ag.flat, As.vals, E.pure, Es.pure, As.pure, Path.pure, argMs, Mi.callEnd, backAs, putPl, M.put, M.setKid, M.toD, viewE, D.hard, D.hard.hards, datsOf, onDat, outD, fSub_i, fAddI_i, fAddX_i, fLt_i, fLe_i, fGt_i, fGe_i, fEq_i, fEq_s, fEq_b, fNe_i, fNe_s, fNe_b, fNot_b, fNeg_i, fIx_l, fIx_t, fLen_l, fLen_t, fIsi_int_i, fIsi_bool_i, fIsi_bool_b, setTg, Tg.slots, setMany, fldIx, toOwned, datOf, atI_1, e, tl]; rfl))).trans ?_
    refine (ex_nx (by first | (simp (decide := true) [execSs, execS, evalE, evalAs, evalEs, evalP, evalI, slot, insOk, atPl, M.at, M.kids, M.kind, nodupB, Ag.roots, Ag.flat, As.vals, E.pure, Es.pure, As.pure, Path.pure, argMs, Mi.callEnd, backAs, putPl, M.put, M.setKid, M.toD, viewE, D.hard, D.hard.hards, datsOf, onDat, outD, fSub_i, fAddI_i, fAddX_i, fLt_i, fLe_i, fGt_i, fGe_i, fEq_i, fEq_s, fEq_b, fNe_i, fNe_s, fNe_b, fNot_b, fNeg_i, fIx_l, fIx_t, fLen_l, fLen_t, fIsi_int_i, fIsi_bool_i, fIsi_bool_b, setTg, Tg.slots, setMany, fldIx, toOwned, datOf]; done) | (simp (decide := true) [execSs, execS, evalE, evalAs, evalEs, evalP, evalI, slot, insOk, atPl, M.at, M.kids, M.kind, nodupB, Ag.roots, Ag.flat, As.vals, E.pure, Es.pure, As.pure, Path.pure, argMs, Mi.callEnd, backAs, putPl, M.put, M.setKid, M.toD, viewE, D.hard, D.hard.hards, datsOf, onDat, outD, fSub_i, fAddI_i, fAddX_i, fLt_i, fLe_i, fGt_i, fGe_i, fEq_i, fEq_s, fEq_b, fNe_i, fNe_s, fNe_b, fNot_b, fNeg_i, fIx_l, fIx_t, fLen_l, fLen_t, fIsi_int_i, fIsi_bool_i, fIsi_bool_b, setTg, Tg.slots, setMany, fldIx, toOwned, datOf]; rfl))).trans ?_
    refine (ex_nx (by first | (simp (decide := true) [execSs, execS, evalE, evalAs, evalEs, evalP, evalI, slot, insOk, atPl, M.at, M.kids, M.kind, nodupB, Ag.roots, Ag.flat, As.vals, E.pure, Es.pure, As.pure, Path.pure, argMs, Mi.callEnd, backAs, putPl, M.put, M.setKid, M.toD, viewE, D.hard, D.hard.hards, datsOf, onDat, outD, fSub_i, fAddI_i, fAddX_i, fLt_i, fLe_i, fGt_i, fGe_i, fEq_i, fEq_s, fEq_b, fNe_i, fNe_s, fNe_b, fNot_b, fNeg_i, fIx_l, fIx_t, fLen_l, fLen_t, fIsi_int_i, fIsi_bool_i, fIsi_bool_b, setTg, Tg.slots, setMany, fldIx, toOwned, datOf, atI_2, e2]; done) | (simp (decide := true) [execSs, execS, evalE, evalAs, evalEs, evalP, evalI, slot, insOk, atPl, M.at, M.kids, M.kind, nodupB, Ag.roots, Ag.flat, As.vals, E.pure, Es.pure, As.pure, Path.pure, argMs, Mi.callEnd, backAs, putPl, M.put, M.setKid, M.toD, viewE, D.hard, D.hard.hards, datsOf, onDat, outD, fSub_i, fAddI_i, fAddX_i, fLt_i, fLe_i, fGt_i, fGe_i, fEq_i, fEq_s, fEq_b, fNe_i, fNe_s, fNe_b, fNot_b, fNeg_i, fIx_l, fIx_t, fLen_l, fLen_t, fIsi_int_i, fIsi_bool_i, fIsi_bool_b, setTg, Tg.slots, setMany, fldIx, toOwned, datOf, atI_2, e2]; rfl))).trans ?_
    refine ex_er ?_
    rcases hw with rfl | rfl <;> simp (decide := true) [execSs, execS, evalE, evalAs, evalEs, evalP, evalI, slot, insOk, atPl, M.at, M.kids, M.kind, nodupB, Ag.roots, Ag.flat, As.vals, E.pure, Es.pure, As.pure, Path.pure, argMs, Mi.callEnd, backAs, putPl, M.put, M.setKid, M.toD, viewE, D.hard, D.hard.hards, datsOf, onDat, outD, fSub_i, fAddI_i, fAddX_i, fLt_i, fLe_i, fGt_i, fGe_i, fEq_i, fEq_s, fEq_b, fNe_i, fNe_s, fNe_b, fNot_b, fNeg_i, fIx_l, fIx_t, fLen_l, fLen_t, fIsi_int_i, fIsi_bool_i, fIsi_bool_b, setTg, Tg.slots, setMany, fldIx, toOwned, datOf, e3]
/-- two numbers reckoned -/
theorem wk_two {w : Str} {a b : D} {x y : Int} (hw : Wd w) (hx : Sm x) (hy : Sm y) (e : callF sub tab bigN (k + 1) 8 [.dat F, .dat a, .dat nm, c] = okc (.num x) c1) (e2 : callF sub tab bigN (k + 1) 8 [.dat F, .dat b, .dat nm, c1] = okc (.num y) c2) :
    callF sub tab bigN (k + 2) 8 [.dat F, .dat (.tup [.str w, a, b]), .dat nm, c] = match opr w x y with
      | some r => okc (.num r) c2
      | none => erc "TooGreat" c2 := by
  have nw : NW w := by rcases hw with rfl | rfl | rfl | rfl <;> exact ⟨by decide, by decide, by decide⟩
  have n7 : w ≠ "pair" := by rcases hw with rfl | rfl | rfl | rfl <;> decide
  have n8 : w ≠ "cons" := by rcases hw with rfl | rfl | rfl | rfl <;> decide
  have e3 := reck k hw hx hy
  unfold okc at e e2
  simp only [Vl.d] at e e2
  cases q : opr w x y with
  | some r =>
    rw [q] at e3
    simp only [crO] at e3
    refine call_ret (fn := fn8) rfl rfl ((skip7 nw).trans ?_) (μ' := [some (.dat F), some (.dat (.tup [.str w, a, b])), some (.dat nm), some c2, some (.dat (.str w)), some (.dat (.int x)), some (.dat (.int y)), none])
    unfold T7 fn8
    refine (ex_nx (by first | (simp (decide := true) [execSs, execS, evalE, evalAs, evalEs, evalP, evalI, slot, insOk, atPl, M.at, M.kids, M.kind, nodupB, Ag.roots, Ag.flat, As.vals, E.pure, Es.pure, As.pure, Path.pure, argMs, Mi.callEnd, backAs, putPl, M.put, M.setKid, M.toD, viewE, D.hard, D.hard.hards, datsOf, onDat, outD, fSub_i, fAddI_i, fAddX_i, fLt_i, fLe_i, fGt_i, fGe_i, fEq_i, fEq_s, fEq_b, fNe_i, fNe_s, fNe_b, fNot_b, fNeg_i, fIx_l, fIx_t, fLen_l, fLen_t, fIsi_int_i, fIsi_bool_i, fIsi_bool_b, setTg, Tg.slots, setMany, fldIx, toOwned, datOf, atI_1, e, tl]; done) | (simp (decide := true) [execSs, execS, evalE, evalAs, evalEs, evalP, evalI, slot, insOk, atPl, M.at, M.kids, M.kind, nodupB, Ag.roots, Ag.flat, As.vals, E.pure, Es.pure, As.pure, Path.pure, argMs, Mi.callEnd, backAs, putPl, M.put, M.setKid, M.toD, viewE, D.hard, D.hard.hards, datsOf, onDat, outD, fSub_i, fAddI_i, fAddX_i, fLt_i, fLe_i, fGt_i, fGe_i, fEq_i, fEq_s, fEq_b, fNe_i, fNe_s, fNe_b, fNot_b, fNeg_i, fIx_l, fIx_t, fLen_l, fLen_t, fIsi_int_i, fIsi_bool_i, fIsi_bool_b, setTg, Tg.slots, setMany, fldIx, toOwned, datOf, atI_1, e, tl]; rfl))).trans ?_
    refine (ex_nx (by first | (simp (decide := true) [execSs, execS, evalE, evalAs, evalEs, evalP, evalI, slot, insOk, atPl, M.at, M.kids, M.kind, nodupB, Ag.roots, Ag.flat, As.vals, E.pure, Es.pure, As.pure, Path.pure, argMs, Mi.callEnd, backAs, putPl, M.put, M.setKid, M.toD, viewE, D.hard, D.hard.hards, datsOf, onDat, outD, fSub_i, fAddI_i, fAddX_i, fLt_i, fLe_i, fGt_i, fGe_i, fEq_i, fEq_s, fEq_b, fNe_i, fNe_s, fNe_b, fNot_b, fNeg_i, fIx_l, fIx_t, fLen_l, fLen_t, fIsi_int_i, fIsi_bool_i, fIsi_bool_b, setTg, Tg.slots, setMany, fldIx, toOwned, datOf]; done) | (simp (decide := true) [execSs, execS, evalE, evalAs, evalEs, evalP, evalI, slot, insOk, atPl, M.at, M.kids, M.kind, nodupB, Ag.roots, Ag.flat, As.vals, E.pure, Es.pure, As.pure, Path.pure, argMs, Mi.callEnd, backAs, putPl, M.put, M.setKid, M.toD, viewE, D.hard, D.hard.hards, datsOf, onDat, outD, fSub_i, fAddI_i, fAddX_i, fLt_i, fLe_i, fGt_i, fGe_i, fEq_i, fEq_s, fEq_b, fNe_i, fNe_s, fNe_b, fNot_b, fNeg_i, fIx_l, fIx_t, fLen_l, fLen_t, fIsi_int_i, fIsi_bool_i, fIsi_bool_b, setTg, Tg.slots, setMany, fldIx, toOwned, datOf]; rfl))).trans ?_
    refine (ex_nx (by first | (simp (decide := true) [execSs, execS, evalE, evalAs, evalEs, evalP, evalI, slot, insOk, atPl, M.at, M.kids, M.kind, nodupB, Ag.roots, Ag.flat, As.vals, E.pure, Es.pure, As.pure, Path.pure, argMs, Mi.callEnd, backAs, putPl, M.put, M.setKid, M.toD, viewE, D.hard, D.hard.hards, datsOf, onDat, outD, fSub_i, fAddI_i, fAddX_i, fLt_i, fLe_i, fGt_i, fGe_i, fEq_i, fEq_s, fEq_b, fNe_i, fNe_s, fNe_b, fNot_b, fNeg_i, fIx_l, fIx_t, fLen_l, fLen_t, fIsi_int_i, fIsi_bool_i, fIsi_bool_b, setTg, Tg.slots, setMany, fldIx, toOwned, datOf, atI_2, e2]; done) | (simp (decide := true) [execSs, execS, evalE, evalAs, evalEs, evalP, evalI, slot, insOk, atPl, M.at, M.kids, M.kind, nodupB, Ag.roots, Ag.flat, As.vals, E.pure, Es.pure, As.pure, Path.pure, argMs, Mi.callEnd, backAs, putPl, M.put, M.setKid, M.toD, viewE, D.hard, D.hard.hards, datsOf, onDat, outD, fSub_i, fAddI_i, fAddX_i, fLt_i, fLe_i, fGt_i, fGe_i, fEq_i, fEq_s, fEq_b, fNe_i, fNe_s, fNe_b, fNot_b, fNeg_i, fIx_l, fIx_t, fLen_l, fLen_t, fIsi_int_i, fIsi_bool_i, fIsi_bool_b, setTg, Tg.slots, setMany, fldIx, toOwned, datOf, atI_2, e2]; rfl))).trans ?_
    refine (ex_nx (by first | (simp (decide := true) [execSs, execS, evalE, evalAs, evalEs, evalP, evalI, slot, insOk, atPl, M.at, M.kids, M.kind, nodupB, Ag.roots, Ag.flat, As.vals, E.pure, Es.pure, As.pure, Path.pure, argMs, Mi.callEnd, backAs, putPl, M.put, M.setKid, M.toD, viewE, D.hard, D.hard.hards, datsOf, onDat, outD, fSub_i, fAddI_i, fAddX_i, fLt_i, fLe_i, fGt_i, fGe_i, fEq_i, fEq_s, fEq_b, fNe_i, fNe_s, fNe_b, fNot_b, fNeg_i, fIx_l, fIx_t, fLen_l, fLen_t, fIsi_int_i, fIsi_bool_i, fIsi_bool_b, setTg, Tg.slots, setMany, fldIx, toOwned, datOf, n7, n8]; done) | (simp (decide := true) [execSs, execS, evalE, evalAs, evalEs, evalP, evalI, slot, insOk, atPl, M.at, M.kids, M.kind, nodupB, Ag.roots, Ag.flat, As.vals, E.pure, Es.pure, As.pure, Path.pure, argMs, Mi.callEnd, backAs, putPl, M.put, M.setKid, M.toD, viewE, D.hard, D.hard.hards, datsOf, onDat, outD, fSub_i, fAddI_i, fAddX_i, fLt_i, fLe_i, fGt_i, fGe_i, fEq_i, fEq_s, fEq_b, fNe_i, fNe_s, fNe_b, fNot_b, fNeg_i, fIx_l, fIx_t, fLen_l, fLen_t, fIsi_int_i, fIsi_bool_i, fIsi_bool_b, setTg, Tg.slots, setMany, fldIx, toOwned, datOf, n7, n8]; rfl))).trans ?_
    refine ex_ret (by first | (simp (decide := true) [execSs, execS, evalE, evalAs, evalEs, evalP, evalI, slot, insOk, atPl, M.at, M.kids, M.kind, nodupB, Ag.roots, Ag.flat, As.vals, E.pure, Es.pure, As.pure, Path.pure, argMs, Mi.callEnd, backAs, putPl, M.put, M.setKid, M.toD, viewE, D.hard, D.hard.hards, datsOf, onDat, outD, fSub_i, fAddI_i, fAddX_i, fLt_i, fLe_i, fGt_i, fGe_i, fEq_i, fEq_s, fEq_b, fNe_i, fNe_s, fNe_b, fNot_b, fNeg_i, fIx_l, fIx_t, fLen_l, fLen_t, fIsi_int_i, fIsi_bool_i, fIsi_bool_b, setTg, Tg.slots, setMany, fldIx, toOwned, datOf, e3, Vl.d]; done) | (simp (decide := true) [execSs, execS, evalE, evalAs, evalEs, evalP, evalI, slot, insOk, atPl, M.at, M.kids, M.kind, nodupB, Ag.roots, Ag.flat, As.vals, E.pure, Es.pure, As.pure, Path.pure, argMs, Mi.callEnd, backAs, putPl, M.put, M.setKid, M.toD, viewE, D.hard, D.hard.hards, datsOf, onDat, outD, fSub_i, fAddI_i, fAddX_i, fLt_i, fLe_i, fGt_i, fGe_i, fEq_i, fEq_s, fEq_b, fNe_i, fNe_s, fNe_b, fNot_b, fNeg_i, fIx_l, fIx_t, fLen_l, fLen_t, fIsi_int_i, fIsi_bool_i, fIsi_bool_b, setTg, Tg.slots, setMany, fldIx, toOwned, datOf, e3, Vl.d]; rfl))
  | none =>
    rw [q] at e3
    simp only [crO] at e3
    refine call_err (fn := fn8) rfl rfl ((skip7 nw).trans ?_) (μ' := [some (.dat F), some (.dat (.tup [.str w, a, b])), some (.dat nm), some c2, some (.dat (.str w)), some (.dat (.int x)), some (.dat (.int y)), none])
    unfold T7 fn8
    refine (ex_nx (by first | (simp (decide := true) [execSs, execS, evalE, evalAs, evalEs, evalP, evalI, slot, insOk, atPl, M.at, M.kids, M.kind, nodupB, Ag.roots, Ag.flat, As.vals, E.pure, Es.pure, As.pure, Path.pure, argMs, Mi.callEnd, backAs, putPl, M.put, M.setKid, M.toD, viewE, D.hard, D.hard.hards, datsOf, onDat, outD, fSub_i, fAddI_i, fAddX_i, fLt_i, fLe_i, fGt_i, fGe_i, fEq_i, fEq_s, fEq_b, fNe_i, fNe_s, fNe_b, fNot_b, fNeg_i, fIx_l, fIx_t, fLen_l, fLen_t, fIsi_int_i, fIsi_bool_i, fIsi_bool_b, setTg, Tg.slots, setMany, fldIx, toOwned, datOf, atI_1, e, tl]; done) | (simp (decide := true) [execSs, execS, evalE, evalAs, evalEs, evalP, evalI, slot, insOk, atPl, M.at, M.kids, M.kind, nodupB, Ag.roots, Ag.flat, As.vals, E.pure, Es.pure, As.pure, Path.pure, argMs, Mi.callEnd, backAs, putPl, M.put, M.setKid, M.toD, viewE, D.hard, D.hard.hards, datsOf, onDat, outD, fSub_i, fAddI_i, fAddX_i, fLt_i, fLe_i, fGt_i, fGe_i, fEq_i, fEq_s, fEq_b, fNe_i, fNe_s, fNe_b, fNot_b, fNeg_i, fIx_l, fIx_t, fLen_l, fLen_t, fIsi_int_i, fIsi_bool_i, fIsi_bool_b, setTg, Tg.slots, setMany, fldIx, toOwned, datOf, atI_1, e, tl]; rfl))).trans ?_
    refine (ex_nx (by first | (simp (decide := true) [execSs, execS, evalE, evalAs, evalEs, evalP, evalI, slot, insOk, atPl, M.at, M.kids, M.kind, nodupB, Ag.roots, Ag.flat, As.vals, E.pure, Es.pure, As.pure, Path.pure, argMs, Mi.callEnd, backAs, putPl, M.put, M.setKid, M.toD, viewE, D.hard, D.hard.hards, datsOf, onDat, outD, fSub_i, fAddI_i, fAddX_i, fLt_i, fLe_i, fGt_i, fGe_i, fEq_i, fEq_s, fEq_b, fNe_i, fNe_s, fNe_b, fNot_b, fNeg_i, fIx_l, fIx_t, fLen_l, fLen_t, fIsi_int_i, fIsi_bool_i, fIsi_bool_b, setTg, Tg.slots, setMany, fldIx, toOwned, datOf]; done) | (simp (decide := true) [execSs, execS, evalE, evalAs, evalEs, evalP, evalI, slot, insOk, atPl, M.at, M.kids, M.kind, nodupB, Ag.roots, Ag.flat, As.vals, E.pure, Es.pure, As.pure, Path.pure, argMs, Mi.callEnd, backAs, putPl, M.put, M.setKid, M.toD, viewE, D.hard, D.hard.hards, datsOf, onDat, outD, fSub_i, fAddI_i, fAddX_i, fLt_i, fLe_i, fGt_i, fGe_i, fEq_i, fEq_s, fEq_b, fNe_i, fNe_s, fNe_b, fNot_b, fNeg_i, fIx_l, fIx_t, fLen_l, fLen_t, fIsi_int_i, fIsi_bool_i, fIsi_bool_b, setTg, Tg.slots, setMany, fldIx, toOwned, datOf]; rfl))).trans ?_
    refine (ex_nx (by first | (simp (decide := true) [execSs, execS, evalE, evalAs, evalEs, evalP, evalI, slot, insOk, atPl, M.at, M.kids, M.kind, nodupB, Ag.roots, Ag.flat, As.vals, E.pure, Es.pure, As.pure, Path.pure, argMs, Mi.callEnd, backAs, putPl, M.put, M.setKid, M.toD, viewE, D.hard, D.hard.hards, datsOf, onDat, outD, fSub_i, fAddI_i, fAddX_i, fLt_i, fLe_i, fGt_i, fGe_i, fEq_i, fEq_s, fEq_b, fNe_i, fNe_s, fNe_b, fNot_b, fNeg_i, fIx_l, fIx_t, fLen_l, fLen_t, fIsi_int_i, fIsi_bool_i, fIsi_bool_b, setTg, Tg.slots, setMany, fldIx, toOwned, datOf, atI_2, e2]; done) | (simp (decide := true) [execSs, execS, evalE, evalAs, evalEs, evalP, evalI, slot, insOk, atPl, M.at, M.kids, M.kind, nodupB, Ag.roots, Ag.flat, As.vals, E.pure, Es.pure, As.pure, Path.pure, argMs, Mi.callEnd, backAs, putPl, M.put, M.setKid, M.toD, viewE, D.hard, D.hard.hards, datsOf, onDat, outD, fSub_i, fAddI_i, fAddX_i, fLt_i, fLe_i, fGt_i, fGe_i, fEq_i, fEq_s, fEq_b, fNe_i, fNe_s, fNe_b, fNot_b, fNeg_i, fIx_l, fIx_t, fLen_l, fLen_t, fIsi_int_i, fIsi_bool_i, fIsi_bool_b, setTg, Tg.slots, setMany, fldIx, toOwned, datOf, atI_2, e2]; rfl))).trans ?_
    refine (ex_nx (by first | (simp (decide := true) [execSs, execS, evalE, evalAs, evalEs, evalP, evalI, slot, insOk, atPl, M.at, M.kids, M.kind, nodupB, Ag.roots, Ag.flat, As.vals, E.pure, Es.pure, As.pure, Path.pure, argMs, Mi.callEnd, backAs, putPl, M.put, M.setKid, M.toD, viewE, D.hard, D.hard.hards, datsOf, onDat, outD, fSub_i, fAddI_i, fAddX_i, fLt_i, fLe_i, fGt_i, fGe_i, fEq_i, fEq_s, fEq_b, fNe_i, fNe_s, fNe_b, fNot_b, fNeg_i, fIx_l, fIx_t, fLen_l, fLen_t, fIsi_int_i, fIsi_bool_i, fIsi_bool_b, setTg, Tg.slots, setMany, fldIx, toOwned, datOf, n7, n8]; done) | (simp (decide := true) [execSs, execS, evalE, evalAs, evalEs, evalP, evalI, slot, insOk, atPl, M.at, M.kids, M.kind, nodupB, Ag.roots, Ag.flat, As.vals, E.pure, Es.pure, As.pure, Path.pure, argMs, Mi.callEnd, backAs, putPl, M.put, M.setKid, M.toD, viewE, D.hard, D.hard.hards, datsOf, onDat, outD, fSub_i, fAddI_i, fAddX_i, fLt_i, fLe_i, fGt_i, fGe_i, fEq_i, fEq_s, fEq_b, fNe_i, fNe_s, fNe_b, fNot_b, fNeg_i, fIx_l, fIx_t, fLen_l, fLen_t, fIsi_int_i, fIsi_bool_i, fIsi_bool_b, setTg, Tg.slots, setMany, fldIx, toOwned, datOf, n7, n8]; rfl))).trans ?_
    refine ex_er ?_
    simp (decide := true) [execSs, execS, evalE, evalAs, evalEs, evalP, evalI, slot, insOk, atPl, M.at, M.kids, M.kind, nodupB, Ag.roots, Ag.flat, As.vals, E.pure, Es.pure, As.pure, Path.pure, argMs, Mi.callEnd, backAs, putPl, M.put, M.setKid, M.toD, viewE, D.hard, D.hard.hards, datsOf, onDat, outD, fSub_i, fAddI_i, fAddX_i, fLt_i, fLe_i, fGt_i, fGe_i, fEq_i, fEq_s, fEq_b, fNe_i, fNe_s, fNe_b, fNot_b, fNeg_i, fIx_l, fIx_t, fLen_l, fLen_t, fIsi_int_i, fIsi_bool_i, fIsi_bool_b, setTg, Tg.slots, setMany, fldIx, toOwned, datOf, e3]
/-- an if -/
theorem wk_if {a b d : D} {x : Int} (e : callF sub tab bigN k 8 [.dat F, .dat a, .dat nm, c] = okc (.num x) c1) {y : D} (hy : y = if x = 0 then d else b) {R : Vl} (e2 : callF sub tab bigN k 8 [.dat F, .dat y, .dat nm, c1] = okc R c2) :
    callF sub tab bigN (k + 1) 8 [.dat F, .dat (.tup [.str "if", a, b, d]), .dat nm, c] = okc R c2 := by
  unfold okc at e e2
  simp only [Vl.d] at e
  have e4 : atI [D.str "if", a, b, d] 3 = some d := atI_nat (xs := [D.str "if", a, b, d]) (j := 3) (v := d) rfl
  refine call_ret (fn := fn8) rfl rfl ?_ (μ' := [some (.dat F), some (.dat (.tup [.str "if", a, b, d])), some (.dat nm), some c2, some (.dat (.str "if")), none, none, none])
  unfold fn8
  refine (ex_nx (by first | (simp (decide := true) [execSs, execS, evalE, evalAs, evalEs, evalP, evalI, slot, insOk, atPl, M.at, M.kids, M.kind, nodupB, Ag.roots, Ag.flat, As.vals, E.pure, Es.pure, As.pure, Path.pure, argMs, Mi.callEnd, backAs, putPl, M.put, M.setKid, M.toD, viewE, D.hard, D.hard.hards, datsOf, onDat, outD, fSub_i, fAddI_i, fAddX_i, fLt_i, fLe_i, fGt_i, fGe_i, fEq_i, fEq_s, fEq_b, fNe_i, fNe_s, fNe_b, fNot_b, fNeg_i, fIx_l, fIx_t, fLen_l, fLen_t, fIsi_int_i, fIsi_bool_i, fIsi_bool_b, setTg, Tg.slots, setMany, fldIx, toOwned, datOf, startE, atI_0]; done) | (simp (decide := true) [execSs, execS, evalE, evalAs, evalEs, evalP, evalI, slot, insOk, atPl, M.at, M.kids, M.kind, nodupB, Ag.roots, Ag.flat, As.vals, E.pure, Es.pure, As.pure, Path.pure, argMs, Mi.callEnd, backAs, putPl, M.put, M.setKid, M.toD, viewE, D.hard, D.hard.hards, datsOf, onDat, outD, fSub_i, fAddI_i, fAddX_i, fLt_i, fLe_i, fGt_i, fGe_i, fEq_i, fEq_s, fEq_b, fNe_i, fNe_s, fNe_b, fNot_b, fNeg_i, fIx_l, fIx_t, fLen_l, fLen_t, fIsi_int_i, fIsi_bool_i, fIsi_bool_b, setTg, Tg.slots, setMany, fldIx, toOwned, datOf, startE, atI_0]; rfl))).trans ?_
  refine (ex_nx (by first | (simp (decide := true) [execSs, execS, evalE, evalAs, evalEs, evalP, evalI, slot, insOk, atPl, M.at, M.kids, M.kind, nodupB, Ag.roots, Ag.flat, As.vals, E.pure, Es.pure, As.pure, Path.pure, argMs, Mi.callEnd, backAs, putPl, M.put, M.setKid, M.toD, viewE, D.hard, D.hard.hards, datsOf, onDat, outD, fSub_i, fAddI_i, fAddX_i, fLt_i, fLe_i, fGt_i, fGe_i, fEq_i, fEq_s, fEq_b, fNe_i, fNe_s, fNe_b, fNot_b, fNeg_i, fIx_l, fIx_t, fLen_l, fLen_t, fIsi_int_i, fIsi_bool_i, fIsi_bool_b, setTg, Tg.slots, setMany, fldIx, toOwned, datOf]; done) | (simp (decide := true) [execSs, execS, evalE, evalAs, evalEs, evalP, evalI, slot, insOk, atPl, M.at, M.kids, M.kind, nodupB, Ag.roots, Ag.flat, As.vals, E.pure, Es.pure, As.pure, Path.pure, argMs, Mi.callEnd, backAs, putPl, M.put, M.setKid, M.toD, viewE, D.hard, D.hard.hards, datsOf, onDat, outD, fSub_i, fAddI_i, fAddX_i, fLt_i, fLe_i, fGt_i, fGe_i, fEq_i, fEq_s, fEq_b, fNe_i, fNe_s, fNe_b, fNot_b, fNeg_i, fIx_l, fIx_t, fLen_l, fLen_t, fIsi_int_i, fIsi_bool_i, fIsi_bool_b, setTg, Tg.slots, setMany, fldIx, toOwned, datOf]; rfl))).trans ?_
  refine (ex_nx (by first | (simp (decide := true) [execSs, execS, evalE, evalAs, evalEs, evalP, evalI, slot, insOk, atPl, M.at, M.kids, M.kind, nodupB, Ag.roots, Ag.flat, As.vals, E.pure, Es.pure, As.pure, Path.pure, argMs, Mi.callEnd, backAs, putPl, M.put, M.setKid, M.toD, viewE, D.hard, D.hard.hards, datsOf, onDat, outD, fSub_i, fAddI_i, fAddX_i, fLt_i, fLe_i, fGt_i, fGe_i, fEq_i, fEq_s, fEq_b, fNe_i, fNe_s, fNe_b, fNot_b, fNeg_i, fIx_l, fIx_t, fLen_l, fLen_t, fIsi_int_i, fIsi_bool_i, fIsi_bool_b, setTg, Tg.slots, setMany, fldIx, toOwned, datOf]; done) | (simp (decide := true) [execSs, execS, evalE, evalAs, evalEs, evalP, evalI, slot, insOk, atPl, M.at, M.kids, M.kind, nodupB, Ag.roots, Ag.flat, As.vals, E.pure, Es.pure, As.pure, Path.pure, argMs, Mi.callEnd, backAs, putPl, M.put, M.setKid, M.toD, viewE, D.hard, D.hard.hards, datsOf, onDat, outD, fSub_i, fAddI_i, fAddX_i, fLt_i, fLe_i, fGt_i, fGe_i, fEq_i, fEq_s, fEq_b, fNe_i, fNe_s, fNe_b, fNot_b, fNeg_i, fIx_l, fIx_t, fLen_l, fLen_t, fIsi_int_i, fIsi_bool_i, fIsi_bool_b, setTg, Tg.slots, setMany, fldIx, toOwned, datOf]; rfl))).trans ?_
  refine (ex_nx (by first | (simp (decide := true) [execSs, execS, evalE, evalAs, evalEs, evalP, evalI, slot, insOk, atPl, M.at, M.kids, M.kind, nodupB, Ag.roots, Ag.flat, As.vals, E.pure, Es.pure, As.pure, Path.pure, argMs, Mi.callEnd, backAs, putPl, M.put, M.setKid, M.toD, viewE, D.hard, D.hard.hards, datsOf, onDat, outD, fSub_i, fAddI_i, fAddX_i, fLt_i, fLe_i, fGt_i, fGe_i, fEq_i, fEq_s, fEq_b, fNe_i, fNe_s, fNe_b, fNot_b, fNeg_i, fIx_l, fIx_t, fLen_l, fLen_t, fIsi_int_i, fIsi_bool_i, fIsi_bool_b, setTg, Tg.slots, setMany, fldIx, toOwned, datOf]; done) | (simp (decide := true) [execSs, execS, evalE, evalAs, evalEs, evalP, evalI, slot, insOk, atPl, M.at, M.kids, M.kind, nodupB, Ag.roots, Ag.flat, As.vals, E.pure, Es.pure, As.pure, Path.pure, argMs, Mi.callEnd, backAs, putPl, M.put, M.setKid, M.toD, viewE, D.hard, D.hard.hards, datsOf, onDat, outD, fSub_i, fAddI_i, fAddX_i, fLt_i, fLe_i, fGt_i, fGe_i, fEq_i, fEq_s, fEq_b, fNe_i, fNe_s, fNe_b, fNot_b, fNeg_i, fIx_l, fIx_t, fLen_l, fLen_t, fIsi_int_i, fIsi_bool_i, fIsi_bool_b, setTg, Tg.slots, setMany, fldIx, toOwned, datOf]; rfl))).trans ?_
  refine (ex_nx (by first | (simp (decide := true) [execSs, execS, evalE, evalAs, evalEs, evalP, evalI, slot, insOk, atPl, M.at, M.kids, M.kind, nodupB, Ag.roots, Ag.flat, As.vals, E.pure, Es.pure, As.pure, Path.pure, argMs, Mi.callEnd, backAs, putPl, M.put, M.setKid, M.toD, viewE, D.hard, D.hard.hards, datsOf, onDat, outD, fSub_i, fAddI_i, fAddX_i, fLt_i, fLe_i, fGt_i, fGe_i, fEq_i, fEq_s, fEq_b, fNe_i, fNe_s, fNe_b, fNot_b, fNeg_i, fIx_l, fIx_t, fLen_l, fLen_t, fIsi_int_i, fIsi_bool_i, fIsi_bool_b, setTg, Tg.slots, setMany, fldIx, toOwned, datOf]; done) | (simp (decide := true) [execSs, execS, evalE, evalAs, evalEs, evalP, evalI, slot, insOk, atPl, M.at, M.kids, M.kind, nodupB, Ag.roots, Ag.flat, As.vals, E.pure, Es.pure, As.pure, Path.pure, argMs, Mi.callEnd, backAs, putPl, M.put, M.setKid, M.toD, viewE, D.hard, D.hard.hards, datsOf, onDat, outD, fSub_i, fAddI_i, fAddX_i, fLt_i, fLe_i, fGt_i, fGe_i, fEq_i, fEq_s, fEq_b, fNe_i, fNe_s, fNe_b, fNot_b, fNeg_i, fIx_l, fIx_t, fLen_l, fLen_t, fIsi_int_i, fIsi_bool_i, fIsi_bool_b, setTg, Tg.slots, setMany, fldIx, toOwned, datOf]; rfl))).trans ?_
  refine (ex_nx (by first | (simp (decide := true) [execSs, execS, evalE, evalAs, evalEs, evalP, evalI, slot, insOk, atPl, M.at, M.kids, M.kind, nodupB, Ag.roots, Ag.flat, As.vals, E.pure, Es.pure, As.pure, Path.pure, argMs, Mi.callEnd, backAs, putPl, M.put, M.setKid, M.toD, viewE, D.hard, D.hard.hards, datsOf, onDat, outD, fSub_i, fAddI_i, fAddX_i, fLt_i, fLe_i, fGt_i, fGe_i, fEq_i, fEq_s, fEq_b, fNe_i, fNe_s, fNe_b, fNot_b, fNeg_i, fIx_l, fIx_t, fLen_l, fLen_t, fIsi_int_i, fIsi_bool_i, fIsi_bool_b, setTg, Tg.slots, setMany, fldIx, toOwned, datOf]; done) | (simp (decide := true) [execSs, execS, evalE, evalAs, evalEs, evalP, evalI, slot, insOk, atPl, M.at, M.kids, M.kind, nodupB, Ag.roots, Ag.flat, As.vals, E.pure, Es.pure, As.pure, Path.pure, argMs, Mi.callEnd, backAs, putPl, M.put, M.setKid, M.toD, viewE, D.hard, D.hard.hards, datsOf, onDat, outD, fSub_i, fAddI_i, fAddX_i, fLt_i, fLe_i, fGt_i, fGe_i, fEq_i, fEq_s, fEq_b, fNe_i, fNe_s, fNe_b, fNot_b, fNeg_i, fIx_l, fIx_t, fLen_l, fLen_t, fIsi_int_i, fIsi_bool_i, fIsi_bool_b, setTg, Tg.slots, setMany, fldIx, toOwned, datOf]; rfl))).trans ?_
  by_cases hx : x = 0
  · rw [if_pos hx] at hy
    subst hy
    refine ex_ret (by first | (simp (decide := true) [execSs, execS, evalE, evalAs, evalEs, evalP, evalI, slot, insOk, atPl, M.at, M.kids, M.kind, nodupB, Ag.roots, Ag.flat, As.vals, E.pure, Es.pure, As.pure, Path.pure, argMs, Mi.callEnd, backAs, putPl, M.put, M.setKid, M.toD, viewE, D.hard, D.hard.hards, datsOf, onDat, outD, fSub_i, fAddI_i, fAddX_i, fLt_i, fLe_i, fGt_i, fGe_i, fEq_i, fEq_s, fEq_b, fNe_i, fNe_s, fNe_b, fNot_b, fNeg_i, fIx_l, fIx_t, fLen_l, fLen_t, fIsi_int_i, fIsi_bool_i, fIsi_bool_b, setTg, Tg.slots, setMany, fldIx, toOwned, datOf, atI_1, e, hx, e4, e2]; done) | (simp (decide := true) [execSs, execS, evalE, evalAs, evalEs, evalP, evalI, slot, insOk, atPl, M.at, M.kids, M.kind, nodupB, Ag.roots, Ag.flat, As.vals, E.pure, Es.pure, As.pure, Path.pure, argMs, Mi.callEnd, backAs, putPl, M.put, M.setKid, M.toD, viewE, D.hard, D.hard.hards, datsOf, onDat, outD, fSub_i, fAddI_i, fAddX_i, fLt_i, fLe_i, fGt_i, fGe_i, fEq_i, fEq_s, fEq_b, fNe_i, fNe_s, fNe_b, fNot_b, fNeg_i, fIx_l, fIx_t, fLen_l, fLen_t, fIsi_int_i, fIsi_bool_i, fIsi_bool_b, setTg, Tg.slots, setMany, fldIx, toOwned, datOf, atI_1, e, hx, e4, e2]; rfl))
  · rw [if_neg hx] at hy
    subst hy
    refine ex_ret (by first | (simp (decide := true) [execSs, execS, evalE, evalAs, evalEs, evalP, evalI, slot, insOk, atPl, M.at, M.kids, M.kind, nodupB, Ag.roots, Ag.flat, As.vals, E.pure, Es.pure, As.pure, Path.pure, argMs, Mi.callEnd, backAs, putPl, M.put, M.setKid, M.toD, viewE, D.hard, D.hard.hards, datsOf, onDat, outD, fSub_i, fAddI_i, fAddX_i, fLt_i, fLe_i, fGt_i, fGe_i, fEq_i, fEq_s, fEq_b, fNe_i, fNe_s, fNe_b, fNot_b, fNeg_i, fIx_l, fIx_t, fLen_l, fLen_t, fIsi_int_i, fIsi_bool_i, fIsi_bool_b, setTg, Tg.slots, setMany, fldIx, toOwned, datOf, atI_1, e, hx, atI_2, e2]; done) | (simp (decide := true) [execSs, execS, evalE, evalAs, evalEs, evalP, evalI, slot, insOk, atPl, M.at, M.kids, M.kind, nodupB, Ag.roots, Ag.flat, As.vals, E.pure, Es.pure, As.pure, Path.pure, argMs, Mi.callEnd, backAs, putPl, M.put, M.setKid, M.toD, viewE, D.hard, D.hard.hards, datsOf, onDat, outD, fSub_i, fAddI_i, fAddX_i, fLt_i, fLe_i, fGt_i, fGe_i, fEq_i, fEq_s, fEq_b, fNe_i, fNe_s, fNe_b, fNot_b, fNeg_i, fIx_l, fIx_t, fLen_l, fLen_t, fIsi_int_i, fIsi_bool_i, fIsi_bool_b, setTg, Tg.slots, setMany, fldIx, toOwned, datOf, atI_1, e, hx, atI_2, e2]; rfl))
theorem wk_if_er {a b d : D} {x : Int} (e : callF sub tab bigN k 8 [.dat F, .dat a, .dat nm, c] = okc (.num x) c1) {y : D} (hy : y = if x = 0 then d else b) {er : Str} (e2 : callF sub tab bigN k 8 [.dat F, .dat y, .dat nm, c1] = erc er c2) :
    callF sub tab bigN (k + 1) 8 [.dat F, .dat (.tup [.str "if", a, b, d]), .dat nm, c] = erc er c2 := by
  unfold okc at e
  unfold erc at e2
  simp only [Vl.d] at e
  have e4 : atI [D.str "if", a, b, d] 3 = some d := atI_nat (xs := [D.str "if", a, b, d]) (j := 3) (v := d) rfl
  refine call_err (fn := fn8) rfl rfl ?_ (μ' := [some (.dat F), some (.dat (.tup [.str "if", a, b, d])), some (.dat nm), some c2, some (.dat (.str "if")), none, none, none])
  unfold fn8
  refine (ex_nx (by first | (simp (decide := true) [execSs, execS, evalE, evalAs, evalEs, evalP, evalI, slot, insOk, atPl, M.at, M.kids, M.kind, nodupB, Ag.roots, Ag.flat, As.vals, E.pure, Es.pure, As.pure, Path.pure, argMs, Mi.callEnd, backAs, putPl, M.put, M.setKid, M.toD, viewE, D.hard, D.hard.hards, datsOf, onDat, outD, fSub_i, fAddI_i, fAddX_i, fLt_i, fLe_i, fGt_i, fGe_i, fEq_i, fEq_s, fEq_b, fNe_i, fNe_s, fNe_b, fNot_b, fNeg_i, fIx_l, fIx_t, fLen_l, fLen_t, fIsi_int_i, fIsi_bool_i, fIsi_bool_b, setTg, Tg.slots, setMany, fldIx, toOwned, datOf, startE, atI_0]; done) | (simp (decide := true) [execSs, execS, evalE, evalAs, evalEs, evalP, evalI, slot, insOk, atPl, M.at, M.kids, M.kind, nodupB, Ag.roots, Ag.flat, As.vals, E.pure, Es.pure, As.pure, Path.pure, argMs, Mi.callEnd, backAs, putPl, M.put, M.setKid, M.toD, viewE, D.hard, D.hard.hards, datsOf, onDat, outD, fSub_i, fAddI_i, fAddX_i, fLt_i, fLe_i, fGt_i, fGe_i, fEq_i, fEq_s, fEq_b, fNe_i, fNe_s, fNe_b, fNot_b, fNeg_i, fIx_l, fIx_t, fLen_l, fLen_t, fIsi_int_i, fIsi_bool_i, fIsi_bool_b, setTg, Tg.slots, setMany, fldIx, toOwned, datOf, startE, atI_0]; rfl))).trans ?_
  refine (ex_nx (by first | (simp (decide := true) [execSs, execS, evalE, evalAs, evalEs, evalP, evalI, slot, insOk, atPl, M.at, M.kids, M.kind, nodupB, Ag.roots, Ag.flat, As.vals, E.pure, Es.pure, As.pure, Path.pure, argMs, Mi.callEnd, backAs, putPl, M.put, M.setKid, M.toD, viewE, D.hard, D.hard.hards, datsOf, onDat, outD, fSub_i, fAddI_i, fAddX_i, fLt_i, fLe_i, fGt_i, fGe_i, fEq_i, fEq_s, fEq_b, fNe_i, fNe_s, fNe_b, fNot_b, fNeg_i, fIx_l, fIx_t, fLen_l, fLen_t, fIsi_int_i, fIsi_bool_i, fIsi_bool_b, setTg, Tg.slots, setMany, fldIx, toOwned, datOf]; done) | (simp (decide := true) [execSs, execS, evalE, evalAs, evalEs, evalP, evalI, slot, insOk, atPl, M.at, M.kids, M.kind, nodupB, Ag.roots, Ag.flat, As.vals, E.pure, Es.pure, As.pure, Path.pure, argMs, Mi.callEnd, backAs, putPl, M.put, M.setKid, M.toD, viewE, D.hard, D.hard.hards, datsOf, onDat, outD, fSub_i, fAddI_i, fAddX_i, fLt_i, fLe_i, fGt_i, fGe_i, fEq_i, fEq_s, fEq_b, fNe_i, fNe_s, fNe_b, fNot_b, fNeg_i, fIx_l, fIx_t, fLen_l, fLen_t, fIsi_int_i, fIsi_bool_i, fIsi_bool_b, setTg, Tg.slots, setMany, fldIx, toOwned, datOf]; rfl))).trans ?_
  refine (ex_nx (by first | (simp (decide := true) [execSs, execS, evalE, evalAs, evalEs, evalP, evalI, slot, insOk, atPl, M.at, M.kids, M.kind, nodupB, Ag.roots, Ag.flat, As.vals, E.pure, Es.pure, As.pure, Path.pure, argMs, Mi.callEnd, backAs, putPl, M.put, M.setKid, M.toD, viewE, D.hard, D.hard.hards, datsOf, onDat, outD, fSub_i, fAddI_i, fAddX_i, fLt_i, fLe_i, fGt_i, fGe_i, fEq_i, fEq_s, fEq_b, fNe_i, fNe_s, fNe_b, fNot_b, fNeg_i, fIx_l, fIx_t, fLen_l, fLen_t, fIsi_int_i, fIsi_bool_i, fIsi_bool_b, setTg, Tg.slots, setMany, fldIx, toOwned, datOf]; done) | (simp (decide := true) [execSs, execS, evalE, evalAs, evalEs, evalP, evalI, slot, insOk, atPl, M.at, M.kids, M.kind, nodupB, Ag.roots, Ag.flat, As.vals, E.pure, Es.pure, As.pure, Path.pure, argMs, Mi.callEnd, backAs, putPl, M.put, M.setKid, M.toD, viewE, D.hard, D.hard.hards, datsOf, onDat, outD, fSub_i, fAddI_i, fAddX_i, fLt_i, fLe_i, fGt_i, fGe_i, fEq_i, fEq_s, fEq_b, fNe_i, fNe_s, fNe_b, fNot_b, fNeg_i, fIx_l, fIx_t, fLen_l, fLen_t, fIsi_int_i, fIsi_bool_i, fIsi_bool_b, setTg, Tg.slots, setMany, fldIx, toOwned, datOf]; rfl))).trans ?_
  refine (ex_nx (by first | (simp (decide := true) [execSs, execS, evalE, evalAs, evalEs, evalP, evalI, slot, insOk, atPl, M.at, M.kids, M.kind, nodupB, Ag.roots, Ag.flat, As.vals, E.pure, Es.pure, As.pure, Path.pure, argMs, Mi.callEnd, backAs, putPl, M.put, M.setKid, M.toD, viewE, D.hard, D.hard.hards, datsOf, onDat, outD, fSub_i, fAddI_i, fAddX_i, fLt_i, fLe_i, fGt_i, fGe_i, fEq_i, fEq_s, fEq_b, fNe_i, fNe_s, fNe_b, fNot_b, fNeg_i, fIx_l, fIx_t, fLen_l, fLen_t, fIsi_int_i, fIsi_bool_i, fIsi_bool_b, setTg, Tg.slots, setMany, fldIx, toOwned, datOf]; done) | (simp (decide := true) [execSs, execS, evalE, evalAs, evalEs, evalP, evalI, slot, insOk, atPl, M.at, M.kids, M.kind, nodupB, Ag.roots, Ag.flat, As.vals, E.pure, Es.pure, As.pure, Path.pure, argMs, Mi.callEnd, backAs, putPl, M.put, M.setKid, M.toD, viewE, D.hard, D.hard.hards, datsOf, onDat, outD, fSub_i, fAddI_i, fAddX_i, fLt_i, fLe_i, fGt_i, fGe_i, fEq_i, fEq_s, fEq_b, fNe_i, fNe_s, fNe_b, fNot_b, fNeg_i, fIx_l, fIx_t, fLen_l, fLen_t, fIsi_int_i, fIsi_bool_i, fIsi_bool_b, setTg, Tg.slots, setMany, fldIx, toOwned, datOf]; rfl))).trans ?_
  refine (ex_nx (by first | (simp (decide := true) [execSs, execS, evalE, evalAs, evalEs, evalP, evalI, slot, insOk, atPl, M.at, M.kids, M.kind, nodupB, Ag.roots, Ag.flat, As.vals, E.pure, Es.pure, As.pure, Path.pure, argMs, Mi.callEnd, backAs, putPl, M.put, M.setKid, M.toD, viewE, D.hard, D.hard.hards, datsOf, onDat, outD, fSub_i, fAddI_i, fAddX_i, fLt_i, fLe_i, fGt_i, fGe_i, fEq_i, fEq_s, fEq_b, fNe_i, fNe_s, fNe_b, fNot_b, fNeg_i, fIx_l, fIx_t, fLen_l, fLen_t, fIsi_int_i, fIsi_bool_i, fIsi_bool_b, setTg, Tg.slots, setMany, fldIx, toOwned, datOf]; done) | (simp (decide := true) [execSs, execS, evalE, evalAs, evalEs, evalP, evalI, slot, insOk, atPl, M.at, M.kids, M.kind, nodupB, Ag.roots, Ag.flat, As.vals, E.pure, Es.pure, As.pure, Path.pure, argMs, Mi.callEnd, backAs, putPl, M.put, M.setKid, M.toD, viewE, D.hard, D.hard.hards, datsOf, onDat, outD, fSub_i, fAddI_i, fAddX_i, fLt_i, fLe_i, fGt_i, fGe_i, fEq_i, fEq_s, fEq_b, fNe_i, fNe_s, fNe_b, fNot_b, fNeg_i, fIx_l, fIx_t, fLen_l, fLen_t, fIsi_int_i, fIsi_bool_i, fIsi_bool_b, setTg, Tg.slots, setMany, fldIx, toOwned, datOf]; rfl))).trans ?_
  refine (ex_nx (by first | (simp (decide := true) [execSs, execS, evalE, evalAs, evalEs, evalP, evalI, slot, insOk, atPl, M.at, M.kids, M.kind, nodupB, Ag.roots, Ag.flat, As.vals, E.pure, Es.pure, As.pure, Path.pure, argMs, Mi.callEnd, backAs, putPl, M.put, M.setKid, M.toD, viewE, D.hard, D.hard.hards, datsOf, onDat, outD, fSub_i, fAddI_i, fAddX_i, fLt_i, fLe_i, fGt_i, fGe_i, fEq_i, fEq_s, fEq_b, fNe_i, fNe_s, fNe_b, fNot_b, fNeg_i, fIx_l, fIx_t, fLen_l, fLen_t, fIsi_int_i, fIsi_bool_i, fIsi_bool_b, setTg, Tg.slots, setMany, fldIx, toOwned, datOf]; done) | (simp (decide := true) [execSs, execS, evalE, evalAs, evalEs, evalP, evalI, slot, insOk, atPl, M.at, M.kids, M.kind, nodupB, Ag.roots, Ag.flat, As.vals, E.pure, Es.pure, As.pure, Path.pure, argMs, Mi.callEnd, backAs, putPl, M.put, M.setKid, M.toD, viewE, D.hard, D.hard.hards, datsOf, onDat, outD, fSub_i, fAddI_i, fAddX_i, fLt_i, fLe_i, fGt_i, fGe_i, fEq_i, fEq_s, fEq_b, fNe_i, fNe_s, fNe_b, fNot_b, fNeg_i, fIx_l, fIx_t, fLen_l, fLen_t, fIsi_int_i, fIsi_bool_i, fIsi_bool_b, setTg, Tg.slots, setMany, fldIx, toOwned, datOf]; rfl))).trans ?_
  refine ex_er ?_
  by_cases hx : x = 0
  · rw [if_pos hx] at hy
    subst hy
    simp (decide := true) [execSs, execS, evalE, evalAs, evalEs, evalP, evalI, slot, insOk, atPl, M.at, M.kids, M.kind, nodupB, Ag.roots, Ag.flat, As.vals, E.pure, Es.pure, As.pure, Path.pure, argMs, Mi.callEnd, backAs, putPl, M.put, M.setKid, M.toD, viewE, D.hard, D.hard.hards, datsOf, onDat, outD, fSub_i, fAddI_i, fAddX_i, fLt_i, fLe_i, fGt_i, fGe_i, fEq_i, fEq_s, fEq_b, fNe_i, fNe_s, fNe_b, fNot_b, fNeg_i, fIx_l, fIx_t, fLen_l, fLen_t, fIsi_int_i, fIsi_bool_i, fIsi_bool_b, setTg, Tg.slots, setMany, fldIx, toOwned, datOf, atI_1, e, hx, e4, e2]
  · rw [if_neg hx] at hy
    subst hy
    simp (decide := true) [execSs, execS, evalE, evalAs, evalEs, evalP, evalI, slot, insOk, atPl, M.at, M.kids, M.kind, nodupB, Ag.roots, Ag.flat, As.vals, E.pure, Es.pure, As.pure, Path.pure, argMs, Mi.callEnd, backAs, putPl, M.put, M.setKid, M.toD, viewE, D.hard, D.hard.hards, datsOf, onDat, outD, fSub_i, fAddI_i, fAddX_i, fLt_i, fLe_i, fGt_i, fGe_i, fEq_i, fEq_s, fEq_b, fNe_i, fNe_s, fNe_b, fNot_b, fNeg_i, fIx_l, fIx_t, fLen_l, fLen_t, fIsi_int_i, fIsi_bool_i, fIsi_bool_b, setTg, Tg.slots, setMany, fldIx, toOwned, datOf, atI_1, e, hx, atI_2, e2]
/-! ### names -/
/-- one more name, or one told anew -/
def putK (k : Key) (v : D) : List Key → List D → List Key × List D
  | k0 :: ks, x :: xs => if k0 = k then (k0 :: ks, v :: xs) else let r := putK k v ks xs; (k0 :: r.1, x :: r.2)
  | _, _ => ([k], [v])
end
end K16
namespace K16
open PySem L2 Mi
/-! ### names and what they hold -/
abbrev Nms := List (Str × Vl)
def nmK (e : Nms) : List Key := e.map fun p => Sum.inr p.1
def nmV (e : Nms) : List D := e.map fun p => p.2.d
def nmD (e : Nms) : D := .dct (nmK e) (nmV e)
def nmM (e : Nms) : M := .dct (nmK e) ((nmV e).map .dat)
def putE (s : Str) (v : Vl) : Nms → Nms
  | [] => [(s, v)]
  | p :: r => if p.1 = s then (s, v) :: r else p :: putE s v r
def getE (s : Str) : Nms → Option Vl
  | [] => none
  | p :: r => if p.1 = s then some p.2 else getE s r
def NoTw : Nms → Prop
  | [] => True
  | p :: r => (∀ q ∈ r, q.1 ≠ p.1) ∧ NoTw r
theorem putE_mem {s : Str} {v : Vl} : ∀ {e : Nms} {q : Str × Vl}, q ∈ putE s v e → q.1 = s ∨ q ∈ e
  | [], q, h => by
    have : q = (s, v) := by simpa [putE] using h
    rw [this]
    exact .inl rfl
  | p :: r, q, h => by
    unfold putE at h
    split at h
    · rcases List.mem_cons.mp h with rfl | h
      · exact .inl rfl
      · exact .inr (List.mem_cons_of_mem _ h)
    · rcases List.mem_cons.mp h with rfl | h
      · exact .inr (List.mem_cons_self ..)
      · exact (putE_mem h).imp id (List.mem_cons_of_mem _)
theorem NoTw.put {s : Str} {v : Vl} : ∀ {e : Nms}, NoTw e → NoTw (putE s v e)
  | [], _ => ⟨fun _ h => (nomatch h), trivial⟩
  | p :: r, h => by
    unfold putE
    split
    · rename_i q
      exact ⟨fun x hx => by rw [← q]; exact h.1 x hx, h.2⟩
    · rename_i q
      refine ⟨fun x hx => ?_, h.2.put⟩
      rcases putE_mem hx with z | z
      · rw [z]
        exact fun z => q z.symm
      · exact h.1 x z
theorem getE_put {s t : Str} {v : Vl} : ∀ {e : Nms}, getE t (putE s v e) = if s = t then some v else getE t e
  | [] => rfl
  | p :: r => by
    unfold putE
    by_cases q : p.1 = s
    · rw [if_pos q]
      show (if s = t then some v else getE t r) = if s = t then some v else (if p.1 = t then some p.2 else getE t r)
      by_cases w : s = t
      · rw [if_pos w, if_pos w]
      · rw [if_neg w, if_neg w, if_neg (by rw [q]; exact w)]
    · rw [if_neg q]
      show (if p.1 = t then some p.2 else getE t (putE s v r)) = if s = t then some v else (if p.1 = t then some p.2 else getE t r)
      rw [getE_put (e := r)]
      by_cases w : s = t
      · rw [if_pos w, if_pos w, if_neg (by rw [← w]; exact q)]
      · rw [if_neg w, if_neg w]
theorem hasK_nm {s : Str} : ∀ {e : Nms}, hasK (nmK e) (Sum.inr s) = true ↔ ∃ q ∈ e, q.1 = s
  | [] => by simp [nmK, hasK]
  | p :: r => by
    show (decide ((Sum.inr p.1 : Key) = Sum.inr s) || hasK (nmK r) (Sum.inr s)) = true ↔ _
    rw [Bool.or_eq_true, decide_eq_true_eq, hasK_nm (e := r)]
    simp
theorem putMs_nm {s : Str} {v : Vl} : ∀ {e : Nms}, NoTw e → (∃ q ∈ e, q.1 = s) → putMs (Sum.inr s) (.dat v.d) (nmK e) ((nmV e).map .dat) = some ((nmV (putE s v e)).map .dat) ∧ nmK (putE s v e) = nmK e
  | [], _, h => by
    obtain ⟨q, hq, _⟩ := h
    cases hq
  | p :: r, n, h => by
    show (if (Sum.inr p.1 : Key) = Sum.inr s then (if hasK (nmK r) (Sum.inr s) = true then none else some (.dat v.d :: (nmV r).map .dat)) else (putMs (Sum.inr s) (.dat v.d) (nmK r) ((nmV r).map .dat)).map (.dat p.2.d :: ·)) = _ ∧ _
    by_cases q : p.1 = s
    · have e1 : putE s v (p :: r) = (s, v) :: r := by unfold putE; rw [if_pos q]
      rw [if_pos (by rw [q]), e1]
      rw [if_neg (fun z => by
        obtain ⟨x, hx, hs⟩ := hasK_nm.mp z
        exact n.1 x hx (by rw [hs, q]))]
      exact ⟨rfl, by show (Sum.inr s : Key) :: nmK r = Sum.inr p.1 :: nmK r; rw [q]⟩
    · have e1 : putE s v (p :: r) = p :: putE s v r := by
        show (if p.1 = s then _ else _) = _
        rw [if_neg q]
      have h' : ∃ x ∈ r, x.1 = s := by
        obtain ⟨x, hx, hs⟩ := h
        rcases List.mem_cons.mp hx with rfl | hx
        · exact absurd hs q
        · exact ⟨x, hx, hs⟩
      obtain ⟨k1, k2⟩ := putMs_nm n.2 h'
      rw [if_neg (fun z => q (Sum.inr.inj z)), e1, k1]
      exact ⟨rfl, by show (Sum.inr p.1 : Key) :: nmK (putE s v r) = Sum.inr p.1 :: nmK r; rw [k2]⟩
theorem putE_new {s : Str} {v : Vl} : ∀ {e : Nms}, (¬ ∃ q ∈ e, q.1 = s) → putE s v e = e ++ [(s, v)]
  | [], _ => rfl
  | p :: r, h => by
    show (if p.1 = s then _ else _) = _
    rw [if_neg (fun z => h ⟨p, List.mem_cons_self .., z⟩), putE_new (e := r) fun ⟨x, hx, hs⟩ => h ⟨x, List.mem_cons_of_mem _ hx, hs⟩]
    rfl
theorem putD_ok {e : Nms} {s : Str} {v : Vl} (n : NoTw e) (hl : e.length ≤ 1000) : fPutD (nmM e) [.dat v.d, .dat (.str s)] = some (nmM (putE s v e), .dat .non) := by
  show ((keyD (.str s)).bind fun k => if ((nmV e).map M.dat).length < sizeLine then (if hasK (nmK e) k = true then (putMs k (.dat v.d) (nmK e) ((nmV e).map .dat)).map fun ys => (M.dct (nmK e) ys, M.dat .non) else some (.dct (nmK e ++ [k]) ((nmV e).map .dat ++ [.dat v.d]), .dat .non)) else none) = _
  have hk : keyD (.str s) = some (Sum.inr s) := rfl
  rw [hk]
  show (if ((nmV e).map M.dat).length < sizeLine then _ else none) = _
  rw [if_pos (by
    have : ((nmV e).map M.dat).length = e.length := by simp [nmV]
    rw [this]
    exact Nat.lt_of_le_of_lt hl (by decide))]
  by_cases h : hasK (nmK e) (Sum.inr s) = true
  · rw [if_pos h]
    obtain ⟨k1, k2⟩ := putMs_nm n (hasK_nm.mp h) (v := v)
    rw [k1]
    show some (M.dct (nmK e) _, M.dat .non) = _
    unfold nmM
    rw [k2]
  · rw [if_neg h]
    unfold nmM
    rw [putE_new (fun z => h (hasK_nm.mpr z))]
    simp [nmK, nmV]
theorem getD_ok {e : Nms} {s : Str} {v : Vl} (h : getE s e = some v) : fIxD (nmD e) (.str s) = some v.d := by
  show ((keyD (.str s)).bind fun k => (keyIx (nmK e) k).bind fun j => (nmV e)[j]?) = _
  have hk : keyD (.str s) = some (Sum.inr s) := rfl
  rw [hk]
  show ((keyIx (nmK e) (Sum.inr s)).bind fun j => (nmV e)[j]?) = _
  induction e with
  | nil => cases h
  | cons p r ih =>
    have h : (if p.1 = s then some p.2 else getE s r) = some v := h
    unfold keyIx
    show ((List.findIdx? (fun x => decide (x = (Sum.inr s : Key))) (Sum.inr p.1 :: nmK r)).bind fun j => (p.2.d :: nmV r)[j]?) = _
    rw [List.findIdx?_cons]
    by_cases q : p.1 = s
    · rw [if_pos q] at h
      cases h
      rw [if_pos (by rw [q]; simp)]
      rfl
    · rw [if_neg q] at h
      rw [if_neg (by intro z; exact q (by simpa using z))]
      have ih := ih h
      unfold keyIx at ih
      cases hf : List.findIdx? (fun x => decide (x = (Sum.inr s : Key))) (nmK r) with
      | none => rw [hf] at ih; cases ih
      | some j =>
        rw [hf] at ih
        simpa using ih
theorem nmM_toD (e : Nms) : (nmM e).toD = nmD e := by
  show D.dct (nmK e) (M.toDs ((nmV e).map .dat)) = _
  rw [toDs_dats]
  rfl
theorem putE_len {s : Str} {v : Vl} : ∀ {e : Nms}, (putE s v e).length ≤ e.length + 1
  | [] => Nat.le_refl _
  | p :: r => by
    unfold putE
    split
    · simp
    · have := putE_len (s := s) (v := v) (e := r)
      simp only [List.length_cons]
      omega
section
variable {k : Nat} {F : D} {c c1 c2 : M} {e : Nms}
theorem wk_let {s : Str} {a b : D} {v R : Vl} (n : NoTw e) (hl : e.length ≤ 1000) (h1 : callF sub tab bigN k 8 [.dat F, .dat a, .dat (nmD e), c] = okc v c1) (h2 : callF sub tab bigN k 8 [.dat F, .dat b, .dat (nmD (putE s v e)), c1] = okc R c2) :
    callF sub tab bigN (k + 1) 8 [.dat F, .dat (.tup [.str "let", .str s, a, b]), .dat (nmD e), c] = okc R c2 := by
  unfold okc at h1 h2
  have e3 : atI [D.str "let", .str s, a, b] 3 = some b := atI_nat (xs := [D.str "let", .str s, a, b]) (j := 3) (v := b) rfl
  have p := putD_ok (s := s) (v := v) n hl
  refine call_ret (fn := fn8) rfl rfl ?_ (μ' := [some (.dat F), some (.dat (.tup [.str "let", .str s, a, b])), some (.dat (nmD e)), some c2, some (.dat (.str "let")), none, none, some (.dat (nmD (putE s v e)))])
  have td := nmM_toD (putE s v e)
  have to : toOwned (.dat (nmD e)) = some (nmM e) := rfl
  have dc : fDictC [nmD e] = some (nmD e) := rfl
  have kd : (nmM e).kind = 1 := rfl
  unfold fn8
  refine (ex_nx (by first | (simp (decide := true) [execSs, execS, evalE, evalAs, evalEs, evalP, evalI, slot, insOk, atPl, M.at, M.kids, M.kind, nodupB, Ag.roots, Ag.flat, As.vals, E.pure, Es.pure, As.pure, Path.pure, argMs, Mi.callEnd, backAs, putPl, M.put, M.setKid, M.toD, viewE, D.hard, D.hard.hards, datsOf, onDat, outD, fSub_i, fAddI_i, fAddX_i, fLt_i, fLe_i, fGt_i, fGe_i, fEq_i, fEq_s, fEq_b, fNe_i, fNe_s, fNe_b, fNot_b, fNeg_i, fIx_l, fIx_t, fLen_l, fLen_t, fIsi_int_i, fIsi_bool_i, fIsi_bool_b, setTg, Tg.slots, setMany, fldIx, toOwned, datOf, startE, atI_0]; done) | (simp (decide := true) [execSs, execS, evalE, evalAs, evalEs, evalP, evalI, slot, insOk, atPl, M.at, M.kids, M.kind, nodupB, Ag.roots, Ag.flat, As.vals, E.pure, Es.pure, As.pure, Path.pure, argMs, Mi.callEnd, backAs, putPl, M.put, M.setKid, M.toD, viewE, D.hard, D.hard.hards, datsOf, onDat, outD, fSub_i, fAddI_i, fAddX_i, fLt_i, fLe_i, fGt_i, fGe_i, fEq_i, fEq_s, fEq_b, fNe_i, fNe_s, fNe_b, fNot_b, fNeg_i, fIx_l, fIx_t, fLen_l, fLen_t, fIsi_int_i, fIsi_bool_i, fIsi_bool_b, setTg, Tg.slots, setMany, fldIx, toOwned, datOf, startE, atI_0]; rfl))).trans ?_
  refine (ex_nx (by first | (simp (decide := true) [execSs, execS, evalE, evalAs, evalEs, evalP, evalI, slot, insOk, atPl, M.at, M.kids, M.kind, nodupB, Ag.roots, Ag.flat, As.vals, E.pure, Es.pure, As.pure, Path.pure, argMs, Mi.callEnd, backAs, putPl, M.put, M.setKid, M.toD, viewE, D.hard, D.hard.hards, datsOf, onDat, outD, fSub_i, fAddI_i, fAddX_i, fLt_i, fLe_i, fGt_i, fGe_i, fEq_i, fEq_s, fEq_b, fNe_i, fNe_s, fNe_b, fNot_b, fNeg_i, fIx_l, fIx_t, fLen_l, fLen_t, fIsi_int_i, fIsi_bool_i, fIsi_bool_b, setTg, Tg.slots, setMany, fldIx, toOwned, datOf]; done) | (simp (decide := true) [execSs, execS, evalE, evalAs, evalEs, evalP, evalI, slot, insOk, atPl, M.at, M.kids, M.kind, nodupB, Ag.roots, Ag.flat, As.vals, E.pure, Es.pure, As.pure, Path.pure, argMs, Mi.callEnd, backAs, putPl, M.put, M.setKid, M.toD, viewE, D.hard, D.hard.hards, datsOf, onDat, outD, fSub_i, fAddI_i, fAddX_i, fLt_i, fLe_i, fGt_i, fGe_i, fEq_i, fEq_s, fEq_b, fNe_i, fNe_s, fNe_b, fNot_b, fNeg_i, fIx_l, fIx_t, fLen_l, fLen_t, fIsi_int_i, fIsi_bool_i, fIsi_bool_b, setTg, Tg.slots, setMany, fldIx, toOwned, datOf]; rfl))).trans ?_
  refine (ex_nx (by first | (simp (decide := true) [execSs, execS, evalE, evalAs, evalEs, evalP, evalI, slot, insOk, atPl, M.at, M.kids, M.kind, nodupB, Ag.roots, Ag.flat, As.vals, E.pure, Es.pure, As.pure, Path.pure, argMs, Mi.callEnd, backAs, putPl, M.put, M.setKid, M.toD, viewE, D.hard, D.hard.hards, datsOf, onDat, outD, fSub_i, fAddI_i, fAddX_i, fLt_i, fLe_i, fGt_i, fGe_i, fEq_i, fEq_s, fEq_b, fNe_i, fNe_s, fNe_b, fNot_b, fNeg_i, fIx_l, fIx_t, fLen_l, fLen_t, fIsi_int_i, fIsi_bool_i, fIsi_bool_b, setTg, Tg.slots, setMany, fldIx, toOwned, datOf]; done) | (simp (decide := true) [execSs, execS, evalE, evalAs, evalEs, evalP, evalI, slot, insOk, atPl, M.at, M.kids, M.kind, nodupB, Ag.roots, Ag.flat, As.vals, E.pure, Es.pure, As.pure, Path.pure, argMs, Mi.callEnd, backAs, putPl, M.put, M.setKid, M.toD, viewE, D.hard, D.hard.hards, datsOf, onDat, outD, fSub_i, fAddI_i, fAddX_i, fLt_i, fLe_i, fGt_i, fGe_i, fEq_i, fEq_s, fEq_b, fNe_i, fNe_s, fNe_b, fNot_b, fNeg_i, fIx_l, fIx_t, fLen_l, fLen_t, fIsi_int_i, fIsi_bool_i, fIsi_bool_b, setTg, Tg.slots, setMany, fldIx, toOwned, datOf]; rfl))).trans ?_
  refine (ex_nx (by first | (simp (decide := true) [execSs, execS, evalE, evalAs, evalEs, evalP, evalI, slot, insOk, atPl, M.at, M.kids, M.kind, nodupB, Ag.roots, Ag.flat, As.vals, E.pure, Es.pure, As.pure, Path.pure, argMs, Mi.callEnd, backAs, putPl, M.put, M.setKid, M.toD, viewE, D.hard, D.hard.hards, datsOf, onDat, outD, fSub_i, fAddI_i, fAddX_i, fLt_i, fLe_i, fGt_i, fGe_i, fEq_i, fEq_s, fEq_b, fNe_i, fNe_s, fNe_b, fNot_b, fNeg_i, fIx_l, fIx_t, fLen_l, fLen_t, fIsi_int_i, fIsi_bool_i, fIsi_bool_b, setTg, Tg.slots, setMany, fldIx, toOwned, datOf]; done) | (simp (decide := true) [execSs, execS, evalE, evalAs, evalEs, evalP, evalI, slot, insOk, atPl, M.at, M.kids, M.kind, nodupB, Ag.roots, Ag.flat, As.vals, E.pure, Es.pure, As.pure, Path.pure, argMs, Mi.callEnd, backAs, putPl, M.put, M.setKid, M.toD, viewE, D.hard, D.hard.hards, datsOf, onDat, outD, fSub_i, fAddI_i, fAddX_i, fLt_i, fLe_i, fGt_i, fGe_i, fEq_i, fEq_s, fEq_b, fNe_i, fNe_s, fNe_b, fNot_b, fNeg_i, fIx_l, fIx_t, fLen_l, fLen_t, fIsi_int_i, fIsi_bool_i, fIsi_bool_b, setTg, Tg.slots, setMany, fldIx, toOwned, datOf]; rfl))).trans ?_
  refine (ex_nx (by first | (simp (decide := true) [execSs, execS, evalE, evalAs, evalEs, evalP, evalI, slot, insOk, atPl, M.at, M.kids, M.kind, nodupB, Ag.roots, Ag.flat, As.vals, E.pure, Es.pure, As.pure, Path.pure, argMs, Mi.callEnd, backAs, putPl, M.put, M.setKid, M.toD, viewE, D.hard, D.hard.hards, datsOf, onDat, outD, fSub_i, fAddI_i, fAddX_i, fLt_i, fLe_i, fGt_i, fGe_i, fEq_i, fEq_s, fEq_b, fNe_i, fNe_s, fNe_b, fNot_b, fNeg_i, fIx_l, fIx_t, fLen_l, fLen_t, fIsi_int_i, fIsi_bool_i, fIsi_bool_b, setTg, Tg.slots, setMany, fldIx, toOwned, datOf]; done) | (simp (decide := true) [execSs, execS, evalE, evalAs, evalEs, evalP, evalI, slot, insOk, atPl, M.at, M.kids, M.kind, nodupB, Ag.roots, Ag.flat, As.vals, E.pure, Es.pure, As.pure, Path.pure, argMs, Mi.callEnd, backAs, putPl, M.put, M.setKid, M.toD, viewE, D.hard, D.hard.hards, datsOf, onDat, outD, fSub_i, fAddI_i, fAddX_i, fLt_i, fLe_i, fGt_i, fGe_i, fEq_i, fEq_s, fEq_b, fNe_i, fNe_s, fNe_b, fNot_b, fNeg_i, fIx_l, fIx_t, fLen_l, fLen_t, fIsi_int_i, fIsi_bool_i, fIsi_bool_b, setTg, Tg.slots, setMany, fldIx, toOwned, datOf]; rfl))).trans ?_
  refine ex_ret (ite_t (by first | (simp (decide := true) [execSs, execS, evalE, evalAs, evalEs, evalP, evalI, slot, insOk, atPl, M.at, M.kids, M.kind, nodupB, Ag.roots, Ag.flat, As.vals, E.pure, Es.pure, As.pure, Path.pure, argMs, Mi.callEnd, backAs, putPl, M.put, M.setKid, M.toD, viewE, D.hard, D.hard.hards, datsOf, onDat, outD, fSub_i, fAddI_i, fAddX_i, fLt_i, fLe_i, fGt_i, fGe_i, fEq_i, fEq_s, fEq_b, fNe_i, fNe_s, fNe_b, fNot_b, fNeg_i, fIx_l, fIx_t, fLen_l, fLen_t, fIsi_int_i, fIsi_bool_i, fIsi_bool_b, setTg, Tg.slots, setMany, fldIx, toOwned, datOf]; done) | (simp (decide := true) [execSs, execS, evalE, evalAs, evalEs, evalP, evalI, slot, insOk, atPl, M.at, M.kids, M.kind, nodupB, Ag.roots, Ag.flat, As.vals, E.pure, Es.pure, As.pure, Path.pure, argMs, Mi.callEnd, backAs, putPl, M.put, M.setKid, M.toD, viewE, D.hard, D.hard.hards, datsOf, onDat, outD, fSub_i, fAddI_i, fAddX_i, fLt_i, fLe_i, fGt_i, fGe_i, fEq_i, fEq_s, fEq_b, fNe_i, fNe_s, fNe_b, fNot_b, fNeg_i, fIx_l, fIx_t, fLen_l, fLen_t, fIsi_int_i, fIsi_bool_i, fIsi_bool_b, setTg, Tg.slots, setMany, fldIx, toOwned, datOf]; rfl)) ?_)
  refine (ex_nx (μ1 := [some (.dat F), some (.dat (.tup [.str "let", .str s, a, b])), some (.dat (nmD e)), some c, some (.dat (.str "let")), none, none, some (nmM e)]) (by simp (decide := true) [execSs, execS, evalE, evalAs, evalEs, evalP, evalI, slot, insOk, atPl, M.at, M.kids, M.kind, nodupB, Ag.roots, Ag.flat, As.vals, E.pure, Es.pure, As.pure, Path.pure, argMs, Mi.callEnd, backAs, putPl, M.put, M.setKid, M.toD, viewE, D.hard, D.hard.hards, datsOf, onDat, outD, fSub_i, fAddI_i, fAddX_i, fLt_i, fLe_i, fGt_i, fGe_i, fEq_i, fEq_s, fEq_b, fNe_i, fNe_s, fNe_b, fNot_b, fNeg_i, fIx_l, fIx_t, fLen_l, fLen_t, fIsi_int_i, fIsi_bool_i, fIsi_bool_b, setTg, Tg.slots, setMany, fldIx, toOwned, datOf, fDictC, nmD, nmM])).trans ?_
  generalize nmD (putE s v e) = nd' at *
  generalize hnM : nmM (putE s v e) = nM' at *
  generalize nmD e = nd at *
  simp only [nmM] at p ⊢
  generalize (nmV e).map M.dat = ms at *
  refine (ex_nx (by first | (simp (decide := true) [execSs, execS, evalE, evalAs, evalEs, evalP, evalI, slot, insOk, atPl, M.at, M.kids, M.kind, nodupB, Ag.roots, Ag.flat, As.vals, E.pure, Es.pure, As.pure, Path.pure, argMs, Mi.callEnd, backAs, putPl, M.put, M.setKid, M.toD, viewE, D.hard, D.hard.hards, datsOf, onDat, outD, fSub_i, fAddI_i, fAddX_i, fLt_i, fLe_i, fGt_i, fGe_i, fEq_i, fEq_s, fEq_b, fNe_i, fNe_s, fNe_b, fNot_b, fNeg_i, fIx_l, fIx_t, fLen_l, fLen_t, fIsi_int_i, fIsi_bool_i, fIsi_bool_b, setTg, Tg.slots, setMany, fldIx, toOwned, datOf, atI_1, atI_2, h1, kd, p]; done) | (simp (decide := true) [execSs, execS, evalE, evalAs, evalEs, evalP, evalI, slot, insOk, atPl, M.at, M.kids, M.kind, nodupB, Ag.roots, Ag.flat, As.vals, E.pure, Es.pure, As.pure, Path.pure, argMs, Mi.callEnd, backAs, putPl, M.put, M.setKid, M.toD, viewE, D.hard, D.hard.hards, datsOf, onDat, outD, fSub_i, fAddI_i, fAddX_i, fLt_i, fLe_i, fGt_i, fGe_i, fEq_i, fEq_s, fEq_b, fNe_i, fNe_s, fNe_b, fNot_b, fNeg_i, fIx_l, fIx_t, fLen_l, fLen_t, fIsi_int_i, fIsi_bool_i, fIsi_bool_b, setTg, Tg.slots, setMany, fldIx, toOwned, datOf, atI_1, atI_2, h1, kd, p]; rfl))).trans ?_
  refine ex_ret (by first | (simp (decide := true) [execSs, execS, evalE, evalAs, evalEs, evalP, evalI, slot, insOk, atPl, M.at, M.kids, M.kind, nodupB, Ag.roots, Ag.flat, As.vals, E.pure, Es.pure, As.pure, Path.pure, argMs, Mi.callEnd, backAs, putPl, M.put, M.setKid, M.toD, viewE, D.hard, D.hard.hards, datsOf, onDat, outD, fSub_i, fAddI_i, fAddX_i, fLt_i, fLe_i, fGt_i, fGe_i, fEq_i, fEq_s, fEq_b, fNe_i, fNe_s, fNe_b, fNot_b, fNeg_i, fIx_l, fIx_t, fLen_l, fLen_t, fIsi_int_i, fIsi_bool_i, fIsi_bool_b, setTg, Tg.slots, setMany, fldIx, toOwned, datOf, td, e3, h2]; done) | (simp (decide := true) [execSs, execS, evalE, evalAs, evalEs, evalP, evalI, slot, insOk, atPl, M.at, M.kids, M.kind, nodupB, Ag.roots, Ag.flat, As.vals, E.pure, Es.pure, As.pure, Path.pure, argMs, Mi.callEnd, backAs, putPl, M.put, M.setKid, M.toD, viewE, D.hard, D.hard.hards, datsOf, onDat, outD, fSub_i, fAddI_i, fAddX_i, fLt_i, fLe_i, fGt_i, fGe_i, fEq_i, fEq_s, fEq_b, fNe_i, fNe_s, fNe_b, fNot_b, fNeg_i, fIx_l, fIx_t, fLen_l, fLen_t, fIsi_int_i, fIsi_bool_i, fIsi_bool_b, setTg, Tg.slots, setMany, fldIx, toOwned, datOf, td, e3, h2]; rfl))
theorem wk_let_er1 {s : Str} {a b : D} {x : Str} (h1 : callF sub tab bigN k 8 [.dat F, .dat a, .dat (nmD e), c] = erc x c1) :
    callF sub tab bigN (k + 1) 8 [.dat F, .dat (.tup [.str "let", .str s, a, b]), .dat (nmD e), c] = erc x c1 := by
  unfold erc at h1
  refine call_err (fn := fn8) rfl rfl ?_ (μ' := [some (.dat F), some (.dat (.tup [.str "let", .str s, a, b])), some (.dat (nmD e)), some c1, some (.dat (.str "let")), none, none, some (nmM e)])
  have to : toOwned (.dat (nmD e)) = some (nmM e) := rfl
  have dc : fDictC [nmD e] = some (nmD e) := rfl
  unfold fn8
  refine (ex_nx (by first | (simp (decide := true) [execSs, execS, evalE, evalAs, evalEs, evalP, evalI, slot, insOk, atPl, M.at, M.kids, M.kind, nodupB, Ag.roots, Ag.flat, As.vals, E.pure, Es.pure, As.pure, Path.pure, argMs, Mi.callEnd, backAs, putPl, M.put, M.setKid, M.toD, viewE, D.hard, D.hard.hards, datsOf, onDat, outD, fSub_i, fAddI_i, fAddX_i, fLt_i, fLe_i, fGt_i, fGe_i, fEq_i, fEq_s, fEq_b, fNe_i, fNe_s, fNe_b, fNot_b, fNeg_i, fIx_l, fIx_t, fLen_l, fLen_t, fIsi_int_i, fIsi_bool_i, fIsi_bool_b, setTg, Tg.slots, setMany, fldIx, toOwned, datOf, startE, atI_0]; done) | (simp (decide := true) [execSs, execS, evalE, evalAs, evalEs, evalP, evalI, slot, insOk, atPl, M.at, M.kids, M.kind, nodupB, Ag.roots, Ag.flat, As.vals, E.pure, Es.pure, As.pure, Path.pure, argMs, Mi.callEnd, backAs, putPl, M.put, M.setKid, M.toD, viewE, D.hard, D.hard.hards, datsOf, onDat, outD, fSub_i, fAddI_i, fAddX_i, fLt_i, fLe_i, fGt_i, fGe_i, fEq_i, fEq_s, fEq_b, fNe_i, fNe_s, fNe_b, fNot_b, fNeg_i, fIx_l, fIx_t, fLen_l, fLen_t, fIsi_int_i, fIsi_bool_i, fIsi_bool_b, setTg, Tg.slots, setMany, fldIx, toOwned, datOf, startE, atI_0]; rfl))).trans ?_
  refine (ex_nx (by first | (simp (decide := true) [execSs, execS, evalE, evalAs, evalEs, evalP, evalI, slot, insOk, atPl, M.at, M.kids, M.kind, nodupB, Ag.roots, Ag.flat, As.vals, E.pure, Es.pure, As.pure, Path.pure, argMs, Mi.callEnd, backAs, putPl, M.put, M.setKid, M.toD, viewE, D.hard, D.hard.hards, datsOf, onDat, outD, fSub_i, fAddI_i, fAddX_i, fLt_i, fLe_i, fGt_i, fGe_i, fEq_i, fEq_s, fEq_b, fNe_i, fNe_s, fNe_b, fNot_b, fNeg_i, fIx_l, fIx_t, fLen_l, fLen_t, fIsi_int_i, fIsi_bool_i, fIsi_bool_b, setTg, Tg.slots, setMany, fldIx, toOwned, datOf]; done) | (simp (decide := true) [execSs, execS, evalE, evalAs, evalEs, evalP, evalI, slot, insOk, atPl, M.at, M.kids, M.kind, nodupB, Ag.roots, Ag.flat, As.vals, E.pure, Es.pure, As.pure, Path.pure, argMs, Mi.callEnd, backAs, putPl, M.put, M.setKid, M.toD, viewE, D.hard, D.hard.hards, datsOf, onDat, outD, fSub_i, fAddI_i, fAddX_i, fLt_i, fLe_i, fGt_i, fGe_i, fEq_i, fEq_s, fEq_b, fNe_i, fNe_s, fNe_b, fNot_b, fNeg_i, fIx_l, fIx_t, fLen_l, fLen_t, fIsi_int_i, fIsi_bool_i, fIsi_bool_b, setTg, Tg.slots, setMany, fldIx, toOwned, datOf]; rfl))).trans ?_
  refine (ex_nx (by first | (simp (decide := true) [execSs, execS, evalE, evalAs, evalEs, evalP, evalI, slot, insOk, atPl, M.at, M.kids, M.kind, nodupB, Ag.roots, Ag.flat, As.vals, E.pure, Es.pure, As.pure, Path.pure, argMs, Mi.callEnd, backAs, putPl, M.put, M.setKid, M.toD, viewE, D.hard, D.hard.hards, datsOf, onDat, outD, fSub_i, fAddI_i, fAddX_i, fLt_i, fLe_i, fGt_i, fGe_i, fEq_i, fEq_s, fEq_b, fNe_i, fNe_s, fNe_b, fNot_b, fNeg_i, fIx_l, fIx_t, fLen_l, fLen_t, fIsi_int_i, fIsi_bool_i, fIsi_bool_b, setTg, Tg.slots, setMany, fldIx, toOwned, datOf]; done) | (simp (decide := true) [execSs, execS, evalE, evalAs, evalEs, evalP, evalI, slot, insOk, atPl, M.at, M.kids, M.kind, nodupB, Ag.roots, Ag.flat, As.vals, E.pure, Es.pure, As.pure, Path.pure, argMs, Mi.callEnd, backAs, putPl, M.put, M.setKid, M.toD, viewE, D.hard, D.hard.hards, datsOf, onDat, outD, fSub_i, fAddI_i, fAddX_i, fLt_i, fLe_i, fGt_i, fGe_i, fEq_i, fEq_s, fEq_b, fNe_i, fNe_s, fNe_b, fNot_b, fNeg_i, fIx_l, fIx_t, fLen_l, fLen_t, fIsi_int_i, fIsi_bool_i, fIsi_bool_b, setTg, Tg.slots, setMany, fldIx, toOwned, datOf]; rfl))).trans ?_
  refine (ex_nx (by first | (simp (decide := true) [execSs, execS, evalE, evalAs, evalEs, evalP, evalI, slot, insOk, atPl, M.at, M.kids, M.kind, nodupB, Ag.roots, Ag.flat, As.vals, E.pure, Es.pure, As.pure, Path.pure, argMs, Mi.callEnd, backAs, putPl, M.put, M.setKid, M.toD, viewE, D.hard, D.hard.hards, datsOf, onDat, outD, fSub_i, fAddI_i, fAddX_i, fLt_i, fLe_i, fGt_i, fGe_i, fEq_i, fEq_s, fEq_b, fNe_i, fNe_s, fNe_b, fNot_b, fNeg_i, fIx_l, fIx_t, fLen_l, fLen_t, fIsi_int_i, fIsi_bool_i, fIsi_bool_b, setTg, Tg.slots, setMany, fldIx, toOwned, datOf]; done) | (simp (decide := true) [execSs, execS, evalE, evalAs, evalEs, evalP, evalI, slot, insOk, atPl, M.at, M.kids, M.kind, nodupB, Ag.roots, Ag.flat, As.vals, E.pure, Es.pure, As.pure, Path.pure, argMs, Mi.callEnd, backAs, putPl, M.put, M.setKid, M.toD, viewE, D.hard, D.hard.hards, datsOf, onDat, outD, fSub_i, fAddI_i, fAddX_i, fLt_i, fLe_i, fGt_i, fGe_i, fEq_i, fEq_s, fEq_b, fNe_i, fNe_s, fNe_b, fNot_b, fNeg_i, fIx_l, fIx_t, fLen_l, fLen_t, fIsi_int_i, fIsi_bool_i, fIsi_bool_b, setTg, Tg.slots, setMany, fldIx, toOwned, datOf]; rfl))).trans ?_
  refine (ex_nx (by first | (simp (decide := true) [execSs, execS, evalE, evalAs, evalEs, evalP, evalI, slot, insOk, atPl, M.at, M.kids, M.kind, nodupB, Ag.roots, Ag.flat, As.vals, E.pure, Es.pure, As.pure, Path.pure, argMs, Mi.callEnd, backAs, putPl, M.put, M.setKid, M.toD, viewE, D.hard, D.hard.hards, datsOf, onDat, outD, fSub_i, fAddI_i, fAddX_i, fLt_i, fLe_i, fGt_i, fGe_i, fEq_i, fEq_s, fEq_b, fNe_i, fNe_s, fNe_b, fNot_b, fNeg_i, fIx_l, fIx_t, fLen_l, fLen_t, fIsi_int_i, fIsi_bool_i, fIsi_bool_b, setTg, Tg.slots, setMany, fldIx, toOwned, datOf]; done) | (simp (decide := true) [execSs, execS, evalE, evalAs, evalEs, evalP, evalI, slot, insOk, atPl, M.at, M.kids, M.kind, nodupB, Ag.roots, Ag.flat, As.vals, E.pure, Es.pure, As.pure, Path.pure, argMs, Mi.callEnd, backAs, putPl, M.put, M.setKid, M.toD, viewE, D.hard, D.hard.hards, datsOf, onDat, outD, fSub_i, fAddI_i, fAddX_i, fLt_i, fLe_i, fGt_i, fGe_i, fEq_i, fEq_s, fEq_b, fNe_i, fNe_s, fNe_b, fNot_b, fNeg_i, fIx_l, fIx_t, fLen_l, fLen_t, fIsi_int_i, fIsi_bool_i, fIsi_bool_b, setTg, Tg.slots, setMany, fldIx, toOwned, datOf]; rfl))).trans ?_
  refine ex_er (ite_t (by first | (simp (decide := true) [execSs, execS, evalE, evalAs, evalEs, evalP, evalI, slot, insOk, atPl, M.at, M.kids, M.kind, nodupB, Ag.roots, Ag.flat, As.vals, E.pure, Es.pure, As.pure, Path.pure, argMs, Mi.callEnd, backAs, putPl, M.put, M.setKid, M.toD, viewE, D.hard, D.hard.hards, datsOf, onDat, outD, fSub_i, fAddI_i, fAddX_i, fLt_i, fLe_i, fGt_i, fGe_i, fEq_i, fEq_s, fEq_b, fNe_i, fNe_s, fNe_b, fNot_b, fNeg_i, fIx_l, fIx_t, fLen_l, fLen_t, fIsi_int_i, fIsi_bool_i, fIsi_bool_b, setTg, Tg.slots, setMany, fldIx, toOwned, datOf]; done) | (simp (decide := true) [execSs, execS, evalE, evalAs, evalEs, evalP, evalI, slot, insOk, atPl, M.at, M.kids, M.kind, nodupB, Ag.roots, Ag.flat, As.vals, E.pure, Es.pure, As.pure, Path.pure, argMs, Mi.callEnd, backAs, putPl, M.put, M.setKid, M.toD, viewE, D.hard, D.hard.hards, datsOf, onDat, outD, fSub_i, fAddI_i, fAddX_i, fLt_i, fLe_i, fGt_i, fGe_i, fEq_i, fEq_s, fEq_b, fNe_i, fNe_s, fNe_b, fNot_b, fNeg_i, fIx_l, fIx_t, fLen_l, fLen_t, fIsi_int_i, fIsi_bool_i, fIsi_bool_b, setTg, Tg.slots, setMany, fldIx, toOwned, datOf]; rfl)) ?_)
  refine (ex_nx (μ1 := [some (.dat F), some (.dat (.tup [.str "let", .str s, a, b])), some (.dat (nmD e)), some c, some (.dat (.str "let")), none, none, some (nmM e)]) (by simp (decide := true) [execSs, execS, evalE, evalAs, evalEs, evalP, evalI, slot, insOk, atPl, M.at, M.kids, M.kind, nodupB, Ag.roots, Ag.flat, As.vals, E.pure, Es.pure, As.pure, Path.pure, argMs, Mi.callEnd, backAs, putPl, M.put, M.setKid, M.toD, viewE, D.hard, D.hard.hards, datsOf, onDat, outD, fSub_i, fAddI_i, fAddX_i, fLt_i, fLe_i, fGt_i, fGe_i, fEq_i, fEq_s, fEq_b, fNe_i, fNe_s, fNe_b, fNot_b, fNeg_i, fIx_l, fIx_t, fLen_l, fLen_t, fIsi_int_i, fIsi_bool_i, fIsi_bool_b, setTg, Tg.slots, setMany, fldIx, toOwned, datOf, fDictC, nmD, nmM])).trans ?_
  generalize nmD e = nd at *
  generalize hM : nmM e = nM at *
  refine ex_er ?_
  simp (decide := true) [execSs, execS, evalE, evalAs, evalEs, evalP, evalI, slot, insOk, atPl, M.at, M.kids, M.kind, nodupB, Ag.roots, Ag.flat, As.vals, E.pure, Es.pure, As.pure, Path.pure, argMs, Mi.callEnd, backAs, putPl, M.put, M.setKid, M.toD, viewE, D.hard, D.hard.hards, datsOf, onDat, outD, fSub_i, fAddI_i, fAddX_i, fLt_i, fLe_i, fGt_i, fGe_i, fEq_i, fEq_s, fEq_b, fNe_i, fNe_s, fNe_b, fNot_b, fNeg_i, fIx_l, fIx_t, fLen_l, fLen_t, fIsi_int_i, fIsi_bool_i, fIsi_bool_b, setTg, Tg.slots, setMany, fldIx, toOwned, datOf, atI_2, h1]
theorem wk_let_er2 {s : Str} {a b : D} {v : Vl} {x : Str} (n : NoTw e) (hl : e.length ≤ 1000) (h1 : callF sub tab bigN k 8 [.dat F, .dat a, .dat (nmD e), c] = okc v c1) (h2 : callF sub tab bigN k 8 [.dat F, .dat b, .dat (nmD (putE s v e)), c1] = erc x c2) :
    callF sub tab bigN (k + 1) 8 [.dat F, .dat (.tup [.str "let", .str s, a, b]), .dat (nmD e), c] = erc x c2 := by
  unfold okc at h1
  unfold erc at h2
  have e3 : atI [D.str "let", .str s, a, b] 3 = some b := atI_nat (xs := [D.str "let", .str s, a, b]) (j := 3) (v := b) rfl
  have p := putD_ok (s := s) (v := v) n hl
  refine call_err (fn := fn8) rfl rfl ?_ (μ' := [some (.dat F), some (.dat (.tup [.str "let", .str s, a, b])), some (.dat (nmD e)), some c2, some (.dat (.str "let")), none, none, some (.dat (nmD (putE s v e)))])
  have td := nmM_toD (putE s v e)
  have to : toOwned (.dat (nmD e)) = some (nmM e) := rfl
  have dc : fDictC [nmD e] = some (nmD e) := rfl
  have kd : (nmM e).kind = 1 := rfl
  unfold fn8
  refine (ex_nx (by first | (simp (decide := true) [execSs, execS, evalE, evalAs, evalEs, evalP, evalI, slot, insOk, atPl, M.at, M.kids, M.kind, nodupB, Ag.roots, Ag.flat, As.vals, E.pure, Es.pure, As.pure, Path.pure, argMs, Mi.callEnd, backAs, putPl, M.put, M.setKid, M.toD, viewE, D.hard, D.hard.hards, datsOf, onDat, outD, fSub_i, fAddI_i, fAddX_i, fLt_i, fLe_i, fGt_i, fGe_i, fEq_i, fEq_s, fEq_b, fNe_i, fNe_s, fNe_b, fNot_b, fNeg_i, fIx_l, fIx_t, fLen_l, fLen_t, fIsi_int_i, fIsi_bool_i, fIsi_bool_b, setTg, Tg.slots, setMany, fldIx, toOwned, datOf, startE, atI_0]; done) | (simp (decide := true) [execSs, execS, evalE, evalAs, evalEs, evalP, evalI, slot, insOk, atPl, M.at, M.kids, M.kind, nodupB, Ag.roots, Ag.flat, As.vals, E.pure, Es.pure, As.pure, Path.pure, argMs, Mi.callEnd, backAs, putPl, M.put, M.setKid, M.toD, viewE, D.hard, D.hard.hards, datsOf, onDat, outD, fSub_i, fAddI_i, fAddX_i, fLt_i, fLe_i, fGt_i, fGe_i, fEq_i, fEq_s, fEq_b, fNe_i, fNe_s, fNe_b, fNot_b, fNeg_i, fIx_l, fIx_t, fLen_l, fLen_t, fIsi_int_i, fIsi_bool_i, fIsi_bool_b, setTg, Tg.slots, setMany, fldIx, toOwned, datOf, startE, atI_0]; rfl))).trans ?_
  refine (ex_nx (by first | (simp (decide := true) [execSs, execS, evalE, evalAs, evalEs, evalP, evalI, slot, insOk, atPl, M.at, M.kids, M.kind, nodupB, Ag.roots, Ag.flat, As.vals, E.pure, Es.pure, As.pure, Path.pure, argMs, Mi.callEnd, backAs, putPl, M.put, M.setKid, M.toD, viewE, D.hard, D.hard.hards, datsOf, onDat, outD, fSub_i, fAddI_i, fAddX_i, fLt_i, fLe_i, fGt_i, fGe_i, fEq_i, fEq_s, fEq_b, fNe_i, fNe_s, fNe_b, fNot_b, fNeg_i, fIx_l, fIx_t, fLen_l, fLen_t, fIsi_int_i, fIsi_bool_i, fIsi_bool_b, setTg, Tg.slots, setMany, fldIx, toOwned, datOf]; done) | (simp (decide := true) [execSs, execS, evalE, evalAs, evalEs, evalP, evalI, slot, insOk, atPl, M.at, M.kids, M.kind, nodupB, Ag.roots, Ag.flat, As.vals, E.pure, Es.pure, As.pure, Path.pure, argMs, Mi.callEnd, backAs, putPl, M.put, M.setKid, M.toD, viewE, D.hard, D.hard.hards, datsOf, onDat, outD, fSub_i, fAddI_i, fAddX_i, fLt_i, fLe_i, fGt_i, fGe_i, fEq_i, fEq_s, fEq_b, fNe_i, fNe_s, fNe_b, fNot_b, fNeg_i, fIx_l, fIx_t, fLen_l, fLen_t, fIsi_int_i, fIsi_bool_i, fIsi_bool_b, setTg, Tg.slots, setMany, fldIx, toOwned, datOf]; rfl))).trans ?_
  refine (ex_nx (by first | (simp (decide := true) [execSs, execS, evalE, evalAs, evalEs, evalP, evalI, slot, insOk, atPl, M.at, M.kids, M.kind, nodupB, Ag.roots, Ag.flat, As.vals, E.pure, Es.pure, As.pure, Path.pure, argMs, Mi.callEnd, backAs, putPl, M.put, M.setKid, M.toD, viewE, D.hard, D.hard.hards, datsOf, onDat, outD, fSub_i, fAddI_i, fAddX_i, fLt_i, fLe_i, fGt_i, fGe_i, fEq_i, fEq_s, fEq_b, fNe_i, fNe_s, fNe_b, fNot_b, fNeg_i, fIx_l, fIx_t, fLen_l, fLen_t, fIsi_int_i, fIsi_bool_i, fIsi_bool_b, setTg, Tg.slots, setMany, fldIx, toOwned, datOf]; done) | (simp (decide := true) [execSs, execS, evalE, evalAs, evalEs, evalP, evalI, slot, insOk, atPl, M.at, M.kids, M.kind, nodupB, Ag.roots, Ag.flat, As.vals, E.pure, Es.pure, As.pure, Path.pure, argMs, Mi.callEnd, backAs, putPl, M.put, M.setKid, M.toD, viewE, D.hard, D.hard.hards, datsOf, onDat, outD, fSub_i, fAddI_i, fAddX_i, fLt_i, fLe_i, fGt_i, fGe_i, fEq_i, fEq_s, fEq_b, fNe_i, fNe_s, fNe_b, fNot_b, fNeg_i, fIx_l, fIx_t, fLen_l, fLen_t, fIsi_int_i, fIsi_bool_i, fIsi_bool_b, setTg, Tg.slots, setMany, fldIx, toOwned, datOf]; rfl))).trans ?_
  refine (ex_nx (by first | (simp (decide := true) [execSs, execS, evalE, evalAs, evalEs, evalP, evalI, slot, insOk, atPl, M.at, M.kids, M.kind, nodupB, Ag.roots, Ag.flat, As.vals, E.pure, Es.pure, As.pure, Path.pure, argMs, Mi.callEnd, backAs, putPl, M.put, M.setKid, M.toD, viewE, D.hard, D.hard.hards, datsOf, onDat, outD, fSub_i, fAddI_i, fAddX_i, fLt_i, fLe_i, fGt_i, fGe_i, fEq_i, fEq_s, fEq_b, fNe_i, fNe_s, fNe_b, fNot_b, fNeg_i, fIx_l, fIx_t, fLen_l, fLen_t, fIsi_int_i, fIsi_bool_i, fIsi_bool_b, setTg, Tg.slots, setMany, fldIx, toOwned, datOf]; done) | (simp (decide := true) [execSs, execS, evalE, evalAs, evalEs, evalP, evalI, slot, insOk, atPl, M.at, M.kids, M.kind, nodupB, Ag.roots, Ag.flat, As.vals, E.pure, Es.pure, As.pure, Path.pure, argMs, Mi.callEnd, backAs, putPl, M.put, M.setKid, M.toD, viewE, D.hard, D.hard.hards, datsOf, onDat, outD, fSub_i, fAddI_i, fAddX_i, fLt_i, fLe_i, fGt_i, fGe_i, fEq_i, fEq_s, fEq_b, fNe_i, fNe_s, fNe_b, fNot_b, fNeg_i, fIx_l, fIx_t, fLen_l, fLen_t, fIsi_int_i, fIsi_bool_i, fIsi_bool_b, setTg, Tg.slots, setMany, fldIx, toOwned, datOf]; rfl))).trans ?_
  refine (ex_nx (by first | (simp (decide := true) [execSs, execS, evalE, evalAs, evalEs, evalP, evalI, slot, insOk, atPl, M.at, M.kids, M.kind, nodupB, Ag.roots, Ag.flat, As.vals, E.pure, Es.pure, As.pure, Path.pure, argMs, Mi.callEnd, backAs, putPl, M.put, M.setKid, M.toD, viewE, D.hard, D.hard.hards, datsOf, onDat, outD, fSub_i, fAddI_i, fAddX_i, fLt_i, fLe_i, fGt_i, fGe_i, fEq_i, fEq_s, fEq_b, fNe_i, fNe_s, fNe_b, fNot_b, fNeg_i, fIx_l, fIx_t, fLen_l, fLen_t, fIsi_int_i, fIsi_bool_i, fIsi_bool_b, setTg, Tg.slots, setMany, fldIx, toOwned, datOf]; done) | (simp (decide := true) [execSs, execS, evalE, evalAs, evalEs, evalP, evalI, slot, insOk, atPl, M.at, M.kids, M.kind, nodupB, Ag.roots, Ag.flat, As.vals, E.pure, Es.pure, As.pure, Path.pure, argMs, Mi.callEnd, backAs, putPl, M.put, M.setKid, M.toD, viewE, D.hard, D.hard.hards, datsOf, onDat, outD, fSub_i, fAddI_i, fAddX_i, fLt_i, fLe_i, fGt_i, fGe_i, fEq_i, fEq_s, fEq_b, fNe_i, fNe_s, fNe_b, fNot_b, fNeg_i, fIx_l, fIx_t, fLen_l, fLen_t, fIsi_int_i, fIsi_bool_i, fIsi_bool_b, setTg, Tg.slots, setMany, fldIx, toOwned, datOf]; rfl))).trans ?_
  refine ex_er (ite_t (by first | (simp (decide := true) [execSs, execS, evalE, evalAs, evalEs, evalP, evalI, slot, insOk, atPl, M.at, M.kids, M.kind, nodupB, Ag.roots, Ag.flat, As.vals, E.pure, Es.pure, As.pure, Path.pure, argMs, Mi.callEnd, backAs, putPl, M.put, M.setKid, M.toD, viewE, D.hard, D.hard.hards, datsOf, onDat, outD, fSub_i, fAddI_i, fAddX_i, fLt_i, fLe_i, fGt_i, fGe_i, fEq_i, fEq_s, fEq_b, fNe_i, fNe_s, fNe_b, fNot_b, fNeg_i, fIx_l, fIx_t, fLen_l, fLen_t, fIsi_int_i, fIsi_bool_i, fIsi_bool_b, setTg, Tg.slots, setMany, fldIx, toOwned, datOf]; done) | (simp (decide := true) [execSs, execS, evalE, evalAs, evalEs, evalP, evalI, slot, insOk, atPl, M.at, M.kids, M.kind, nodupB, Ag.roots, Ag.flat, As.vals, E.pure, Es.pure, As.pure, Path.pure, argMs, Mi.callEnd, backAs, putPl, M.put, M.setKid, M.toD, viewE, D.hard, D.hard.hards, datsOf, onDat, outD, fSub_i, fAddI_i, fAddX_i, fLt_i, fLe_i, fGt_i, fGe_i, fEq_i, fEq_s, fEq_b, fNe_i, fNe_s, fNe_b, fNot_b, fNeg_i, fIx_l, fIx_t, fLen_l, fLen_t, fIsi_int_i, fIsi_bool_i, fIsi_bool_b, setTg, Tg.slots, setMany, fldIx, toOwned, datOf]; rfl)) ?_)
  refine (ex_nx (μ1 := [some (.dat F), some (.dat (.tup [.str "let", .str s, a, b])), some (.dat (nmD e)), some c, some (.dat (.str "let")), none, none, some (nmM e)]) (by simp (decide := true) [execSs, execS, evalE, evalAs, evalEs, evalP, evalI, slot, insOk, atPl, M.at, M.kids, M.kind, nodupB, Ag.roots, Ag.flat, As.vals, E.pure, Es.pure, As.pure, Path.pure, argMs, Mi.callEnd, backAs, putPl, M.put, M.setKid, M.toD, viewE, D.hard, D.hard.hards, datsOf, onDat, outD, fSub_i, fAddI_i, fAddX_i, fLt_i, fLe_i, fGt_i, fGe_i, fEq_i, fEq_s, fEq_b, fNe_i, fNe_s, fNe_b, fNot_b, fNeg_i, fIx_l, fIx_t, fLen_l, fLen_t, fIsi_int_i, fIsi_bool_i, fIsi_bool_b, setTg, Tg.slots, setMany, fldIx, toOwned, datOf, fDictC, nmD, nmM])).trans ?_
  generalize nmD (putE s v e) = nd' at *
  generalize hnM : nmM (putE s v e) = nM' at *
  generalize nmD e = nd at *
  simp only [nmM] at p ⊢
  generalize (nmV e).map M.dat = ms at *
  refine (ex_nx (by first | (simp (decide := true) [execSs, execS, evalE, evalAs, evalEs, evalP, evalI, slot, insOk, atPl, M.at, M.kids, M.kind, nodupB, Ag.roots, Ag.flat, As.vals, E.pure, Es.pure, As.pure, Path.pure, argMs, Mi.callEnd, backAs, putPl, M.put, M.setKid, M.toD, viewE, D.hard, D.hard.hards, datsOf, onDat, outD, fSub_i, fAddI_i, fAddX_i, fLt_i, fLe_i, fGt_i, fGe_i, fEq_i, fEq_s, fEq_b, fNe_i, fNe_s, fNe_b, fNot_b, fNeg_i, fIx_l, fIx_t, fLen_l, fLen_t, fIsi_int_i, fIsi_bool_i, fIsi_bool_b, setTg, Tg.slots, setMany, fldIx, toOwned, datOf, atI_1, atI_2, h1, kd, p]; done) | (simp (decide := true) [execSs, execS, evalE, evalAs, evalEs, evalP, evalI, slot, insOk, atPl, M.at, M.kids, M.kind, nodupB, Ag.roots, Ag.flat, As.vals, E.pure, Es.pure, As.pure, Path.pure, argMs, Mi.callEnd, backAs, putPl, M.put, M.setKid, M.toD, viewE, D.hard, D.hard.hards, datsOf, onDat, outD, fSub_i, fAddI_i, fAddX_i, fLt_i, fLe_i, fGt_i, fGe_i, fEq_i, fEq_s, fEq_b, fNe_i, fNe_s, fNe_b, fNot_b, fNeg_i, fIx_l, fIx_t, fLen_l, fLen_t, fIsi_int_i, fIsi_bool_i, fIsi_bool_b, setTg, Tg.slots, setMany, fldIx, toOwned, datOf, atI_1, atI_2, h1, kd, p]; rfl))).trans ?_
  refine ex_er ?_
  simp (decide := true) [execSs, execS, evalE, evalAs, evalEs, evalP, evalI, slot, insOk, atPl, M.at, M.kids, M.kind, nodupB, Ag.roots, Ag.flat, As.vals, E.pure, Es.pure, As.pure, Path.pure, argMs, Mi.callEnd, backAs, putPl, M.put, M.setKid, M.toD, viewE, D.hard, D.hard.hards, datsOf, onDat, outD, fSub_i, fAddI_i, fAddX_i, fLt_i, fLe_i, fGt_i, fGe_i, fEq_i, fEq_s, fEq_b, fNe_i, fNe_s, fNe_b, fNot_b, fNeg_i, fIx_l, fIx_t, fLen_l, fLen_t, fIsi_int_i, fIsi_bool_i, fIsi_bool_b, setTg, Tg.slots, setMany, fldIx, toOwned, datOf, td, e3, h2]
end
end K16
namespace K16
open PySem L2 Mi
/-! ### plain_run -/
def dm (ds : List D) : List M := ds.map .dat
theorem toDs_map (ds : List D) : M.toDs (dm ds) = ds := toDs_dats ds
theorem fAppend_d {rs : List D} {d : D} (h : rs.length ≤ 1000) : fAppend (.lst (dm rs)) [.dat d] = some (.lst (dm (rs ++ [d])), .dat .non) := by
  unfold fAppend dm
  dsimp only
  rw [if_pos (by rw [List.length_map]; exact Nat.lt_of_le_of_lt h (by decide))]
  simp
def tkD (t : Str × D) : D := .tup [.str t.1, t.2]
def putAll : Nms → List (Str × D) → List Vl → Nms
  | e, t :: ts, v :: vs => putAll (putE t.1 v e) ts vs
  | e, _, _ => e
theorem putAll_no : ∀ {ts : List (Str × D)} {vs : List Vl} {e : Nms}, NoTw e → NoTw (putAll e ts vs)
  | [], _, _, h => h
  | _ :: _, [], _, h => h
  | t :: ts, v :: vs, e, h => putAll_no (ts := ts) (vs := vs) h.put
theorem putAll_len : ∀ {ts : List (Str × D)} {vs : List Vl} {e : Nms}, (putAll e ts vs).length ≤ e.length + ts.length
  | [], _, _ => Nat.le_refl _
  | _ :: _, [], _ => Nat.le_add_right ..
  | t :: ts, v :: vs, e => by
    have h1 := putAll_len (ts := ts) (vs := vs) (e := putE t.1 v e)
    have h2 := putE_len (s := t.1) (v := v) (e := e)
    show (putAll (putE t.1 v e) ts vs).length ≤ e.length + (ts.length + 1)
    omega
theorem zipD_nil {ys : List D} : zipD [] ys = [] := rfl
theorem zipD_nil2 {x : D} {xs : List D} : zipD (x :: xs) [] = [] := rfl
theorem zipD_cons {x y : D} {xs ys : List D} : zipD (x :: xs) (y :: ys) = .tup [x, y] :: zipD xs ys := rfl
theorem names_run (k : Nat) {x0 x1 x2 x3 x4 x5 : Option M} : ∀ {ts : List (Str × D)} {vs : List Vl} {e : Nms} {x7 x8 : Option M}, NoTw e → e.length + ts.length ≤ 900 →
    ∃ y7 y8, forLoop (.many [7, 8]) (execSs sub (callF sub tab bigN k) fn10.pin bigN w10_1b) (zipD (ts.map tkD) (vs.map Vl.d)) [x0, x1, x2, x3, x4, x5, some (nmM e), x7, x8] = .nx [x0, x1, x2, x3, x4, x5, some (nmM (putAll e ts vs)), y7, y8]
  | [], vs, e, x7, x8, _, _ => ⟨x7, x8, rfl⟩
  | _ :: _, [], e, x7, x8, _, _ => ⟨x7, x8, rfl⟩
  | t :: ts, v :: vs, e, x7, x8, n, hl => by
    have hl' : e.length + (ts.length + 1) ≤ 900 := hl
    have hp := putE_len (s := t.1) (v := v) (e := e)
    obtain ⟨y7, y8, ih⟩ := names_run k (x0 := x0) (x1 := x1) (x2 := x2) (x3 := x3) (x4 := x4) (x5 := x5) (ts := ts) (vs := vs) (e := putE t.1 v e) (x7 := some (.dat (tkD t))) (x8 := some (.dat v.d)) n.put (by omega)
    refine ⟨y7, y8, ?_⟩
    show forLoop _ _ (.tup [tkD t, v.d] :: zipD (ts.map tkD) (vs.map Vl.d)) _ = _
    have b : execSs sub (callF sub tab bigN k) fn10.pin bigN w10_1b [x0, x1, x2, x3, x4, x5, some (nmM e), some (.dat (tkD t)), some (.dat v.d)] = .nx [x0, x1, x2, x3, x4, x5, some (nmM (putE t.1 v e)), some (.dat (tkD t)), some (.dat v.d)] := by
      have p := putD_ok (s := t.1) (v := v) n (by omega)
      generalize nmM (putE t.1 v e) = nM' at *
      simp only [nmM] at p ⊢
      generalize (nmV e).map M.dat = ms at *
      unfold w10_1b
      refine ex_last ?_
      simp (decide := true) [execSs, execS, evalE, evalAs, evalEs, evalP, evalI, slot, insOk, atPl, M.at, M.kids, M.kind, nodupB, Ag.roots, Ag.flat, As.vals, E.pure, Es.pure, As.pure, Path.pure, argMs, Mi.callEnd, backAs, putPl, M.put, M.setKid, M.toD, viewE, D.hard, D.hard.hards, datsOf, onDat, outD, fSub_i, fAddI_i, fAddX_i, fLt_i, fLe_i, fGt_i, fGe_i, fEq_i, fEq_s, fEq_b, fNe_i, fNe_s, fNe_b, fNot_b, fNeg_i, fIx_l, fIx_t, fLen_l, fLen_t, fIsi_int_i, fIsi_bool_i, fIsi_bool_b, setTg, Tg.slots, setMany, fldIx, toOwned, datOf, tkD, atI_0, p]
    unfold forLoop
    show (match execSs sub (callF sub tab bigN k) fn10.pin bigN w10_1b [x0, x1, x2, x3, x4, x5, some (nmM e), some (.dat (tkD t)), some (.dat v.d)] with | .nx μ2 => _ | .cont μ2 => _ | .brk μ2 => _ | r => r) = _
    rw [b]
    exact ih
def fnD (f : Str) (ts : List (Str × D)) (kd p : D) : D := .tup [.str f, .lst (ts.map tkD), kd, p]
theorem fnD_0 (f ts kd p) : fIx (fnD f ts kd p) (.int 0) = some (.str f) := atI_0 _ _
theorem fnD_1 (f ts kd p) : fIx (fnD f ts kd p) (.int 1) = some (.lst (ts.map tkD)) := atI_1 _ _ _
theorem fnD_2 (f ts kd p) : fIx (fnD f ts kd p) (.int 2) = some kd := atI_2 _ _ _ _
theorem fnD_3 (f ts kd p) : fIx (fnD f ts kd p) (.int 3) = some p := by
  unfold fnD
  exact atI_nat (xs := [D.str f, .lst (ts.map tkD), kd, p]) (j := 3) (v := p) rfl
/-- the functions by their names -/
def fnK (fs : List (Str × D)) : List Key := fs.map fun p => Sum.inr p.1
def fnsD (fs : List (Str × D)) : D := .dct (fnK fs) (fs.map (·.2))
def fnsM (fs : List (Str × D)) : M := .dct (fnK fs) ((fs.map (·.2)).map .dat)
theorem fnsM_toD (fs : List (Str × D)) : (fnsM fs).toD = fnsD fs := by
  show D.dct (fnK fs) (M.toDs ((fs.map (·.2)).map .dat)) = _
  rw [toDs_dats]
  rfl
def NoTf : List (Str × D) → Prop
  | [] => True
  | p :: r => (∀ q ∈ r, q.1 ≠ p.1) ∧ NoTf r
theorem putF_ok {fs : List (Str × D)} {f : Str} {d : D} (n : ∀ q ∈ fs, q.1 ≠ f) (hl : fs.length ≤ 1000) : fPutD (fnsM fs) [.dat d, .dat (.str f)] = some (fnsM (fs ++ [(f, d)]), .dat .non) := by
  show ((keyD (.str f)).bind fun k => if ((fs.map (·.2)).map M.dat).length < sizeLine then (if hasK (fnK fs) k = true then (putMs k (.dat d) (fnK fs) ((fs.map (·.2)).map .dat)).map fun ys => (M.dct (fnK fs) ys, M.dat .non) else some (.dct (fnK fs ++ [k]) ((fs.map (·.2)).map .dat ++ [.dat d]), .dat .non)) else none) = _
  have hk : keyD (.str f) = some (Sum.inr f) := rfl
  rw [hk]
  show (if ((fs.map (·.2)).map M.dat).length < sizeLine then _ else none) = _
  rw [if_pos (by
    have : ((fs.map (·.2)).map M.dat).length = fs.length := by simp
    rw [this]
    exact Nat.lt_of_le_of_lt hl (by decide))]
  have nk : ∀ fs : List (Str × D), (∀ q ∈ fs, q.1 ≠ f) → hasK (fnK fs) (Sum.inr f) = false := by
    intro fs
    induction fs with
    | nil => intro _; rfl
    | cons p r ih =>
      intro h
      show (decide ((Sum.inr p.1 : Key) = Sum.inr f) || hasK (fnK r) (Sum.inr f)) = false
      rw [ih fun q hq => h q (List.mem_cons_of_mem _ hq)]
      have := h p (List.mem_cons_self ..)
      simp [this]
  rw [nk fs n]
  simp [fnsM, fnK]
theorem getF_ok : ∀ {fs : List (Str × D)} {f : Str} {d : D}, NoTf fs → (f, d) ∈ fs → fIxD (fnsD fs) (.str f) = some d := by
  intro fs f d n h
  show ((keyD (.str f)).bind fun k => (keyIx (fnK fs) k).bind fun j => (fs.map (·.2))[j]?) = _
  have hk : keyD (.str f) = some (Sum.inr f) := rfl
  rw [hk]
  show ((keyIx (fnK fs) (Sum.inr f)).bind fun j => (fs.map (·.2))[j]?) = _
  induction fs with
  | nil => cases h
  | cons p r ih =>
    unfold keyIx
    show ((List.findIdx? (fun x => decide (x = (Sum.inr f : Key))) (Sum.inr p.1 :: fnK r)).bind fun j => (p.2 :: r.map (·.2))[j]?) = _
    rw [List.findIdx?_cons]
    by_cases q : p.1 = f
    · have e : p = (f, d) := by
        rcases List.mem_cons.mp h with rfl | h
        · rfl
        · exact absurd q.symm (n.1 _ h)
      subst e
      rw [if_pos (by simp)]
      rfl
    · rw [if_neg (by intro z; exact q (by simpa using z))]
      have h' : (f, d) ∈ r := by
        rcases List.mem_cons.mp h with rfl | h
        · exact absurd rfl q
        · exact h
      have ih := ih n.2 h'
      unfold keyIx at ih
      cases hf : List.findIdx? (fun x => decide (x = (Sum.inr f : Key))) (fnK r) with
      | none => rw [hf] at ih; cases ih
      | some j =>
        rw [hf] at ih
        simpa using ih
/-- one function as the program has it -/
structure Fun0 where
  name : Str
  ts : List (Str × D)
  kd : D
  body : D
def Fun0.d (f : Fun0) : D := fnD f.name f.ts f.kd f.body
def funs (P : List Fun0) : List (Str × D) := P.map fun f => (f.name, f.d)
theorem funs_run (k : Nat) {x0 x1 x2 x5 x6 x7 x8 : Option M} : ∀ {P : List Fun0} {fs : List (Str × D)} {x4 : Option M}, NoTf (fs ++ funs P) → fs.length + P.length ≤ 900 →
    ∃ y4, forLoop (.one 4) (execSs sub (callF sub tab bigN k) fn10.pin bigN w10_0b) (P.map Fun0.d) [x0, x1, x2, some (fnsM fs), x4, x5, x6, x7, x8] = .nx [x0, x1, x2, some (fnsM (fs ++ funs P)), y4, x5, x6, x7, x8]
  | [], fs, x4, _, _ => ⟨x4, by simp [funs, forLoop]⟩
  | f :: P, fs, x4, n, hl => by
    have hl' : fs.length + (P.length + 1) ≤ 900 := hl
    have e1 : fs ++ funs (f :: P) = (fs ++ [(f.name, f.d)]) ++ funs P := by simp [funs]
    obtain ⟨y4, ih⟩ := funs_run k (x0 := x0) (x1 := x1) (x2 := x2) (x5 := x5) (x6 := x6) (x7 := x7) (x8 := x8) (P := P) (fs := fs ++ [(f.name, f.d)]) (x4 := some (.dat f.d)) (by rw [← e1]; exact n) (by simp; omega)
    refine ⟨y4, ?_⟩
    have nn : ∀ q ∈ fs, q.1 ≠ f.name := by
      have go : ∀ fs : List (Str × D), NoTf (fs ++ funs (f :: P)) → ∀ q ∈ fs, q.1 ≠ f.name := by
        intro fs
        induction fs with
        | nil => intro _ q hq; cases hq
        | cons p r ih =>
          intro n q hq
          rcases List.mem_cons.mp hq with rfl | hq
          · exact fun z => n.1 (f.name, f.d) (List.mem_append_right _ (List.mem_cons_self ..)) z.symm
          · exact ih n.2 q hq
      exact go fs n
    have b : execSs sub (callF sub tab bigN k) fn10.pin bigN w10_0b [x0, x1, x2, some (fnsM fs), some (.dat f.d), x5, x6, x7, x8] = .nx [x0, x1, x2, some (fnsM (fs ++ [(f.name, f.d)])), some (.dat f.d), x5, x6, x7, x8] := by
      have p := putF_ok (d := f.d) nn (by omega)
      have i0 : fIx f.d (.int 0) = some (.str f.name) := fnD_0 _ _ _ _
      generalize fnsM (fs ++ [(f.name, f.d)]) = nM' at *
      simp only [fnsM] at p ⊢
      generalize (fs.map (·.2)).map M.dat = ms at *
      unfold w10_0b
      refine ex_last ?_
      simp (decide := true) [execSs, execS, evalE, evalAs, evalEs, evalP, evalI, slot, insOk, atPl, M.at, M.kids, M.kind, nodupB, Ag.roots, Ag.flat, As.vals, E.pure, Es.pure, As.pure, Path.pure, argMs, Mi.callEnd, backAs, putPl, M.put, M.setKid, M.toD, viewE, D.hard, D.hard.hards, datsOf, onDat, outD, fSub_i, fAddI_i, fAddX_i, fLt_i, fLe_i, fGt_i, fGe_i, fEq_i, fEq_s, fEq_b, fNe_i, fNe_s, fNe_b, fNot_b, fNeg_i, fIx_l, fIx_t, fLen_l, fLen_t, fIsi_int_i, fIsi_bool_i, fIsi_bool_b, setTg, Tg.slots, setMany, fldIx, toOwned, datOf, i0, p]
    unfold forLoop
    show (match execSs sub (callF sub tab bigN k) fn10.pin bigN w10_0b [x0, x1, x2, some (fnsM fs), some (.dat f.d), x5, x6, x7, x8] with | .nx μ2 => _ | .cont μ2 => _ | .brk μ2 => _ | r => r) = _
    rw [b, e1]
    exact ih
/-- plain_run, by what worked and told come to -/
structure RunOk (P : List Fun0) (m : Fun0) (vs : List Vl) : Prop where
  nf : NoTf (funs P)
  hm : m ∈ P
  nm : m.name = "main"
  lp : P.length ≤ 900
  lt : m.ts.length ≤ 900
section
variable {k : Nat} {P : List Fun0} {m : Fun0} {vs : List Vl} {mx : Int} {c : M}
def envOf (m : Fun0) (vs : List Vl) : Nms := putAll [] m.ts vs
theorem run_pre (h : RunOk P m vs) (Pr : Mi.Res → Prop) (g : ∀ y4 y7 y8, Pr (execSs sub (callF sub tab bigN k) fn10.pin bigN (tl (tl (tl (tl (tl fn10.body))))) [some (.dat (.lst (P.map Fun0.d))), some (.dat (.lst (vs.map Vl.d))), some (.dat (.int mx)), some (.dat (fnsD (funs P))), y4, some (.dat m.d), some (nmM (envOf m vs)), y7, y8])) :
    Pr (execSs sub (callF sub tab bigN k) fn10.pin bigN fn10.body (startE fn10 [.dat (.lst (P.map Fun0.d)), .dat (.lst (vs.map Vl.d)), .dat (.int mx)])) := by
  obtain ⟨y4, e1⟩ := funs_run k (x0 := some (.dat (.lst (P.map Fun0.d)))) (x1 := some (.dat (.lst (vs.map Vl.d)))) (x2 := some (.dat (.int mx))) (x5 := none) (x6 := none) (x7 := none) (x8 := none) (P := P) (fs := []) (x4 := none) h.nf (by have := h.lp; simpa using this)
  obtain ⟨y7, y8, e2⟩ := names_run k (x0 := some (.dat (.lst (P.map Fun0.d)))) (x1 := some (.dat (.lst (vs.map Vl.d)))) (x2 := some (.dat (.int mx))) (x3 := some (.dat (fnsD (funs P)))) (x4 := y4) (x5 := some (.dat m.d)) (ts := m.ts) (vs := vs) (e := []) (x7 := none) (x8 := none) trivial (by have := h.lt; simpa using this)
  have gm : fIxD (fnsD (funs P)) (.str "main") = some m.d := getF_ok h.nf (List.mem_map.mpr ⟨m, h.hm, by rw [h.nm]⟩)
  have i1 : fIx m.d (.int 1) = some (.lst (m.ts.map tkD)) := fnD_1 _ _ _ _
  have g := g y4 y7 y8
  have s0 : ∀ {R : Mi.Res}, execSs sub (callF sub tab bigN k) fn10.pin bigN (tl fn10.body) [some (.dat (.lst (P.map Fun0.d))), some (.dat (.lst (vs.map Vl.d))), some (.dat (.int mx)), some (fnsM []), none, none, none, none, none] = R →
      execSs sub (callF sub tab bigN k) fn10.pin bigN fn10.body (startE fn10 [.dat (.lst (P.map Fun0.d)), .dat (.lst (vs.map Vl.d)), .dat (.int mx)]) = R := fun {R} h => by
    generalize P.map Fun0.d = L1 at *
    generalize vs.map Vl.d = L2 at *
    have e : (fnsM [] : M) = .dct [] [] := rfl
    rw [e] at h
    unfold fn10 at h ⊢
    refine (ex_nx (by first | (simp (decide := true) [execSs, execS, evalE, evalAs, evalEs, evalP, evalI, slot, insOk, atPl, M.at, M.kids, M.kind, nodupB, Ag.roots, Ag.flat, As.vals, E.pure, Es.pure, As.pure, Path.pure, argMs, Mi.callEnd, backAs, putPl, M.put, M.setKid, M.toD, viewE, D.hard, D.hard.hards, datsOf, onDat, outD, fSub_i, fAddI_i, fAddX_i, fLt_i, fLe_i, fGt_i, fGe_i, fEq_i, fEq_s, fEq_b, fNe_i, fNe_s, fNe_b, fNot_b, fNeg_i, fIx_l, fIx_t, fLen_l, fLen_t, fIsi_int_i, fIsi_bool_i, fIsi_bool_b, setTg, Tg.slots, setMany, fldIx, toOwned, datOf, startE, toOwned]; done) | (simp (decide := true) [execSs, execS, evalE, evalAs, evalEs, evalP, evalI, slot, insOk, atPl, M.at, M.kids, M.kind, nodupB, Ag.roots, Ag.flat, As.vals, E.pure, Es.pure, As.pure, Path.pure, argMs, Mi.callEnd, backAs, putPl, M.put, M.setKid, M.toD, viewE, D.hard, D.hard.hards, datsOf, onDat, outD, fSub_i, fAddI_i, fAddX_i, fLt_i, fLe_i, fGt_i, fGe_i, fEq_i, fEq_s, fEq_b, fNe_i, fNe_s, fNe_b, fNot_b, fNeg_i, fIx_l, fIx_t, fLen_l, fLen_t, fIsi_int_i, fIsi_bool_i, fIsi_bool_b, setTg, Tg.slots, setMany, fldIx, toOwned, datOf, startE, toOwned]; rfl))).trans ?_
    exact h
  rw [s0 rfl]
  have s1 : execSs sub (callF sub tab bigN k) fn10.pin bigN (tl fn10.body) [some (.dat (.lst (P.map Fun0.d))), some (.dat (.lst (vs.map Vl.d))), some (.dat (.int mx)), some (fnsM []), none, none, none, none, none] =
      execSs sub (callF sub tab bigN k) fn10.pin bigN (tl (tl fn10.body)) [some (.dat (.lst (P.map Fun0.d))), some (.dat (.lst (vs.map Vl.d))), some (.dat (.int mx)), some (fnsM ([] ++ funs P)), y4, none, none, none, none] := by
    unfold fn10 at e1 ⊢
    exact ex_nx (ex_for (ms := [.dat (.lst (P.map Fun0.d))]) (μ1 := [some (.dat (.lst (P.map Fun0.d))), some (.dat (.lst (vs.map Vl.d))), some (.dat (.int mx)), some (fnsM []), none, none, none, none, none]) (ds := [.lst (P.map Fun0.d)]) (xs := P.map Fun0.d) rfl (by generalize P.map Fun0.d = L1; simp (decide := true) [execSs, execS, evalE, evalAs, evalEs, evalP, evalI, slot, insOk, atPl, M.at, M.kids, M.kind, nodupB, Ag.roots, Ag.flat, As.vals, E.pure, Es.pure, As.pure, Path.pure, argMs, Mi.callEnd, backAs, putPl, M.put, M.setKid, M.toD, viewE, D.hard, D.hard.hards, datsOf, onDat, outD, fSub_i, fAddI_i, fAddX_i, fLt_i, fLe_i, fGt_i, fGe_i, fEq_i, fEq_s, fEq_b, fNe_i, fNe_s, fNe_b, fNot_b, fNeg_i, fIx_l, fIx_t, fLen_l, fLen_t, fIsi_int_i, fIsi_bool_i, fIsi_bool_b, setTg, Tg.slots, setMany, fldIx, toOwned, datOf]) rfl rfl e1)
  rw [s1]
  have s2 : execSs sub (callF sub tab bigN k) fn10.pin bigN (tl (tl fn10.body)) [some (.dat (.lst (P.map Fun0.d))), some (.dat (.lst (vs.map Vl.d))), some (.dat (.int mx)), some (fnsM ([] ++ funs P)), y4, none, none, none, none] =
      execSs sub (callF sub tab bigN k) fn10.pin bigN (tl (tl (tl (tl fn10.body)))) [some (.dat (.lst (P.map Fun0.d))), some (.dat (.lst (vs.map Vl.d))), some (.dat (.int mx)), some (.dat (fnsD (funs P))), y4, some (.dat m.d), some (nmM []), none, none] := by
    have td : (fnsM ([] ++ funs P)).toD = fnsD (funs P) := fnsM_toD _
    have en : (nmM [] : M) = .dct [] [] := rfl
    rw [en]
    generalize fnsM ([] ++ funs P) = fM at *
    generalize fnsD (funs P) = fD at *
    generalize m.d = md at *
    generalize P.map Fun0.d = L1 at *
    generalize vs.map Vl.d = L2 at *
    unfold fn10
    refine (ex_nx (by first | (simp (decide := true) [execSs, execS, evalE, evalAs, evalEs, evalP, evalI, slot, insOk, atPl, M.at, M.kids, M.kind, nodupB, Ag.roots, Ag.flat, As.vals, E.pure, Es.pure, As.pure, Path.pure, argMs, Mi.callEnd, backAs, putPl, M.put, M.setKid, M.toD, viewE, D.hard, D.hard.hards, datsOf, onDat, outD, fSub_i, fAddI_i, fAddX_i, fLt_i, fLe_i, fGt_i, fGe_i, fEq_i, fEq_s, fEq_b, fNe_i, fNe_s, fNe_b, fNot_b, fNeg_i, fIx_l, fIx_t, fLen_l, fLen_t, fIsi_int_i, fIsi_bool_i, fIsi_bool_b, setTg, Tg.slots, setMany, fldIx, toOwned, datOf, tl, td, gm]; done) | (simp (decide := true) [execSs, execS, evalE, evalAs, evalEs, evalP, evalI, slot, insOk, atPl, M.at, M.kids, M.kind, nodupB, Ag.roots, Ag.flat, As.vals, E.pure, Es.pure, As.pure, Path.pure, argMs, Mi.callEnd, backAs, putPl, M.put, M.setKid, M.toD, viewE, D.hard, D.hard.hards, datsOf, onDat, outD, fSub_i, fAddI_i, fAddX_i, fLt_i, fLe_i, fGt_i, fGe_i, fEq_i, fEq_s, fEq_b, fNe_i, fNe_s, fNe_b, fNot_b, fNeg_i, fIx_l, fIx_t, fLen_l, fLen_t, fIsi_int_i, fIsi_bool_i, fIsi_bool_b, setTg, Tg.slots, setMany, fldIx, toOwned, datOf, tl, td, gm]; rfl))).trans ?_
    refine (ex_nx (by first | (simp (decide := true) [execSs, execS, evalE, evalAs, evalEs, evalP, evalI, slot, insOk, atPl, M.at, M.kids, M.kind, nodupB, Ag.roots, Ag.flat, As.vals, E.pure, Es.pure, As.pure, Path.pure, argMs, Mi.callEnd, backAs, putPl, M.put, M.setKid, M.toD, viewE, D.hard, D.hard.hards, datsOf, onDat, outD, fSub_i, fAddI_i, fAddX_i, fLt_i, fLe_i, fGt_i, fGe_i, fEq_i, fEq_s, fEq_b, fNe_i, fNe_s, fNe_b, fNot_b, fNeg_i, fIx_l, fIx_t, fLen_l, fLen_t, fIsi_int_i, fIsi_bool_i, fIsi_bool_b, setTg, Tg.slots, setMany, fldIx, toOwned, datOf, toOwned]; done) | (simp (decide := true) [execSs, execS, evalE, evalAs, evalEs, evalP, evalI, slot, insOk, atPl, M.at, M.kids, M.kind, nodupB, Ag.roots, Ag.flat, As.vals, E.pure, Es.pure, As.pure, Path.pure, argMs, Mi.callEnd, backAs, putPl, M.put, M.setKid, M.toD, viewE, D.hard, D.hard.hards, datsOf, onDat, outD, fSub_i, fAddI_i, fAddX_i, fLt_i, fLe_i, fGt_i, fGe_i, fEq_i, fEq_s, fEq_b, fNe_i, fNe_s, fNe_b, fNot_b, fNeg_i, fIx_l, fIx_t, fLen_l, fLen_t, fIsi_int_i, fIsi_bool_i, fIsi_bool_b, setTg, Tg.slots, setMany, fldIx, toOwned, datOf, toOwned]; rfl))).trans ?_
    rfl
  rw [s2]
  have s3 : execSs sub (callF sub tab bigN k) fn10.pin bigN (tl (tl (tl (tl fn10.body)))) [some (.dat (.lst (P.map Fun0.d))), some (.dat (.lst (vs.map Vl.d))), some (.dat (.int mx)), some (.dat (fnsD (funs P))), y4, some (.dat m.d), some (nmM []), none, none] =
      execSs sub (callF sub tab bigN k) fn10.pin bigN (tl (tl (tl (tl (tl fn10.body))))) [some (.dat (.lst (P.map Fun0.d))), some (.dat (.lst (vs.map Vl.d))), some (.dat (.int mx)), some (.dat (fnsD (funs P))), y4, some (.dat m.d), some (nmM (envOf m vs)), y7, y8] := by
    unfold fn10 at e2 ⊢
    exact ex_nx (ex_for (ms := [.dat (.lst (m.ts.map tkD)), .dat (.lst (vs.map Vl.d))]) (μ1 := [some (.dat (.lst (P.map Fun0.d))), some (.dat (.lst (vs.map Vl.d))), some (.dat (.int mx)), some (.dat (fnsD (funs P))), y4, some (.dat m.d), some (nmM []), none, none]) (ds := [.lst (m.ts.map tkD), .lst (vs.map Vl.d)]) (xs := zipD (m.ts.map tkD) (vs.map Vl.d)) rfl
      (by generalize P.map Fun0.d = L1 at *; generalize vs.map Vl.d = L2 at *; generalize m.ts.map tkD = L3 at *; generalize m.d = md at *; simp (decide := true) [execSs, execS, evalE, evalAs, evalEs, evalP, evalI, slot, insOk, atPl, M.at, M.kids, M.kind, nodupB, Ag.roots, Ag.flat, As.vals, E.pure, Es.pure, As.pure, Path.pure, argMs, Mi.callEnd, backAs, putPl, M.put, M.setKid, M.toD, viewE, D.hard, D.hard.hards, datsOf, onDat, outD, fSub_i, fAddI_i, fAddX_i, fLt_i, fLe_i, fGt_i, fGe_i, fEq_i, fEq_s, fEq_b, fNe_i, fNe_s, fNe_b, fNot_b, fNeg_i, fIx_l, fIx_t, fLen_l, fLen_t, fIsi_int_i, fIsi_bool_i, fIsi_bool_b, setTg, Tg.slots, setMany, fldIx, toOwned, datOf, i1]) rfl rfl e2)
  rw [s3]
  exact g
theorem fnEnd_call {ms : List M} (hl : ms.length = 3) : callF sub tab bigN (k + 1) 10 ms = fnEnd fn10 (execSs sub (callF sub tab bigN k) fn10.pin bigN fn10.body (startE fn10 ms)) := by
  show (match tab 10 with | some fn => if ms.length = fn.np then fnEnd fn (execSs sub (callF sub tab bigN k) fn.pin bigN fn.body (startE fn ms)) else .stuck | none => .stuck) = _
  show (if ms.length = 3 then _ else _) = _
  rw [if_pos hl]
theorem run_ok {v : Vl} {r : M} (h : RunOk P m vs) (e : callF sub tab bigN (k + 1) 8 [.dat (fnsD (funs P)), .dat m.body, .dat (nmD (envOf m vs)), cnt mx 0 0] = okc v c) (t : callF sub tab bigN (k + 1) 9 [.dat v.d, .dat m.kd] = .ok r [none, none]) :
    callF sub tab bigN (k + 2) 10 [.dat (.lst (P.map Fun0.d)), .dat (.lst (vs.map Vl.d)), .dat (.int mx)] = .ok r [none, none, none] := by
  have ct := count_ok k mx
  have td := nmM_toD (envOf m vs)
  have i2 : fIx m.d (.int 2) = some m.kd := fnD_2 _ _ _ _
  have i3 : fIx m.d (.int 3) = some m.body := fnD_3 _ _ _ _
  unfold okc at e
  rw [fnEnd_call rfl]
  refine run_pre h (fun q => fnEnd fn10 q = .ok r [none, none, none]) fun y4 y7 y8 => ?_
  have z : execSs sub (callF sub tab bigN (k + 1)) fn10.pin bigN (tl (tl (tl (tl (tl fn10.body))))) [some (.dat (.lst (P.map Fun0.d))), some (.dat (.lst (vs.map Vl.d))), some (.dat (.int mx)), some (.dat (fnsD (funs P))), y4, some (.dat m.d), some (nmM (envOf m vs)), y7, y8] =
      .ret r [some (.dat (.lst (P.map Fun0.d))), some (.dat (.lst (vs.map Vl.d))), some (.dat (.int mx)), some (.dat (fnsD (funs P))), y4, some (.dat m.d), some (.dat (nmD (envOf m vs))), y7, y8] := by
    generalize P.map Fun0.d = L1 at *
    generalize vs.map Vl.d = L2 at *
    generalize fnsD (funs P) = fD at *
    generalize hNM : nmM (envOf m vs) = nM at *
    generalize hND : nmD (envOf m vs) = nD at *
    generalize m.d = md at *
    generalize hc : cnt mx 0 0 = c0 at *
    unfold fn10
    refine ex_ret (by first | (simp (decide := true) [execSs, execS, evalE, evalAs, evalEs, evalP, evalI, slot, insOk, atPl, M.at, M.kids, M.kind, nodupB, Ag.roots, Ag.flat, As.vals, E.pure, Es.pure, As.pure, Path.pure, argMs, Mi.callEnd, backAs, putPl, M.put, M.setKid, M.toD, viewE, D.hard, D.hard.hards, datsOf, onDat, outD, fSub_i, fAddI_i, fAddX_i, fLt_i, fLe_i, fGt_i, fGe_i, fEq_i, fEq_s, fEq_b, fNe_i, fNe_s, fNe_b, fNot_b, fNeg_i, fIx_l, fIx_t, fLen_l, fLen_t, fIsi_int_i, fIsi_bool_i, fIsi_bool_b, setTg, Tg.slots, setMany, fldIx, toOwned, datOf, tl, td, i3, ct, newEnd, e, i2, t]; done) | (simp (decide := true) [execSs, execS, evalE, evalAs, evalEs, evalP, evalI, slot, insOk, atPl, M.at, M.kids, M.kind, nodupB, Ag.roots, Ag.flat, As.vals, E.pure, Es.pure, As.pure, Path.pure, argMs, Mi.callEnd, backAs, putPl, M.put, M.setKid, M.toD, viewE, D.hard, D.hard.hards, datsOf, onDat, outD, fSub_i, fAddI_i, fAddX_i, fLt_i, fLe_i, fGt_i, fGe_i, fEq_i, fEq_s, fEq_b, fNe_i, fNe_s, fNe_b, fNot_b, fNeg_i, fIx_l, fIx_t, fLen_l, fLen_t, fIsi_int_i, fIsi_bool_i, fIsi_bool_b, setTg, Tg.slots, setMany, fldIx, toOwned, datOf, tl, td, i3, ct, newEnd, e, i2, t]; rfl))
  rw [z]
  rfl
theorem run_er {x : Str} (h : RunOk P m vs) (e : callF sub tab bigN (k + 1) 8 [.dat (fnsD (funs P)), .dat m.body, .dat (nmD (envOf m vs)), cnt mx 0 0] = erc x c) :
    callF sub tab bigN (k + 2) 10 [.dat (.lst (P.map Fun0.d)), .dat (.lst (vs.map Vl.d)), .dat (.int mx)] = .err x [none, none, none] := by
  have ct := count_ok k mx
  have td := nmM_toD (envOf m vs)
  have i3 : fIx m.d (.int 3) = some m.body := fnD_3 _ _ _ _
  unfold erc at e
  rw [fnEnd_call rfl]
  refine run_pre h (fun q => fnEnd fn10 q = .err x [none, none, none]) fun y4 y7 y8 => ?_
  have z : execSs sub (callF sub tab bigN (k + 1)) fn10.pin bigN (tl (tl (tl (tl (tl fn10.body))))) [some (.dat (.lst (P.map Fun0.d))), some (.dat (.lst (vs.map Vl.d))), some (.dat (.int mx)), some (.dat (fnsD (funs P))), y4, some (.dat m.d), some (nmM (envOf m vs)), y7, y8] =
      .err x [some (.dat (.lst (P.map Fun0.d))), some (.dat (.lst (vs.map Vl.d))), some (.dat (.int mx)), some (.dat (fnsD (funs P))), y4, some (.dat m.d), some (.dat (nmD (envOf m vs))), y7, y8] := by
    generalize P.map Fun0.d = L1 at *
    generalize vs.map Vl.d = L2 at *
    generalize fnsD (funs P) = fD at *
    generalize hNM : nmM (envOf m vs) = nM at *
    generalize hND : nmD (envOf m vs) = nD at *
    generalize m.d = md at *
    generalize hc : cnt mx 0 0 = c0 at *
    unfold fn10
    refine ex_er ?_
    simp (decide := true) [execSs, execS, evalE, evalAs, evalEs, evalP, evalI, slot, insOk, atPl, M.at, M.kids, M.kind, nodupB, Ag.roots, Ag.flat, As.vals, E.pure, Es.pure, As.pure, Path.pure, argMs, Mi.callEnd, backAs, putPl, M.put, M.setKid, M.toD, viewE, D.hard, D.hard.hards, datsOf, onDat, outD, fSub_i, fAddI_i, fAddX_i, fLt_i, fLe_i, fGt_i, fGe_i, fEq_i, fEq_s, fEq_b, fNe_i, fNe_s, fNe_b, fNot_b, fNeg_i, fIx_l, fIx_t, fLen_l, fLen_t, fIsi_int_i, fIsi_bool_i, fIsi_bool_b, setTg, Tg.slots, setMany, fldIx, toOwned, datOf, tl, td, i3, ct, newEnd, e]
  rw [z]
  rfl
end
/-! ### told -/
theorem told_num (k : Nat) (z : Int) : callF sub tab bigN (k + 1) 9 [.dat (.int z), .dat (.tup [.str "num"])] = .ok (.dat (.int z)) [none, none] := by
  refine call_ret (fn := fn9) rfl rfl ?_ (μ' := [some (.dat (.int z)), some (.dat (.tup [.str "num"])), none])
  unfold fn9
  refine ex_ret (by first | (simp (decide := true) [execSs, execS, evalE, evalAs, evalEs, evalP, evalI, slot, insOk, atPl, M.at, M.kids, M.kind, nodupB, Ag.roots, Ag.flat, As.vals, E.pure, Es.pure, As.pure, Path.pure, argMs, Mi.callEnd, backAs, putPl, M.put, M.setKid, M.toD, viewE, D.hard, D.hard.hards, datsOf, onDat, outD, fSub_i, fAddI_i, fAddX_i, fLt_i, fLe_i, fGt_i, fGe_i, fEq_i, fEq_s, fEq_b, fNe_i, fNe_s, fNe_b, fNot_b, fNeg_i, fIx_l, fIx_t, fLen_l, fLen_t, fIsi_int_i, fIsi_bool_i, fIsi_bool_b, setTg, Tg.slots, setMany, fldIx, toOwned, datOf, startE, atI_0]; done) | (simp (decide := true) [execSs, execS, evalE, evalAs, evalEs, evalP, evalI, slot, insOk, atPl, M.at, M.kids, M.kind, nodupB, Ag.roots, Ag.flat, As.vals, E.pure, Es.pure, As.pure, Path.pure, argMs, Mi.callEnd, backAs, putPl, M.put, M.setKid, M.toD, viewE, D.hard, D.hard.hards, datsOf, onDat, outD, fSub_i, fAddI_i, fAddX_i, fLt_i, fLe_i, fGt_i, fGe_i, fEq_i, fEq_s, fEq_b, fNe_i, fNe_s, fNe_b, fNot_b, fNeg_i, fIx_l, fIx_t, fLen_l, fLen_t, fIsi_int_i, fIsi_bool_i, fIsi_bool_b, setTg, Tg.slots, setMany, fldIx, toOwned, datOf, startE, atI_0]; rfl))
/-- a list of numbers -/
def lv : List Int → Vl
  | [] => .non
  | n :: r => .cell (.num n) (lv r) (1 + 1 + (lv r).sz)
theorem lv_sz : ∀ ns : List Int, (lv ns).sz = 1 + 2 * (ns.length : Int)
  | [] => rfl
  | n :: r => by
    show 1 + 1 + (lv r).sz = _
    rw [lv_sz r, List.length_cons]
    omega
abbrev kNum : D := .tup [.str "num"]
abbrev kList : D := .tup [.str "list", .tup [.str "num"]]
theorem told_loop (k : Nat) {x1 : Option M} (hx : x1 = some (.dat kList)) : ∀ (ns : List Int) (j : Nat) (acc : List D), ns.length < j → acc.length + ns.length ≤ 900 →
    whLoop (evalE (callF sub tab bigN (k + 1)) fn9.pin w9_0c) (execSs sub (callF sub tab bigN (k + 1)) fn9.pin bigN w9_0b) j [some (.dat (lv ns).d), x1, some (.lst (dm acc))] = .nx [some (.dat .non), x1, some (.lst (dm (acc ++ ns.map .int)))]
  | [], j + 1, acc, _, _ => by
    rw [whLoop_f (μ1 := [some (.dat .non), x1, some (.lst (dm acc))]) (by simp (decide := true) [execSs, execS, evalE, evalAs, evalEs, evalP, evalI, slot, insOk, atPl, M.at, M.kids, M.kind, nodupB, Ag.roots, Ag.flat, As.vals, E.pure, Es.pure, As.pure, Path.pure, argMs, Mi.callEnd, backAs, putPl, M.put, M.setKid, M.toD, viewE, D.hard, D.hard.hards, datsOf, onDat, outD, fSub_i, fAddI_i, fAddX_i, fLt_i, fLe_i, fGt_i, fGe_i, fEq_i, fEq_s, fEq_b, fNe_i, fNe_s, fNe_b, fNot_b, fNeg_i, fIx_l, fIx_t, fLen_l, fLen_t, fIsi_int_i, fIsi_bool_i, fIsi_bool_b, setTg, Tg.slots, setMany, fldIx, toOwned, datOf, w9_0c, lv, Vl.d, fIsNotN])]
    simp
  | n :: r, j + 1, acc, h, hl => by
    have hl' : acc.length + (r.length + 1) ≤ 900 := hl
    have ih := told_loop k hx r j (acc ++ [.int n]) (by simpa using h) (by simp; omega)
    have t := told_num k n
    have p := fAppend_d (rs := acc) (d := .int n) (by omega)
    subst hx
    rw [whLoop_t (μ1 := [some (.dat (lv (n :: r)).d), some (.dat kList), some (.lst (dm acc))]) (μ2 := [some (.dat (lv r).d), some (.dat kList), some (.lst (dm (acc ++ [.int n])))]) (by simp (decide := true) [execSs, execS, evalE, evalAs, evalEs, evalP, evalI, slot, insOk, atPl, M.at, M.kids, M.kind, nodupB, Ag.roots, Ag.flat, As.vals, E.pure, Es.pure, As.pure, Path.pure, argMs, Mi.callEnd, backAs, putPl, M.put, M.setKid, M.toD, viewE, D.hard, D.hard.hards, datsOf, onDat, outD, fSub_i, fAddI_i, fAddX_i, fLt_i, fLe_i, fGt_i, fGe_i, fEq_i, fEq_s, fEq_b, fNe_i, fNe_s, fNe_b, fNot_b, fNeg_i, fIx_l, fIx_t, fLen_l, fLen_t, fIsi_int_i, fIsi_bool_i, fIsi_bool_b, setTg, Tg.slots, setMany, fldIx, toOwned, datOf, w9_0c, lv, Vl.d, fIsNotN])]
    · rw [ih]
      simp
    · unfold w9_0b
      refine (ex_nx (by first | (simp (decide := true) [execSs, execS, evalE, evalAs, evalEs, evalP, evalI, slot, insOk, atPl, M.at, M.kids, M.kind, nodupB, Ag.roots, Ag.flat, As.vals, E.pure, Es.pure, As.pure, Path.pure, argMs, Mi.callEnd, backAs, putPl, M.put, M.setKid, M.toD, viewE, D.hard, D.hard.hards, datsOf, onDat, outD, fSub_i, fAddI_i, fAddX_i, fLt_i, fLe_i, fGt_i, fGe_i, fEq_i, fEq_s, fEq_b, fNe_i, fNe_s, fNe_b, fNot_b, fNeg_i, fIx_l, fIx_t, fLen_l, fLen_t, fIsi_int_i, fIsi_bool_i, fIsi_bool_b, setTg, Tg.slots, setMany, fldIx, toOwned, datOf, lv, Vl.d, atI_0, atI_1, t, p]; done) | (simp (decide := true) [execSs, execS, evalE, evalAs, evalEs, evalP, evalI, slot, insOk, atPl, M.at, M.kids, M.kind, nodupB, Ag.roots, Ag.flat, As.vals, E.pure, Es.pure, As.pure, Path.pure, argMs, Mi.callEnd, backAs, putPl, M.put, M.setKid, M.toD, viewE, D.hard, D.hard.hards, datsOf, onDat, outD, fSub_i, fAddI_i, fAddX_i, fLt_i, fLe_i, fGt_i, fGe_i, fEq_i, fEq_s, fEq_b, fNe_i, fNe_s, fNe_b, fNot_b, fNeg_i, fIx_l, fIx_t, fLen_l, fLen_t, fIsi_int_i, fIsi_bool_i, fIsi_bool_b, setTg, Tg.slots, setMany, fldIx, toOwned, datOf, lv, Vl.d, atI_0, atI_1, t, p]; rfl))).trans ?_
      refine ex_last ?_
      simp (decide := true) [execSs, execS, evalE, evalAs, evalEs, evalP, evalI, slot, insOk, atPl, M.at, M.kids, M.kind, nodupB, Ag.roots, Ag.flat, As.vals, E.pure, Es.pure, As.pure, Path.pure, argMs, Mi.callEnd, backAs, putPl, M.put, M.setKid, M.toD, viewE, D.hard, D.hard.hards, datsOf, onDat, outD, fSub_i, fAddI_i, fAddX_i, fLt_i, fLe_i, fGt_i, fGe_i, fEq_i, fEq_s, fEq_b, fNe_i, fNe_s, fNe_b, fNot_b, fNeg_i, fIx_l, fIx_t, fLen_l, fLen_t, fIsi_int_i, fIsi_bool_i, fIsi_bool_b, setTg, Tg.slots, setMany, fldIx, toOwned, datOf, atI_1]
theorem told_list (k : Nat) (ns : List Int) (hl : ns.length ≤ 900) : callF sub tab bigN (k + 2) 9 [.dat (lv ns).d, .dat kList] = .ok (.lst (dm (ns.map .int))) [none, none] := by
  have w := told_loop k (x1 := some (.dat kList)) rfl ns bigN [] (by unfold bigN; omega) (by simpa using hl)
  refine call_ret (fn := fn9) rfl rfl ?_ (μ' := [some (.dat .non), some (.dat kList), none])
  unfold fn9 at w ⊢
  refine (ex_nx (by first | (simp (decide := true) [execSs, execS, evalE, evalAs, evalEs, evalP, evalI, slot, insOk, atPl, M.at, M.kids, M.kind, nodupB, Ag.roots, Ag.flat, As.vals, E.pure, Es.pure, As.pure, Path.pure, argMs, Mi.callEnd, backAs, putPl, M.put, M.setKid, M.toD, viewE, D.hard, D.hard.hards, datsOf, onDat, outD, fSub_i, fAddI_i, fAddX_i, fLt_i, fLe_i, fGt_i, fGe_i, fEq_i, fEq_s, fEq_b, fNe_i, fNe_s, fNe_b, fNot_b, fNeg_i, fIx_l, fIx_t, fLen_l, fLen_t, fIsi_int_i, fIsi_bool_i, fIsi_bool_b, setTg, Tg.slots, setMany, fldIx, toOwned, datOf, startE, atI_0]; done) | (simp (decide := true) [execSs, execS, evalE, evalAs, evalEs, evalP, evalI, slot, insOk, atPl, M.at, M.kids, M.kind, nodupB, Ag.roots, Ag.flat, As.vals, E.pure, Es.pure, As.pure, Path.pure, argMs, Mi.callEnd, backAs, putPl, M.put, M.setKid, M.toD, viewE, D.hard, D.hard.hards, datsOf, onDat, outD, fSub_i, fAddI_i, fAddX_i, fLt_i, fLe_i, fGt_i, fGe_i, fEq_i, fEq_s, fEq_b, fNe_i, fNe_s, fNe_b, fNot_b, fNeg_i, fIx_l, fIx_t, fLen_l, fLen_t, fIsi_int_i, fIsi_bool_i, fIsi_bool_b, setTg, Tg.slots, setMany, fldIx, toOwned, datOf, startE, atI_0]; rfl))).trans ?_
  refine (ex_nx (by first | (simp (decide := true) [execSs, execS, evalE, evalAs, evalEs, evalP, evalI, slot, insOk, atPl, M.at, M.kids, M.kind, nodupB, Ag.roots, Ag.flat, As.vals, E.pure, Es.pure, As.pure, Path.pure, argMs, Mi.callEnd, backAs, putPl, M.put, M.setKid, M.toD, viewE, D.hard, D.hard.hards, datsOf, onDat, outD, fSub_i, fAddI_i, fAddX_i, fLt_i, fLe_i, fGt_i, fGe_i, fEq_i, fEq_s, fEq_b, fNe_i, fNe_s, fNe_b, fNot_b, fNeg_i, fIx_l, fIx_t, fLen_l, fLen_t, fIsi_int_i, fIsi_bool_i, fIsi_bool_b, setTg, Tg.slots, setMany, fldIx, toOwned, datOf, atI_0]; done) | (simp (decide := true) [execSs, execS, evalE, evalAs, evalEs, evalP, evalI, slot, insOk, atPl, M.at, M.kids, M.kind, nodupB, Ag.roots, Ag.flat, As.vals, E.pure, Es.pure, As.pure, Path.pure, argMs, Mi.callEnd, backAs, putPl, M.put, M.setKid, M.toD, viewE, D.hard, D.hard.hards, datsOf, onDat, outD, fSub_i, fAddI_i, fAddX_i, fLt_i, fLe_i, fGt_i, fGe_i, fEq_i, fEq_s, fEq_b, fNe_i, fNe_s, fNe_b, fNot_b, fNeg_i, fIx_l, fIx_t, fLen_l, fLen_t, fIsi_int_i, fIsi_bool_i, fIsi_bool_b, setTg, Tg.slots, setMany, fldIx, toOwned, datOf, atI_0]; rfl))).trans ?_
  refine (ex_nx (by first | (simp (decide := true) [execSs, execS, evalE, evalAs, evalEs, evalP, evalI, slot, insOk, atPl, M.at, M.kids, M.kind, nodupB, Ag.roots, Ag.flat, As.vals, E.pure, Es.pure, As.pure, Path.pure, argMs, Mi.callEnd, backAs, putPl, M.put, M.setKid, M.toD, viewE, D.hard, D.hard.hards, datsOf, onDat, outD, fSub_i, fAddI_i, fAddX_i, fLt_i, fLe_i, fGt_i, fGe_i, fEq_i, fEq_s, fEq_b, fNe_i, fNe_s, fNe_b, fNot_b, fNeg_i, fIx_l, fIx_t, fLen_l, fLen_t, fIsi_int_i, fIsi_bool_i, fIsi_bool_b, setTg, Tg.slots, setMany, fldIx, toOwned, datOf, fLst_n, toOwned]; done) | (simp (decide := true) [execSs, execS, evalE, evalAs, evalEs, evalP, evalI, slot, insOk, atPl, M.at, M.kids, M.kind, nodupB, Ag.roots, Ag.flat, As.vals, E.pure, Es.pure, As.pure, Path.pure, argMs, Mi.callEnd, backAs, putPl, M.put, M.setKid, M.toD, viewE, D.hard, D.hard.hards, datsOf, onDat, outD, fSub_i, fAddI_i, fAddX_i, fLt_i, fLe_i, fGt_i, fGe_i, fEq_i, fEq_s, fEq_b, fNe_i, fNe_s, fNe_b, fNot_b, fNeg_i, fIx_l, fIx_t, fLen_l, fLen_t, fIsi_int_i, fIsi_bool_i, fIsi_bool_b, setTg, Tg.slots, setMany, fldIx, toOwned, datOf, fLst_n, toOwned]; rfl))).trans ?_
  refine (ex_nx (ex_wh w)).trans ?_
  refine ex_ret (by first | (simp (decide := true) [execSs, execS, evalE, evalAs, evalEs, evalP, evalI, slot, insOk, atPl, M.at, M.kids, M.kind, nodupB, Ag.roots, Ag.flat, As.vals, E.pure, Es.pure, As.pure, Path.pure, argMs, Mi.callEnd, backAs, putPl, M.put, M.setKid, M.toD, viewE, D.hard, D.hard.hards, datsOf, onDat, outD, fSub_i, fAddI_i, fAddX_i, fLt_i, fLe_i, fGt_i, fGe_i, fEq_i, fEq_s, fEq_b, fNe_i, fNe_s, fNe_b, fNot_b, fNeg_i, fIx_l, fIx_t, fLen_l, fLen_t, fIsi_int_i, fIsi_bool_i, fIsi_bool_b, setTg, Tg.slots, setMany, fldIx, toOwned, datOf]; done) | (simp (decide := true) [execSs, execS, evalE, evalAs, evalEs, evalP, evalI, slot, insOk, atPl, M.at, M.kids, M.kind, nodupB, Ag.roots, Ag.flat, As.vals, E.pure, Es.pure, As.pure, Path.pure, argMs, Mi.callEnd, backAs, putPl, M.put, M.setKid, M.toD, viewE, D.hard, D.hard.hards, datsOf, onDat, outD, fSub_i, fAddI_i, fAddX_i, fLt_i, fLe_i, fGt_i, fGe_i, fEq_i, fEq_s, fEq_b, fNe_i, fNe_s, fNe_b, fNot_b, fNeg_i, fIx_l, fIx_t, fLen_l, fLen_t, fIsi_int_i, fIsi_bool_i, fIsi_bool_b, setTg, Tg.slots, setMany, fldIx, toOwned, datOf]; rfl))
theorem told_pair (k : Nat) {a b : Vl} {s : Int} {ka kb : D} {ra rb : M} (h1 : callF sub tab bigN k 9 [.dat a.d, .dat ka] = .ok ra [none, none]) (h2 : callF sub tab bigN k 9 [.dat b.d, .dat kb] = .ok rb [none, none]) :
    callF sub tab bigN (k + 1) 9 [.dat (Vl.cell a b s).d, .dat (.tup [.str "pair", ka, kb])] = .ok (.tup [ra, rb]) [none, none] := by
  refine call_ret (fn := fn9) rfl rfl ?_ (μ' := [some (.dat (Vl.cell a b s).d), some (.dat (.tup [.str "pair", ka, kb])), none])
  unfold fn9
  refine (ex_nx (by first | (simp (decide := true) [execSs, execS, evalE, evalAs, evalEs, evalP, evalI, slot, insOk, atPl, M.at, M.kids, M.kind, nodupB, Ag.roots, Ag.flat, As.vals, E.pure, Es.pure, As.pure, Path.pure, argMs, Mi.callEnd, backAs, putPl, M.put, M.setKid, M.toD, viewE, D.hard, D.hard.hards, datsOf, onDat, outD, fSub_i, fAddI_i, fAddX_i, fLt_i, fLe_i, fGt_i, fGe_i, fEq_i, fEq_s, fEq_b, fNe_i, fNe_s, fNe_b, fNot_b, fNeg_i, fIx_l, fIx_t, fLen_l, fLen_t, fIsi_int_i, fIsi_bool_i, fIsi_bool_b, setTg, Tg.slots, setMany, fldIx, toOwned, datOf, startE, atI_0]; done) | (simp (decide := true) [execSs, execS, evalE, evalAs, evalEs, evalP, evalI, slot, insOk, atPl, M.at, M.kids, M.kind, nodupB, Ag.roots, Ag.flat, As.vals, E.pure, Es.pure, As.pure, Path.pure, argMs, Mi.callEnd, backAs, putPl, M.put, M.setKid, M.toD, viewE, D.hard, D.hard.hards, datsOf, onDat, outD, fSub_i, fAddI_i, fAddX_i, fLt_i, fLe_i, fGt_i, fGe_i, fEq_i, fEq_s, fEq_b, fNe_i, fNe_s, fNe_b, fNot_b, fNeg_i, fIx_l, fIx_t, fLen_l, fLen_t, fIsi_int_i, fIsi_bool_i, fIsi_bool_b, setTg, Tg.slots, setMany, fldIx, toOwned, datOf, startE, atI_0]; rfl))).trans ?_
  refine ex_ret (by first | (simp (decide := true) [execSs, execS, evalE, evalAs, evalEs, evalP, evalI, slot, insOk, atPl, M.at, M.kids, M.kind, nodupB, Ag.roots, Ag.flat, As.vals, E.pure, Es.pure, As.pure, Path.pure, argMs, Mi.callEnd, backAs, putPl, M.put, M.setKid, M.toD, viewE, D.hard, D.hard.hards, datsOf, onDat, outD, fSub_i, fAddI_i, fAddX_i, fLt_i, fLe_i, fGt_i, fGe_i, fEq_i, fEq_s, fEq_b, fNe_i, fNe_s, fNe_b, fNot_b, fNeg_i, fIx_l, fIx_t, fLen_l, fLen_t, fIsi_int_i, fIsi_bool_i, fIsi_bool_b, setTg, Tg.slots, setMany, fldIx, toOwned, datOf, Vl.d, atI_0, atI_1, atI_2, h1, h2, le_line]; done) | (simp (decide := true) [execSs, execS, evalE, evalAs, evalEs, evalP, evalI, slot, insOk, atPl, M.at, M.kids, M.kind, nodupB, Ag.roots, Ag.flat, As.vals, E.pure, Es.pure, As.pure, Path.pure, argMs, Mi.callEnd, backAs, putPl, M.put, M.setKid, M.toD, viewE, D.hard, D.hard.hards, datsOf, onDat, outD, fSub_i, fAddI_i, fAddX_i, fLt_i, fLe_i, fGt_i, fGe_i, fEq_i, fEq_s, fEq_b, fNe_i, fNe_s, fNe_b, fNot_b, fNeg_i, fIx_l, fIx_t, fLen_l, fLen_t, fIsi_int_i, fIsi_bool_i, fIsi_bool_b, setTg, Tg.slots, setMany, fldIx, toOwned, datOf, Vl.d, atI_0, atI_1, atI_2, h1, h2, le_line]; rfl))
end K16
namespace K16
open PySem L2 Mi
/-! ### the count -/
theorem cnt_begun {mx b u : Int} : fFld "Count" "begun" (cnt mx b u).toD = some (.int b) := by rfl
theorem cnt_most {mx b u : Int} : fFld "Count" "most" (cnt mx b u).toD = some (.int mx) := by rfl
theorem cnt_under {mx b u : Int} : fFld "Count" "under" (cnt mx b u).toD = some (.int u) := by rfl
theorem aug_begun {mx b u : Int} : fAugFld "Count" "begun" (· + ·) 1 (cnt mx b u) [] = some (cnt mx (b + 1) u, .dat .non) := by rfl
theorem aug_under {mx b u : Int} : fAugFld "Count" "under" (· + ·) 1 (cnt mx b u) [] = some (cnt mx b (u + 1), .dat .non) := by rfl
theorem aug_under' {mx b u : Int} : fAugFld "Count" "under" (· - ·) 1 (cnt mx b u) [] = some (cnt mx b (u - 1), .dat .non) := by rfl
theorem cnt_kind {mx b u : Int} : (cnt mx b u).kind = 2 := rfl
theorem flat_b {b : Bool} : (D.bl b).flat = true := rfl
theorem begin_ok (k : Nat) {mx b u : Int} (h1 : ¬ mx < b + 1) (h2 : ¬ 12 < u + 1) : callF sub tab bigN (k + 1) 1 [cnt mx b u] = .ok (.dat .non) [some (cnt mx (b + 1) (u + 1))] := by
  refine call_nx (fn := fn1) rfl rfl ?_ (μ' := [some (cnt mx (b + 1) (u + 1))])
  have a1 := aug_begun (mx := mx) (b := b) (u := u)
  have a2 := aug_under (mx := mx) (b := b + 1) (u := u)
  have f1 := cnt_begun (mx := mx) (b := b) (u := u)
  have f2 := cnt_most (mx := mx) (b := b) (u := u)
  have f3 := cnt_under (mx := mx) (b := b) (u := u)
  unfold cnt at *
  generalize [("most" : Str), "begun", "under"] = ks at *
  generalize [M.dat (.int mx), .dat (.int b), .dat (.int u)] = y0 at *
  generalize [M.dat (.int mx), .dat (.int (b + 1)), .dat (.int u)] = y1 at *
  generalize [M.dat (.int mx), .dat (.int (b + 1)), .dat (.int (u + 1))] = y2 at *
  simp only [M.toD] at f1 f2 f3
  unfold fn1
  refine (ex_nx (by first | (simp (decide := true) [execSs, execS, evalE, evalAs, evalEs, evalP, evalI, slot, insOk, atPl, M.at, M.kids, M.kind, nodupB, Ag.roots, Ag.flat, As.vals, E.pure, Es.pure, As.pure, Path.pure, argMs, Mi.callEnd, backAs, putPl, M.put, M.setKid, M.toD, viewE, D.hard, D.hard.hards, datsOf, onDat, outD, fSub_i, fAddI_i, fAddX_i, fLt_i, fLe_i, fGt_i, fGe_i, fEq_i, fEq_s, fEq_b, fNe_i, fNe_s, fNe_b, fNot_b, fNeg_i, fIx_l, fIx_t, fLen_l, fLen_t, fIsi_int_i, fIsi_bool_i, fIsi_bool_b, setTg, Tg.slots, setMany, fldIx, toOwned, datOf, startE, f1, f2, h1, flat_b]; done) | (simp (decide := true) [execSs, execS, evalE, evalAs, evalEs, evalP, evalI, slot, insOk, atPl, M.at, M.kids, M.kind, nodupB, Ag.roots, Ag.flat, As.vals, E.pure, Es.pure, As.pure, Path.pure, argMs, Mi.callEnd, backAs, putPl, M.put, M.setKid, M.toD, viewE, D.hard, D.hard.hards, datsOf, onDat, outD, fSub_i, fAddI_i, fAddX_i, fLt_i, fLe_i, fGt_i, fGe_i, fEq_i, fEq_s, fEq_b, fNe_i, fNe_s, fNe_b, fNot_b, fNeg_i, fIx_l, fIx_t, fLen_l, fLen_t, fIsi_int_i, fIsi_bool_i, fIsi_bool_b, setTg, Tg.slots, setMany, fldIx, toOwned, datOf, startE, f1, f2, h1, flat_b]; rfl))).trans ?_
  refine (ex_nx (by first | (simp (decide := true) [execSs, execS, evalE, evalAs, evalEs, evalP, evalI, slot, insOk, atPl, M.at, M.kids, M.kind, nodupB, Ag.roots, Ag.flat, As.vals, E.pure, Es.pure, As.pure, Path.pure, argMs, Mi.callEnd, backAs, putPl, M.put, M.setKid, M.toD, viewE, D.hard, D.hard.hards, datsOf, onDat, outD, fSub_i, fAddI_i, fAddX_i, fLt_i, fLe_i, fGt_i, fGe_i, fEq_i, fEq_s, fEq_b, fNe_i, fNe_s, fNe_b, fNot_b, fNeg_i, fIx_l, fIx_t, fLen_l, fLen_t, fIsi_int_i, fIsi_bool_i, fIsi_bool_b, setTg, Tg.slots, setMany, fldIx, toOwned, datOf, f3, h2, flat_b]; done) | (simp (decide := true) [execSs, execS, evalE, evalAs, evalEs, evalP, evalI, slot, insOk, atPl, M.at, M.kids, M.kind, nodupB, Ag.roots, Ag.flat, As.vals, E.pure, Es.pure, As.pure, Path.pure, argMs, Mi.callEnd, backAs, putPl, M.put, M.setKid, M.toD, viewE, D.hard, D.hard.hards, datsOf, onDat, outD, fSub_i, fAddI_i, fAddX_i, fLt_i, fLe_i, fGt_i, fGe_i, fEq_i, fEq_s, fEq_b, fNe_i, fNe_s, fNe_b, fNot_b, fNeg_i, fIx_l, fIx_t, fLen_l, fLen_t, fIsi_int_i, fIsi_bool_i, fIsi_bool_b, setTg, Tg.slots, setMany, fldIx, toOwned, datOf, f3, h2, flat_b]; rfl))).trans ?_
  refine (ex_nx (by first | (simp (decide := true) [execSs, execS, evalE, evalAs, evalEs, evalP, evalI, slot, insOk, atPl, M.at, M.kids, M.kind, nodupB, Ag.roots, Ag.flat, As.vals, E.pure, Es.pure, As.pure, Path.pure, argMs, Mi.callEnd, backAs, putPl, M.put, M.setKid, M.toD, viewE, D.hard, D.hard.hards, datsOf, onDat, outD, fSub_i, fAddI_i, fAddX_i, fLt_i, fLe_i, fGt_i, fGe_i, fEq_i, fEq_s, fEq_b, fNe_i, fNe_s, fNe_b, fNot_b, fNeg_i, fIx_l, fIx_t, fLen_l, fLen_t, fIsi_int_i, fIsi_bool_i, fIsi_bool_b, setTg, Tg.slots, setMany, fldIx, toOwned, datOf, a1]; done) | (simp (decide := true) [execSs, execS, evalE, evalAs, evalEs, evalP, evalI, slot, insOk, atPl, M.at, M.kids, M.kind, nodupB, Ag.roots, Ag.flat, As.vals, E.pure, Es.pure, As.pure, Path.pure, argMs, Mi.callEnd, backAs, putPl, M.put, M.setKid, M.toD, viewE, D.hard, D.hard.hards, datsOf, onDat, outD, fSub_i, fAddI_i, fAddX_i, fLt_i, fLe_i, fGt_i, fGe_i, fEq_i, fEq_s, fEq_b, fNe_i, fNe_s, fNe_b, fNot_b, fNeg_i, fIx_l, fIx_t, fLen_l, fLen_t, fIsi_int_i, fIsi_bool_i, fIsi_bool_b, setTg, Tg.slots, setMany, fldIx, toOwned, datOf, a1]; rfl))).trans ?_
  refine (ex_nx (by first | (simp (decide := true) [execSs, execS, evalE, evalAs, evalEs, evalP, evalI, slot, insOk, atPl, M.at, M.kids, M.kind, nodupB, Ag.roots, Ag.flat, As.vals, E.pure, Es.pure, As.pure, Path.pure, argMs, Mi.callEnd, backAs, putPl, M.put, M.setKid, M.toD, viewE, D.hard, D.hard.hards, datsOf, onDat, outD, fSub_i, fAddI_i, fAddX_i, fLt_i, fLe_i, fGt_i, fGe_i, fEq_i, fEq_s, fEq_b, fNe_i, fNe_s, fNe_b, fNot_b, fNeg_i, fIx_l, fIx_t, fLen_l, fLen_t, fIsi_int_i, fIsi_bool_i, fIsi_bool_b, setTg, Tg.slots, setMany, fldIx, toOwned, datOf, a2]; done) | (simp (decide := true) [execSs, execS, evalE, evalAs, evalEs, evalP, evalI, slot, insOk, atPl, M.at, M.kids, M.kind, nodupB, Ag.roots, Ag.flat, As.vals, E.pure, Es.pure, As.pure, Path.pure, argMs, Mi.callEnd, backAs, putPl, M.put, M.setKid, M.toD, viewE, D.hard, D.hard.hards, datsOf, onDat, outD, fSub_i, fAddI_i, fAddX_i, fLt_i, fLe_i, fGt_i, fGe_i, fEq_i, fEq_s, fEq_b, fNe_i, fNe_s, fNe_b, fNot_b, fNeg_i, fIx_l, fIx_t, fLen_l, fLen_t, fIsi_int_i, fIsi_bool_i, fIsi_bool_b, setTg, Tg.slots, setMany, fldIx, toOwned, datOf, a2]; rfl))).trans ?_
  rfl
theorem begin_long (k : Nat) {mx b u : Int} (h1 : mx < b + 1) : callF sub tab bigN (k + 1) 1 [cnt mx b u] = .err "TooLong" [some (cnt mx b u)] := by
  refine call_err (fn := fn1) rfl rfl ?_ (μ' := [some (cnt mx b u)])
  have f1 := cnt_begun (mx := mx) (b := b) (u := u)
  have f2 := cnt_most (mx := mx) (b := b) (u := u)
  unfold cnt at *
  generalize [("most" : Str), "begun", "under"] = ks at *
  generalize [M.dat (.int mx), .dat (.int b), .dat (.int u)] = y0 at *
  simp only [M.toD] at f1 f2
  unfold fn1
  refine ex_er ?_
  simp (decide := true) [execSs, execS, evalE, evalAs, evalEs, evalP, evalI, slot, insOk, atPl, M.at, M.kids, M.kind, nodupB, Ag.roots, Ag.flat, As.vals, E.pure, Es.pure, As.pure, Path.pure, argMs, Mi.callEnd, backAs, putPl, M.put, M.setKid, M.toD, viewE, D.hard, D.hard.hards, datsOf, onDat, outD, fSub_i, fAddI_i, fAddX_i, fLt_i, fLe_i, fGt_i, fGe_i, fEq_i, fEq_s, fEq_b, fNe_i, fNe_s, fNe_b, fNot_b, fNeg_i, fIx_l, fIx_t, fLen_l, fLen_t, fIsi_int_i, fIsi_bool_i, fIsi_bool_b, setTg, Tg.slots, setMany, fldIx, toOwned, datOf, startE, f1, f2, h1, flat_b]
theorem begin_deep (k : Nat) {mx b u : Int} (h1 : ¬ mx < b + 1) (h2 : 12 < u + 1) : callF sub tab bigN (k + 1) 1 [cnt mx b u] = .err "TooDeep" [some (cnt mx b u)] := by
  refine call_err (fn := fn1) rfl rfl ?_ (μ' := [some (cnt mx b u)])
  have f1 := cnt_begun (mx := mx) (b := b) (u := u)
  have f2 := cnt_most (mx := mx) (b := b) (u := u)
  have f3 := cnt_under (mx := mx) (b := b) (u := u)
  unfold cnt at *
  generalize [("most" : Str), "begun", "under"] = ks at *
  generalize [M.dat (.int mx), .dat (.int b), .dat (.int u)] = y0 at *
  simp only [M.toD] at f1 f2 f3
  unfold fn1
  refine (ex_nx (by first | (simp (decide := true) [execSs, execS, evalE, evalAs, evalEs, evalP, evalI, slot, insOk, atPl, M.at, M.kids, M.kind, nodupB, Ag.roots, Ag.flat, As.vals, E.pure, Es.pure, As.pure, Path.pure, argMs, Mi.callEnd, backAs, putPl, M.put, M.setKid, M.toD, viewE, D.hard, D.hard.hards, datsOf, onDat, outD, fSub_i, fAddI_i, fAddX_i, fLt_i, fLe_i, fGt_i, fGe_i, fEq_i, fEq_s, fEq_b, fNe_i, fNe_s, fNe_b, fNot_b, fNeg_i, fIx_l, fIx_t, fLen_l, fLen_t, fIsi_int_i, fIsi_bool_i, fIsi_bool_b, setTg, Tg.slots, setMany, fldIx, toOwned, datOf, startE, f1, f2, h1, flat_b]; done) | (simp (decide := true) [execSs, execS, evalE, evalAs, evalEs, evalP, evalI, slot, insOk, atPl, M.at, M.kids, M.kind, nodupB, Ag.roots, Ag.flat, As.vals, E.pure, Es.pure, As.pure, Path.pure, argMs, Mi.callEnd, backAs, putPl, M.put, M.setKid, M.toD, viewE, D.hard, D.hard.hards, datsOf, onDat, outD, fSub_i, fAddI_i, fAddX_i, fLt_i, fLe_i, fGt_i, fGe_i, fEq_i, fEq_s, fEq_b, fNe_i, fNe_s, fNe_b, fNot_b, fNeg_i, fIx_l, fIx_t, fLen_l, fLen_t, fIsi_int_i, fIsi_bool_i, fIsi_bool_b, setTg, Tg.slots, setMany, fldIx, toOwned, datOf, startE, f1, f2, h1, flat_b]; rfl))).trans ?_
  refine ex_er ?_
  simp (decide := true) [execSs, execS, evalE, evalAs, evalEs, evalP, evalI, slot, insOk, atPl, M.at, M.kids, M.kind, nodupB, Ag.roots, Ag.flat, As.vals, E.pure, Es.pure, As.pure, Path.pure, argMs, Mi.callEnd, backAs, putPl, M.put, M.setKid, M.toD, viewE, D.hard, D.hard.hards, datsOf, onDat, outD, fSub_i, fAddI_i, fAddX_i, fLt_i, fLe_i, fGt_i, fGe_i, fEq_i, fEq_s, fEq_b, fNe_i, fNe_s, fNe_b, fNot_b, fNeg_i, fIx_l, fIx_t, fLen_l, fLen_t, fIsi_int_i, fIsi_bool_i, fIsi_bool_b, setTg, Tg.slots, setMany, fldIx, toOwned, datOf, f3, h2, flat_b]
theorem end_ok (k : Nat) {mx b u : Int} : callF sub tab bigN (k + 1) 2 [cnt mx b u] = .ok (.dat .non) [some (cnt mx b (u - 1))] := by
  refine call_nx (fn := fn2) rfl rfl ?_ (μ' := [some (cnt mx b (u - 1))])
  have a1 := aug_under' (mx := mx) (b := b) (u := u)
  unfold cnt at *
  generalize [("most" : Str), "begun", "under"] = ks at *
  generalize [M.dat (.int mx), .dat (.int b), .dat (.int u)] = y0 at *
  generalize [M.dat (.int mx), .dat (.int b), .dat (.int (u - 1))] = y1 at *
  unfold fn2
  refine (ex_nx (by first | (simp (decide := true) [execSs, execS, evalE, evalAs, evalEs, evalP, evalI, slot, insOk, atPl, M.at, M.kids, M.kind, nodupB, Ag.roots, Ag.flat, As.vals, E.pure, Es.pure, As.pure, Path.pure, argMs, Mi.callEnd, backAs, putPl, M.put, M.setKid, M.toD, viewE, D.hard, D.hard.hards, datsOf, onDat, outD, fSub_i, fAddI_i, fAddX_i, fLt_i, fLe_i, fGt_i, fGe_i, fEq_i, fEq_s, fEq_b, fNe_i, fNe_s, fNe_b, fNot_b, fNeg_i, fIx_l, fIx_t, fLen_l, fLen_t, fIsi_int_i, fIsi_bool_i, fIsi_bool_b, setTg, Tg.slots, setMany, fldIx, toOwned, datOf, startE, a1]; done) | (simp (decide := true) [execSs, execS, evalE, evalAs, evalEs, evalP, evalI, slot, insOk, atPl, M.at, M.kids, M.kind, nodupB, Ag.roots, Ag.flat, As.vals, E.pure, Es.pure, As.pure, Path.pure, argMs, Mi.callEnd, backAs, putPl, M.put, M.setKid, M.toD, viewE, D.hard, D.hard.hards, datsOf, onDat, outD, fSub_i, fAddI_i, fAddX_i, fLt_i, fLe_i, fGt_i, fGe_i, fEq_i, fEq_s, fEq_b, fNe_i, fNe_s, fNe_b, fNot_b, fNeg_i, fIx_l, fIx_t, fLen_l, fLen_t, fIsi_int_i, fIsi_bool_i, fIsi_bool_b, setTg, Tg.slots, setMany, fldIx, toOwned, datOf, startE, a1]; rfl))).trans ?_
  rfl
end K16
namespace K16
open PySem L2 Mi
/-! ### parts, and what they come to -/
inductive Pt where
  | num (i : Int)
  | name (s : Str)
  | nil (kd : D)
  | call (f : Str) (as : List Pt)
  | let_ (s : Str) (a b : Pt)
  | ite (a b c : Pt)
  | un (w : Str) (a : Pt)
  | bin (w : Str) (a b : Pt)
mutual
def Pt.d : Pt → D
  | .num i => .tup [.str "number", .int i]
  | .name s => .tup [.str "name", .str s]
  | .nil kd => .tup [.str "nil", kd]
  | .call f as => .tup (.str "call" :: .str f :: Pt.ds as)
  | .let_ s a b => .tup [.str "let", .str s, a.d, b.d]
  | .ite a b c => .tup [.str "if", a.d, b.d, c.d]
  | .un w a => .tup [.str w, a.d]
  | .bin w a b => .tup [.str w, a.d, b.d]
def Pt.ds : List Pt → List D
  | [] => []
  | p :: r => p.d :: Pt.ds r
end
theorem Pt.ds_len : ∀ ps : List Pt, (Pt.ds ps).length = ps.length
  | [] => rfl
  | p :: r => by
    show (Pt.ds r).length + 1 = _
    rw [Pt.ds_len r]
    rfl
/-- what comes of a part: a value or a refusal, and the count behind it -/
inductive Rs where
  | ok (v : Vl) (b u : Int)
  | er (x : Str) (b u : Int)
inductive Rl where
  | ok (vs : List Vl) (b u : Int)
  | er (x : Str) (b u : Int)
abbrev Ev := Pt → Nms → Int → Int → Option Rs
def evL (E : Ev) (e : Nms) : List Pt → Int → Int → Option Rl
  | [], b, u => some (.ok [] b u)
  | p :: r, b, u => match E p e b u with
    | none => none
    | some (.er x b1 u1) => some (.er x b1 u1)
    | some (.ok v b1 u1) => match evL E e r b1 u1 with
      | some (.ok vs b2 u2) => some (.ok (v :: vs) b2 u2)
      | q => q
/-- one function with its body as a part -/
structure Fn1 where
  name : Str
  ts : List (Str × D)
  kd : D
  body : Pt
def Fn1.z (f : Fn1) : Fun0 := ⟨f.name, f.ts, f.kd, f.body.d⟩
def numO : Vl → Option Int
  | .num i => some i
  | _ => none
instance (x : Int) : Decidable (Sm x) := by unfold Sm; infer_instance
def binR (w : Str) (v1 v2 : Vl) (b u : Int) : Option Rs :=
  if w = "pair" ∨ w = "cons" then some (match cellO v1 v2 with
    | some v => .ok v b u
    | none => .er "TooGreat" b u)
  else if w = "less" ∨ w = "plus" ∨ w = "minus" ∨ w = "times" then match v1, v2 with
    | .num x, .num y => if Sm x ∧ Sm y then some (match opr w x y with
      | some z => .ok (.num z) b u
      | none => .er "TooGreat" b u) else none
    | _, _ => none
  else none
def unR (w : Str) (v : Vl) (b u : Int) : Option Rs :=
  if w = "none" then some (.ok (.num (match v with | .non => 1 | _ => 0)) b u)
  else if w = "first" ∨ w = "second" ∨ w = "head" ∨ w = "tail" then match v with
    | .num _ => none
    | .non => some (.er "Empty" b u)
    | .cell v1 v2 _ => some (.ok (if w = "second" ∨ w = "tail" then v2 else v1) b u)
  else none
def bndR (r : Option Rs) (k : Vl → Int → Int → Option Rs) : Option Rs := match r with
  | some (.ok v b u) => k v b u
  | q => q
section
variable (fs : List Fn1) (mx : Int)
/-- a call, its operands told -/
def callR (E : Ev) (f : Str) (vs : List Vl) (b u : Int) : Option Rs := match fs.find? (fun g => g.name = f) with
  | none => none
  | some g => if mx < b + 1 then some (.er "TooLong" b u) else if 12 < u + 1 then some (.er "TooDeep" b u) else
    bndR (E g.body (putAll [] g.ts vs) (b + 1) (u + 1)) fun v b1 u1 => some (.ok v b1 (u1 - 1))
/-- one step: E1 for the parts within, E2 for what a call asks -/
def stp (E1 E2 : Ev) : Ev := fun p e b u => match p with
  | .num i => some (.ok (.num i) b u)
  | .name s => (getE s e).map fun v => .ok v b u
  | .nil _ => some (.ok .non b u)
  | .let_ s a c => if e.length ≤ 900 then bndR (E1 a e b u) fun v b u => E1 c (putE s v e) b u else none
  | .ite a c d => bndR (E1 a e b u) fun v b u => match numO v with
    | some x => E1 (if x = 0 then d else c) e b u
    | none => none
  | .un w a => if w = "none" ∨ w = "first" ∨ w = "second" ∨ w = "head" ∨ w = "tail" then bndR (E1 a e b u) fun v b u => unR w v b u else none
  | .bin w a c => if (w = "pair" ∨ w = "cons") ∨ w = "less" ∨ w = "plus" ∨ w = "minus" ∨ w = "times" then bndR (E1 a e b u) fun v b u => bndR (E1 c e b u) fun v2 b u => binR w v v2 b u else none
  | .call f as => if as.length ≤ 900 then match evL E2 e as b u with
    | none => none
    | some (.er x b u) => some (.er x b u)
    | some (.ok vs b u) => callR fs mx E2 f vs b u else none
def ev : Nat → Ev
  | 0 => fun _ _ _ _ => none
  | 1 => stp fs mx (fun _ _ _ _ => none) (fun _ _ _ _ => none)
  | k + 2 => stp fs mx (ev (k + 1)) (ev k)
end
end K16
namespace K16
open PySem L2 Mi
def Rs.cr (mx : Int) : Rs → CR
  | .ok v b u => okc v (cnt mx b u)
  | .er x b u => erc x (cnt mx b u)
theorem comp_errL {own : List Nat} {t : Tg} {c e : Mi.Env → Out D} {d : D} {ds acc : List D} {μ μ1 μ2 μ3 : Mi.Env} {x : Str} (h1 : setTg t (.dat d) μ = some μ1) (h2 : c μ1 = .ok (.bl true) μ2) (h3 : e μ2 = .err x μ3) : compLoop own t c e (d :: ds) acc μ = .err x μ3 := by
  show (match setTg t (.dat d) μ with | none => Out.stuck | some μ1 => _) = _
  rw [h1]
  dsimp only
  rw [h2]
  dsimp only [Out.bind]
  rw [h3]
def CE : E := .call false 8 (.val (.var 0) (.val (.var 6) (.val (.var 2) (.ref (.root 3) .nil))))
section
variable {C : Nat → List M → Mi.CR} {F P nm pd : D} {c c1 : M} {v : D} {x : Str}
theorem elem_ok (h : C 8 [.dat F, .dat pd, .dat nm, c] = .ok (.dat v) [none, none, none, some c1]) :
    datOf (evalE C [3] CE [some (.dat F), some (.dat P), some (.dat nm), some c, none, none, some (.dat pd), none, none, none]) = .ok v [some (.dat F), some (.dat P), some (.dat nm), some c1, none, none, some (.dat pd), none, none, none] := by
  unfold CE
  simp (decide := true) [execSs, execS, evalE, evalAs, evalEs, evalP, evalI, slot, insOk, atPl, M.at, M.kids, M.kind, nodupB, Ag.roots, Ag.flat, As.vals, E.pure, Es.pure, As.pure, Path.pure, argMs, Mi.callEnd, backAs, putPl, M.put, M.setKid, M.toD, viewE, D.hard, D.hard.hards, datsOf, onDat, outD, fSub_i, fAddI_i, fAddX_i, fLt_i, fLe_i, fGt_i, fGe_i, fEq_i, fEq_s, fEq_b, fNe_i, fNe_s, fNe_b, fNot_b, fNeg_i, fIx_l, fIx_t, fLen_l, fLen_t, fIsi_int_i, fIsi_bool_i, fIsi_bool_b, setTg, Tg.slots, setMany, fldIx, toOwned, datOf, h]
theorem elem_er (h : C 8 [.dat F, .dat pd, .dat nm, c] = .err x [none, none, none, some c1]) :
    datOf (evalE C [3] CE [some (.dat F), some (.dat P), some (.dat nm), some c, none, none, some (.dat pd), none, none, none]) = .err x [some (.dat F), some (.dat P), some (.dat nm), some c1, none, none, some (.dat pd), none, none, none] := by
  unfold CE
  simp (decide := true) [execSs, execS, evalE, evalAs, evalEs, evalP, evalI, slot, insOk, atPl, M.at, M.kids, M.kind, nodupB, Ag.roots, Ag.flat, As.vals, E.pure, Es.pure, As.pure, Path.pure, argMs, Mi.callEnd, backAs, putPl, M.put, M.setKid, M.toD, viewE, D.hard, D.hard.hards, datsOf, onDat, outD, fSub_i, fAddI_i, fAddX_i, fLt_i, fLe_i, fGt_i, fGe_i, fEq_i, fEq_s, fEq_b, fNe_i, fNe_s, fNe_b, fNot_b, fNeg_i, fIx_l, fIx_t, fLen_l, fLen_t, fIsi_int_i, fIsi_bool_i, fIsi_bool_b, setTg, Tg.slots, setMany, fldIx, toOwned, datOf, h]
end
section
variable {C : Nat → List M → Mi.CR} {E : Ev} {mx : Int} {F P : D} {e : Nms}
abbrev En (F P nm : D) (c : M) : Mi.Env := [some (.dat F), some (.dat P), some (.dat nm), some c, none, none, none, none, none, none]
theorem comp_ok (H : ∀ p b u r, E p e b u = some r → C 8 [.dat F, .dat p.d, .dat (nmD e), cnt mx b u] = r.cr mx) : ∀ (as : List Pt) (acc : List D) (b u : Int) (vs : List Vl) (b' u' : Int), evL E e as b u = some (.ok vs b' u') →
    compLoop [6] (.one 6) (fun μ => datOf (evalE C [3] (.con (.bl true)) μ)) (fun μ => datOf (evalE C [3] CE μ)) (Pt.ds as) acc (En F P (nmD e) (cnt mx b u)) = .ok (acc ++ vs.map Vl.d) (En F P (nmD e) (cnt mx b' u'))
  | [], acc, b, u, vs, b', u', h => by
    cases h
    show Out.ok acc _ = _
    simp
  | p :: r, acc, b, u, vs, b', u', h => by
    unfold evL at h
    cases q : E p e b u with
    | none => rw [q] at h; cases h
    | some R =>
      rw [q] at h
      have hp := H p b u R q
      cases R with
      | er x b1 u1 => cases h
      | ok v b1 u1 =>
        dsimp only at h
        cases q2 : evL E e r b1 u1 with
        | none => rw [q2] at h; cases h
        | some R2 =>
          rw [q2] at h
          cases R2 with
          | er x b2 u2 => cases h
          | ok ws b2 u2 =>
            cases h
            have ih := comp_ok H r (acc ++ [v.d]) b1 u1 ws b' u' q2
            refine (comp_keep (d := p.d) (x := v.d) rfl rfl (elem_ok hp)).trans ?_
            refine Eq.trans ih ?_
            simp
theorem comp_er (H : ∀ p b u r, E p e b u = some r → C 8 [.dat F, .dat p.d, .dat (nmD e), cnt mx b u] = r.cr mx) : ∀ (as : List Pt) (acc : List D) (b u : Int) (x : Str) (b' u' : Int), evL E e as b u = some (.er x b' u') →
    ∃ pd, compLoop [6] (.one 6) (fun μ => datOf (evalE C [3] (.con (.bl true)) μ)) (fun μ => datOf (evalE C [3] CE μ)) (Pt.ds as) acc (En F P (nmD e) (cnt mx b u)) = .err x [some (.dat F), some (.dat P), some (.dat (nmD e)), some (cnt mx b' u'), none, none, some (.dat pd), none, none, none]
  | [], acc, b, u, x, b', u', h => by cases h
  | p :: r, acc, b, u, x, b', u', h => by
    unfold evL at h
    cases q : E p e b u with
    | none => rw [q] at h; cases h
    | some R =>
      rw [q] at h
      have hp := H p b u R q
      cases R with
      | er x b1 u1 =>
        cases h
        refine ⟨p.d, ?_⟩
        exact comp_errL (d := p.d) rfl rfl (elem_er hp)
      | ok v b1 u1 =>
        dsimp only at h
        cases q2 : evL E e r b1 u1 with
        | none => rw [q2] at h; cases h
        | some R2 =>
          rw [q2] at h
          cases R2 with
          | ok ws b2 u2 => cases h
          | er y b2 u2 =>
            cases h
            obtain ⟨pd, ih⟩ := comp_er H r (acc ++ [v.d]) b1 u1 x b' u' q2
            refine ⟨pd, (comp_keep (d := p.d) (x := v.d) rfl rfl (elem_ok hp)).trans ?_⟩
            exact ih
theorem sl2 {f : Str} {ds : List D} (h : ds.length ≤ 900) : (fSl [.tup (.str "call" :: .str f :: ds), .int 2, .non]) = some (.tup ds) := by
  have h1 : HT.sIx (D.str "call" :: .str f :: ds).length 0 (some 2) = 2 := by
    simp [HT.sIx] <;> omega
  have h2 : HT.sIx (D.str "call" :: .str f :: ds).length (D.str "call" :: .str f :: ds).length none = ds.length + 2 := by
    simp [HT.sIx]
  show (if wholeD (D.str "call" :: .str f :: ds).length (some 2) none = false then some (D.tup (cutD (D.str "call" :: .str f :: ds) (some 2) none)) else none) = _
  rw [if_pos (by unfold wholeD; rw [h1]; simp)]
  unfold cutD
  rw [h1, h2]
  show some (D.tup (ds.take (ds.length + 2 - 2))) = _
  rw [Nat.add_sub_cancel, List.take_length]
end
end K16
namespace K16
open PySem L2 Mi
section
variable {C : Nat → List M → Mi.CR} {pin : List Nat} {μ μ1 μ2 : Mi.Env}
theorem ev_compX {own : List Nat} {t : Tg} {f : List D → Option (List D)} {src : Es} {c e : E} {ms : List M} {ds xs ys : List D} (g : ((own.all fun i => !pin.contains i) = true && (t.slots.all fun i => own.contains i) = true) = true) (h1 : evalEs C pin src μ = .ok ms μ1) (h2 : datsOf ms = some ds) (h3 : f ds = some xs)
    (h4 : compLoop own t (fun μ => datOf (evalE C pin c μ)) (fun μ => datOf (evalE C pin e μ)) xs [] (wipeE own μ1) = .ok ys μ2) (h5 : ys.length ≤ sizeLine) : evalE C pin (.comp true own t f src c e) μ = .ok (.dat (.lst ys)) μ2 := by
  show (if ((own.all fun i => !pin.contains i) = true && (t.slots.all fun i => own.contains i) = true) = true then _ else _) = _
  rw [if_pos g, h1]
  dsimp only [Out.bind]
  rw [h2]
  dsimp only
  rw [h3]
  dsimp only
  rw [h4]
  dsimp only [Out.lets]
  rw [if_pos h5]
theorem ev_compE {own : List Nat} {t : Tg} {f : List D → Option (List D)} {src : Es} {c e : E} {ms : List M} {ds xs : List D} {x : Str} (g : ((own.all fun i => !pin.contains i) = true && (t.slots.all fun i => own.contains i) = true) = true) (h1 : evalEs C pin src μ = .ok ms μ1) (h2 : datsOf ms = some ds) (h3 : f ds = some xs)
    (h4 : compLoop own t (fun μ => datOf (evalE C pin c μ)) (fun μ => datOf (evalE C pin e μ)) xs [] (wipeE own μ1) = .err x μ2) (h5 : xs.length ≤ sizeLine) : evalE C pin (.comp true own t f src c e) μ = .err x (wipeE own μ2) := by
  show (if ((own.all fun i => !pin.contains i) = true && (t.slots.all fun i => own.contains i) = true) = true then _ else _) = _
  rw [if_pos g, h1]
  dsimp only [Out.bind]
  rw [h2]
  dsimp only
  rw [h3]
  dsimp only
  rw [h4]
  dsimp only [Out.lets]
  rw [if_pos ⟨rfl, h5⟩]
end
section
variable {C : Nat → List M → Mi.CR}
theorem names7_run {x0 x1 x2 x3 x4 x5 x7 : Option M} : ∀ {ts : List (Str × D)} {vs : List Vl} {e : Nms} {x8 x9 : Option M}, NoTw e → e.length + ts.length ≤ 900 →
    ∃ y8 y9, forLoop (.many [8, 9]) (execSs sub C fn7.pin bigN w7_0b) (zipD (ts.map tkD) (vs.map Vl.d)) [x0, x1, x2, x3, x4, x5, some (nmM e), x7, x8, x9] = .nx [x0, x1, x2, x3, x4, x5, some (nmM (putAll e ts vs)), x7, y8, y9]
  | [], vs, e, x8, x9, _, _ => ⟨x8, x9, rfl⟩
  | _ :: _, [], e, x8, x9, _, _ => ⟨x8, x9, rfl⟩
  | t :: ts, v :: vs, e, x8, x9, n, hl => by
    have hl' : e.length + (ts.length + 1) ≤ 900 := hl
    have hp := putE_len (s := t.1) (v := v) (e := e)
    obtain ⟨y8, y9, ih⟩ := names7_run (x0 := x0) (x1 := x1) (x2 := x2) (x3 := x3) (x4 := x4) (x5 := x5) (x7 := x7) (ts := ts) (vs := vs) (e := putE t.1 v e) (x8 := some (.dat (tkD t))) (x9 := some (.dat v.d)) n.put (by omega)
    refine ⟨y8, y9, ?_⟩
    show forLoop _ _ (.tup [tkD t, v.d] :: zipD (ts.map tkD) (vs.map Vl.d)) _ = _
    have b : execSs sub C fn7.pin bigN w7_0b [x0, x1, x2, x3, x4, x5, some (nmM e), x7, some (.dat (tkD t)), some (.dat v.d)] = .nx [x0, x1, x2, x3, x4, x5, some (nmM (putE t.1 v e)), x7, some (.dat (tkD t)), some (.dat v.d)] := by
      have p := putD_ok (s := t.1) (v := v) n (by omega)
      generalize nmM (putE t.1 v e) = nM' at *
      simp only [nmM] at p ⊢
      generalize (nmV e).map M.dat = ms at *
      unfold w7_0b
      refine ex_last ?_
      simp (decide := true) [execSs, execS, evalE, evalAs, evalEs, evalP, evalI, slot, insOk, atPl, M.at, M.kids, M.kind, nodupB, Ag.roots, Ag.flat, As.vals, E.pure, Es.pure, As.pure, Path.pure, argMs, Mi.callEnd, backAs, putPl, M.put, M.setKid, M.toD, viewE, D.hard, D.hard.hards, datsOf, onDat, outD, fSub_i, fAddI_i, fAddX_i, fLt_i, fLe_i, fGt_i, fGe_i, fEq_i, fEq_s, fEq_b, fNe_i, fNe_s, fNe_b, fNot_b, fNeg_i, fIx_l, fIx_t, fLen_l, fLen_t, fIsi_int_i, fIsi_bool_i, fIsi_bool_b, setTg, Tg.slots, setMany, fldIx, toOwned, datOf, tkD, atI_0, p, fn7]
    unfold forLoop
    show (match execSs sub C fn7.pin bigN w7_0b [x0, x1, x2, x3, x4, x5, some (nmM e), x7, some (.dat (tkD t)), some (.dat v.d)] with | .nx μ2 => _ | .cont μ2 => _ | .brk μ2 => _ | r => r) = _
    rw [b]
    exact ih
abbrev cP (f : Str) (as : List Pt) : D := .tup (.str "call" :: .str f :: Pt.ds as)
/-- called: an operand's refusal -/
theorem called_er {F : D} {e : Nms} {c c1 : M} {f : Str} {as : List Pt} {pd : D} {x : Str} (hl : as.length ≤ 900)
    (hc : compLoop [6] (.one 6) (fun μ => datOf (evalE C [3] (.con (.bl true)) μ)) (fun μ => datOf (evalE C [3] CE μ)) (Pt.ds as) [] (En F (cP f as) (nmD e) c) = .err x [some (.dat F), some (.dat (cP f as)), some (.dat (nmD e)), some c1, none, none, some (.dat pd), none, none, none]) :
    execSs sub C fn7.pin bigN fn7.body (startE fn7 [.dat F, .dat (cP f as), .dat (nmD e), c]) = .err x (En F (cP f as) (nmD e) c1) := by
  have s2 : fSl [cP f as, .int 2, .non] = some (.tup (Pt.ds as)) := sl2 (f := f) (ds := Pt.ds as) (by rw [Pt.ds_len]; exact hl)
  have le := le_line (n := (Pt.ds as).length) (by rw [Pt.ds_len]; omega)
  have sq : fSeq [.tup (Pt.ds as)] = some (Pt.ds as) := rfl
  generalize cP f as = P at *
  generalize Pt.ds as = ds at *
  generalize nmD e = nd at *
  unfold fn7
  refine ex_er ?_
  show ((evalE C [3] (.comp true [6] (.one 6) fSeq _ _ CE) _).res _) = _
  have h1 : evalEs C [3] (.cons (.opN fSl (.cons (.var 1) (.cons (.op1 fI (.con (.int 2))) (.cons (.con .non) .nil)))) .nil) (En F P nd c) = .ok [.dat (.tup ds)] (En F P nd c) := by
    simp (decide := true) [execSs, execS, evalE, evalAs, evalEs, evalP, evalI, slot, insOk, atPl, M.at, M.kids, M.kind, nodupB, Ag.roots, Ag.flat, As.vals, E.pure, Es.pure, As.pure, Path.pure, argMs, Mi.callEnd, backAs, putPl, M.put, M.setKid, M.toD, viewE, D.hard, D.hard.hards, datsOf, onDat, outD, fSub_i, fAddI_i, fAddX_i, fLt_i, fLe_i, fGt_i, fGe_i, fEq_i, fEq_s, fEq_b, fNe_i, fNe_s, fNe_b, fNot_b, fNeg_i, fIx_l, fIx_t, fLen_l, fLen_t, fIsi_int_i, fIsi_bool_i, fIsi_bool_b, setTg, Tg.slots, setMany, fldIx, toOwned, datOf, fI, s2]
  have hE := ev_compE (by rfl) h1 rfl sq hc le
  exact congrArg (fun o : Out M => o.res _) hE
theorem called_go {F fd bd r : D} {e : Nms} {c : M} {ks : List Str} {y1 y2 y3 y4 : List M} {f : Str} {as : List Pt} {ts : List (Str × D)} {vs : List Vl} (hl : as.length ≤ 900) (hv : vs.length ≤ 900) (ht : ts.length ≤ 900)
    (hc : compLoop [6] (.one 6) (fun μ => datOf (evalE C [3] (.con (.bl true)) μ)) (fun μ => datOf (evalE C [3] CE μ)) (Pt.ds as) [] (En F (cP f as) (nmD e) c) = .ok (vs.map Vl.d) (En F (cP f as) (nmD e) (.ins "Count" ks y1)))
    (Pr : Mi.Res → Prop)
    (k : Pr (execSs sub C fn7.pin bigN (tl fn7.body) [some (.dat F), some (.dat (cP f as)), some (.dat (nmD e)), some (.ins "Count" ks y1), some (.dat (.lst (vs.map Vl.d))), none, none, none, none, none])) :
    Pr (execSs sub C fn7.pin bigN fn7.body (startE fn7 [.dat F, .dat (cP f as), .dat (nmD e), c])) := by
  have s2 : fSl [cP f as, .int 2, .non] = some (.tup (Pt.ds as)) := sl2 (f := f) (ds := Pt.ds as) (by rw [Pt.ds_len]; exact hl)
  have le := le_line (n := (vs.map Vl.d).length) (by rw [List.length_map]; omega)
  have sq : fSeq [.tup (Pt.ds as)] = some (Pt.ds as) := rfl
  have h1 : evalEs C [3] (.cons (.opN fSl (.cons (.var 1) (.cons (.op1 fI (.con (.int 2))) (.cons (.con .non) .nil)))) .nil) (En F (cP f as) (nmD e) c) = .ok [.dat (.tup (Pt.ds as))] (En F (cP f as) (nmD e) c) := by
    generalize cP f as = P at *
    generalize Pt.ds as = ds at *
    generalize nmD e = nd at *
    simp (decide := true) [execSs, execS, evalE, evalAs, evalEs, evalP, evalI, slot, insOk, atPl, M.at, M.kids, M.kind, nodupB, Ag.roots, Ag.flat, As.vals, E.pure, Es.pure, As.pure, Path.pure, argMs, Mi.callEnd, backAs, putPl, M.put, M.setKid, M.toD, viewE, D.hard, D.hard.hards, datsOf, onDat, outD, fSub_i, fAddI_i, fAddX_i, fLt_i, fLe_i, fGt_i, fGe_i, fEq_i, fEq_s, fEq_b, fNe_i, fNe_s, fNe_b, fNot_b, fNeg_i, fIx_l, fIx_t, fLen_l, fLen_t, fIsi_int_i, fIsi_bool_i, fIsi_bool_b, setTg, Tg.slots, setMany, fldIx, toOwned, datOf, fI, s2]
  have hE := ev_compX (by rfl) h1 rfl sq hc le
  have hS := set_ok (sub := sub) (N := bigN) (i := 4) (pin := [3]) rfl hE (by simp)
  unfold fn7 at k ⊢
  refine Eq.mp (congrArg Pr (ex_nx hS).symm) ?_
  exact k
theorem called_b {F : D} {nd P vsD : D} {ks : List Str} {y1 : List M} {x : Str} (hk : ("begin" : Str) ∉ ks) (hb : C 1 [.ins "Count" ks y1] = .err x [some (.ins "Count" ks y1)]) :
    execSs sub C fn7.pin bigN (tl fn7.body) [some (.dat F), some (.dat P), some (.dat nd), some (.ins "Count" ks y1), some (.dat vsD), none, none, none, none, none] = .err x [some (.dat F), some (.dat P), some (.dat nd), some (.ins "Count" ks y1), some (.dat vsD), none, none, none, none, none] := by
  unfold fn7
  refine ex_er ?_
  simp (decide := true) [execSs, execS, evalE, evalAs, evalEs, evalP, evalI, slot, insOk, atPl, M.at, M.kids, M.kind, nodupB, Ag.roots, Ag.flat, As.vals, E.pure, Es.pure, As.pure, Path.pure, argMs, Mi.callEnd, backAs, putPl, M.put, M.setKid, M.toD, viewE, D.hard, D.hard.hards, datsOf, onDat, outD, fSub_i, fAddI_i, fAddX_i, fLt_i, fLe_i, fGt_i, fGe_i, fEq_i, fEq_s, fEq_b, fNe_i, fNe_s, fNe_b, fNot_b, fNeg_i, fIx_l, fIx_t, fLen_l, fLen_t, fIsi_int_i, fIsi_bool_i, fIsi_bool_b, setTg, Tg.slots, setMany, fldIx, toOwned, datOf, hk, hb]
theorem called_w {F fd P r bd nd : D} {ks : List Str} {y1 y2 : List M} {f : Str} {ts : List (Str × D)} {vs : List Vl} (hk : ("begin" : Str) ∉ ks)
    (hb : C 1 [.ins "Count" ks y1] = .ok (.dat .non) [some (.ins "Count" ks y2)])
    (hP : fIx P (.int 1) = some (.str f)) (gF : fIxD F (.str f) = some fd) (g1 : fIx fd (.int 1) = some (.lst (ts.map tkD)))
    (ht : ts.length ≤ 900) :
    ∃ y8 y9, execSs sub C fn7.pin bigN (tl fn7.body) [some (.dat F), some (.dat P), some (.dat nd), some (.ins "Count" ks y1), some (.dat (.lst (vs.map Vl.d))), none, none, none, none, none] =
      execSs sub C fn7.pin bigN (tl (tl (tl (tl (tl fn7.body))))) [some (.dat F), some (.dat P), some (.dat nd), some (.ins "Count" ks y2), some (.dat (.lst (vs.map Vl.d))), some (.dat fd), some (nmM (putAll [] ts vs)), none, y8, y9] := by
  obtain ⟨y8, y9, lp⟩ := names7_run (C := C) (x0 := some (.dat F)) (x1 := some (.dat P)) (x2 := some (.dat nd)) (x3 := some (.ins "Count" ks y2)) (x4 := some (.dat (.lst (vs.map Vl.d)))) (x5 := some (.dat fd)) (x7 := none) (ts := ts) (vs := vs) (e := []) (x8 := none) (x9 := none) trivial (by simpa using ht)
  refine ⟨y8, y9, ?_⟩
  have en : (nmM [] : M) = .dct [] [] := rfl
  rw [en] at lp
  generalize nmM (putAll [] ts vs) = nM at *
  unfold fn7 at lp ⊢
  refine (ex_nx (by first | (simp (decide := true) [execSs, execS, evalE, evalAs, evalEs, evalP, evalI, slot, insOk, atPl, M.at, M.kids, M.kind, nodupB, Ag.roots, Ag.flat, As.vals, E.pure, Es.pure, As.pure, Path.pure, argMs, Mi.callEnd, backAs, putPl, M.put, M.setKid, M.toD, viewE, D.hard, D.hard.hards, datsOf, onDat, outD, fSub_i, fAddI_i, fAddX_i, fLt_i, fLe_i, fGt_i, fGe_i, fEq_i, fEq_s, fEq_b, fNe_i, fNe_s, fNe_b, fNot_b, fNeg_i, fIx_l, fIx_t, fLen_l, fLen_t, fIsi_int_i, fIsi_bool_i, fIsi_bool_b, setTg, Tg.slots, setMany, fldIx, toOwned, datOf, hk, hb]; done) | (simp (decide := true) [execSs, execS, evalE, evalAs, evalEs, evalP, evalI, slot, insOk, atPl, M.at, M.kids, M.kind, nodupB, Ag.roots, Ag.flat, As.vals, E.pure, Es.pure, As.pure, Path.pure, argMs, Mi.callEnd, backAs, putPl, M.put, M.setKid, M.toD, viewE, D.hard, D.hard.hards, datsOf, onDat, outD, fSub_i, fAddI_i, fAddX_i, fLt_i, fLe_i, fGt_i, fGe_i, fEq_i, fEq_s, fEq_b, fNe_i, fNe_s, fNe_b, fNot_b, fNeg_i, fIx_l, fIx_t, fLen_l, fLen_t, fIsi_int_i, fIsi_bool_i, fIsi_bool_b, setTg, Tg.slots, setMany, fldIx, toOwned, datOf, hk, hb]; rfl))).trans ?_
  refine (ex_nx (by first | (simp (decide := true) [execSs, execS, evalE, evalAs, evalEs, evalP, evalI, slot, insOk, atPl, M.at, M.kids, M.kind, nodupB, Ag.roots, Ag.flat, As.vals, E.pure, Es.pure, As.pure, Path.pure, argMs, Mi.callEnd, backAs, putPl, M.put, M.setKid, M.toD, viewE, D.hard, D.hard.hards, datsOf, onDat, outD, fSub_i, fAddI_i, fAddX_i, fLt_i, fLe_i, fGt_i, fGe_i, fEq_i, fEq_s, fEq_b, fNe_i, fNe_s, fNe_b, fNot_b, fNeg_i, fIx_l, fIx_t, fLen_l, fLen_t, fIsi_int_i, fIsi_bool_i, fIsi_bool_b, setTg, Tg.slots, setMany, fldIx, toOwned, datOf, hP, gF]; done) | (simp (decide := true) [execSs, execS, evalE, evalAs, evalEs, evalP, evalI, slot, insOk, atPl, M.at, M.kids, M.kind, nodupB, Ag.roots, Ag.flat, As.vals, E.pure, Es.pure, As.pure, Path.pure, argMs, Mi.callEnd, backAs, putPl, M.put, M.setKid, M.toD, viewE, D.hard, D.hard.hards, datsOf, onDat, outD, fSub_i, fAddI_i, fAddX_i, fLt_i, fLe_i, fGt_i, fGe_i, fEq_i, fEq_s, fEq_b, fNe_i, fNe_s, fNe_b, fNot_b, fNeg_i, fIx_l, fIx_t, fLen_l, fLen_t, fIsi_int_i, fIsi_bool_i, fIsi_bool_b, setTg, Tg.slots, setMany, fldIx, toOwned, datOf, hP, gF]; rfl))).trans ?_
  refine (ex_nx (by first | (simp (decide := true) [execSs, execS, evalE, evalAs, evalEs, evalP, evalI, slot, insOk, atPl, M.at, M.kids, M.kind, nodupB, Ag.roots, Ag.flat, As.vals, E.pure, Es.pure, As.pure, Path.pure, argMs, Mi.callEnd, backAs, putPl, M.put, M.setKid, M.toD, viewE, D.hard, D.hard.hards, datsOf, onDat, outD, fSub_i, fAddI_i, fAddX_i, fLt_i, fLe_i, fGt_i, fGe_i, fEq_i, fEq_s, fEq_b, fNe_i, fNe_s, fNe_b, fNot_b, fNeg_i, fIx_l, fIx_t, fLen_l, fLen_t, fIsi_int_i, fIsi_bool_i, fIsi_bool_b, setTg, Tg.slots, setMany, fldIx, toOwned, datOf, toOwned]; done) | (simp (decide := true) [execSs, execS, evalE, evalAs, evalEs, evalP, evalI, slot, insOk, atPl, M.at, M.kids, M.kind, nodupB, Ag.roots, Ag.flat, As.vals, E.pure, Es.pure, As.pure, Path.pure, argMs, Mi.callEnd, backAs, putPl, M.put, M.setKid, M.toD, viewE, D.hard, D.hard.hards, datsOf, onDat, outD, fSub_i, fAddI_i, fAddX_i, fLt_i, fLe_i, fGt_i, fGe_i, fEq_i, fEq_s, fEq_b, fNe_i, fNe_s, fNe_b, fNot_b, fNeg_i, fIx_l, fIx_t, fLen_l, fLen_t, fIsi_int_i, fIsi_bool_i, fIsi_bool_b, setTg, Tg.slots, setMany, fldIx, toOwned, datOf, toOwned]; rfl))).trans ?_
  have fz : fZip [.lst (ts.map tkD), .lst (vs.map Vl.d)] = some (zipD (ts.map tkD) (vs.map Vl.d)) := rfl
  generalize zipD (ts.map tkD) (vs.map Vl.d) = Z at *
  generalize ts.map tkD = TS at *
  generalize vs.map Vl.d = VS at *
  exact ex_nx (ex_for (ms := [.dat (.lst TS), .dat (.lst VS)]) (μ1 := [some (.dat F), some (.dat P), some (.dat nd), some (.ins "Count" ks y2), some (.dat (.lst VS)), some (.dat fd), some (.dct [] []), none, none, none]) (ds := [.lst TS, .lst VS]) (xs := Z) rfl (by simp (decide := true) [execSs, execS, evalE, evalAs, evalEs, evalP, evalI, slot, insOk, atPl, M.at, M.kids, M.kind, nodupB, Ag.roots, Ag.flat, As.vals, E.pure, Es.pure, As.pure, Path.pure, argMs, Mi.callEnd, backAs, putPl, M.put, M.setKid, M.toD, viewE, D.hard, D.hard.hards, datsOf, onDat, outD, fSub_i, fAddI_i, fAddX_i, fLt_i, fLe_i, fGt_i, fGe_i, fEq_i, fEq_s, fEq_b, fNe_i, fNe_s, fNe_b, fNot_b, fNeg_i, fIx_l, fIx_t, fLen_l, fLen_t, fIsi_int_i, fIsi_bool_i, fIsi_bool_b, setTg, Tg.slots, setMany, fldIx, toOwned, datOf, g1]) rfl fz lp)
theorem called_ok {F fd P r bd nd : D} {ks : List Str} {y2 y3 y4 : List M} {x4 x8 x9 : Option M} {e' : Nms} (hk : ("end" : Str) ∉ ks)
    (g3 : fIx fd (.int 3) = some bd) (hw : C 8 [.dat F, .dat bd, .dat (nmD e'), .ins "Count" ks y2] = .ok (.dat r) [none, none, none, some (.ins "Count" ks y3)])
    (he : C 2 [.ins "Count" ks y3] = .ok (.dat .non) [some (.ins "Count" ks y4)]) :
    execSs sub C fn7.pin bigN (tl (tl (tl (tl (tl fn7.body))))) [some (.dat F), some (.dat P), some (.dat nd), some (.ins "Count" ks y2), x4, some (.dat fd), some (nmM e'), none, x8, x9] = .ret (.dat r) [some (.dat F), some (.dat P), some (.dat nd), some (.ins "Count" ks y4), x4, some (.dat fd), some (.dat (nmD e')), some (.dat r), x8, x9] := by
  have td := nmM_toD e'
  generalize nmM e' = nM at *
  generalize nmD e' = nD at *
  unfold fn7
  simp only [tl]
  refine (ex_nx (by first | (simp (decide := true) [execSs, execS, evalE, evalAs, evalEs, evalP, evalI, slot, insOk, atPl, M.at, M.kids, M.kind, nodupB, Ag.roots, Ag.flat, As.vals, E.pure, Es.pure, As.pure, Path.pure, argMs, Mi.callEnd, backAs, putPl, M.put, M.setKid, M.toD, viewE, D.hard, D.hard.hards, datsOf, onDat, outD, fSub_i, fAddI_i, fAddX_i, fLt_i, fLe_i, fGt_i, fGe_i, fEq_i, fEq_s, fEq_b, fNe_i, fNe_s, fNe_b, fNot_b, fNeg_i, fIx_l, fIx_t, fLen_l, fLen_t, fIsi_int_i, fIsi_bool_i, fIsi_bool_b, setTg, Tg.slots, setMany, fldIx, toOwned, datOf, td, g3, hw]; done) | (simp (decide := true) [execSs, execS, evalE, evalAs, evalEs, evalP, evalI, slot, insOk, atPl, M.at, M.kids, M.kind, nodupB, Ag.roots, Ag.flat, As.vals, E.pure, Es.pure, As.pure, Path.pure, argMs, Mi.callEnd, backAs, putPl, M.put, M.setKid, M.toD, viewE, D.hard, D.hard.hards, datsOf, onDat, outD, fSub_i, fAddI_i, fAddX_i, fLt_i, fLe_i, fGt_i, fGe_i, fEq_i, fEq_s, fEq_b, fNe_i, fNe_s, fNe_b, fNot_b, fNeg_i, fIx_l, fIx_t, fLen_l, fLen_t, fIsi_int_i, fIsi_bool_i, fIsi_bool_b, setTg, Tg.slots, setMany, fldIx, toOwned, datOf, td, g3, hw]; rfl))).trans ?_
  refine (ex_nx (by first | (simp (decide := true) [execSs, execS, evalE, evalAs, evalEs, evalP, evalI, slot, insOk, atPl, M.at, M.kids, M.kind, nodupB, Ag.roots, Ag.flat, As.vals, E.pure, Es.pure, As.pure, Path.pure, argMs, Mi.callEnd, backAs, putPl, M.put, M.setKid, M.toD, viewE, D.hard, D.hard.hards, datsOf, onDat, outD, fSub_i, fAddI_i, fAddX_i, fLt_i, fLe_i, fGt_i, fGe_i, fEq_i, fEq_s, fEq_b, fNe_i, fNe_s, fNe_b, fNot_b, fNeg_i, fIx_l, fIx_t, fLen_l, fLen_t, fIsi_int_i, fIsi_bool_i, fIsi_bool_b, setTg, Tg.slots, setMany, fldIx, toOwned, datOf, hk, he]; done) | (simp (decide := true) [execSs, execS, evalE, evalAs, evalEs, evalP, evalI, slot, insOk, atPl, M.at, M.kids, M.kind, nodupB, Ag.roots, Ag.flat, As.vals, E.pure, Es.pure, As.pure, Path.pure, argMs, Mi.callEnd, backAs, putPl, M.put, M.setKid, M.toD, viewE, D.hard, D.hard.hards, datsOf, onDat, outD, fSub_i, fAddI_i, fAddX_i, fLt_i, fLe_i, fGt_i, fGe_i, fEq_i, fEq_s, fEq_b, fNe_i, fNe_s, fNe_b, fNot_b, fNeg_i, fIx_l, fIx_t, fLen_l, fLen_t, fIsi_int_i, fIsi_bool_i, fIsi_bool_b, setTg, Tg.slots, setMany, fldIx, toOwned, datOf, hk, he]; rfl))).trans ?_
  refine ex_ret (by first | (simp (decide := true) [execSs, execS, evalE, evalAs, evalEs, evalP, evalI, slot, insOk, atPl, M.at, M.kids, M.kind, nodupB, Ag.roots, Ag.flat, As.vals, E.pure, Es.pure, As.pure, Path.pure, argMs, Mi.callEnd, backAs, putPl, M.put, M.setKid, M.toD, viewE, D.hard, D.hard.hards, datsOf, onDat, outD, fSub_i, fAddI_i, fAddX_i, fLt_i, fLe_i, fGt_i, fGe_i, fEq_i, fEq_s, fEq_b, fNe_i, fNe_s, fNe_b, fNot_b, fNeg_i, fIx_l, fIx_t, fLen_l, fLen_t, fIsi_int_i, fIsi_bool_i, fIsi_bool_b, setTg, Tg.slots, setMany, fldIx, toOwned, datOf]; done) | (simp (decide := true) [execSs, execS, evalE, evalAs, evalEs, evalP, evalI, slot, insOk, atPl, M.at, M.kids, M.kind, nodupB, Ag.roots, Ag.flat, As.vals, E.pure, Es.pure, As.pure, Path.pure, argMs, Mi.callEnd, backAs, putPl, M.put, M.setKid, M.toD, viewE, D.hard, D.hard.hards, datsOf, onDat, outD, fSub_i, fAddI_i, fAddX_i, fLt_i, fLe_i, fGt_i, fGe_i, fEq_i, fEq_s, fEq_b, fNe_i, fNe_s, fNe_b, fNot_b, fNeg_i, fIx_l, fIx_t, fLen_l, fLen_t, fIsi_int_i, fIsi_bool_i, fIsi_bool_b, setTg, Tg.slots, setMany, fldIx, toOwned, datOf]; rfl))
theorem called_we {F fd P bd nd : D} {ks : List Str} {y2 y3 : List M} {x4 x8 x9 : Option M} {e' : Nms} {x : Str}
    (g3 : fIx fd (.int 3) = some bd) (hw : C 8 [.dat F, .dat bd, .dat (nmD e'), .ins "Count" ks y2] = .err x [none, none, none, some (.ins "Count" ks y3)]) :
    execSs sub C fn7.pin bigN (tl (tl (tl (tl (tl fn7.body))))) [some (.dat F), some (.dat P), some (.dat nd), some (.ins "Count" ks y2), x4, some (.dat fd), some (nmM e'), none, x8, x9] = .err x [some (.dat F), some (.dat P), some (.dat nd), some (.ins "Count" ks y3), x4, some (.dat fd), some (.dat (nmD e')), none, x8, x9] := by
  have td := nmM_toD e'
  generalize nmM e' = nM at *
  generalize nmD e' = nD at *
  unfold fn7
  simp only [tl]
  refine ex_er ?_
  simp (decide := true) [execSs, execS, evalE, evalAs, evalEs, evalP, evalI, slot, insOk, atPl, M.at, M.kids, M.kind, nodupB, Ag.roots, Ag.flat, As.vals, E.pure, Es.pure, As.pure, Path.pure, argMs, Mi.callEnd, backAs, putPl, M.put, M.setKid, M.toD, viewE, D.hard, D.hard.hards, datsOf, onDat, outD, fSub_i, fAddI_i, fAddX_i, fLt_i, fLe_i, fGt_i, fGe_i, fEq_i, fEq_s, fEq_b, fNe_i, fNe_s, fNe_b, fNot_b, fNeg_i, fIx_l, fIx_t, fLen_l, fLen_t, fIsi_int_i, fIsi_bool_i, fIsi_bool_b, setTg, Tg.slots, setMany, fldIx, toOwned, datOf, td, g3, hw]
end
end K16
namespace K16
open PySem L2 Mi
theorem wk_call {k : Nat} {F nm : D} {c c1 : M} {v : Vl} {f : Str} {as : List Pt} (h : callF sub tab bigN k 7 [.dat F, .dat (cP f as), .dat nm, c] = .ok (.dat v.d) [none, none, none, some c1]) :
    callF sub tab bigN (k + 1) 8 [.dat F, .dat (cP f as), .dat nm, c] = okc v c1 := by
  refine call_ret (fn := fn8) rfl rfl ?_ (μ' := [some (.dat F), some (.dat (cP f as)), some (.dat nm), some c1, some (.dat (.str "call")), none, none, none])
  have i0 : fIx (cP f as) (.int 0) = some (.str "call") := atI_0 _ _
  generalize cP f as = P at *
  unfold fn8
  refine (ex_nx (by first | (simp (decide := true) [execSs, execS, evalE, evalAs, evalEs, evalP, evalI, slot, insOk, atPl, M.at, M.kids, M.kind, nodupB, Ag.roots, Ag.flat, As.vals, E.pure, Es.pure, As.pure, Path.pure, argMs, Mi.callEnd, backAs, putPl, M.put, M.setKid, M.toD, viewE, D.hard, D.hard.hards, datsOf, onDat, outD, fSub_i, fAddI_i, fAddX_i, fLt_i, fLe_i, fGt_i, fGe_i, fEq_i, fEq_s, fEq_b, fNe_i, fNe_s, fNe_b, fNot_b, fNeg_i, fIx_l, fIx_t, fLen_l, fLen_t, fIsi_int_i, fIsi_bool_i, fIsi_bool_b, setTg, Tg.slots, setMany, fldIx, toOwned, datOf, startE, i0]; done) | (simp (decide := true) [execSs, execS, evalE, evalAs, evalEs, evalP, evalI, slot, insOk, atPl, M.at, M.kids, M.kind, nodupB, Ag.roots, Ag.flat, As.vals, E.pure, Es.pure, As.pure, Path.pure, argMs, Mi.callEnd, backAs, putPl, M.put, M.setKid, M.toD, viewE, D.hard, D.hard.hards, datsOf, onDat, outD, fSub_i, fAddI_i, fAddX_i, fLt_i, fLe_i, fGt_i, fGe_i, fEq_i, fEq_s, fEq_b, fNe_i, fNe_s, fNe_b, fNot_b, fNeg_i, fIx_l, fIx_t, fLen_l, fLen_t, fIsi_int_i, fIsi_bool_i, fIsi_bool_b, setTg, Tg.slots, setMany, fldIx, toOwned, datOf, startE, i0]; rfl))).trans ?_
  refine (ex_nx (by first | (simp (decide := true) [execSs, execS, evalE, evalAs, evalEs, evalP, evalI, slot, insOk, atPl, M.at, M.kids, M.kind, nodupB, Ag.roots, Ag.flat, As.vals, E.pure, Es.pure, As.pure, Path.pure, argMs, Mi.callEnd, backAs, putPl, M.put, M.setKid, M.toD, viewE, D.hard, D.hard.hards, datsOf, onDat, outD, fSub_i, fAddI_i, fAddX_i, fLt_i, fLe_i, fGt_i, fGe_i, fEq_i, fEq_s, fEq_b, fNe_i, fNe_s, fNe_b, fNot_b, fNeg_i, fIx_l, fIx_t, fLen_l, fLen_t, fIsi_int_i, fIsi_bool_i, fIsi_bool_b, setTg, Tg.slots, setMany, fldIx, toOwned, datOf]; done) | (simp (decide := true) [execSs, execS, evalE, evalAs, evalEs, evalP, evalI, slot, insOk, atPl, M.at, M.kids, M.kind, nodupB, Ag.roots, Ag.flat, As.vals, E.pure, Es.pure, As.pure, Path.pure, argMs, Mi.callEnd, backAs, putPl, M.put, M.setKid, M.toD, viewE, D.hard, D.hard.hards, datsOf, onDat, outD, fSub_i, fAddI_i, fAddX_i, fLt_i, fLe_i, fGt_i, fGe_i, fEq_i, fEq_s, fEq_b, fNe_i, fNe_s, fNe_b, fNot_b, fNeg_i, fIx_l, fIx_t, fLen_l, fLen_t, fIsi_int_i, fIsi_bool_i, fIsi_bool_b, setTg, Tg.slots, setMany, fldIx, toOwned, datOf]; rfl))).trans ?_
  refine (ex_nx (by first | (simp (decide := true) [execSs, execS, evalE, evalAs, evalEs, evalP, evalI, slot, insOk, atPl, M.at, M.kids, M.kind, nodupB, Ag.roots, Ag.flat, As.vals, E.pure, Es.pure, As.pure, Path.pure, argMs, Mi.callEnd, backAs, putPl, M.put, M.setKid, M.toD, viewE, D.hard, D.hard.hards, datsOf, onDat, outD, fSub_i, fAddI_i, fAddX_i, fLt_i, fLe_i, fGt_i, fGe_i, fEq_i, fEq_s, fEq_b, fNe_i, fNe_s, fNe_b, fNot_b, fNeg_i, fIx_l, fIx_t, fLen_l, fLen_t, fIsi_int_i, fIsi_bool_i, fIsi_bool_b, setTg, Tg.slots, setMany, fldIx, toOwned, datOf]; done) | (simp (decide := true) [execSs, execS, evalE, evalAs, evalEs, evalP, evalI, slot, insOk, atPl, M.at, M.kids, M.kind, nodupB, Ag.roots, Ag.flat, As.vals, E.pure, Es.pure, As.pure, Path.pure, argMs, Mi.callEnd, backAs, putPl, M.put, M.setKid, M.toD, viewE, D.hard, D.hard.hards, datsOf, onDat, outD, fSub_i, fAddI_i, fAddX_i, fLt_i, fLe_i, fGt_i, fGe_i, fEq_i, fEq_s, fEq_b, fNe_i, fNe_s, fNe_b, fNot_b, fNeg_i, fIx_l, fIx_t, fLen_l, fLen_t, fIsi_int_i, fIsi_bool_i, fIsi_bool_b, setTg, Tg.slots, setMany, fldIx, toOwned, datOf]; rfl))).trans ?_
  refine (ex_nx (by first | (simp (decide := true) [execSs, execS, evalE, evalAs, evalEs, evalP, evalI, slot, insOk, atPl, M.at, M.kids, M.kind, nodupB, Ag.roots, Ag.flat, As.vals, E.pure, Es.pure, As.pure, Path.pure, argMs, Mi.callEnd, backAs, putPl, M.put, M.setKid, M.toD, viewE, D.hard, D.hard.hards, datsOf, onDat, outD, fSub_i, fAddI_i, fAddX_i, fLt_i, fLe_i, fGt_i, fGe_i, fEq_i, fEq_s, fEq_b, fNe_i, fNe_s, fNe_b, fNot_b, fNeg_i, fIx_l, fIx_t, fLen_l, fLen_t, fIsi_int_i, fIsi_bool_i, fIsi_bool_b, setTg, Tg.slots, setMany, fldIx, toOwned, datOf]; done) | (simp (decide := true) [execSs, execS, evalE, evalAs, evalEs, evalP, evalI, slot, insOk, atPl, M.at, M.kids, M.kind, nodupB, Ag.roots, Ag.flat, As.vals, E.pure, Es.pure, As.pure, Path.pure, argMs, Mi.callEnd, backAs, putPl, M.put, M.setKid, M.toD, viewE, D.hard, D.hard.hards, datsOf, onDat, outD, fSub_i, fAddI_i, fAddX_i, fLt_i, fLe_i, fGt_i, fGe_i, fEq_i, fEq_s, fEq_b, fNe_i, fNe_s, fNe_b, fNot_b, fNeg_i, fIx_l, fIx_t, fLen_l, fLen_t, fIsi_int_i, fIsi_bool_i, fIsi_bool_b, setTg, Tg.slots, setMany, fldIx, toOwned, datOf]; rfl))).trans ?_
  refine ex_ret (by first | (simp (decide := true) [execSs, execS, evalE, evalAs, evalEs, evalP, evalI, slot, insOk, atPl, M.at, M.kids, M.kind, nodupB, Ag.roots, Ag.flat, As.vals, E.pure, Es.pure, As.pure, Path.pure, argMs, Mi.callEnd, backAs, putPl, M.put, M.setKid, M.toD, viewE, D.hard, D.hard.hards, datsOf, onDat, outD, fSub_i, fAddI_i, fAddX_i, fLt_i, fLe_i, fGt_i, fGe_i, fEq_i, fEq_s, fEq_b, fNe_i, fNe_s, fNe_b, fNot_b, fNeg_i, fIx_l, fIx_t, fLen_l, fLen_t, fIsi_int_i, fIsi_bool_i, fIsi_bool_b, setTg, Tg.slots, setMany, fldIx, toOwned, datOf, h]; done) | (simp (decide := true) [execSs, execS, evalE, evalAs, evalEs, evalP, evalI, slot, insOk, atPl, M.at, M.kids, M.kind, nodupB, Ag.roots, Ag.flat, As.vals, E.pure, Es.pure, As.pure, Path.pure, argMs, Mi.callEnd, backAs, putPl, M.put, M.setKid, M.toD, viewE, D.hard, D.hard.hards, datsOf, onDat, outD, fSub_i, fAddI_i, fAddX_i, fLt_i, fLe_i, fGt_i, fGe_i, fEq_i, fEq_s, fEq_b, fNe_i, fNe_s, fNe_b, fNot_b, fNeg_i, fIx_l, fIx_t, fLen_l, fLen_t, fIsi_int_i, fIsi_bool_i, fIsi_bool_b, setTg, Tg.slots, setMany, fldIx, toOwned, datOf, h]; rfl))
theorem wk_call_er {k : Nat} {F nm : D} {c c1 : M} {x f : Str} {as : List Pt} (h : callF sub tab bigN k 7 [.dat F, .dat (cP f as), .dat nm, c] = .err x [none, none, none, some c1]) :
    callF sub tab bigN (k + 1) 8 [.dat F, .dat (cP f as), .dat nm, c] = erc x c1 := by
  refine call_err (fn := fn8) rfl rfl ?_ (μ' := [some (.dat F), some (.dat (cP f as)), some (.dat nm), some c1, some (.dat (.str "call")), none, none, none])
  have i0 : fIx (cP f as) (.int 0) = some (.str "call") := atI_0 _ _
  generalize cP f as = P at *
  unfold fn8
  refine (ex_nx (by first | (simp (decide := true) [execSs, execS, evalE, evalAs, evalEs, evalP, evalI, slot, insOk, atPl, M.at, M.kids, M.kind, nodupB, Ag.roots, Ag.flat, As.vals, E.pure, Es.pure, As.pure, Path.pure, argMs, Mi.callEnd, backAs, putPl, M.put, M.setKid, M.toD, viewE, D.hard, D.hard.hards, datsOf, onDat, outD, fSub_i, fAddI_i, fAddX_i, fLt_i, fLe_i, fGt_i, fGe_i, fEq_i, fEq_s, fEq_b, fNe_i, fNe_s, fNe_b, fNot_b, fNeg_i, fIx_l, fIx_t, fLen_l, fLen_t, fIsi_int_i, fIsi_bool_i, fIsi_bool_b, setTg, Tg.slots, setMany, fldIx, toOwned, datOf, startE, i0]; done) | (simp (decide := true) [execSs, execS, evalE, evalAs, evalEs, evalP, evalI, slot, insOk, atPl, M.at, M.kids, M.kind, nodupB, Ag.roots, Ag.flat, As.vals, E.pure, Es.pure, As.pure, Path.pure, argMs, Mi.callEnd, backAs, putPl, M.put, M.setKid, M.toD, viewE, D.hard, D.hard.hards, datsOf, onDat, outD, fSub_i, fAddI_i, fAddX_i, fLt_i, fLe_i, fGt_i, fGe_i, fEq_i, fEq_s, fEq_b, fNe_i, fNe_s, fNe_b, fNot_b, fNeg_i, fIx_l, fIx_t, fLen_l, fLen_t, fIsi_int_i, fIsi_bool_i, fIsi_bool_b, setTg, Tg.slots, setMany, fldIx, toOwned, datOf, startE, i0]; rfl))).trans ?_
  refine (ex_nx (by first | (simp (decide := true) [execSs, execS, evalE, evalAs, evalEs, evalP, evalI, slot, insOk, atPl, M.at, M.kids, M.kind, nodupB, Ag.roots, Ag.flat, As.vals, E.pure, Es.pure, As.pure, Path.pure, argMs, Mi.callEnd, backAs, putPl, M.put, M.setKid, M.toD, viewE, D.hard, D.hard.hards, datsOf, onDat, outD, fSub_i, fAddI_i, fAddX_i, fLt_i, fLe_i, fGt_i, fGe_i, fEq_i, fEq_s, fEq_b, fNe_i, fNe_s, fNe_b, fNot_b, fNeg_i, fIx_l, fIx_t, fLen_l, fLen_t, fIsi_int_i, fIsi_bool_i, fIsi_bool_b, setTg, Tg.slots, setMany, fldIx, toOwned, datOf]; done) | (simp (decide := true) [execSs, execS, evalE, evalAs, evalEs, evalP, evalI, slot, insOk, atPl, M.at, M.kids, M.kind, nodupB, Ag.roots, Ag.flat, As.vals, E.pure, Es.pure, As.pure, Path.pure, argMs, Mi.callEnd, backAs, putPl, M.put, M.setKid, M.toD, viewE, D.hard, D.hard.hards, datsOf, onDat, outD, fSub_i, fAddI_i, fAddX_i, fLt_i, fLe_i, fGt_i, fGe_i, fEq_i, fEq_s, fEq_b, fNe_i, fNe_s, fNe_b, fNot_b, fNeg_i, fIx_l, fIx_t, fLen_l, fLen_t, fIsi_int_i, fIsi_bool_i, fIsi_bool_b, setTg, Tg.slots, setMany, fldIx, toOwned, datOf]; rfl))).trans ?_
  refine (ex_nx (by first | (simp (decide := true) [execSs, execS, evalE, evalAs, evalEs, evalP, evalI, slot, insOk, atPl, M.at, M.kids, M.kind, nodupB, Ag.roots, Ag.flat, As.vals, E.pure, Es.pure, As.pure, Path.pure, argMs, Mi.callEnd, backAs, putPl, M.put, M.setKid, M.toD, viewE, D.hard, D.hard.hards, datsOf, onDat, outD, fSub_i, fAddI_i, fAddX_i, fLt_i, fLe_i, fGt_i, fGe_i, fEq_i, fEq_s, fEq_b, fNe_i, fNe_s, fNe_b, fNot_b, fNeg_i, fIx_l, fIx_t, fLen_l, fLen_t, fIsi_int_i, fIsi_bool_i, fIsi_bool_b, setTg, Tg.slots, setMany, fldIx, toOwned, datOf]; done) | (simp (decide := true) [execSs, execS, evalE, evalAs, evalEs, evalP, evalI, slot, insOk, atPl, M.at, M.kids, M.kind, nodupB, Ag.roots, Ag.flat, As.vals, E.pure, Es.pure, As.pure, Path.pure, argMs, Mi.callEnd, backAs, putPl, M.put, M.setKid, M.toD, viewE, D.hard, D.hard.hards, datsOf, onDat, outD, fSub_i, fAddI_i, fAddX_i, fLt_i, fLe_i, fGt_i, fGe_i, fEq_i, fEq_s, fEq_b, fNe_i, fNe_s, fNe_b, fNot_b, fNeg_i, fIx_l, fIx_t, fLen_l, fLen_t, fIsi_int_i, fIsi_bool_i, fIsi_bool_b, setTg, Tg.slots, setMany, fldIx, toOwned, datOf]; rfl))).trans ?_
  refine (ex_nx (by first | (simp (decide := true) [execSs, execS, evalE, evalAs, evalEs, evalP, evalI, slot, insOk, atPl, M.at, M.kids, M.kind, nodupB, Ag.roots, Ag.flat, As.vals, E.pure, Es.pure, As.pure, Path.pure, argMs, Mi.callEnd, backAs, putPl, M.put, M.setKid, M.toD, viewE, D.hard, D.hard.hards, datsOf, onDat, outD, fSub_i, fAddI_i, fAddX_i, fLt_i, fLe_i, fGt_i, fGe_i, fEq_i, fEq_s, fEq_b, fNe_i, fNe_s, fNe_b, fNot_b, fNeg_i, fIx_l, fIx_t, fLen_l, fLen_t, fIsi_int_i, fIsi_bool_i, fIsi_bool_b, setTg, Tg.slots, setMany, fldIx, toOwned, datOf]; done) | (simp (decide := true) [execSs, execS, evalE, evalAs, evalEs, evalP, evalI, slot, insOk, atPl, M.at, M.kids, M.kind, nodupB, Ag.roots, Ag.flat, As.vals, E.pure, Es.pure, As.pure, Path.pure, argMs, Mi.callEnd, backAs, putPl, M.put, M.setKid, M.toD, viewE, D.hard, D.hard.hards, datsOf, onDat, outD, fSub_i, fAddI_i, fAddX_i, fLt_i, fLe_i, fGt_i, fGe_i, fEq_i, fEq_s, fEq_b, fNe_i, fNe_s, fNe_b, fNot_b, fNeg_i, fIx_l, fIx_t, fLen_l, fLen_t, fIsi_int_i, fIsi_bool_i, fIsi_bool_b, setTg, Tg.slots, setMany, fldIx, toOwned, datOf]; rfl))).trans ?_
  refine ex_er ?_
  simp (decide := true) [execSs, execS, evalE, evalAs, evalEs, evalP, evalI, slot, insOk, atPl, M.at, M.kids, M.kind, nodupB, Ag.roots, Ag.flat, As.vals, E.pure, Es.pure, As.pure, Path.pure, argMs, Mi.callEnd, backAs, putPl, M.put, M.setKid, M.toD, viewE, D.hard, D.hard.hards, datsOf, onDat, outD, fSub_i, fAddI_i, fAddX_i, fLt_i, fLe_i, fGt_i, fGe_i, fEq_i, fEq_s, fEq_b, fNe_i, fNe_s, fNe_b, fNot_b, fNeg_i, fIx_l, fIx_t, fLen_l, fLen_t, fIsi_int_i, fIsi_bool_i, fIsi_bool_b, setTg, Tg.slots, setMany, fldIx, toOwned, datOf, h]
theorem evL_len {E : Ev} {e : Nms} : ∀ {as : List Pt} {b u : Int} {vs : List Vl} {b' u' : Int}, evL E e as b u = some (.ok vs b' u') → vs.length = as.length
  | [], _, _, _, _, _, h => by cases h; rfl
  | p :: r, b, u, vs, b', u', h => by
    unfold evL at h
    cases q : E p e b u with
    | none => rw [q] at h; cases h
    | some R =>
      rw [q] at h
      cases R with
      | er x b1 u1 => cases h
      | ok v b1 u1 =>
        dsimp only at h
        cases q2 : evL E e r b1 u1 with
        | none => rw [q2] at h; cases h
        | some R2 =>
          rw [q2] at h
          cases R2 with
          | er x b2 u2 => cases h
          | ok ws b2 u2 =>
            cases h
            rw [List.length_cons, List.length_cons, evL_len q2]
structure FsOk (fs : List Fn1) : Prop where
  nf : NoTf (funs (fs.map Fn1.z))
  tl : ∀ g ∈ fs, g.ts.length ≤ 900
section
variable {fs : List Fn1} {mx : Int} {j : Nat} {E1 E2 : Ev}
abbrev FD (fs : List Fn1) : D := fnsD (funs (fs.map Fn1.z))
def EvOk (fs : List Fn1) (mx : Int) (E : Ev) (k : Nat) : Prop := ∀ p e b u r, NoTw e → E p e b u = some r → callF sub tab bigN k 8 [.dat (FD fs), .dat p.d, .dat (nmD e), cnt mx b u] = r.cr mx
theorem nb1 : ("begin" : Str) ∉ [("most" : Str), "begun", "under"] := by decide
theorem nb2 : ("end" : Str) ∉ [("most" : Str), "begun", "under"] := by decide
theorem call_ok (O : FsOk fs) (H2 : EvOk fs mx E2 (j + 1)) {f : Str} {as : List Pt} (hl : as.length ≤ 900) {e : Nms} (n : NoTw e) {b u : Int} {r : Rs} (h : stp fs mx E1 E2 (.call f as) e b u = some r) :
    callF sub tab bigN (j + 3) 8 [.dat (FD fs), .dat (cP f as), .dat (nmD e), cnt mx b u] = r.cr mx := by
  have h : (if as.length ≤ 900 then match evL E2 e as b u with
    | none => none
    | some (.er x b u) => some (.er x b u)
    | some (.ok vs b u) => callR fs mx E2 f vs b u else none) = some r := h
  rw [if_pos hl] at h
  have H : ∀ p b u r, E2 p e b u = some r → callF sub tab bigN (j + 1) 8 [.dat (FD fs), .dat p.d, .dat (nmD e), cnt mx b u] = r.cr mx := fun p b u r q => H2 p e b u r n q
  cases q : evL E2 e as b u with
  | none => rw [q] at h; cases h
  | some R =>
    rw [q] at h
    cases R with
    | er x b1 u1 =>
      cases h
      obtain ⟨pd, hc⟩ := comp_er (C := callF sub tab bigN (j + 1)) (F := FD fs) (P := cP f as) H as [] b u x b1 u1 q
      exact wk_call_er (k := j + 2) (call_err (fn := fn7) rfl rfl (called_er hl hc))
    | ok vs b1 u1 =>
      have hc := comp_ok (C := callF sub tab bigN (j + 1)) (F := FD fs) (P := cP f as) H as [] b u vs b1 u1 q
      rw [List.nil_append] at hc
      have hv := evL_len q
      have h : callR fs mx E2 f vs b1 u1 = some r := h
      unfold callR at h
      cases qf : fs.find? (fun g => g.name = f) with
      | none => rw [qf] at h; cases h
      | some g =>
        rw [qf] at h
        dsimp only at h
        have gm : g ∈ fs := List.mem_of_find?_eq_some qf
        have gn : g.name = f := by simpa using List.find?_some qf
        have gF : fIxD (FD fs) (.str f) = some g.z.d := getF_ok O.nf (List.mem_map.mpr ⟨g.z, List.mem_map.mpr ⟨g, gm, rfl⟩, by rw [← gn]; rfl⟩)
        have g1 : fIx g.z.d (.int 1) = some (.lst (g.ts.map tkD)) := fnD_1 _ _ _ _
        have g3 : fIx g.z.d (.int 3) = some g.body.d := fnD_3 _ _ _ _
        have hP : fIx (cP f as) (.int 1) = some (.str f) := atI_1 _ _ _
        have gt := O.tl g gm
        have ne : NoTw (putAll [] g.ts vs) := putAll_no trivial
        by_cases c1 : mx < b1 + 1
        · rw [if_pos c1] at h
          cases h
          refine wk_call_er (k := j + 2) (call_err (fn := fn7) rfl rfl ?_ (μ' := [some (.dat (FD fs)), some (.dat (cP f as)), some (.dat (nmD e)), some (cnt mx b1 u1), some (.dat (.lst (vs.map Vl.d))), none, none, none, none, none]))
          exact called_go (F := FD fs) (fd := .non) (bd := .non) (r := .non) (y2 := []) (y3 := []) (y4 := []) (ts := []) hl (by omega) (by simp) hc (fun q => q = _) (called_b nb1 (begin_long j c1))
        · rw [if_neg c1] at h
          by_cases c2 : 12 < u1 + 1
          · rw [if_pos c2] at h
            cases h
            refine wk_call_er (k := j + 2) (call_err (fn := fn7) rfl rfl ?_ (μ' := [some (.dat (FD fs)), some (.dat (cP f as)), some (.dat (nmD e)), some (cnt mx b1 u1), some (.dat (.lst (vs.map Vl.d))), none, none, none, none, none]))
            exact called_go (F := FD fs) (fd := .non) (bd := .non) (r := .non) (y2 := []) (y3 := []) (y4 := []) (ts := []) hl (by omega) (by simp) hc (fun q => q = _) (called_b nb1 (begin_deep j c1 c2))
          · rw [if_neg c2] at h
            have hb := begin_ok j c1 c2
            obtain ⟨y8, y9, w⟩ := called_w (C := callF sub tab bigN (j + 1)) (F := FD fs) (fd := g.z.d) (P := cP f as) (r := .non) (bd := .non) (nd := nmD e) (vs := vs) nb1 hb hP gF g1 gt
            cases q3 : E2 g.body (putAll [] g.ts vs) (b1 + 1) (u1 + 1) with
            | none => rw [q3] at h; cases h
            | some R3 =>
              rw [q3] at h
              have h3 := H2 g.body _ _ _ R3 ne q3
              cases R3 with
              | er x b2 u2 =>
                cases h
                refine wk_call_er (k := j + 2) (call_err (fn := fn7) rfl rfl ?_ (μ' := [some (.dat (FD fs)), some (.dat (cP f as)), some (.dat (nmD e)), some (cnt mx b2 u2), some (.dat (.lst (vs.map Vl.d))), some (.dat g.z.d), some (.dat (nmD (putAll [] g.ts vs))), none, y8, y9]))
                exact called_go (F := FD fs) (fd := .non) (bd := .non) (r := .non) (y2 := []) (y3 := []) (y4 := []) (ts := []) hl (by omega) (by simp) hc (fun q => q = _) (w.trans (called_we g3 h3))
              | ok v b2 u2 =>
                cases h
                refine wk_call (k := j + 2) (call_ret (fn := fn7) rfl rfl ?_ (μ' := [some (.dat (FD fs)), some (.dat (cP f as)), some (.dat (nmD e)), some (cnt mx b2 (u2 - 1)), some (.dat (.lst (vs.map Vl.d))), some (.dat g.z.d), some (.dat (nmD (putAll [] g.ts vs))), some (.dat v.d), y8, y9]))
                exact called_go (F := FD fs) (fd := .non) (bd := .non) (r := .non) (y2 := []) (y3 := []) (y4 := []) (ts := []) hl (by omega) (by simp) hc (fun q => q = _) (w.trans (called_ok nb2 g3 h3 (end_ok j)))
end
end K16
namespace K16
open PySem L2 Mi
section
variable {fs : List Fn1} {mx : Int} {j : Nat} {E1 E2 : Ev}
theorem bndR_some {r : Option Rs} {k : Vl → Int → Int → Option Rs} {R : Rs} (h : bndR r k = some R) : (∃ x b u, r = some (.er x b u) ∧ R = .er x b u) ∨ ∃ v b u, r = some (.ok v b u) ∧ k v b u = some R := by
  cases r with
  | none => cases h
  | some q =>
    cases q with
    | er x b u => cases h; exact .inl ⟨x, b, u, rfl, rfl⟩
    | ok v b u => exact .inr ⟨v, b, u, rfl, h⟩
theorem nw_un {w : Str} (h : w = "none" ∨ w = "first" ∨ w = "second" ∨ w = "head" ∨ w = "tail") : NW w := by
  rcases h with rfl | rfl | rfl | rfl | rfl <;> exact ⟨by decide, by decide, by decide⟩
theorem nw_bin {w : Str} (h : (w = "pair" ∨ w = "cons") ∨ w = "less" ∨ w = "plus" ∨ w = "minus" ∨ w = "times") : NW w := by
  rcases h with (rfl | rfl) | rfl | rfl | rfl | rfl <;> exact ⟨by decide, by decide, by decide⟩
theorem un_w {w : Str} {v : Vl} {b u : Int} {R : Rs} (h : unR w v b u = some R) : w = "none" ∨ w = "first" ∨ w = "second" ∨ w = "head" ∨ w = "tail" := by
  unfold unR at h
  split at h
  · rename_i q; exact .inl q
  · split at h
    · rename_i q; exact .inr q
    · cases h
theorem bin_w {w : Str} {v1 v2 : Vl} {b u : Int} {R : Rs} (h : binR w v1 v2 b u = some R) : (w = "pair" ∨ w = "cons") ∨ w = "less" ∨ w = "plus" ∨ w = "minus" ∨ w = "times" := by
  unfold binR at h
  split at h
  · rename_i q; exact .inl q
  · split at h
    · rename_i q; exact .inr q
    · cases h
theorem un_ok {k : Nat} {F nm : D} {w : Str} {a : D} {v : Vl} {c : M} {b u : Int} {R : Rs} (e : callF sub tab bigN (k + 1) 8 [.dat F, .dat a, .dat nm, c] = okc v (cnt mx b u)) (h : unR w v b u = some R) :
    callF sub tab bigN (k + 2) 8 [.dat F, .dat (.tup [.str w, a]), .dat nm, c] = R.cr mx := by
  have nw := nw_un (un_w h)
  unfold unR at h
  by_cases h1 : w = "none"
  · rw [if_pos h1] at h
    subst h1
    cases h
    exact wk_look nw e (look_none k v)
  · rw [if_neg h1] at h
    by_cases h2 : w = "first" ∨ w = "second" ∨ w = "head" ∨ w = "tail"
    · rw [if_pos h2] at h
      cases v with
      | num i => cases h
      | non =>
        cases h
        exact wk_look_er nw e (look_non k h2)
      | cell v1 v2 s =>
        cases h
        exact wk_look nw e (look_ok k h2)
    · rw [if_neg h2] at h
      cases h
theorem bin_ok {k : Nat} {F nm : D} {w : Str} {a d : D} {v1 v2 : Vl} {c c1 : M} {b u : Int} {R : Rs} (e : callF sub tab bigN (k + 2) 8 [.dat F, .dat a, .dat nm, c] = okc v1 c1) (e2 : callF sub tab bigN (k + 2) 8 [.dat F, .dat d, .dat nm, c1] = okc v2 (cnt mx b u)) (h : binR w v1 v2 b u = some R) :
    callF sub tab bigN (k + 3) 8 [.dat F, .dat (.tup [.str w, a, d]), .dat nm, c] = R.cr mx := by
  unfold binR at h
  by_cases h1 : w = "pair" ∨ w = "cons"
  · rw [if_pos h1] at h
    have := wk_cell h1 e e2
    cases q : cellO v1 v2 with
    | none => rw [q] at h this; cases h; exact this
    | some v => rw [q] at h this; cases h; exact this
  · rw [if_neg h1] at h
    by_cases h2 : w = "less" ∨ w = "plus" ∨ w = "minus" ∨ w = "times"
    · rw [if_pos h2] at h
      cases v1 with
      | num x =>
        cases v2 with
        | num y =>
          dsimp only at h
          by_cases h3 : Sm x ∧ Sm y
          · rw [if_pos h3] at h
            have := wk_two (k := k + 1) h2 h3.1 h3.2 e e2
            cases q : opr w x y with
            | none => rw [q] at h this; cases h; exact this
            | some v => rw [q] at h this; cases h; exact this
          · rw [if_neg h3] at h
            cases h
        | _ => cases h
      | _ => cases h
    · rw [if_neg h2] at h
      cases h
theorem wk_if_er0 {k : Nat} {F nm : D} {c c1 : M} {a b d : D} {x : Str} (e : callF sub tab bigN k 8 [.dat F, .dat a, .dat nm, c] = erc x c1) :
    callF sub tab bigN (k + 1) 8 [.dat F, .dat (.tup [.str "if", a, b, d]), .dat nm, c] = erc x c1 := by
  unfold erc at e
  refine call_err (fn := fn8) rfl rfl ?_ (μ' := [some (.dat F), some (.dat (.tup [.str "if", a, b, d])), some (.dat nm), some c1, some (.dat (.str "if")), none, none, none])
  unfold fn8
  refine (ex_nx (by first | (simp (decide := true) [execSs, execS, evalE, evalAs, evalEs, evalP, evalI, slot, insOk, atPl, M.at, M.kids, M.kind, nodupB, Ag.roots, Ag.flat, As.vals, E.pure, Es.pure, As.pure, Path.pure, argMs, Mi.callEnd, backAs, putPl, M.put, M.setKid, M.toD, viewE, D.hard, D.hard.hards, datsOf, onDat, outD, fSub_i, fAddI_i, fAddX_i, fLt_i, fLe_i, fGt_i, fGe_i, fEq_i, fEq_s, fEq_b, fNe_i, fNe_s, fNe_b, fNot_b, fNeg_i, fIx_l, fIx_t, fLen_l, fLen_t, fIsi_int_i, fIsi_bool_i, fIsi_bool_b, setTg, Tg.slots, setMany, fldIx, toOwned, datOf, startE, atI_0]; done) | (simp (decide := true) [execSs, execS, evalE, evalAs, evalEs, evalP, evalI, slot, insOk, atPl, M.at, M.kids, M.kind, nodupB, Ag.roots, Ag.flat, As.vals, E.pure, Es.pure, As.pure, Path.pure, argMs, Mi.callEnd, backAs, putPl, M.put, M.setKid, M.toD, viewE, D.hard, D.hard.hards, datsOf, onDat, outD, fSub_i, fAddI_i, fAddX_i, fLt_i, fLe_i, fGt_i, fGe_i, fEq_i, fEq_s, fEq_b, fNe_i, fNe_s, fNe_b, fNot_b, fNeg_i, fIx_l, fIx_t, fLen_l, fLen_t, fIsi_int_i, fIsi_bool_i, fIsi_bool_b, setTg, Tg.slots, setMany, fldIx, toOwned, datOf, startE, atI_0]; rfl))).trans ?_
  refine (ex_nx (by first | (simp (decide := true) [execSs, execS, evalE, evalAs, evalEs, evalP, evalI, slot, insOk, atPl, M.at, M.kids, M.kind, nodupB, Ag.roots, Ag.flat, As.vals, E.pure, Es.pure, As.pure, Path.pure, argMs, Mi.callEnd, backAs, putPl, M.put, M.setKid, M.toD, viewE, D.hard, D.hard.hards, datsOf, onDat, outD, fSub_i, fAddI_i, fAddX_i, fLt_i, fLe_i, fGt_i, fGe_i, fEq_i, fEq_s, fEq_b, fNe_i, fNe_s, fNe_b, fNot_b, fNeg_i, fIx_l, fIx_t, fLen_l, fLen_t, fIsi_int_i, fIsi_bool_i, fIsi_bool_b, setTg, Tg.slots, setMany, fldIx, toOwned, datOf]; done) | (simp (decide := true) [execSs, execS, evalE, evalAs, evalEs, evalP, evalI, slot, insOk, atPl, M.at, M.kids, M.kind, nodupB, Ag.roots, Ag.flat, As.vals, E.pure, Es.pure, As.pure, Path.pure, argMs, Mi.callEnd, backAs, putPl, M.put, M.setKid, M.toD, viewE, D.hard, D.hard.hards, datsOf, onDat, outD, fSub_i, fAddI_i, fAddX_i, fLt_i, fLe_i, fGt_i, fGe_i, fEq_i, fEq_s, fEq_b, fNe_i, fNe_s, fNe_b, fNot_b, fNeg_i, fIx_l, fIx_t, fLen_l, fLen_t, fIsi_int_i, fIsi_bool_i, fIsi_bool_b, setTg, Tg.slots, setMany, fldIx, toOwned, datOf]; rfl))).trans ?_
  refine (ex_nx (by first | (simp (decide := true) [execSs, execS, evalE, evalAs, evalEs, evalP, evalI, slot, insOk, atPl, M.at, M.kids, M.kind, nodupB, Ag.roots, Ag.flat, As.vals, E.pure, Es.pure, As.pure, Path.pure, argMs, Mi.callEnd, backAs, putPl, M.put, M.setKid, M.toD, viewE, D.hard, D.hard.hards, datsOf, onDat, outD, fSub_i, fAddI_i, fAddX_i, fLt_i, fLe_i, fGt_i, fGe_i, fEq_i, fEq_s, fEq_b, fNe_i, fNe_s, fNe_b, fNot_b, fNeg_i, fIx_l, fIx_t, fLen_l, fLen_t, fIsi_int_i, fIsi_bool_i, fIsi_bool_b, setTg, Tg.slots, setMany, fldIx, toOwned, datOf]; done) | (simp (decide := true) [execSs, execS, evalE, evalAs, evalEs, evalP, evalI, slot, insOk, atPl, M.at, M.kids, M.kind, nodupB, Ag.roots, Ag.flat, As.vals, E.pure, Es.pure, As.pure, Path.pure, argMs, Mi.callEnd, backAs, putPl, M.put, M.setKid, M.toD, viewE, D.hard, D.hard.hards, datsOf, onDat, outD, fSub_i, fAddI_i, fAddX_i, fLt_i, fLe_i, fGt_i, fGe_i, fEq_i, fEq_s, fEq_b, fNe_i, fNe_s, fNe_b, fNot_b, fNeg_i, fIx_l, fIx_t, fLen_l, fLen_t, fIsi_int_i, fIsi_bool_i, fIsi_bool_b, setTg, Tg.slots, setMany, fldIx, toOwned, datOf]; rfl))).trans ?_
  refine (ex_nx (by first | (simp (decide := true) [execSs, execS, evalE, evalAs, evalEs, evalP, evalI, slot, insOk, atPl, M.at, M.kids, M.kind, nodupB, Ag.roots, Ag.flat, As.vals, E.pure, Es.pure, As.pure, Path.pure, argMs, Mi.callEnd, backAs, putPl, M.put, M.setKid, M.toD, viewE, D.hard, D.hard.hards, datsOf, onDat, outD, fSub_i, fAddI_i, fAddX_i, fLt_i, fLe_i, fGt_i, fGe_i, fEq_i, fEq_s, fEq_b, fNe_i, fNe_s, fNe_b, fNot_b, fNeg_i, fIx_l, fIx_t, fLen_l, fLen_t, fIsi_int_i, fIsi_bool_i, fIsi_bool_b, setTg, Tg.slots, setMany, fldIx, toOwned, datOf]; done) | (simp (decide := true) [execSs, execS, evalE, evalAs, evalEs, evalP, evalI, slot, insOk, atPl, M.at, M.kids, M.kind, nodupB, Ag.roots, Ag.flat, As.vals, E.pure, Es.pure, As.pure, Path.pure, argMs, Mi.callEnd, backAs, putPl, M.put, M.setKid, M.toD, viewE, D.hard, D.hard.hards, datsOf, onDat, outD, fSub_i, fAddI_i, fAddX_i, fLt_i, fLe_i, fGt_i, fGe_i, fEq_i, fEq_s, fEq_b, fNe_i, fNe_s, fNe_b, fNot_b, fNeg_i, fIx_l, fIx_t, fLen_l, fLen_t, fIsi_int_i, fIsi_bool_i, fIsi_bool_b, setTg, Tg.slots, setMany, fldIx, toOwned, datOf]; rfl))).trans ?_
  refine (ex_nx (by first | (simp (decide := true) [execSs, execS, evalE, evalAs, evalEs, evalP, evalI, slot, insOk, atPl, M.at, M.kids, M.kind, nodupB, Ag.roots, Ag.flat, As.vals, E.pure, Es.pure, As.pure, Path.pure, argMs, Mi.callEnd, backAs, putPl, M.put, M.setKid, M.toD, viewE, D.hard, D.hard.hards, datsOf, onDat, outD, fSub_i, fAddI_i, fAddX_i, fLt_i, fLe_i, fGt_i, fGe_i, fEq_i, fEq_s, fEq_b, fNe_i, fNe_s, fNe_b, fNot_b, fNeg_i, fIx_l, fIx_t, fLen_l, fLen_t, fIsi_int_i, fIsi_bool_i, fIsi_bool_b, setTg, Tg.slots, setMany, fldIx, toOwned, datOf]; done) | (simp (decide := true) [execSs, execS, evalE, evalAs, evalEs, evalP, evalI, slot, insOk, atPl, M.at, M.kids, M.kind, nodupB, Ag.roots, Ag.flat, As.vals, E.pure, Es.pure, As.pure, Path.pure, argMs, Mi.callEnd, backAs, putPl, M.put, M.setKid, M.toD, viewE, D.hard, D.hard.hards, datsOf, onDat, outD, fSub_i, fAddI_i, fAddX_i, fLt_i, fLe_i, fGt_i, fGe_i, fEq_i, fEq_s, fEq_b, fNe_i, fNe_s, fNe_b, fNot_b, fNeg_i, fIx_l, fIx_t, fLen_l, fLen_t, fIsi_int_i, fIsi_bool_i, fIsi_bool_b, setTg, Tg.slots, setMany, fldIx, toOwned, datOf]; rfl))).trans ?_
  refine (ex_nx (by first | (simp (decide := true) [execSs, execS, evalE, evalAs, evalEs, evalP, evalI, slot, insOk, atPl, M.at, M.kids, M.kind, nodupB, Ag.roots, Ag.flat, As.vals, E.pure, Es.pure, As.pure, Path.pure, argMs, Mi.callEnd, backAs, putPl, M.put, M.setKid, M.toD, viewE, D.hard, D.hard.hards, datsOf, onDat, outD, fSub_i, fAddI_i, fAddX_i, fLt_i, fLe_i, fGt_i, fGe_i, fEq_i, fEq_s, fEq_b, fNe_i, fNe_s, fNe_b, fNot_b, fNeg_i, fIx_l, fIx_t, fLen_l, fLen_t, fIsi_int_i, fIsi_bool_i, fIsi_bool_b, setTg, Tg.slots, setMany, fldIx, toOwned, datOf]; done) | (simp (decide := true) [execSs, execS, evalE, evalAs, evalEs, evalP, evalI, slot, insOk, atPl, M.at, M.kids, M.kind, nodupB, Ag.roots, Ag.flat, As.vals, E.pure, Es.pure, As.pure, Path.pure, argMs, Mi.callEnd, backAs, putPl, M.put, M.setKid, M.toD, viewE, D.hard, D.hard.hards, datsOf, onDat, outD, fSub_i, fAddI_i, fAddX_i, fLt_i, fLe_i, fGt_i, fGe_i, fEq_i, fEq_s, fEq_b, fNe_i, fNe_s, fNe_b, fNot_b, fNeg_i, fIx_l, fIx_t, fLen_l, fLen_t, fIsi_int_i, fIsi_bool_i, fIsi_bool_b, setTg, Tg.slots, setMany, fldIx, toOwned, datOf]; rfl))).trans ?_
  refine ex_er ?_
  simp (decide := true) [execSs, execS, evalE, evalAs, evalEs, evalP, evalI, slot, insOk, atPl, M.at, M.kids, M.kind, nodupB, Ag.roots, Ag.flat, As.vals, E.pure, Es.pure, As.pure, Path.pure, argMs, Mi.callEnd, backAs, putPl, M.put, M.setKid, M.toD, viewE, D.hard, D.hard.hards, datsOf, onDat, outD, fSub_i, fAddI_i, fAddX_i, fLt_i, fLe_i, fGt_i, fGe_i, fEq_i, fEq_s, fEq_b, fNe_i, fNe_s, fNe_b, fNot_b, fNeg_i, fIx_l, fIx_t, fLen_l, fLen_t, fIsi_int_i, fIsi_bool_i, fIsi_bool_b, setTg, Tg.slots, setMany, fldIx, toOwned, datOf, atI_1, e]
theorem stp_ok (O : FsOk fs) (H1 : EvOk fs mx E1 (j + 2)) (H2 : EvOk fs mx E2 (j + 1)) : EvOk fs mx (stp fs mx E1 E2) (j + 3) := by
  intro p e b u r n h
  cases p with
  | num i => cases h; exact wk_num
  | nil kd => cases h; exact wk_nil
  | name s =>
    have h : (getE s e).map (fun v => Rs.ok v b u) = some r := h
    cases q : getE s e with
    | none => rw [q] at h; cases h
    | some v => rw [q] at h; cases h; exact wk_name (getD_ok q)
  | let_ s a d =>
    have h : (if e.length ≤ 900 then bndR (E1 a e b u) (fun v b u => E1 d (putE s v e) b u) else none) = some r := h
    by_cases hl : e.length ≤ 900
    · rw [if_pos hl] at h
      rcases bndR_some h with ⟨x, b1, u1, h1, rfl⟩ | ⟨v, b1, u1, h1, h2⟩
      · exact wk_let_er1 (H1 _ _ _ _ _ n h1)
      · have w1 := H1 _ _ _ _ _ n h1
        have w2 := H1 _ _ _ _ _ n.put h2
        cases r with
        | ok v2 b2 u2 => exact wk_let n (by omega) w1 w2
        | er x b2 u2 => exact wk_let_er2 n (by omega) w1 w2
    · rw [if_neg hl] at h
      cases h
  | ite a d f =>
    have h : bndR (E1 a e b u) (fun v b u => match numO v with
      | some x => E1 (if x = 0 then f else d) e b u
      | none => none) = some r := h
    rcases bndR_some h with ⟨x, b1, u1, h1, rfl⟩ | ⟨v, b1, u1, h1, h2⟩
    · exact wk_if_er0 (H1 _ _ _ _ _ n h1)
    · have w1 := H1 _ _ _ _ _ n h1
      cases v with
      | num x =>
        have h2 : E1 (if x = 0 then f else d) e b1 u1 = some r := h2
        have w2 := H1 _ _ _ _ _ n h2
        have hy : (if x = 0 then f else d).d = if x = 0 then f.d else d.d := by split <;> rfl
        cases r with
        | ok v2 b2 u2 => exact wk_if w1 hy w2
        | er x b2 u2 => exact wk_if_er w1 hy w2
      | _ => cases h2
  | un w a =>
    have h : (if w = "none" ∨ w = "first" ∨ w = "second" ∨ w = "head" ∨ w = "tail" then bndR (E1 a e b u) (fun v b u => unR w v b u) else none) = some r := h
    by_cases hw : w = "none" ∨ w = "first" ∨ w = "second" ∨ w = "head" ∨ w = "tail"
    · rw [if_pos hw] at h
      rcases bndR_some h with ⟨x, b1, u1, h1, rfl⟩ | ⟨v, b1, u1, h1, h2⟩
      · exact wk_er1 (nw_un hw) (H1 _ _ _ _ _ n h1)
      · exact un_ok (H1 _ _ _ _ _ n h1) h2
    · rw [if_neg hw] at h
      cases h
  | bin w a d =>
    have h : (if (w = "pair" ∨ w = "cons") ∨ w = "less" ∨ w = "plus" ∨ w = "minus" ∨ w = "times" then bndR (E1 a e b u) (fun v b u => bndR (E1 d e b u) fun v2 b u => binR w v v2 b u) else none) = some r := h
    by_cases hw : (w = "pair" ∨ w = "cons") ∨ w = "less" ∨ w = "plus" ∨ w = "minus" ∨ w = "times"
    · rw [if_pos hw] at h
      rcases bndR_some h with ⟨x, b1, u1, h1, rfl⟩ | ⟨v, b1, u1, h1, h2⟩
      · exact wk_er1 (nw_bin hw) (H1 _ _ _ _ _ n h1)
      · have w1 := H1 _ _ _ _ _ n h1
        rcases bndR_some h2 with ⟨x, b2, u2, h3, rfl⟩ | ⟨v2, b2, u2, h3, h4⟩
        · exact wk_er2 (nw_bin hw) w1 (H1 _ _ _ _ _ n h3)
        · exact bin_ok w1 (H1 _ _ _ _ _ n h3) h4
    · rw [if_neg hw] at h
      cases h
  | call f as =>
    by_cases hl : as.length ≤ 900
    · exact call_ok O H2 hl n h
    · have h : (if as.length ≤ 900 then _ else none) = some r := h
      rw [if_neg hl] at h
      cases h
theorem ev_ok (O : FsOk fs) : ∀ k, EvOk fs mx (ev fs mx k) (k + 2) ∧ EvOk fs mx (ev fs mx (k + 1)) (k + 3)
  | 0 => ⟨fun p e b u r n h => (nomatch h), stp_ok (E1 := fun _ _ _ _ => none) (E2 := fun _ _ _ _ => none) (j := 0) O (fun p e b u r n h => (nomatch h)) (fun p e b u r n h => (nomatch h))⟩
  | k + 1 => by
    obtain ⟨h1, h2⟩ := ev_ok O k
    exact ⟨h2, stp_ok (j := k + 1) O h2 h1⟩
end
end K16
namespace K16
open PySem L2 Mi
/-! ### more fuel -/
def Le (E E' : Ev) : Prop := ∀ p e b u r, E p e b u = some r → E' p e b u = some r
section
variable {fs : List Fn1} {mx : Int} {E1 E2 E1' E2' : Ev}
theorem bndR_mono {r r' : Option Rs} {k k' : Vl → Int → Int → Option Rs} (h : ∀ R, r = some R → r' = some R) (hk : ∀ v b u R, k v b u = some R → k' v b u = some R) {R : Rs} (e : bndR r k = some R) : bndR r' k' = some R := by
  rcases bndR_some e with ⟨x, b, u, h1, rfl⟩ | ⟨v, b, u, h1, h2⟩
  · rw [h _ h1]; rfl
  · rw [h _ h1]; exact hk _ _ _ _ h2
theorem evL_mono (h : Le E1 E1') {e : Nms} : ∀ {as : List Pt} {b u : Int} {r : Rl}, evL E1 e as b u = some r → evL E1' e as b u = some r
  | [], _, _, _, q => q
  | p :: r, b, u, R, q => by
    unfold evL at q ⊢
    cases z : E1 p e b u with
    | none => rw [z] at q; cases q
    | some R1 =>
      rw [z] at q
      rw [h _ _ _ _ _ z]
      cases R1 with
      | er x b1 u1 => exact q
      | ok v b1 u1 =>
        dsimp only at q ⊢
        cases z2 : evL E1 e r b1 u1 with
        | none => rw [z2] at q; cases q
        | some R2 =>
          rw [z2] at q
          rw [evL_mono h z2]
          exact q
theorem stp_mono (h1 : Le E1 E1') (h2 : Le E2 E2') : Le (stp fs mx E1 E2) (stp fs mx E1' E2') := by
  intro p e b u r h
  cases p with
  | num i => exact h
  | nil kd => exact h
  | name s => exact h
  | let_ s a d =>
    have h : (if e.length ≤ 900 then bndR (E1 a e b u) (fun v b u => E1 d (putE s v e) b u) else none) = some r := h
    show (if e.length ≤ 900 then bndR (E1' a e b u) (fun v b u => E1' d (putE s v e) b u) else none) = some r
    by_cases hl : e.length ≤ 900
    · rw [if_pos hl] at h ⊢
      exact bndR_mono (h1 _ _ _ _) (fun v b u R => h1 _ _ _ _ _) h
    · rw [if_neg hl] at h; cases h
  | ite a d f =>
    refine bndR_mono (h1 _ _ _ _) (fun v b u R q => ?_) h
    cases v with
    | num x => exact h1 _ _ _ _ _ q
    | _ => cases q
  | un w a =>
    have h : (if w = "none" ∨ w = "first" ∨ w = "second" ∨ w = "head" ∨ w = "tail" then bndR (E1 a e b u) (fun v b u => unR w v b u) else none) = some r := h
    show (if w = "none" ∨ w = "first" ∨ w = "second" ∨ w = "head" ∨ w = "tail" then bndR (E1' a e b u) (fun v b u => unR w v b u) else none) = some r
    by_cases hw : w = "none" ∨ w = "first" ∨ w = "second" ∨ w = "head" ∨ w = "tail"
    · rw [if_pos hw] at h ⊢
      exact bndR_mono (h1 _ _ _ _) (fun v b u R q => q) h
    · rw [if_neg hw] at h; cases h
  | bin w a d =>
    have h : (if (w = "pair" ∨ w = "cons") ∨ w = "less" ∨ w = "plus" ∨ w = "minus" ∨ w = "times" then bndR (E1 a e b u) (fun v b u => bndR (E1 d e b u) fun v2 b u => binR w v v2 b u) else none) = some r := h
    show (if (w = "pair" ∨ w = "cons") ∨ w = "less" ∨ w = "plus" ∨ w = "minus" ∨ w = "times" then bndR (E1' a e b u) (fun v b u => bndR (E1' d e b u) fun v2 b u => binR w v v2 b u) else none) = some r
    by_cases hw : (w = "pair" ∨ w = "cons") ∨ w = "less" ∨ w = "plus" ∨ w = "minus" ∨ w = "times"
    · rw [if_pos hw] at h ⊢
      exact bndR_mono (h1 _ _ _ _) (fun v b u R q => bndR_mono (h1 _ _ _ _) (fun v b u R q => q) q) h
    · rw [if_neg hw] at h; cases h
  | call f as =>
    have h : (if as.length ≤ 900 then match evL E2 e as b u with
      | none => none
      | some (.er x b u) => some (.er x b u)
      | some (.ok vs b u) => callR fs mx E2 f vs b u else none) = some r := h
    show (if as.length ≤ 900 then match evL E2' e as b u with
      | none => none
      | some (.er x b u) => some (.er x b u)
      | some (.ok vs b u) => callR fs mx E2' f vs b u else none) = some r
    by_cases hl : as.length ≤ 900
    · rw [if_pos hl] at h ⊢
      cases q : evL E2 e as b u with
      | none => rw [q] at h; cases h
      | some R =>
        rw [q] at h
        rw [evL_mono h2 q]
        cases R with
        | er x b u => exact h
        | ok vs b1 u1 =>
          have h : callR fs mx E2 f vs b1 u1 = some r := h
          show callR fs mx E2' f vs b1 u1 = some r
          unfold callR at h ⊢
          cases qf : fs.find? (fun g => g.name = f) with
          | none => rw [qf] at h; cases h
          | some g =>
            rw [qf] at h
            dsimp only at h ⊢
            split at h
            · rename_i c1; rw [if_pos c1]; exact h
            · rename_i c1
              rw [if_neg c1]
              split at h
              · rename_i c2; rw [if_pos c2]; exact h
              · rename_i c2
                rw [if_neg c2]
                exact bndR_mono (h2 _ _ _ _) (fun v b u R q => q) h
    · rw [if_neg hl] at h; cases h
theorem ev_succ : ∀ k, ev fs mx (k + 1) = stp fs mx (ev fs mx k) (ev fs mx (k - 1))
  | 0 => rfl
  | k + 1 => rfl
theorem ev_up : ∀ k, Le (ev fs mx k) (ev fs mx (k + 1))
  | 0 => fun p e b u r h => (nomatch h)
  | 1 => by
    rw [ev_succ 1, ev_succ 0]
    exact stp_mono (fun p e b u r h => (nomatch h)) (fun p e b u r h => (nomatch h))
  | k + 2 => by
    rw [ev_succ (k + 2), ev_succ (k + 1)]
    exact stp_mono (ev_up (k + 1)) (ev_up k)
theorem ev_mono {k k' : Nat} (h : k ≤ k') : Le (ev fs mx k) (ev fs mx k') := by
  obtain ⟨d, rfl⟩ : ∃ d, k' = k + d := ⟨k' - k, by omega⟩
  induction d with
  | zero => exact fun p e b u r h => h
  | succ d ih => exact fun p e b u r q => ev_up (k + d) p e b u r (ih (by omega) p e b u r q)
end
/-! ### rules -/
section
variable {fs : List Fn1} {mx : Int} {k : Nat} {e : Nms} {b u b1 u1 : Int} {r : Rs}
theorem ev_num {i : Int} : ev fs mx (k + 1) (.num i) e b u = some (.ok (.num i) b u) := by rw [ev_succ]; rfl
theorem ev_nil {kd : D} : ev fs mx (k + 1) (.nil kd) e b u = some (.ok .non b u) := by rw [ev_succ]; rfl
theorem ev_name {s : Str} {v : Vl} (h : getE s e = some v) : ev fs mx (k + 1) (.name s) e b u = some (.ok v b u) := by
  rw [ev_succ]
  show (getE s e).map (fun v => Rs.ok v b u) = _
  rw [h]
  rfl
theorem ev_let {s : Str} {a d : Pt} {v : Vl} (hl : e.length ≤ 900) (h : ev fs mx k a e b u = some (.ok v b1 u1)) (h2 : ev fs mx k d (putE s v e) b1 u1 = some r) : ev fs mx (k + 1) (.let_ s a d) e b u = some r := by
  rw [ev_succ]
  show (if e.length ≤ 900 then bndR (ev fs mx k a e b u) (fun v b u => ev fs mx k d (putE s v e) b u) else none) = some r
  rw [if_pos hl, h]
  exact h2
theorem ev_let_er {s : Str} {a d : Pt} {x : Str} (hl : e.length ≤ 900) (h : ev fs mx k a e b u = some (.er x b1 u1)) : ev fs mx (k + 1) (.let_ s a d) e b u = some (.er x b1 u1) := by
  rw [ev_succ]
  show (if e.length ≤ 900 then bndR (ev fs mx k a e b u) (fun v b u => ev fs mx k d (putE s v e) b u) else none) = _
  rw [if_pos hl, h]
  rfl
theorem ev_ite {a d f : Pt} {x : Int} (h : ev fs mx k a e b u = some (.ok (.num x) b1 u1)) (h2 : ev fs mx k (if x = 0 then f else d) e b1 u1 = some r) : ev fs mx (k + 1) (.ite a d f) e b u = some r := by
  rw [ev_succ]
  show bndR (ev fs mx k a e b u) _ = some r
  rw [h]
  exact h2
theorem ev_un {w : Str} {a : Pt} {v : Vl} (hw : w = "none" ∨ w = "first" ∨ w = "second" ∨ w = "head" ∨ w = "tail") (h : ev fs mx k a e b u = some (.ok v b1 u1)) (h2 : unR w v b1 u1 = some r) : ev fs mx (k + 1) (.un w a) e b u = some r := by
  rw [ev_succ]
  show (if w = "none" ∨ w = "first" ∨ w = "second" ∨ w = "head" ∨ w = "tail" then bndR (ev fs mx k a e b u) (fun v b u => unR w v b u) else none) = some r
  rw [if_pos hw, h]
  exact h2
theorem ev_un_er {w : Str} {a : Pt} {x : Str} (hw : w = "none" ∨ w = "first" ∨ w = "second" ∨ w = "head" ∨ w = "tail") (h : ev fs mx k a e b u = some (.er x b1 u1)) : ev fs mx (k + 1) (.un w a) e b u = some (.er x b1 u1) := by
  rw [ev_succ]
  show (if w = "none" ∨ w = "first" ∨ w = "second" ∨ w = "head" ∨ w = "tail" then bndR (ev fs mx k a e b u) (fun v b u => unR w v b u) else none) = _
  rw [if_pos hw, h]
  rfl
theorem ev_bin {w : Str} {a d : Pt} {v v2 : Vl} {b2 u2 : Int} (hw : (w = "pair" ∨ w = "cons") ∨ w = "less" ∨ w = "plus" ∨ w = "minus" ∨ w = "times") (h : ev fs mx k a e b u = some (.ok v b1 u1)) (h2 : ev fs mx k d e b1 u1 = some (.ok v2 b2 u2)) (h3 : binR w v v2 b2 u2 = some r) : ev fs mx (k + 1) (.bin w a d) e b u = some r := by
  rw [ev_succ]
  show (if (w = "pair" ∨ w = "cons") ∨ w = "less" ∨ w = "plus" ∨ w = "minus" ∨ w = "times" then bndR (ev fs mx k a e b u) (fun v b u => bndR (ev fs mx k d e b u) fun v2 b u => binR w v v2 b u) else none) = some r
  rw [if_pos hw, h]
  show bndR (ev fs mx k d e b1 u1) (fun v2 b u => binR w v v2 b u) = some r
  rw [h2]
  exact h3
theorem ev_bin_er1 {w : Str} {a d : Pt} {x : Str} (hw : (w = "pair" ∨ w = "cons") ∨ w = "less" ∨ w = "plus" ∨ w = "minus" ∨ w = "times") (h : ev fs mx k a e b u = some (.er x b1 u1)) : ev fs mx (k + 1) (.bin w a d) e b u = some (.er x b1 u1) := by
  rw [ev_succ]
  show (if (w = "pair" ∨ w = "cons") ∨ w = "less" ∨ w = "plus" ∨ w = "minus" ∨ w = "times" then bndR (ev fs mx k a e b u) (fun v b u => bndR (ev fs mx k d e b u) fun v2 b u => binR w v v2 b u) else none) = _
  rw [if_pos hw, h]
  rfl
theorem ev_bin_er2 {w : Str} {a d : Pt} {v : Vl} {x : Str} {b2 u2 : Int} (hw : (w = "pair" ∨ w = "cons") ∨ w = "less" ∨ w = "plus" ∨ w = "minus" ∨ w = "times") (h : ev fs mx k a e b u = some (.ok v b1 u1)) (h2 : ev fs mx k d e b1 u1 = some (.er x b2 u2)) : ev fs mx (k + 1) (.bin w a d) e b u = some (.er x b2 u2) := by
  rw [ev_succ]
  show (if (w = "pair" ∨ w = "cons") ∨ w = "less" ∨ w = "plus" ∨ w = "minus" ∨ w = "times" then bndR (ev fs mx k a e b u) (fun v b u => bndR (ev fs mx k d e b u) fun v2 b u => binR w v v2 b u) else none) = _
  rw [if_pos hw, h]
  show bndR (ev fs mx k d e b1 u1) (fun v2 b u => binR w v v2 b u) = _
  rw [h2]
  rfl
def Rs.done : Rs → Rs
  | .ok v b u => .ok v b (u - 1)
  | .er x b u => .er x b u
/-- a call of one operand -/
theorem ev_call1 {f : Str} {a : Pt} {v : Vl} {g : Fn1} (hg : fs.find? (fun g => g.name = f) = some g) (h : ev fs mx k a e b u = some (.ok v b1 u1)) (c1 : ¬ mx < b1 + 1) (c2 : ¬ 12 < u1 + 1) {R : Rs} (h2 : ev fs mx k g.body (putAll [] g.ts [v]) (b1 + 1) (u1 + 1) = some R) :
    ev fs mx (k + 2) (.call f [a]) e b u = some R.done := by
  rw [ev_succ]
  have e1 : evL (ev fs mx k) e [a] b u = some (.ok [v] b1 u1) := by
    unfold evL
    rw [h]
    rfl
  show (if [a].length ≤ 900 then match evL (ev fs mx k) e [a] b u with
      | none => none
      | some (.er x b u) => some (.er x b u)
      | some (.ok vs b u) => callR fs mx (ev fs mx k) f vs b u else none) = _
  rw [if_pos (by show 1 ≤ 900; decide), e1]
  show callR fs mx (ev fs mx k) f [v] b1 u1 = _
  unfold callR
  rw [hg]
  dsimp only
  rw [if_neg c1, if_neg c2, h2]
  cases R <;> rfl
theorem ev_call1_er {f : Str} {a : Pt} {x : Str} (h : ev fs mx k a e b u = some (.er x b1 u1)) : ev fs mx (k + 2) (.call f [a]) e b u = some (.er x b1 u1) := by
  rw [ev_succ]
  have e1 : evL (ev fs mx k) e [a] b u = some (.er x b1 u1) := by
    unfold evL
    rw [h]
  show (if [a].length ≤ 900 then match evL (ev fs mx k) e [a] b u with
      | none => none
      | some (.er x b u) => some (.er x b u)
      | some (.ok vs b u) => callR fs mx (ev fs mx k) f vs b u else none) = _
  rw [if_pos (by show 1 ≤ 900; decide), e1]
theorem ev_call1_x {f : Str} {a : Pt} {v : Vl} {g : Fn1} (hg : fs.find? (fun g => g.name = f) = some g) (h : ev fs mx k a e b u = some (.ok v b1 u1)) (c : mx < b1 + 1 ∨ 12 < u1 + 1) : ev fs mx (k + 2) (.call f [a]) e b u = some (.er (if mx < b1 + 1 then "TooLong" else "TooDeep") b1 u1) := by
  rw [ev_succ]
  have e1 : evL (ev fs mx k) e [a] b u = some (.ok [v] b1 u1) := by
    unfold evL
    rw [h]
    rfl
  show (if [a].length ≤ 900 then match evL (ev fs mx k) e [a] b u with
      | none => none
      | some (.er x b u) => some (.er x b u)
      | some (.ok vs b u) => callR fs mx (ev fs mx k) f vs b u else none) = _
  rw [if_pos (by show 1 ≤ 900; decide), e1]
  show callR fs mx (ev fs mx k) f [v] b1 u1 = _
  unfold callR
  rw [hg]
  dsimp only
  by_cases c1 : mx < b1 + 1
  · rw [if_pos c1, if_pos c1]
  · rw [if_neg c1, if_neg c1]
    rw [if_pos (c.resolve_left c1)]
end
end K16
namespace K16
open PySem L2 Mi
/-! ### lists grown by eights -/
def ascN (m : Nat) : Nat → List Int
  | 0 => []
  | i + 1 => ((m : Int) - i) :: ascN m i
theorem ascN_len {m : Nat} : ∀ i, (ascN m i).length = i
  | 0 => rfl
  | i + 1 => by rw [ascN, List.length_cons, ascN_len i]
def conses : List Int → Pt → Pt
  | [], p => p
  | n :: r, p => .bin "cons" (.num n) (conses r p)
def nest (f : Str) : Nat → Pt → Pt
  | 0, p => p
  | n + 1, p => .call f [nest f n p]
abbrev St := Int × List Int
def stepE (mx : Int) (put : Bool) (s : St) : Except Str St :=
  if mx < s.1 + 1 then .error "long" else if put = true then (if 499 < 8 + s.2.length then .error "great" else .ok (s.1 + 1, ascN 8 8 ++ s.2)) else .ok (s.1 + 1, s.2)
def foldE (mx : Int) : List Bool → St → Except Str St
  | [], s => .ok s
  | p :: r, s => match stepE mx p s with
    | .ok s1 => foldE mx r s1
    | .error w => .error w
theorem foldE_app {mx : Int} : ∀ {xs ys : List Bool} {s : St}, foldE mx (xs ++ ys) s = match foldE mx xs s with
    | .ok s1 => foldE mx ys s1
    | .error w => .error w
  | [], ys, s => rfl
  | p :: r, ys, s => by
    show (match stepE mx p s with | .ok s1 => foldE mx (r ++ ys) s1 | .error w => .error w) = match (match stepE mx p s with | .ok s1 => foldE mx r s1 | .error w => .error w) with | .ok s1 => foldE mx ys s1 | .error w => .error w
    cases stepE mx p s with
    | error w => rfl
    | ok s1 => exact foldE_app
theorem stepE_len {mx : Int} {p : Bool} {s s1 : St} (h : stepE mx p s = .ok s1) (hl : s.2.length ≤ 499) : s1.2.length ≤ 499 := by
  unfold stepE at h
  split at h
  · cases h
  · split at h
    · split at h
      · cases h
      · cases h
        show (ascN 8 8 ++ s.2).length ≤ 499
        rw [List.length_append, ascN_len]
        omega
    · cases h
      exact hl
theorem foldE_len {mx : Int} : ∀ {xs : List Bool} {s s1 : St}, foldE mx xs s = .ok s1 → s.2.length ≤ 499 → s1.2.length ≤ 499
  | [], s, s1, h, hl => by cases h; exact hl
  | p :: r, s, s1, h, hl => by
    unfold foldE at h
    cases q : stepE mx p s with
    | error w => rw [q] at h; cases h
    | ok s2 => rw [q] at h; exact foldE_len h (stepE_len q hl)
def xc (w : Str) : Str := if w = "long" then "TooLong" else if w = "great" then "TooGreat" else if w = "empty" then "Empty" else "TooDeep"
/-- a part comes to what the machine comes to -/
def Comes (r : Option Rs) (u : Int) : Except Str St → Prop
  | .ok s => r = some (.ok (lv s.2) s.1 u)
  | .error w => ∃ b' u', r = some (.er (xc w) b' u')
def lput (m : Nat) (mx : Int) (s : St) : Except Str St := if 499 < m + s.2.length then .error "great" else .ok (s.1, ascN m m ++ s.2)
section
variable {fs : List Fn1} {mx : Int} {k : Nat} {e : Nms} {b u : Int}
theorem conses_ev (hk : 1 ≤ k) {p : Pt} {xs : List Int} (hl : xs.length ≤ 499) (h : ev fs mx k p e b u = some (.ok (lv xs) b u)) : ∀ ns : List Int, ev fs mx (k + ns.length) (conses ns p) e b u = some (if 499 < ns.length + xs.length then .er "TooGreat" b u else .ok (lv (ns ++ xs)) b u)
  | [] => by
    rw [if_neg (by show ¬ 499 < 0 + xs.length; omega)]
    exact h
  | n :: r => by
    have ih := conses_ev hk hl h r
    obtain ⟨k', hk'⟩ : ∃ k', k + r.length = k' + 1 := ⟨k + r.length - 1, by omega⟩
    have hn : ev fs mx (k + r.length) (.num n) e b u = some (.ok (.num n) b u) := by rw [hk']; exact ev_num
    show ev fs mx (k + r.length + 1) (.bin "cons" (.num n) (conses r p)) e b u = some (if 499 < r.length + 1 + xs.length then .er "TooGreat" b u else .ok (lv (n :: (r ++ xs))) b u)
    by_cases h1 : 499 < r.length + xs.length
    · rw [if_pos h1] at ih
      rw [if_pos (by omega)]
      exact ev_bin_er2 (.inl (.inr rfl)) hn ih
    · rw [if_neg h1] at ih
      refine ev_bin (.inl (.inr rfl)) hn ih ?_
      have sz : (lv (r ++ xs)).sz = 1 + 2 * ((r ++ xs).length : Int) := lv_sz _
      rw [List.length_append] at sz
      show some (match cellO (.num n) (lv (r ++ xs)) with | some v => Rs.ok v b u | none => .er "TooGreat" b u) = _
      unfold cellO
      have s1 : (Vl.num n).sz = 1 := rfl
      rw [s1, sz]
      by_cases h2 : 499 < r.length + 1 + xs.length
      · rw [if_pos h2, if_pos (by omega)]
      · rw [if_neg h2, if_neg (by omega)]
        show some (Rs.ok (.cell (.num n) (lv (r ++ xs)) _) b u) = some (Rs.ok (.cell (.num n) (lv (r ++ xs)) (1 + 1 + (lv (r ++ xs)).sz)) b u)
        rw [lv_sz, List.length_append]
end
/-! ### the functions -/
def fEight : Fn1 := ⟨"eight", [("l", kList)], kList, conses (ascN 8 8) (.name "l")⟩
def fMore : Fn1 := ⟨"more", [("l", kList)], kList, nest "eight" 7 (.name "l")⟩
def mainL (many few : Nat) : Fn1 := ⟨"main", [], kList, .let_ "a" (nest "more" 8 (.nil kNum)) (.let_ "b" (nest "eight" many (.name "a")) (conses (ascN few few) (.name "b")))⟩
def progL (many few : Nat) : List Fn1 := [mainL many few, fEight, fMore]
section
variable {mx : Int} {many few : Nat} {e : Nms} {b u : Int}
theorem find_eight : (progL many few).find? (fun g => g.name = ("eight" : Str)) = some fEight := by rfl
theorem find_more : (progL many few).find? (fun g => g.name = ("more" : Str)) = some fMore := by rfl
/-- a call of eight -/
theorem eight_ev {b0 u0 : Int} {k : Nat} (hk : 9 ≤ k) {p : Pt} {xs : List Int} (hl : xs.length ≤ 499) (hu : u ≤ 11) (h : ev (progL many few) mx k p e b0 u0 = some (.ok (lv xs) b u)) : Comes (ev (progL many few) mx (k + 2) (.call "eight" [p]) e b0 u0) u (stepE mx true (b, xs)) := by
  unfold stepE
  by_cases c1 : mx < b + 1
  · rw [if_pos c1]
    have := ev_call1_x find_eight h (.inl c1)
    rw [if_pos c1] at this
    exact ⟨_, _, this⟩
  · rw [if_neg c1, if_pos rfl]
    have bd := conses_ev (fs := progL many few) (mx := mx) (k := 1) (e := putE "l" (lv xs) []) (b := b + 1) (u := u + 1) (Nat.le_refl _) hl (ev_name (k := 0) (by rw [getE_put, if_pos rfl])) (ascN 8 8)
    rw [ascN_len] at bd
    have bd := ev_mono (show 1 + 8 ≤ k by omega) _ _ _ _ _ bd
    have c := ev_call1 find_eight h c1 (show ¬ 12 < u + 1 by omega) bd
    by_cases c2 : 499 < 8 + xs.length
    · rw [if_pos c2] at c ⊢
      exact ⟨_, _, c⟩
    · rw [if_neg c2] at c ⊢
      show _ = some (Rs.ok (lv (ascN 8 8 ++ xs)) (b + 1) u)
      rw [c]
      show some (Rs.ok (lv (ascN 8 8 ++ xs)) (b + 1) (u + 1 - 1)) = _
      rw [Int.add_sub_cancel]
theorem eights_ev {b0 u0 : Int} {k : Nat} (hk : 9 ≤ k) {p : Pt} {xs : List Int} (hl : xs.length ≤ 499) (hu : u ≤ 11) (h : ev (progL many few) mx k p e b0 u0 = some (.ok (lv xs) b u)) : ∀ n, Comes (ev (progL many few) mx (k + 2 * n) (nest "eight" n p) e b0 u0) u (foldE mx (List.replicate n true) (b, xs))
  | 0 => h
  | n + 1 => by
    have ih := eights_ev hk hl hu h n
    rw [List.replicate_succ', foldE_app]
    show Comes (ev (progL many few) mx (k + 2 * n + 2) (.call "eight" [nest "eight" n p]) e b0 u0) u _
    cases q : foldE mx (List.replicate n true) (b, xs) with
    | error w =>
      rw [q] at ih
      obtain ⟨b', u', ih⟩ := ih
      exact ⟨_, _, ev_call1_er ih⟩
    | ok s =>
      rw [q] at ih
      have hs := foldE_len q hl
      have r := eight_ev (k := k + 2 * n) (by omega) hs hu ih
      show Comes _ u (foldE mx [true] s)
      unfold foldE
      cases q2 : stepE mx true (s.1, s.2) with
      | error w => rw [q2] at r; exact r
      | ok s2 => rw [q2] at r; exact r
def mEv : List Bool := false :: List.replicate 7 true
theorem more_ev {b0 u0 : Int} {k : Nat} (hk : 24 ≤ k) {p : Pt} {xs : List Int} (hl : xs.length ≤ 499) (hu : u ≤ 10) (h : ev (progL many few) mx k p e b0 u0 = some (.ok (lv xs) b u)) : Comes (ev (progL many few) mx (k + 2) (.call "more" [p]) e b0 u0) u (foldE mx mEv (b, xs)) := by
  unfold mEv foldE stepE
  by_cases c1 : mx < b + 1
  · rw [if_pos c1]
    have := ev_call1_x find_more h (.inl c1)
    rw [if_pos c1] at this
    exact ⟨_, _, this⟩
  · rw [if_neg c1, if_neg (by decide)]
    dsimp only
    have bd := eights_ev (mx := mx) (many := many) (few := few) (k := 9) (e := putE "l" (lv xs) []) (b := b + 1) (u := u + 1) (Nat.le_refl _) hl (show u + 1 ≤ 11 by omega) (ev_name (k := 8) (s := "l") (by rw [getE_put, if_pos rfl])) 7
    cases q : foldE mx (List.replicate 7 true) (b + 1, xs) with
    | error w =>
      rw [q] at bd
      obtain ⟨b', u', bd⟩ := bd
      have bd := ev_mono (show 9 + 2 * 7 ≤ k by omega) _ _ _ _ _ bd
      exact ⟨_, _, ev_call1 find_more h c1 (show ¬ 12 < u + 1 by omega) bd⟩
    | ok s =>
      rw [q] at bd
      have bd := ev_mono (show 9 + 2 * 7 ≤ k by omega) _ _ _ _ _ bd
      have c := ev_call1 find_more h c1 (show ¬ 12 < u + 1 by omega) bd
      show _ = some (Rs.ok (lv s.2) s.1 u)
      rw [c]
      show some (Rs.ok (lv s.2) s.1 (u + 1 - 1)) = _
      rw [Int.add_sub_cancel]
def mEvs : Nat → List Bool
  | 0 => []
  | n + 1 => mEvs n ++ mEv
theorem mores_ev {b0 u0 : Int} {k : Nat} (hk : 24 ≤ k) {p : Pt} {xs : List Int} (hl : xs.length ≤ 499) (hu : u ≤ 10) (h : ev (progL many few) mx k p e b0 u0 = some (.ok (lv xs) b u)) : ∀ n, Comes (ev (progL many few) mx (k + 2 * n) (nest "more" n p) e b0 u0) u (foldE mx (mEvs n) (b, xs))
  | 0 => h
  | n + 1 => by
    have ih := mores_ev hk hl hu h n
    unfold mEvs
    rw [foldE_app]
    show Comes (ev (progL many few) mx (k + 2 * n + 2) (.call "more" [nest "more" n p]) e b0 u0) u _
    cases q : foldE mx (mEvs n) (b, xs) with
    | error w =>
      rw [q] at ih
      obtain ⟨b', u', ih⟩ := ih
      exact ⟨_, _, ev_call1_er ih⟩
    | ok s =>
      rw [q] at ih
      have hs := foldE_len q hl
      exact more_ev (k := k + 2 * n) (by omega) hs hu ih
end
/-- the whole of main -/
def wholeE (mx : Int) (many few : Nat) : Except Str St := match foldE mx (mEvs 8 ++ List.replicate many true) (0, []) with
  | .error w => .error w
  | .ok s => if 499 < few + s.2.length then .error "great" else .ok (s.1, ascN few few ++ s.2)
theorem mainL_ev {mx : Int} {many few : Nat} (hm : many ≤ 7) (hf : few ≤ 7) : Comes (ev (progL many few) mx 60 (mainL many few).body [] 0 0) 0 (wholeE mx many few) := by
  have m := mores_ev (mx := mx) (many := many) (few := few) (e := []) (b := 0) (u := 0) (k := 24) (Nat.le_refl _) (xs := []) (by simp) (by omega) (ev_nil (k := 23) (kd := kNum)) 8
  unfold wholeE
  rw [foldE_app]
  cases q : foldE mx (mEvs 8) (0, []) with
  | error w =>
    rw [q] at m
    obtain ⟨b', u', m⟩ := m
    have m := ev_mono (show 24 + 2 * 8 ≤ 59 by omega) _ _ _ _ _ m
    exact ⟨_, _, ev_let_er (by simp) m⟩
  | ok s =>
    rw [q] at m
    have m := ev_mono (show 24 + 2 * 8 ≤ 59 by omega) _ _ _ _ _ m
    have hs := foldE_len q (by simp)
    have g := eights_ev (mx := mx) (many := many) (few := few) (e := putE "a" (lv s.2) []) (b := s.1) (u := 0) (k := 9) (Nat.le_refl _) hs (by omega) (ev_name (k := 8) (s := "a") (by rw [getE_put, if_pos rfl])) many
    dsimp only
    cases q2 : foldE mx (List.replicate many true) (s.1, s.2) with
    | error w =>
      rw [q2] at g
      obtain ⟨b', u', g⟩ := g
      have g := ev_mono (show 9 + 2 * many ≤ 58 by omega) _ _ _ _ _ g
      exact ⟨_, _, ev_let (by simp) m (ev_let_er (by show 1 ≤ 900; decide) g)⟩
    | ok s2 =>
      rw [q2] at g
      have g := ev_mono (show 9 + 2 * many ≤ 58 by omega) _ _ _ _ _ g
      have hs2 := foldE_len q2 hs
      have c := conses_ev (fs := progL many few) (mx := mx) (k := 1) (e := putE "b" (lv s2.2) (putE "a" (lv s.2) [])) (b := s2.1) (u := 0) (Nat.le_refl _) hs2 (ev_name (k := 0) (by rw [getE_put, if_pos rfl])) (ascN few few)
      rw [ascN_len] at c
      have c := ev_mono (show 1 + few ≤ 58 by omega) _ _ _ _ _ c
      have t := ev_let (s := "a") (k := 59) (by simp) m (ev_let (s := "b") (k := 58) (e := putE "a" (lv s.2) []) (by show 1 ≤ 900; decide) g c)
      dsimp only
      by_cases h : 499 < few + s2.2.length
      · rw [if_pos h] at t ⊢
        exact ⟨_, _, t⟩
      · rw [if_neg h] at t ⊢
        exact t
end K16
namespace K16
open PySem L2 Mi
/-! ### numbers counted down -/
def stepC (mx : Int) (un b : Int) : Except Str Int := if mx < b + 1 then .error "long" else if 12 < un then .error "deep" else .ok (b + 1)
def foldC (mx : Int) : List Int → Int → Except Str Int
  | [], b => .ok b
  | p :: r, b => match stepC mx p b with
    | .ok b1 => foldC mx r b1
    | .error w => .error w
theorem foldC_app {mx : Int} : ∀ {xs ys : List Int} {b : Int}, foldC mx (xs ++ ys) b = match foldC mx xs b with
    | .ok b1 => foldC mx ys b1
    | .error w => .error w
  | [], ys, s => rfl
  | p :: r, ys, s => by
    show (match stepC mx p s with | .ok s1 => foldC mx (r ++ ys) s1 | .error w => .error w) = match (match stepC mx p s with | .ok s1 => foldC mx r s1 | .error w => .error w) with | .ok s1 => foldC mx ys s1 | .error w => .error w
    cases stepC mx p s with
    | error w => rfl
    | ok s1 => exact foldC_app
def ComesC (r : Option Rs) (v : Vl) (u : Int) : Except Str Int → Prop
  | .ok b => r = some (.ok v b u)
  | .error w => ∃ b' u', r = some (.er (xc w) b' u')
def descN : Nat → List Int
  | 0 => []
  | d + 1 => ((d : Int) + 1) :: descN d
theorem descN_len : ∀ d, (descN d).length = d
  | 0 => rfl
  | d + 1 => by rw [descN, List.length_cons, descN_len d]
def downU (u : Int) : Nat → List Int
  | 0 => [u + 1]
  | d + 1 => (u + 1) :: downU (u + 1) d
def pAgain : Pt := .call "down" [.bin "minus" (.name "n") (.num 1)]
def fDown : Fn1 := ⟨"down", [("n", kNum)], kList, .ite (.bin "less" (.name "n") (.num 1)) (.nil kNum) (.bin "cons" (.name "n") pAgain)⟩
def pNone : Pt := .un "none" (.call "down" [.name "n"])
def plN : Nat → Pt
  | 0 => pNone
  | j + 1 => .bin "plus" pNone (plN j)
def fBlock : Fn1 := ⟨"block", [("n", kNum)], kNum, plN 6⟩
def pBl : Pt := .call "block" [.name "u"]
def pmN : Nat → Pt
  | 0 => pBl
  | j + 1 => .bin "plus" pBl (pmN j)
def mainC (j : Nat) : Fn1 := ⟨"main", [("u", kNum)], kNum, pmN j⟩
def progC (j : Nat) : List Fn1 := [fDown, fBlock, mainC j]
theorem small_sm {x : Int} (h1 : -1000 ≤ x) (h2 : x ≤ 1000) : Sm x := by
  unfold Sm
  have : x.natAbs ≤ 1000 := by omega
  exact Nat.lt_of_le_of_lt this (by decide)
theorem chk_small {x : Int} (h1 : -1000 ≤ x) (h2 : x ≤ 1000) : chk x = some x := by
  unfold chk
  rw [if_neg]
  show ¬ (1000000000000000000000000000000000000000000000000000000000000 : Int) ≤ _
  omega
theorem binR_plus {x y b u : Int} (h1 : -400 ≤ x) (h2 : x ≤ 400) (h3 : -400 ≤ y) (h4 : y ≤ 400) : binR "plus" (.num x) (.num y) b u = some (.ok (.num (x + y)) b u) := by
  show (if Sm x ∧ Sm y then some (match opr "plus" x y with | some z => Rs.ok (.num z) b u | none => .er "TooGreat" b u) else none) = _
  rw [if_pos ⟨small_sm (by omega) (by omega), small_sm (by omega) (by omega)⟩]
  have : opr "plus" x y = some (x + y) := chk_small (by omega) (by omega)
  rw [this]
theorem binR_minus {x y b u : Int} (h1 : -400 ≤ x) (h2 : x ≤ 400) (h3 : -400 ≤ y) (h4 : y ≤ 400) : binR "minus" (.num x) (.num y) b u = some (.ok (.num (x - y)) b u) := by
  show (if Sm x ∧ Sm y then some (match opr "minus" x y with | some z => Rs.ok (.num z) b u | none => .er "TooGreat" b u) else none) = _
  rw [if_pos ⟨small_sm (by omega) (by omega), small_sm (by omega) (by omega)⟩]
  have : opr "minus" x y = some (x - y) := chk_small (by omega) (by omega)
  rw [this]
theorem binR_less {x y b u : Int} (h1 : -400 ≤ x) (h2 : x ≤ 400) (h3 : -400 ≤ y) (h4 : y ≤ 400) : binR "less" (.num x) (.num y) b u = some (.ok (.num (if x < y then 1 else 0)) b u) := by
  show (if Sm x ∧ Sm y then some (match opr "less" x y with | some z => Rs.ok (.num z) b u | none => .er "TooGreat" b u) else none) = _
  rw [if_pos ⟨small_sm (by omega) (by omega), small_sm (by omega) (by omega)⟩]
  rfl
section
variable {mx : Int} {j : Nat}
theorem find_down : (progC j).find? (fun g => g.name = ("down" : Str)) = some fDown := by rfl
theorem find_block : (progC j).find? (fun g => g.name = ("block" : Str)) = some fBlock := by rfl
theorem down_ev : ∀ (d : Nat) {k : Nat} {e : Nms} {p : Pt} {n b0 u0 b u : Int}, 8 + 4 * d ≤ k → d ≤ 30 → -30 ≤ n → (n ≤ 0 ∧ d = 0 ∨ n = d) → ev (progC j) mx k p e b0 u0 = some (.ok (.num n) b u) →
    ComesC (ev (progC j) mx (k + 2) (.call "down" [p]) e b0 u0) (lv (descN d)) u (foldC mx (downU u d) b)
  | 0, k, e, p, n, b0, u0, b, u, hk, hd, hn, hnd, h => by
    have n0 : n ≤ 0 := by omega
    unfold downU foldC stepC
    by_cases c1 : mx < b + 1
    · rw [if_pos c1]
      have := ev_call1_x find_down h (.inl c1)
      rw [if_pos c1] at this
      exact ⟨_, _, this⟩
    · rw [if_neg c1]
      by_cases c2 : 12 < u + 1
      · rw [if_pos c2]
        have := ev_call1_x find_down h (.inr c2)
        rw [if_neg c1] at this
        exact ⟨_, _, this⟩
      · rw [if_neg c2]
        obtain ⟨k', rfl⟩ : ∃ k', k = k' + 4 := ⟨k - 4, by omega⟩
        have hE : getE "n" (putE "n" (Vl.num n) []) = some (.num n) := by rw [getE_put, if_pos rfl]
        have bd : ev (progC j) mx (k' + 4) fDown.body (putE "n" (.num n) []) (b + 1) (u + 1) = some (.ok .non (b + 1) (u + 1)) := by
          refine ev_ite (x := 1) (b1 := b + 1) (u1 := u + 1) (ev_bin (.inr (.inl rfl)) (ev_name hE) ev_num ?_) ?_
          · rw [binR_less (by omega) (by omega) (by omega) (by omega), if_pos (by omega)]
          · rw [if_neg (by decide)]
            exact ev_nil
        have c := ev_call1 find_down h c1 c2 bd
        show _ = some (Rs.ok .non (b + 1) u)
        rw [c]
        show some (Rs.ok .non (b + 1) (u + 1 - 1)) = _
        rw [Int.add_sub_cancel]
  | d + 1, k, e, p, n, b0, u0, b, u, hk, hd, hn, hnd, h => by
    have n0 : n = (d : Int) + 1 := by omega
    unfold downU foldC stepC
    by_cases c1 : mx < b + 1
    · rw [if_pos c1]
      have := ev_call1_x find_down h (.inl c1)
      rw [if_pos c1] at this
      exact ⟨_, _, this⟩
    · rw [if_neg c1]
      by_cases c2 : 12 < u + 1
      · rw [if_pos c2]
        have := ev_call1_x find_down h (.inr c2)
        rw [if_neg c1] at this
        exact ⟨_, _, this⟩
      · rw [if_neg c2]
        obtain ⟨k', rfl⟩ : ∃ k', k = k' + 4 := ⟨k - 4, by omega⟩
        have hE : getE "n" (putE "n" (Vl.num n) []) = some (.num n) := by rw [getE_put, if_pos rfl]
        obtain ⟨k2, hk2⟩ : ∃ k2, k' = k2 + 2 := ⟨k' - 2, by omega⟩
        have hm : ev (progC j) mx k' (.bin "minus" (.name "n") (.num 1)) (putE "n" (.num n) []) (b + 1) (u + 1) = some (.ok (.num (n - 1)) (b + 1) (u + 1)) := by
          rw [hk2]
          exact ev_bin (.inr (.inr (.inr (.inl rfl)))) (ev_name hE) ev_num (binR_minus (by omega) (by omega) (by omega) (by omega))
        have ih := down_ev d (k := k') (by omega) (by omega) (by omega) (by omega) hm
        have hl : ev (progC j) mx (k' + 3) (.bin "less" (.name "n") (.num 1)) (putE "n" (.num n) []) (b + 1) (u + 1) = some (.ok (.num 0) (b + 1) (u + 1)) := by
          refine ev_bin (.inr (.inl rfl)) (ev_name hE) ev_num ?_
          rw [binR_less (by omega) (by omega) (by omega) (by omega), if_neg (by omega)]
        dsimp only
        cases q : foldC mx (downU (u + 1) d) (b + 1) with
        | error w =>
          rw [q] at ih
          obtain ⟨b', u', ih⟩ := ih
          have bd : ev (progC j) mx (k' + 4) fDown.body (putE "n" (.num n) []) (b + 1) (u + 1) = some (.er (xc w) b' u') := by
            refine ev_ite hl ?_
            rw [if_pos rfl]
            exact ev_bin_er2 (.inl (.inr rfl)) (ev_name hE) ih
          exact ⟨_, _, ev_call1 find_down h c1 c2 bd⟩
        | ok b2 =>
          rw [q] at ih
          have bd : ev (progC j) mx (k' + 4) fDown.body (putE "n" (.num n) []) (b + 1) (u + 1) = some (.ok (lv (descN (d + 1))) b2 (u + 1)) := by
            refine ev_ite hl ?_
            rw [if_pos rfl]
            refine ev_bin (.inl (.inr rfl)) (ev_name hE) ih ?_
            show some (match cellO (.num n) (lv (descN d)) with | some v => Rs.ok v b2 (u + 1) | none => .er "TooGreat" b2 (u + 1)) = _
            have s1 : (Vl.num n).sz = 1 := rfl
            have s2 : (lv (descN d)).sz = 1 + 2 * (d : Int) := by rw [lv_sz, descN_len]
            unfold cellO
            rw [s1, if_neg (by omega)]
            rw [n0]
            rfl
          have c := ev_call1 find_down h c1 c2 bd
          show _ = some (Rs.ok (lv (descN (d + 1))) b2 u)
          rw [c]
          show some (Rs.ok _ b2 (u + 1 - 1)) = _
          rw [Int.add_sub_cancel]
def zN (d : Nat) : Int := if d = 0 then 1 else 0
theorem none_ev {d k : Nat} {e : Nms} {n b u : Int} (hk : 8 + 4 * d ≤ k) (hd : d ≤ 30) (hn : -30 ≤ n) (hnd : n ≤ 0 ∧ d = 0 ∨ n = d) (h : getE "n" e = some (.num n)) :
    ComesC (ev (progC j) mx (k + 3) pNone e b u) (.num (zN d)) u (foldC mx (downU u d) b) := by
  obtain ⟨k', rfl⟩ : ∃ k', k = k' + 1 := ⟨k - 1, by omega⟩
  have c := down_ev (mx := mx) (j := j) d hk hd hn hnd (ev_name (k := k') (b := b) (u := u) h)
  cases q : foldC mx (downU u d) b with
  | error w =>
    rw [q] at c
    obtain ⟨b', u', c⟩ := c
    exact ⟨_, _, ev_un_er (.inl rfl) c⟩
  | ok b1 =>
    rw [q] at c
    refine ev_un (.inl rfl) c ?_
    show some (Rs.ok (.num (match lv (descN d) with | .non => 1 | _ => 0)) b1 u) = _
    cases d with
    | zero => rfl
    | succ d => rfl
def repU (D : List Int) : Nat → List Int
  | 0 => []
  | n + 1 => D ++ repU D n
theorem pl_ev {d k : Nat} {e : Nms} {n : Int} {u : Int} (hk : 8 + 4 * d ≤ k) (hd : d ≤ 30) (hn : -30 ≤ n) (hnd : n ≤ 0 ∧ d = 0 ∨ n = d) (h : getE "n" e = some (.num n)) : ∀ (i : Nat) {b : Int}, i ≤ 100 →
    ComesC (ev (progC j) mx (k + 3 + i) (plN i) e b u) (.num (((i : Int) + 1) * zN d)) u (foldC mx (repU (downU u d) (i + 1)) b)
  | 0, b, _ => by
    have c := none_ev (mx := mx) (j := j) (b := b) (u := u) hk hd hn hnd h
    unfold repU repU
    rw [List.append_nil]
    have e0 : (((0 : Nat) : Int) + 1) * zN d = zN d := by rw [show ((0 : Nat) : Int) = 0 from rfl]; omega
    rw [e0]
    exact c
  | i + 1, b, hi => by
    have c := none_ev (mx := mx) (j := j) (b := b) (u := u) hk hd hn hnd h
    have hz : zN d = 0 ∨ zN d = 1 := by unfold zN; split <;> simp
    unfold repU
    rw [foldC_app]
    cases q : foldC mx (downU u d) b with
    | error w =>
      rw [q] at c
      obtain ⟨b', u', c⟩ := c
      have c := ev_mono (show k + 3 ≤ k + 3 + i by omega) _ _ _ _ _ c
      exact ⟨_, _, ev_bin_er1 (.inr (.inr (.inl rfl))) c⟩
    | ok b1 =>
      rw [q] at c
      have c := ev_mono (show k + 3 ≤ k + 3 + i by omega) _ _ _ _ _ c
      have ih := pl_ev (u := u) hk hd hn hnd h i (b := b1) (by omega)
      dsimp only
      cases q2 : foldC mx (repU (downU u d) (i + 1)) b1 with
      | error w =>
        rw [q2] at ih
        obtain ⟨b', u', ih⟩ := ih
        exact ⟨_, _, ev_bin_er2 (.inr (.inr (.inl rfl))) c ih⟩
      | ok b2 =>
        rw [q2] at ih
        refine ev_bin (.inr (.inr (.inl rfl))) c ih ?_
        have bz : 0 ≤ ((i : Int) + 1) * zN d ∧ ((i : Int) + 1) * zN d ≤ 101 := by rcases hz with z | z <;> rw [z] <;> omega
        rw [binR_plus (by omega) (by omega) (by omega) (by omega)]
        have e1 : zN d + ((i : Int) + 1) * zN d = (((i + 1 : Nat) : Int) + 1) * zN d := by
          rcases hz with z | z <;> rw [z] <;> omega
        rw [e1]
def blU (u : Int) (d : Nat) : List Int := (u + 1) :: repU (downU (u + 1) d) 7
theorem block_ev {d k : Nat} {e : Nms} {n b u : Int} (hk : 17 + 4 * d ≤ k) (hd : d ≤ 30) (hn : -30 ≤ n) (hnd : n ≤ 0 ∧ d = 0 ∨ n = d) (hu : u ≤ 10) (h : getE "u" e = some (.num n)) :
    ComesC (ev (progC j) mx (k + 2) pBl e b u) (.num (7 * zN d)) u (foldC mx (blU u d) b) := by
  obtain ⟨k', rfl⟩ : ∃ k', k = k' + 9 := ⟨k - 9, by omega⟩
  have ha : ev (progC j) mx (k' + 9) (.name "u") e b u = some (.ok (.num n) b u) := ev_name h
  unfold blU foldC stepC
  by_cases c1 : mx < b + 1
  · rw [if_pos c1]
    have := ev_call1_x find_block ha (.inl c1)
    rw [if_pos c1] at this
    exact ⟨_, _, this⟩
  · rw [if_neg c1, if_neg (by omega)]
    have hE : getE "n" (putE "n" (Vl.num n) []) = some (.num n) := by rw [getE_put, if_pos rfl]
    have p := pl_ev (mx := mx) (j := j) (k := k') (u := u + 1) (by omega) hd hn hnd hE 6 (b := b + 1) (by omega)
    dsimp only
    cases q : foldC mx (repU (downU (u + 1) d) (6 + 1)) (b + 1) with
    | error w =>
      rw [q] at p
      obtain ⟨b', u', p⟩ := p
      exact ⟨_, _, ev_call1 find_block ha c1 (show ¬ 12 < u + 1 by omega) p⟩
    | ok b2 =>
      rw [q] at p
      have c := ev_call1 find_block ha c1 (show ¬ 12 < u + 1 by omega) p
      refine Eq.trans c ?_
      show some (Rs.ok (.num ((((6 : Nat) : Int) + 1) * zN d)) b2 (u + 1 - 1)) = _
      rw [Int.add_sub_cancel]
      rfl
theorem pm_ev {d k : Nat} {e : Nms} {n : Int} (hk : 17 + 4 * d ≤ k) (hd : d ≤ 30) (hn : -30 ≤ n) (hnd : n ≤ 0 ∧ d = 0 ∨ n = d) (h : getE "u" e = some (.num n)) : ∀ (i : Nat) {b : Int}, i ≤ 20 →
    ComesC (ev (progC j) mx (k + 2 + i) (pmN i) e b 0) (.num (((i : Int) + 1) * (7 * zN d))) 0 (foldC mx (repU (blU 0 d) (i + 1)) b)
  | 0, b, _ => by
    have c := block_ev (mx := mx) (j := j) (b := b) (u := 0) hk hd hn hnd (by omega) h
    unfold repU repU
    rw [List.append_nil]
    have e0 : (((0 : Nat) : Int) + 1) * (7 * zN d) = 7 * zN d := by rw [show ((0 : Nat) : Int) = 0 from rfl]; omega
    rw [e0]
    exact c
  | i + 1, b, hi => by
    have c := block_ev (mx := mx) (j := j) (b := b) (u := 0) hk hd hn hnd (by omega) h
    have hz : zN d = 0 ∨ zN d = 1 := by unfold zN; split <;> simp
    unfold repU
    rw [foldC_app]
    cases q : foldC mx (blU 0 d) b with
    | error w =>
      rw [q] at c
      obtain ⟨b', u', c⟩ := c
      have c := ev_mono (show k + 2 ≤ k + 2 + i by omega) _ _ _ _ _ c
      exact ⟨_, _, ev_bin_er1 (.inr (.inr (.inl rfl))) c⟩
    | ok b1 =>
      rw [q] at c
      have c := ev_mono (show k + 2 ≤ k + 2 + i by omega) _ _ _ _ _ c
      have ih := pm_ev hk hd hn hnd h i (b := b1) (by omega)
      dsimp only
      cases q2 : foldC mx (repU (blU 0 d) (i + 1)) b1 with
      | error w =>
        rw [q2] at ih
        obtain ⟨b', u', ih⟩ := ih
        exact ⟨_, _, ev_bin_er2 (.inr (.inr (.inl rfl))) c ih⟩
      | ok b2 =>
        rw [q2] at ih
        refine ev_bin (.inr (.inr (.inl rfl))) c ih ?_
        have bz : 0 ≤ ((i : Int) + 1) * (7 * zN d) ∧ ((i : Int) + 1) * (7 * zN d) ≤ 300 := by rcases hz with z | z <;> rw [z] <;> omega
        rw [binR_plus (by omega) (by omega) (by omega) (by omega)]
        have e1 : 7 * zN d + ((i : Int) + 1) * (7 * zN d) = (((i + 1 : Nat) : Int) + 1) * (7 * zN d) := by
          rcases hz with z | z <;> rw [z] <;> omega
        rw [e1]
end
end K16
namespace K16
open PySem L2 Mi
/-! ### the law's parts: the programs -/
def mix (c : Int) : Int := (c % 2147483647 + 11) * 48271 * 69621 % 2147483629
theorem mixed (k : Nat) (c : Int) : callF sub tab bigN (k + 1) 11 [.dat (.int c)] = .ok (.dat (.int (mix c))) [none] := by
  have h1 : ∀ x : Int, fMul (.int x) (.int 48271) = some (.int (x * 48271)) := fun x => fMul_r (by decide) (by decide)
  have h2 : ∀ x : Int, fMul (.int x) (.int 69621) = some (.int (x * 69621)) := fun x => fMul_r (by decide) (by decide)
  have h3 : ∀ x : Int, fMod (.int x) (.int 2147483629) = some (.int (x % 2147483629)) := fun x => fMod_p (by decide)
  have h4 : ∀ x : Int, fMod (.int x) (.int 2147483647) = some (.int (x % 2147483647)) := fun x => fMod_p (by decide)
  refine call_ret (fn := fn11) rfl rfl ?_ (μ' := [some (.dat (.int c))])
  unfold fn11
  refine ex_ret (by first | (simp (decide := true) [execSs, execS, evalE, evalAs, evalEs, evalP, evalI, slot, insOk, atPl, M.at, M.kids, M.kind, nodupB, Ag.roots, Ag.flat, As.vals, E.pure, Es.pure, As.pure, Path.pure, argMs, Mi.callEnd, backAs, putPl, M.put, M.setKid, M.toD, viewE, D.hard, D.hard.hards, datsOf, onDat, outD, fSub_i, fAddI_i, fAddX_i, fLt_i, fLe_i, fGt_i, fGe_i, fEq_i, fEq_s, fEq_b, fNe_i, fNe_s, fNe_b, fNot_b, fNeg_i, fIx_l, fIx_t, fLen_l, fLen_t, fIsi_int_i, fIsi_bool_i, fIsi_bool_b, setTg, Tg.slots, setMany, fldIx, toOwned, datOf, startE, h1, h2, h3, h4, mix]; done) | (simp (decide := true) [execSs, execS, evalE, evalAs, evalEs, evalP, evalI, slot, insOk, atPl, M.at, M.kids, M.kind, nodupB, Ag.roots, Ag.flat, As.vals, E.pure, Es.pure, As.pure, Path.pure, argMs, Mi.callEnd, backAs, putPl, M.put, M.setKid, M.toD, viewE, D.hard, D.hard.hards, datsOf, onDat, outD, fSub_i, fAddI_i, fAddX_i, fLt_i, fLe_i, fGt_i, fGe_i, fEq_i, fEq_s, fEq_b, fNe_i, fNe_s, fNe_b, fNot_b, fNeg_i, fIx_l, fIx_t, fLen_l, fLen_t, fIsi_int_i, fIsi_bool_i, fIsi_bool_b, setTg, Tg.slots, setMany, fldIx, toOwned, datOf, startE, h1, h2, h3, h4, mix]; rfl))
theorem put_ok (k : Nat) (p : Pt) (m : Nat) (hm : m ≤ 900) : callF sub tab bigN (k + 1) 12 [.dat p.d, .dat (.int (m : Nat))] = .ok (.dat (conses (ascN m m) p).d) [none, none] := by
  have lp := forLoop_inv (t := .one 2) (b := execSs sub (callF sub tab bigN k) fn12.pin bigN w12_0b) (fun i μ => i ≤ m ∧ ∃ x2, μ = [some (.dat (conses (ascN m i) p).d), some (.dat (.int (m : Nat))), x2])
    (ds := (List.range m).map fun i => .int (0 + (i : Nat))) (i := 0) (μ := [some (.dat p.d), some (.dat (.int (m : Nat))), none]) ⟨Nat.zero_le _, none, rfl⟩ (by
      rintro j d μ hd ⟨hi, x2, rfl⟩
      obtain ⟨hj, rfl⟩ := range_get hd
      rw [Nat.zero_add] at hi ⊢
      refine ⟨_, _, rfl, .inl ?_, by omega, some (.dat (.int (j : Nat))), rfl⟩
      show execSs sub (callF sub tab bigN k) fn12.pin bigN w12_0b [some (.dat (conses (ascN m j) p).d), some (.dat (.int (m : Nat))), some (.dat (.int (j : Nat)))] = .nx [some (.dat (.tup [.str "cons", .tup [.str "number", .int ((m : Int) - j)], (conses (ascN m j) p).d])), some (.dat (.int (m : Nat))), some (.dat (.int (j : Nat)))]
      generalize (conses (ascN m j) p).d = r
      unfold w12_0b
      refine ex_last ?_
      simp (decide := true) [execSs, execS, evalE, evalAs, evalEs, evalP, evalI, slot, insOk, atPl, M.at, M.kids, M.kind, nodupB, Ag.roots, Ag.flat, As.vals, E.pure, Es.pure, As.pure, Path.pure, argMs, Mi.callEnd, backAs, putPl, M.put, M.setKid, M.toD, viewE, D.hard, D.hard.hards, datsOf, onDat, outD, fSub_i, fAddI_i, fAddX_i, fLt_i, fLe_i, fGt_i, fGe_i, fEq_i, fEq_s, fEq_b, fNe_i, fNe_s, fNe_b, fNot_b, fNeg_i, fIx_l, fIx_t, fLen_l, fLen_t, fIsi_int_i, fIsi_bool_i, fIsi_bool_b, setTg, Tg.slots, setMany, fldIx, toOwned, datOf, fTup_n, fn12])
  obtain ⟨μ', lp, hi, x2, rfl⟩ := lp
  have rg := fRange1_len m (by omega)
  have e : 0 + ((List.range m).map fun i => D.int (0 + (i : Nat))).length = m := by simp
  rw [e] at lp
  refine call_ret (fn := fn12) rfl rfl ?_ (μ' := [some (.dat (conses (ascN m m) p).d), some (.dat (.int (m : Nat))), x2])
  generalize (conses (ascN m m) p).d = R at *
  generalize p.d = pd at *
  unfold fn12 at lp ⊢
  refine (ex_nx (ex_for (ms := [.dat (.int (m : Nat))]) (μ1 := [some (.dat pd), some (.dat (.int (m : Nat))), none]) (ds := [.int (m : Nat)]) (xs := (List.range m).map fun i => .int (0 + (i : Nat))) rfl (by simp (decide := true) [execSs, execS, evalE, evalAs, evalEs, evalP, evalI, slot, insOk, atPl, M.at, M.kids, M.kind, nodupB, Ag.roots, Ag.flat, As.vals, E.pure, Es.pure, As.pure, Path.pure, argMs, Mi.callEnd, backAs, putPl, M.put, M.setKid, M.toD, viewE, D.hard, D.hard.hards, datsOf, onDat, outD, fSub_i, fAddI_i, fAddX_i, fLt_i, fLe_i, fGt_i, fGe_i, fEq_i, fEq_s, fEq_b, fNe_i, fNe_s, fNe_b, fNot_b, fNeg_i, fIx_l, fIx_t, fLen_l, fLen_t, fIsi_int_i, fIsi_bool_i, fIsi_bool_b, setTg, Tg.slots, setMany, fldIx, toOwned, datOf, startE]) rfl rg lp)).trans ?_
  refine ex_ret (by first | (simp (decide := true) [execSs, execS, evalE, evalAs, evalEs, evalP, evalI, slot, insOk, atPl, M.at, M.kids, M.kind, nodupB, Ag.roots, Ag.flat, As.vals, E.pure, Es.pure, As.pure, Path.pure, argMs, Mi.callEnd, backAs, putPl, M.put, M.setKid, M.toD, viewE, D.hard, D.hard.hards, datsOf, onDat, outD, fSub_i, fAddI_i, fAddX_i, fLt_i, fLe_i, fGt_i, fGe_i, fEq_i, fEq_s, fEq_b, fNe_i, fNe_s, fNe_b, fNot_b, fNeg_i, fIx_l, fIx_t, fLen_l, fLen_t, fIsi_int_i, fIsi_bool_i, fIsi_bool_b, setTg, Tg.slots, setMany, fldIx, toOwned, datOf]; done) | (simp (decide := true) [execSs, execS, evalE, evalAs, evalEs, evalP, evalI, slot, insOk, atPl, M.at, M.kids, M.kind, nodupB, Ag.roots, Ag.flat, As.vals, E.pure, Es.pure, As.pure, Path.pure, argMs, Mi.callEnd, backAs, putPl, M.put, M.setKid, M.toD, viewE, D.hard, D.hard.hards, datsOf, onDat, outD, fSub_i, fAddI_i, fAddX_i, fLt_i, fLe_i, fGt_i, fGe_i, fEq_i, fEq_s, fEq_b, fNe_i, fNe_s, fNe_b, fNot_b, fNeg_i, fIx_l, fIx_t, fLen_l, fLen_t, fIsi_int_i, fIsi_bool_i, fIsi_bool_b, setTg, Tg.slots, setMany, fldIx, toOwned, datOf]; rfl))
theorem nest_ok (k : Nat) (f : Str) (p : Pt) (m : Nat) (hm : m ≤ 900) : callF sub tab bigN (k + 1) 13 [.dat (.str f), .dat p.d, .dat (.int (m : Nat))] = .ok (.dat (nest f m p).d) [none, none, none] := by
  have lp := forLoop_inv (t := .one 3) (b := execSs sub (callF sub tab bigN k) fn13.pin bigN w13_0b) (fun i μ => i ≤ m ∧ ∃ x2, μ = [some (.dat (.str f)), some (.dat (nest f i p).d), some (.dat (.int (m : Nat))), x2])
    (ds := (List.range m).map fun i => .int (0 + (i : Nat))) (i := 0) (μ := [some (.dat (.str f)), some (.dat p.d), some (.dat (.int (m : Nat))), none]) ⟨Nat.zero_le _, none, rfl⟩ (by
      rintro j d μ hd ⟨hi, x2, rfl⟩
      obtain ⟨hj, rfl⟩ := range_get hd
      rw [Nat.zero_add] at hi ⊢
      refine ⟨_, _, rfl, .inl ?_, by omega, some (.dat (.int (j : Nat))), rfl⟩
      show execSs sub (callF sub tab bigN k) fn13.pin bigN w13_0b [some (.dat (.str f)), some (.dat (nest f j p).d), some (.dat (.int (m : Nat))), some (.dat (.int (j : Nat)))] = .nx [some (.dat (.str f)), some (.dat (.tup [.str "call", .str f, (nest f j p).d])), some (.dat (.int (m : Nat))), some (.dat (.int (j : Nat)))]
      generalize (nest f j p).d = r
      unfold w13_0b
      refine ex_last ?_
      simp (decide := true) [execSs, execS, evalE, evalAs, evalEs, evalP, evalI, slot, insOk, atPl, M.at, M.kids, M.kind, nodupB, Ag.roots, Ag.flat, As.vals, E.pure, Es.pure, As.pure, Path.pure, argMs, Mi.callEnd, backAs, putPl, M.put, M.setKid, M.toD, viewE, D.hard, D.hard.hards, datsOf, onDat, outD, fSub_i, fAddI_i, fAddX_i, fLt_i, fLe_i, fGt_i, fGe_i, fEq_i, fEq_s, fEq_b, fNe_i, fNe_s, fNe_b, fNot_b, fNeg_i, fIx_l, fIx_t, fLen_l, fLen_t, fIsi_int_i, fIsi_bool_i, fIsi_bool_b, setTg, Tg.slots, setMany, fldIx, toOwned, datOf, fTup_n, fn13])
  obtain ⟨μ', lp, hi, x2, rfl⟩ := lp
  have rg := fRange1_len m (by omega)
  have e : 0 + ((List.range m).map fun i => D.int (0 + (i : Nat))).length = m := by simp
  rw [e] at lp
  refine call_ret (fn := fn13) rfl rfl ?_ (μ' := [some (.dat (.str f)), some (.dat (nest f m p).d), some (.dat (.int (m : Nat))), x2])
  generalize (nest f m p).d = R at *
  generalize p.d = pd at *
  unfold fn13 at lp ⊢
  refine (ex_nx (ex_for (ms := [.dat (.int (m : Nat))]) (μ1 := [some (.dat (.str f)), some (.dat pd), some (.dat (.int (m : Nat))), none]) (ds := [.int (m : Nat)]) (xs := (List.range m).map fun i => .int (0 + (i : Nat))) rfl (by simp (decide := true) [execSs, execS, evalE, evalAs, evalEs, evalP, evalI, slot, insOk, atPl, M.at, M.kids, M.kind, nodupB, Ag.roots, Ag.flat, As.vals, E.pure, Es.pure, As.pure, Path.pure, argMs, Mi.callEnd, backAs, putPl, M.put, M.setKid, M.toD, viewE, D.hard, D.hard.hards, datsOf, onDat, outD, fSub_i, fAddI_i, fAddX_i, fLt_i, fLe_i, fGt_i, fGe_i, fEq_i, fEq_s, fEq_b, fNe_i, fNe_s, fNe_b, fNot_b, fNeg_i, fIx_l, fIx_t, fLen_l, fLen_t, fIsi_int_i, fIsi_bool_i, fIsi_bool_b, setTg, Tg.slots, setMany, fldIx, toOwned, datOf, startE]) rfl rg lp)).trans ?_
  refine ex_ret (by first | (simp (decide := true) [execSs, execS, evalE, evalAs, evalEs, evalP, evalI, slot, insOk, atPl, M.at, M.kids, M.kind, nodupB, Ag.roots, Ag.flat, As.vals, E.pure, Es.pure, As.pure, Path.pure, argMs, Mi.callEnd, backAs, putPl, M.put, M.setKid, M.toD, viewE, D.hard, D.hard.hards, datsOf, onDat, outD, fSub_i, fAddI_i, fAddX_i, fLt_i, fLe_i, fGt_i, fGe_i, fEq_i, fEq_s, fEq_b, fNe_i, fNe_s, fNe_b, fNot_b, fNeg_i, fIx_l, fIx_t, fLen_l, fLen_t, fIsi_int_i, fIsi_bool_i, fIsi_bool_b, setTg, Tg.slots, setMany, fldIx, toOwned, datOf]; done) | (simp (decide := true) [execSs, execS, evalE, evalAs, evalEs, evalP, evalI, slot, insOk, atPl, M.at, M.kids, M.kind, nodupB, Ag.roots, Ag.flat, As.vals, E.pure, Es.pure, As.pure, Path.pure, argMs, Mi.callEnd, backAs, putPl, M.put, M.setKid, M.toD, viewE, D.hard, D.hard.hards, datsOf, onDat, outD, fSub_i, fAddI_i, fAddX_i, fLt_i, fLe_i, fGt_i, fGe_i, fEq_i, fEq_s, fEq_b, fNe_i, fNe_s, fNe_b, fNot_b, fNeg_i, fIx_l, fIx_t, fLen_l, fLen_t, fIsi_int_i, fIsi_bool_i, fIsi_bool_b, setTg, Tg.slots, setMany, fldIx, toOwned, datOf]; rfl))
theorem lists_walk {C : Nat → List M → Mi.CR} {many few : Int} {e8 m7 b1 b2 b3 : D}
    (h1 : C 12 [.dat (.tup [.str "name", .str "l"]), .dat (.int 8)] = .ok (.dat e8) [none, none])
    (h2 : C 13 [.dat (.str "eight"), .dat (.tup [.str "name", .str "l"]), .dat (.int 7)] = .ok (.dat m7) [none, none, none])
    (h3 : C 13 [.dat (.str "eight"), .dat (.tup [.str "name", .str "a"]), .dat (.int many)] = .ok (.dat b1) [none, none, none])
    (h4 : C 12 [.dat (.tup [.str "name", .str "b"]), .dat (.int few)] = .ok (.dat b2) [none, none])
    (h5 : C 13 [.dat (.str "more"), .dat (.tup [.str "nil", .tup [.str "num"]]), .dat (.int 8)] = .ok (.dat b3) [none, none, none]) :
    ∃ μ', execSs sub C fn14.pin bigN fn14.body (startE fn14 [.dat (.int many), .dat (.int few)]) = .ret (.dat (.lst [
      .tup [.str "main", .lst [], .tup [.str "list", .tup [.str "num"]], .tup [.str "let", .str "a", b3, .tup [.str "let", .str "b", b1, b2]]],
      .tup [.str "eight", .lst [.tup [.str "l", .tup [.str "list", .tup [.str "num"]]]], .tup [.str "list", .tup [.str "num"]], e8],
      .tup [.str "more", .lst [.tup [.str "l", .tup [.str "list", .tup [.str "num"]]]], .tup [.str "list", .tup [.str "num"]], m7]])) μ' := by
  refine ⟨[some (.dat (.int many)), some (.dat (.int few)), some (.dat (.tup [.str "list", .tup [.str "num"]])), some (.dat (.tup [.str "name", .str "l"])), some (.dat (.tup [.str "eight", .lst [.tup [.str "l", .tup [.str "list", .tup [.str "num"]]]], .tup [.str "list", .tup [.str "num"]], e8])),
    some (.dat (.tup [.str "more", .lst [.tup [.str "l", .tup [.str "list", .tup [.str "num"]]]], .tup [.str "list", .tup [.str "num"]], m7])), some (.dat (.tup [.str "let", .str "b", b1, b2])), some (.dat (.tup [.str "main", .lst [], .tup [.str "list", .tup [.str "num"]], .tup [.str "let", .str "a", b3, .tup [.str "let", .str "b", b1, b2]]]))], ?_⟩
  unfold fn14
  refine (ex_nx (by first | (simp (decide := true) [execSs, execS, evalE, evalAs, evalEs, evalP, evalI, slot, insOk, atPl, M.at, M.kids, M.kind, nodupB, Ag.roots, Ag.flat, As.vals, E.pure, Es.pure, As.pure, Path.pure, argMs, Mi.callEnd, backAs, putPl, M.put, M.setKid, M.toD, viewE, D.hard, D.hard.hards, datsOf, onDat, outD, fSub_i, fAddI_i, fAddX_i, fLt_i, fLe_i, fGt_i, fGe_i, fEq_i, fEq_s, fEq_b, fNe_i, fNe_s, fNe_b, fNot_b, fNeg_i, fIx_l, fIx_t, fLen_l, fLen_t, fIsi_int_i, fIsi_bool_i, fIsi_bool_b, setTg, Tg.slots, setMany, fldIx, toOwned, datOf, startE, fTup_n]; done) | (simp (decide := true) [execSs, execS, evalE, evalAs, evalEs, evalP, evalI, slot, insOk, atPl, M.at, M.kids, M.kind, nodupB, Ag.roots, Ag.flat, As.vals, E.pure, Es.pure, As.pure, Path.pure, argMs, Mi.callEnd, backAs, putPl, M.put, M.setKid, M.toD, viewE, D.hard, D.hard.hards, datsOf, onDat, outD, fSub_i, fAddI_i, fAddX_i, fLt_i, fLe_i, fGt_i, fGe_i, fEq_i, fEq_s, fEq_b, fNe_i, fNe_s, fNe_b, fNot_b, fNeg_i, fIx_l, fIx_t, fLen_l, fLen_t, fIsi_int_i, fIsi_bool_i, fIsi_bool_b, setTg, Tg.slots, setMany, fldIx, toOwned, datOf, startE, fTup_n]; rfl))).trans ?_
  refine (ex_nx (by first | (simp (decide := true) [execSs, execS, evalE, evalAs, evalEs, evalP, evalI, slot, insOk, atPl, M.at, M.kids, M.kind, nodupB, Ag.roots, Ag.flat, As.vals, E.pure, Es.pure, As.pure, Path.pure, argMs, Mi.callEnd, backAs, putPl, M.put, M.setKid, M.toD, viewE, D.hard, D.hard.hards, datsOf, onDat, outD, fSub_i, fAddI_i, fAddX_i, fLt_i, fLe_i, fGt_i, fGe_i, fEq_i, fEq_s, fEq_b, fNe_i, fNe_s, fNe_b, fNot_b, fNeg_i, fIx_l, fIx_t, fLen_l, fLen_t, fIsi_int_i, fIsi_bool_i, fIsi_bool_b, setTg, Tg.slots, setMany, fldIx, toOwned, datOf, fTup_n]; done) | (simp (decide := true) [execSs, execS, evalE, evalAs, evalEs, evalP, evalI, slot, insOk, atPl, M.at, M.kids, M.kind, nodupB, Ag.roots, Ag.flat, As.vals, E.pure, Es.pure, As.pure, Path.pure, argMs, Mi.callEnd, backAs, putPl, M.put, M.setKid, M.toD, viewE, D.hard, D.hard.hards, datsOf, onDat, outD, fSub_i, fAddI_i, fAddX_i, fLt_i, fLe_i, fGt_i, fGe_i, fEq_i, fEq_s, fEq_b, fNe_i, fNe_s, fNe_b, fNot_b, fNeg_i, fIx_l, fIx_t, fLen_l, fLen_t, fIsi_int_i, fIsi_bool_i, fIsi_bool_b, setTg, Tg.slots, setMany, fldIx, toOwned, datOf, fTup_n]; rfl))).trans ?_
  refine (ex_nx (by first | (simp (decide := true) [execSs, execS, evalE, evalAs, evalEs, evalP, evalI, slot, insOk, atPl, M.at, M.kids, M.kind, nodupB, Ag.roots, Ag.flat, As.vals, E.pure, Es.pure, As.pure, Path.pure, argMs, Mi.callEnd, backAs, putPl, M.put, M.setKid, M.toD, viewE, D.hard, D.hard.hards, datsOf, onDat, outD, fSub_i, fAddI_i, fAddX_i, fLt_i, fLe_i, fGt_i, fGe_i, fEq_i, fEq_s, fEq_b, fNe_i, fNe_s, fNe_b, fNot_b, fNeg_i, fIx_l, fIx_t, fLen_l, fLen_t, fIsi_int_i, fIsi_bool_i, fIsi_bool_b, setTg, Tg.slots, setMany, fldIx, toOwned, datOf, fTup_n, fLst_n, h1]; done) | (simp (decide := true) [execSs, execS, evalE, evalAs, evalEs, evalP, evalI, slot, insOk, atPl, M.at, M.kids, M.kind, nodupB, Ag.roots, Ag.flat, As.vals, E.pure, Es.pure, As.pure, Path.pure, argMs, Mi.callEnd, backAs, putPl, M.put, M.setKid, M.toD, viewE, D.hard, D.hard.hards, datsOf, onDat, outD, fSub_i, fAddI_i, fAddX_i, fLt_i, fLe_i, fGt_i, fGe_i, fEq_i, fEq_s, fEq_b, fNe_i, fNe_s, fNe_b, fNot_b, fNeg_i, fIx_l, fIx_t, fLen_l, fLen_t, fIsi_int_i, fIsi_bool_i, fIsi_bool_b, setTg, Tg.slots, setMany, fldIx, toOwned, datOf, fTup_n, fLst_n, h1]; rfl))).trans ?_
  refine (ex_nx (by first | (simp (decide := true) [execSs, execS, evalE, evalAs, evalEs, evalP, evalI, slot, insOk, atPl, M.at, M.kids, M.kind, nodupB, Ag.roots, Ag.flat, As.vals, E.pure, Es.pure, As.pure, Path.pure, argMs, Mi.callEnd, backAs, putPl, M.put, M.setKid, M.toD, viewE, D.hard, D.hard.hards, datsOf, onDat, outD, fSub_i, fAddI_i, fAddX_i, fLt_i, fLe_i, fGt_i, fGe_i, fEq_i, fEq_s, fEq_b, fNe_i, fNe_s, fNe_b, fNot_b, fNeg_i, fIx_l, fIx_t, fLen_l, fLen_t, fIsi_int_i, fIsi_bool_i, fIsi_bool_b, setTg, Tg.slots, setMany, fldIx, toOwned, datOf, fTup_n, fLst_n, h2]; done) | (simp (decide := true) [execSs, execS, evalE, evalAs, evalEs, evalP, evalI, slot, insOk, atPl, M.at, M.kids, M.kind, nodupB, Ag.roots, Ag.flat, As.vals, E.pure, Es.pure, As.pure, Path.pure, argMs, Mi.callEnd, backAs, putPl, M.put, M.setKid, M.toD, viewE, D.hard, D.hard.hards, datsOf, onDat, outD, fSub_i, fAddI_i, fAddX_i, fLt_i, fLe_i, fGt_i, fGe_i, fEq_i, fEq_s, fEq_b, fNe_i, fNe_s, fNe_b, fNot_b, fNeg_i, fIx_l, fIx_t, fLen_l, fLen_t, fIsi_int_i, fIsi_bool_i, fIsi_bool_b, setTg, Tg.slots, setMany, fldIx, toOwned, datOf, fTup_n, fLst_n, h2]; rfl))).trans ?_
  refine (ex_nx (by first | (simp (decide := true) [execSs, execS, evalE, evalAs, evalEs, evalP, evalI, slot, insOk, atPl, M.at, M.kids, M.kind, nodupB, Ag.roots, Ag.flat, As.vals, E.pure, Es.pure, As.pure, Path.pure, argMs, Mi.callEnd, backAs, putPl, M.put, M.setKid, M.toD, viewE, D.hard, D.hard.hards, datsOf, onDat, outD, fSub_i, fAddI_i, fAddX_i, fLt_i, fLe_i, fGt_i, fGe_i, fEq_i, fEq_s, fEq_b, fNe_i, fNe_s, fNe_b, fNot_b, fNeg_i, fIx_l, fIx_t, fLen_l, fLen_t, fIsi_int_i, fIsi_bool_i, fIsi_bool_b, setTg, Tg.slots, setMany, fldIx, toOwned, datOf, fTup_n, fLst_n, h3, h4]; done) | (simp (decide := true) [execSs, execS, evalE, evalAs, evalEs, evalP, evalI, slot, insOk, atPl, M.at, M.kids, M.kind, nodupB, Ag.roots, Ag.flat, As.vals, E.pure, Es.pure, As.pure, Path.pure, argMs, Mi.callEnd, backAs, putPl, M.put, M.setKid, M.toD, viewE, D.hard, D.hard.hards, datsOf, onDat, outD, fSub_i, fAddI_i, fAddX_i, fLt_i, fLe_i, fGt_i, fGe_i, fEq_i, fEq_s, fEq_b, fNe_i, fNe_s, fNe_b, fNot_b, fNeg_i, fIx_l, fIx_t, fLen_l, fLen_t, fIsi_int_i, fIsi_bool_i, fIsi_bool_b, setTg, Tg.slots, setMany, fldIx, toOwned, datOf, fTup_n, fLst_n, h3, h4]; rfl))).trans ?_
  refine (ex_nx (by first | (simp (decide := true) [execSs, execS, evalE, evalAs, evalEs, evalP, evalI, slot, insOk, atPl, M.at, M.kids, M.kind, nodupB, Ag.roots, Ag.flat, As.vals, E.pure, Es.pure, As.pure, Path.pure, argMs, Mi.callEnd, backAs, putPl, M.put, M.setKid, M.toD, viewE, D.hard, D.hard.hards, datsOf, onDat, outD, fSub_i, fAddI_i, fAddX_i, fLt_i, fLe_i, fGt_i, fGe_i, fEq_i, fEq_s, fEq_b, fNe_i, fNe_s, fNe_b, fNot_b, fNeg_i, fIx_l, fIx_t, fLen_l, fLen_t, fIsi_int_i, fIsi_bool_i, fIsi_bool_b, setTg, Tg.slots, setMany, fldIx, toOwned, datOf, fTup_n, fLst_n, h5]; done) | (simp (decide := true) [execSs, execS, evalE, evalAs, evalEs, evalP, evalI, slot, insOk, atPl, M.at, M.kids, M.kind, nodupB, Ag.roots, Ag.flat, As.vals, E.pure, Es.pure, As.pure, Path.pure, argMs, Mi.callEnd, backAs, putPl, M.put, M.setKid, M.toD, viewE, D.hard, D.hard.hards, datsOf, onDat, outD, fSub_i, fAddI_i, fAddX_i, fLt_i, fLe_i, fGt_i, fGe_i, fEq_i, fEq_s, fEq_b, fNe_i, fNe_s, fNe_b, fNot_b, fNeg_i, fIx_l, fIx_t, fLen_l, fLen_t, fIsi_int_i, fIsi_bool_i, fIsi_bool_b, setTg, Tg.slots, setMany, fldIx, toOwned, datOf, fTup_n, fLst_n, h5]; rfl))).trans ?_
  refine ex_ret (by first | (simp (decide := true) [execSs, execS, evalE, evalAs, evalEs, evalP, evalI, slot, insOk, atPl, M.at, M.kids, M.kind, nodupB, Ag.roots, Ag.flat, As.vals, E.pure, Es.pure, As.pure, Path.pure, argMs, Mi.callEnd, backAs, putPl, M.put, M.setKid, M.toD, viewE, D.hard, D.hard.hards, datsOf, onDat, outD, fSub_i, fAddI_i, fAddX_i, fLt_i, fLe_i, fGt_i, fGe_i, fEq_i, fEq_s, fEq_b, fNe_i, fNe_s, fNe_b, fNot_b, fNeg_i, fIx_l, fIx_t, fLen_l, fLen_t, fIsi_int_i, fIsi_bool_i, fIsi_bool_b, setTg, Tg.slots, setMany, fldIx, toOwned, datOf, fLst_n]; done) | (simp (decide := true) [execSs, execS, evalE, evalAs, evalEs, evalP, evalI, slot, insOk, atPl, M.at, M.kids, M.kind, nodupB, Ag.roots, Ag.flat, As.vals, E.pure, Es.pure, As.pure, Path.pure, argMs, Mi.callEnd, backAs, putPl, M.put, M.setKid, M.toD, viewE, D.hard, D.hard.hards, datsOf, onDat, outD, fSub_i, fAddI_i, fAddX_i, fLt_i, fLe_i, fGt_i, fGe_i, fEq_i, fEq_s, fEq_b, fNe_i, fNe_s, fNe_b, fNot_b, fNeg_i, fIx_l, fIx_t, fLen_l, fLen_t, fIsi_int_i, fIsi_bool_i, fIsi_bool_b, setTg, Tg.slots, setMany, fldIx, toOwned, datOf, fLst_n]; rfl))
def PD (fs : List Fn1) : D := .lst (fs.map fun f => f.z.d)
theorem lists_ok (k : Nat) {many few : Nat} (hm : many ≤ 900) (hf : few ≤ 900) : callF sub tab bigN (k + 2) 14 [.dat (.int (many : Nat)), .dat (.int (few : Nat))] = .ok (.dat (PD (progL many few))) [none, none] := by
  obtain ⟨μ', e⟩ := lists_walk (put_ok k (.name "l") 8 (by omega)) (nest_ok k "eight" (.name "l") 7 (by omega)) (nest_ok k "eight" (.name "a") many hm) (put_ok k (.name "b") few hf) (nest_ok k "more" (.nil kNum) 8 (by omega))
  exact call_ret (fn := fn14) rfl rfl e
end K16
namespace K16
open PySem L2 Mi
section
variable {C : Nat → List M → Mi.CR} {x0 x1 x2 x3 x5 x6 : Option M}
theorem pl_turn {r : D} {x5 : Option M} : execSs sub C [] bigN w15_0b [x0, x1, x2, x3, some (.dat r), x5, x6] = .nx [x0, x1, x2, x3, some (.dat (.tup [.str "plus", .tup [.str "none", .tup [.str "call", .str "down", .tup [.str "name", .str "n"]]], r])), x5, x6] := by
  unfold w15_0b
  refine ex_last ?_
  simp (decide := true) [execSs, execS, evalE, evalAs, evalEs, evalP, evalI, slot, insOk, atPl, M.at, M.kids, M.kind, nodupB, Ag.roots, Ag.flat, As.vals, E.pure, Es.pure, As.pure, Path.pure, argMs, Mi.callEnd, backAs, putPl, M.put, M.setKid, M.toD, viewE, D.hard, D.hard.hards, datsOf, onDat, outD, fSub_i, fAddI_i, fAddX_i, fLt_i, fLe_i, fGt_i, fGe_i, fEq_i, fEq_s, fEq_b, fNe_i, fNe_s, fNe_b, fNot_b, fNeg_i, fIx_l, fIx_t, fLen_l, fLen_t, fIsi_int_i, fIsi_bool_i, fIsi_bool_b, setTg, Tg.slots, setMany, fldIx, toOwned, datOf, fTup_n]
theorem pm_turn {r : D} {x5 : Option M} : execSs sub C [] bigN w15_1b [x0, x1, x2, x3, some (.dat r), x5, x6] = .nx [x0, x1, x2, x3, some (.dat (.tup [.str "plus", .tup [.str "call", .str "block", .tup [.str "name", .str "u"]], r])), x5, x6] := by
  unfold w15_1b
  refine ex_last ?_
  simp (decide := true) [execSs, execS, evalE, evalAs, evalEs, evalP, evalI, slot, insOk, atPl, M.at, M.kids, M.kind, nodupB, Ag.roots, Ag.flat, As.vals, E.pure, Es.pure, As.pure, Path.pure, argMs, Mi.callEnd, backAs, putPl, M.put, M.setKid, M.toD, viewE, D.hard, D.hard.hards, datsOf, onDat, outD, fSub_i, fAddI_i, fAddX_i, fLt_i, fLe_i, fGt_i, fGe_i, fEq_i, fEq_s, fEq_b, fNe_i, fNe_s, fNe_b, fNot_b, fNeg_i, fIx_l, fIx_t, fLen_l, fLen_t, fIsi_int_i, fIsi_bool_i, fIsi_bool_b, setTg, Tg.slots, setMany, fldIx, toOwned, datOf, fTup_n]
theorem pl_loop (m : Nat) : ∃ x5', forLoop (.one 5) (execSs sub C [] bigN w15_0b) ((List.range m).map fun i => .int (0 + (i : Nat))) [x0, x1, x2, x3, some (.dat (plN 0).d), x5, x6] = .nx [x0, x1, x2, x3, some (.dat (plN m).d), x5', x6] := by
  have lp := forLoop_inv (t := .one 5) (b := execSs sub C [] bigN w15_0b) (fun i μ => ∃ x5', μ = [x0, x1, x2, x3, some (.dat (plN i).d), x5', x6])
    (ds := (List.range m).map fun i => .int (0 + (i : Nat))) (i := 0) (μ := [x0, x1, x2, x3, some (.dat (plN 0).d), x5, x6]) ⟨x5, rfl⟩ (by
      rintro j d μ hd ⟨x5', rfl⟩
      refine ⟨_, _, rfl, .inl (pl_turn (x5 := some (.dat d)) (r := (plN (0 + j)).d)), some (.dat d), rfl⟩)
  obtain ⟨μ', lp, x5', rfl⟩ := lp
  refine ⟨x5', ?_⟩
  rw [show 0 + ((List.range m).map fun i => D.int (0 + (i : Nat))).length = m by simp] at lp
  exact lp
theorem pm_loop (m : Nat) : ∃ x5', forLoop (.one 5) (execSs sub C [] bigN w15_1b) ((List.range m).map fun i => .int (0 + (i : Nat))) [x0, x1, x2, x3, some (.dat (pmN 0).d), x5, x6] = .nx [x0, x1, x2, x3, some (.dat (pmN m).d), x5', x6] := by
  have lp := forLoop_inv (t := .one 5) (b := execSs sub C [] bigN w15_1b) (fun i μ => ∃ x5', μ = [x0, x1, x2, x3, some (.dat (pmN i).d), x5', x6])
    (ds := (List.range m).map fun i => .int (0 + (i : Nat))) (i := 0) (μ := [x0, x1, x2, x3, some (.dat (pmN 0).d), x5, x6]) ⟨x5, rfl⟩ (by
      rintro j d μ hd ⟨x5', rfl⟩
      refine ⟨_, _, rfl, .inl (pm_turn (x5 := some (.dat d)) (r := (pmN (0 + j)).d)), some (.dat d), rfl⟩)
  obtain ⟨μ', lp, x5', rfl⟩ := lp
  refine ⟨x5', ?_⟩
  rw [show 0 + ((List.range m).map fun i => D.int (0 + (i : Nat))).length = m by simp] at lp
  exact lp
theorem counts_walk {j : Nat} (hj : j ≤ 900) : ∃ μ', execSs sub C fn15.pin bigN fn15.body (startE fn15 [.dat (.int ((j : Int) + 1))]) = .ret (.dat (PD (progC j))) μ' := by
  obtain ⟨y5, l1⟩ := pl_loop (C := C) (x0 := some (.dat (.int ((j : Int) + 1)))) (x1 := some (.dat pAgain.d)) (x2 := some (.dat fDown.body.d)) (x3 := some (.dat fDown.z.d)) (x5 := none) (x6 := none) 6
  obtain ⟨z5, l2⟩ := pm_loop (C := C) (x0 := some (.dat (.int ((j : Int) + 1)))) (x1 := some (.dat pAgain.d)) (x2 := some (.dat fDown.body.d)) (x3 := some (.dat fDown.z.d)) (x5 := y5) (x6 := some (.dat fBlock.z.d)) j
  have r1 := fRange1_len 6 (by omega)
  have r2 := fRange1_len j (by omega)
  refine ⟨[some (.dat (.int ((j : Int) + 1))), some (.dat pAgain.d), some (.dat fDown.body.d), some (.dat fDown.z.d), some (.dat (pmN j).d), z5, some (.dat fBlock.z.d)], ?_⟩
  have s1 : execSs sub C fn15.pin bigN fn15.body (startE fn15 [.dat (.int ((j : Int) + 1))]) = execSs sub C fn15.pin bigN (tl (tl (tl (tl fn15.body)))) [some (.dat (.int ((j : Int) + 1))), some (.dat pAgain.d), some (.dat fDown.body.d), some (.dat fDown.z.d), some (.dat (plN 0).d), none, none] := by
    unfold fn15
    refine (ex_nx (by first | (simp (decide := true) [execSs, execS, evalE, evalAs, evalEs, evalP, evalI, slot, insOk, atPl, M.at, M.kids, M.kind, nodupB, Ag.roots, Ag.flat, As.vals, E.pure, Es.pure, As.pure, Path.pure, argMs, Mi.callEnd, backAs, putPl, M.put, M.setKid, M.toD, viewE, D.hard, D.hard.hards, datsOf, onDat, outD, fSub_i, fAddI_i, fAddX_i, fLt_i, fLe_i, fGt_i, fGe_i, fEq_i, fEq_s, fEq_b, fNe_i, fNe_s, fNe_b, fNot_b, fNeg_i, fIx_l, fIx_t, fLen_l, fLen_t, fIsi_int_i, fIsi_bool_i, fIsi_bool_b, setTg, Tg.slots, setMany, fldIx, toOwned, datOf, startE, fTup_n]; done) | (simp (decide := true) [execSs, execS, evalE, evalAs, evalEs, evalP, evalI, slot, insOk, atPl, M.at, M.kids, M.kind, nodupB, Ag.roots, Ag.flat, As.vals, E.pure, Es.pure, As.pure, Path.pure, argMs, Mi.callEnd, backAs, putPl, M.put, M.setKid, M.toD, viewE, D.hard, D.hard.hards, datsOf, onDat, outD, fSub_i, fAddI_i, fAddX_i, fLt_i, fLe_i, fGt_i, fGe_i, fEq_i, fEq_s, fEq_b, fNe_i, fNe_s, fNe_b, fNot_b, fNeg_i, fIx_l, fIx_t, fLen_l, fLen_t, fIsi_int_i, fIsi_bool_i, fIsi_bool_b, setTg, Tg.slots, setMany, fldIx, toOwned, datOf, startE, fTup_n]; rfl))).trans ?_
    refine (ex_nx (by first | (simp (decide := true) [execSs, execS, evalE, evalAs, evalEs, evalP, evalI, slot, insOk, atPl, M.at, M.kids, M.kind, nodupB, Ag.roots, Ag.flat, As.vals, E.pure, Es.pure, As.pure, Path.pure, argMs, Mi.callEnd, backAs, putPl, M.put, M.setKid, M.toD, viewE, D.hard, D.hard.hards, datsOf, onDat, outD, fSub_i, fAddI_i, fAddX_i, fLt_i, fLe_i, fGt_i, fGe_i, fEq_i, fEq_s, fEq_b, fNe_i, fNe_s, fNe_b, fNot_b, fNeg_i, fIx_l, fIx_t, fLen_l, fLen_t, fIsi_int_i, fIsi_bool_i, fIsi_bool_b, setTg, Tg.slots, setMany, fldIx, toOwned, datOf, fTup_n]; done) | (simp (decide := true) [execSs, execS, evalE, evalAs, evalEs, evalP, evalI, slot, insOk, atPl, M.at, M.kids, M.kind, nodupB, Ag.roots, Ag.flat, As.vals, E.pure, Es.pure, As.pure, Path.pure, argMs, Mi.callEnd, backAs, putPl, M.put, M.setKid, M.toD, viewE, D.hard, D.hard.hards, datsOf, onDat, outD, fSub_i, fAddI_i, fAddX_i, fLt_i, fLe_i, fGt_i, fGe_i, fEq_i, fEq_s, fEq_b, fNe_i, fNe_s, fNe_b, fNot_b, fNeg_i, fIx_l, fIx_t, fLen_l, fLen_t, fIsi_int_i, fIsi_bool_i, fIsi_bool_b, setTg, Tg.slots, setMany, fldIx, toOwned, datOf, fTup_n]; rfl))).trans ?_
    refine (ex_nx (by first | (simp (decide := true) [execSs, execS, evalE, evalAs, evalEs, evalP, evalI, slot, insOk, atPl, M.at, M.kids, M.kind, nodupB, Ag.roots, Ag.flat, As.vals, E.pure, Es.pure, As.pure, Path.pure, argMs, Mi.callEnd, backAs, putPl, M.put, M.setKid, M.toD, viewE, D.hard, D.hard.hards, datsOf, onDat, outD, fSub_i, fAddI_i, fAddX_i, fLt_i, fLe_i, fGt_i, fGe_i, fEq_i, fEq_s, fEq_b, fNe_i, fNe_s, fNe_b, fNot_b, fNeg_i, fIx_l, fIx_t, fLen_l, fLen_t, fIsi_int_i, fIsi_bool_i, fIsi_bool_b, setTg, Tg.slots, setMany, fldIx, toOwned, datOf, fTup_n, fLst_n]; done) | (simp (decide := true) [execSs, execS, evalE, evalAs, evalEs, evalP, evalI, slot, insOk, atPl, M.at, M.kids, M.kind, nodupB, Ag.roots, Ag.flat, As.vals, E.pure, Es.pure, As.pure, Path.pure, argMs, Mi.callEnd, backAs, putPl, M.put, M.setKid, M.toD, viewE, D.hard, D.hard.hards, datsOf, onDat, outD, fSub_i, fAddI_i, fAddX_i, fLt_i, fLe_i, fGt_i, fGe_i, fEq_i, fEq_s, fEq_b, fNe_i, fNe_s, fNe_b, fNot_b, fNeg_i, fIx_l, fIx_t, fLen_l, fLen_t, fIsi_int_i, fIsi_bool_i, fIsi_bool_b, setTg, Tg.slots, setMany, fldIx, toOwned, datOf, fTup_n, fLst_n]; rfl))).trans ?_
    refine (ex_nx (by first | (simp (decide := true) [execSs, execS, evalE, evalAs, evalEs, evalP, evalI, slot, insOk, atPl, M.at, M.kids, M.kind, nodupB, Ag.roots, Ag.flat, As.vals, E.pure, Es.pure, As.pure, Path.pure, argMs, Mi.callEnd, backAs, putPl, M.put, M.setKid, M.toD, viewE, D.hard, D.hard.hards, datsOf, onDat, outD, fSub_i, fAddI_i, fAddX_i, fLt_i, fLe_i, fGt_i, fGe_i, fEq_i, fEq_s, fEq_b, fNe_i, fNe_s, fNe_b, fNot_b, fNeg_i, fIx_l, fIx_t, fLen_l, fLen_t, fIsi_int_i, fIsi_bool_i, fIsi_bool_b, setTg, Tg.slots, setMany, fldIx, toOwned, datOf, fTup_n]; done) | (simp (decide := true) [execSs, execS, evalE, evalAs, evalEs, evalP, evalI, slot, insOk, atPl, M.at, M.kids, M.kind, nodupB, Ag.roots, Ag.flat, As.vals, E.pure, Es.pure, As.pure, Path.pure, argMs, Mi.callEnd, backAs, putPl, M.put, M.setKid, M.toD, viewE, D.hard, D.hard.hards, datsOf, onDat, outD, fSub_i, fAddI_i, fAddX_i, fLt_i, fLe_i, fGt_i, fGe_i, fEq_i, fEq_s, fEq_b, fNe_i, fNe_s, fNe_b, fNot_b, fNeg_i, fIx_l, fIx_t, fLen_l, fLen_t, fIsi_int_i, fIsi_bool_i, fIsi_bool_b, setTg, Tg.slots, setMany, fldIx, toOwned, datOf, fTup_n]; rfl))).trans ?_
    rfl
  have s2 : execSs sub C fn15.pin bigN (tl (tl (tl (tl fn15.body)))) [some (.dat (.int ((j : Int) + 1))), some (.dat pAgain.d), some (.dat fDown.body.d), some (.dat fDown.z.d), some (.dat (plN 0).d), none, none] =
      execSs sub C fn15.pin bigN (tl (tl (tl (tl (tl fn15.body))))) [some (.dat (.int ((j : Int) + 1))), some (.dat pAgain.d), some (.dat fDown.body.d), some (.dat fDown.z.d), some (.dat (plN 6).d), y5, none] := by
    unfold fn15
    exact ex_nx (ex_for (ms := [.dat (.int (6 : Nat))]) (ds := [.int (6 : Nat)]) (xs := (List.range 6).map fun i => .int (0 + (i : Nat))) rfl rfl rfl r1 l1)
  have s3 : execSs sub C fn15.pin bigN (tl (tl (tl (tl (tl fn15.body))))) [some (.dat (.int ((j : Int) + 1))), some (.dat pAgain.d), some (.dat fDown.body.d), some (.dat fDown.z.d), some (.dat (plN 6).d), y5, none] =
      execSs sub C fn15.pin bigN (tl (tl (tl (tl (tl (tl (tl fn15.body))))))) [some (.dat (.int ((j : Int) + 1))), some (.dat pAgain.d), some (.dat fDown.body.d), some (.dat fDown.z.d), some (.dat (pmN 0).d), y5, some (.dat fBlock.z.d)] := by
    have e6 : fBlock.z.d = .tup [.str "block", .lst [.tup [.str "n", .tup [.str "num"]]], .tup [.str "num"], (plN 6).d] := rfl
    rw [e6]
    generalize (plN 6).d = P6
    generalize pAgain.d = pA
    generalize fDown.body.d = fb
    generalize fDown.z.d = fz
    unfold fn15
    simp only [tl]
    refine (ex_nx (by first | (simp (decide := true) [execSs, execS, evalE, evalAs, evalEs, evalP, evalI, slot, insOk, atPl, M.at, M.kids, M.kind, nodupB, Ag.roots, Ag.flat, As.vals, E.pure, Es.pure, As.pure, Path.pure, argMs, Mi.callEnd, backAs, putPl, M.put, M.setKid, M.toD, viewE, D.hard, D.hard.hards, datsOf, onDat, outD, fSub_i, fAddI_i, fAddX_i, fLt_i, fLe_i, fGt_i, fGe_i, fEq_i, fEq_s, fEq_b, fNe_i, fNe_s, fNe_b, fNot_b, fNeg_i, fIx_l, fIx_t, fLen_l, fLen_t, fIsi_int_i, fIsi_bool_i, fIsi_bool_b, setTg, Tg.slots, setMany, fldIx, toOwned, datOf, fTup_n, fLst_n]; done) | (simp (decide := true) [execSs, execS, evalE, evalAs, evalEs, evalP, evalI, slot, insOk, atPl, M.at, M.kids, M.kind, nodupB, Ag.roots, Ag.flat, As.vals, E.pure, Es.pure, As.pure, Path.pure, argMs, Mi.callEnd, backAs, putPl, M.put, M.setKid, M.toD, viewE, D.hard, D.hard.hards, datsOf, onDat, outD, fSub_i, fAddI_i, fAddX_i, fLt_i, fLe_i, fGt_i, fGe_i, fEq_i, fEq_s, fEq_b, fNe_i, fNe_s, fNe_b, fNot_b, fNeg_i, fIx_l, fIx_t, fLen_l, fLen_t, fIsi_int_i, fIsi_bool_i, fIsi_bool_b, setTg, Tg.slots, setMany, fldIx, toOwned, datOf, fTup_n, fLst_n]; rfl))).trans ?_
    refine (ex_nx (by first | (simp (decide := true) [execSs, execS, evalE, evalAs, evalEs, evalP, evalI, slot, insOk, atPl, M.at, M.kids, M.kind, nodupB, Ag.roots, Ag.flat, As.vals, E.pure, Es.pure, As.pure, Path.pure, argMs, Mi.callEnd, backAs, putPl, M.put, M.setKid, M.toD, viewE, D.hard, D.hard.hards, datsOf, onDat, outD, fSub_i, fAddI_i, fAddX_i, fLt_i, fLe_i, fGt_i, fGe_i, fEq_i, fEq_s, fEq_b, fNe_i, fNe_s, fNe_b, fNot_b, fNeg_i, fIx_l, fIx_t, fLen_l, fLen_t, fIsi_int_i, fIsi_bool_i, fIsi_bool_b, setTg, Tg.slots, setMany, fldIx, toOwned, datOf, fTup_n]; done) | (simp (decide := true) [execSs, execS, evalE, evalAs, evalEs, evalP, evalI, slot, insOk, atPl, M.at, M.kids, M.kind, nodupB, Ag.roots, Ag.flat, As.vals, E.pure, Es.pure, As.pure, Path.pure, argMs, Mi.callEnd, backAs, putPl, M.put, M.setKid, M.toD, viewE, D.hard, D.hard.hards, datsOf, onDat, outD, fSub_i, fAddI_i, fAddX_i, fLt_i, fLe_i, fGt_i, fGe_i, fEq_i, fEq_s, fEq_b, fNe_i, fNe_s, fNe_b, fNot_b, fNeg_i, fIx_l, fIx_t, fLen_l, fLen_t, fIsi_int_i, fIsi_bool_i, fIsi_bool_b, setTg, Tg.slots, setMany, fldIx, toOwned, datOf, fTup_n]; rfl))).trans ?_
    rfl
  have s4 : execSs sub C fn15.pin bigN (tl (tl (tl (tl (tl (tl (tl fn15.body))))))) [some (.dat (.int ((j : Int) + 1))), some (.dat pAgain.d), some (.dat fDown.body.d), some (.dat fDown.z.d), some (.dat (pmN 0).d), y5, some (.dat fBlock.z.d)] =
      execSs sub C fn15.pin bigN (tl (tl (tl (tl (tl (tl (tl (tl fn15.body)))))))) [some (.dat (.int ((j : Int) + 1))), some (.dat pAgain.d), some (.dat fDown.body.d), some (.dat fDown.z.d), some (.dat (pmN j).d), z5, some (.dat fBlock.z.d)] := by
    unfold fn15
    refine ex_nx (ex_for (ms := [.dat (.int (j : Nat))]) (ds := [.int (j : Nat)]) (xs := (List.range j).map fun i => .int (0 + (i : Nat))) rfl ?_ rfl r2 l2)
    generalize (pmN 0).d = P0
    generalize pAgain.d = pA
    generalize fDown.body.d = fb
    generalize fDown.z.d = fz
    generalize fBlock.z.d = bz
    simp (decide := true) [execSs, execS, evalE, evalAs, evalEs, evalP, evalI, slot, insOk, atPl, M.at, M.kids, M.kind, nodupB, Ag.roots, Ag.flat, As.vals, E.pure, Es.pure, As.pure, Path.pure, argMs, Mi.callEnd, backAs, putPl, M.put, M.setKid, M.toD, viewE, D.hard, D.hard.hards, datsOf, onDat, outD, fSub_i, fAddI_i, fAddX_i, fLt_i, fLe_i, fGt_i, fGe_i, fEq_i, fEq_s, fEq_b, fNe_i, fNe_s, fNe_b, fNot_b, fNeg_i, fIx_l, fIx_t, fLen_l, fLen_t, fIsi_int_i, fIsi_bool_i, fIsi_bool_b, setTg, Tg.slots, setMany, fldIx, toOwned, datOf, Int.add_sub_cancel]
  rw [s1, s2, s3, s4]
  have eP : PD (progC j) = .lst [fDown.z.d, fBlock.z.d, .tup [.str "main", .lst [.tup [.str "u", .tup [.str "num"]]], .tup [.str "num"], (pmN j).d]] := rfl
  rw [eP]
  generalize (pmN j).d = Pj
  generalize pAgain.d = pA
  generalize fDown.body.d = fb
  generalize fDown.z.d = fz
  generalize fBlock.z.d = bz
  unfold fn15
  simp only [tl]
  refine ex_ret (by first | (simp (decide := true) [execSs, execS, evalE, evalAs, evalEs, evalP, evalI, slot, insOk, atPl, M.at, M.kids, M.kind, nodupB, Ag.roots, Ag.flat, As.vals, E.pure, Es.pure, As.pure, Path.pure, argMs, Mi.callEnd, backAs, putPl, M.put, M.setKid, M.toD, viewE, D.hard, D.hard.hards, datsOf, onDat, outD, fSub_i, fAddI_i, fAddX_i, fLt_i, fLe_i, fGt_i, fGe_i, fEq_i, fEq_s, fEq_b, fNe_i, fNe_s, fNe_b, fNot_b, fNeg_i, fIx_l, fIx_t, fLen_l, fLen_t, fIsi_int_i, fIsi_bool_i, fIsi_bool_b, setTg, Tg.slots, setMany, fldIx, toOwned, datOf, fTup_n, fLst_n]; done) | (simp (decide := true) [execSs, execS, evalE, evalAs, evalEs, evalP, evalI, slot, insOk, atPl, M.at, M.kids, M.kind, nodupB, Ag.roots, Ag.flat, As.vals, E.pure, Es.pure, As.pure, Path.pure, argMs, Mi.callEnd, backAs, putPl, M.put, M.setKid, M.toD, viewE, D.hard, D.hard.hards, datsOf, onDat, outD, fSub_i, fAddI_i, fAddX_i, fLt_i, fLe_i, fGt_i, fGe_i, fEq_i, fEq_s, fEq_b, fNe_i, fNe_s, fNe_b, fNot_b, fNeg_i, fIx_l, fIx_t, fLen_l, fLen_t, fIsi_int_i, fIsi_bool_i, fIsi_bool_b, setTg, Tg.slots, setMany, fldIx, toOwned, datOf, fTup_n, fLst_n]; rfl))
end
theorem counts_ok (k : Nat) {j : Nat} (hj : j ≤ 900) : callF sub tab bigN (k + 1) 15 [.dat (.int ((j : Int) + 1))] = .ok (.dat (PD (progC j))) [none] := by
  obtain ⟨μ', e⟩ := counts_walk (C := callF sub tab bigN k) hj
  exact call_ret (fn := fn15) rfl rfl e
end K16
namespace K16
open PySem L2 Mi
/-! ### what is due: the list -/
def dueM (w : Str) : M := .dat (.tup [.str w, .non])
def gPut (m : Nat) (i : Nat) (a : List Int) : Except M (List Int) := if 499 < 1 + a.length then .error (dueM "great") else .ok (((m : Int) - i) :: a)
theorem gPut_run {m : Nat} {xs : List Int} : ∀ (n i : Nat), i + xs.length ≤ 499 → foldX (gPut m) i n (ascN m i ++ xs) = if 499 < n + i + xs.length then .error (dueM "great") else .ok (ascN m (i + n) ++ xs)
  | 0, i, h => by
    rw [if_neg (by omega)]
    rfl
  | n + 1, i, h => by
    rw [foldX.eq_2]
    have e0 : gPut m i (ascN m i ++ xs) = if 499 < 1 + (ascN m i ++ xs).length then .error (dueM "great") else .ok (((m : Int) - i) :: (ascN m i ++ xs)) := rfl
    rw [e0]
    rw [List.length_append, ascN_len]
    by_cases h1 : 499 < 1 + (i + xs.length)
    · rw [if_pos h1, if_pos (by omega)]
    · rw [if_neg h1]
      have ih := gPut_run (m := m) (xs := xs) n (i + 1) (by omega)
      show foldX (gPut m) (i + 1) n (ascN m (i + 1) ++ xs) = _
      rw [ih]
      by_cases h2 : 499 < n + 1 + i + xs.length
      · rw [if_pos h2, if_pos (by omega)]
      · rw [if_neg h2, if_neg (by omega), show i + 1 + n = i + (n + 1) by omega]
section
variable {C : Nat → List M → Mi.CR} {x0 x1 x2 x3 x5 x6 : Option M}
def rowM (xs : List Int) : M := .lst (dm (xs.reverse.map .int))
theorem put_turn {wb : Ss} (hw : wb = w16_0b) {xs : List Int} {z : Int} (hl : xs.length ≤ 900) : 
    (499 < 1 + xs.length → ∃ μ2, execSs sub C [] bigN wb [x0, x1, x2, x3, some (rowM xs), x5, some (.dat (.int z))] = .ret (dueM "great") μ2) ∧
    (¬ 499 < 1 + xs.length → execSs sub C [] bigN wb [x0, x1, x2, x3, some (rowM xs), x5, some (.dat (.int z))] = .nx [x0, x1, x2, x3, some (rowM (z :: xs)), x5, some (.dat (.int z))]) := by
  subst hw
  have p := fAppend_d (rs := xs.reverse.map .int) (d := .int z) (by simp; omega)
  have er : rowM (z :: xs) = .lst (dm (xs.reverse.map .int ++ [.int z])) := by
    unfold rowM
    rw [List.reverse_cons, List.map_append]
    rfl
  have ln : ((M.toDs (dm (xs.reverse.map .int ++ [.int z]))).length : Int) = 1 + (xs.length : Int) := by
    rw [toDs_map]
    simp
    omega
  have mm : fMul (.int 2) (.int (1 + (xs.length : Int))) = some (.int (2 * (1 + (xs.length : Int)))) := fMul_l (by decide) (by decide)
  rw [er]
  unfold rowM dueM
  generalize xs.reverse.map D.int ++ [.int z] = R1 at *
  generalize xs.reverse.map D.int = R0 at *
  constructor
  · intro h
    have h' : (1000 : Int) < 1 + 2 * (1 + (xs.length : Int)) := by omega
    refine ⟨[x0, x1, x2, x3, some (.lst (dm R1)), x5, some (.dat (.int z))], ?_⟩
    unfold w16_0b
    refine (ex_nx (by first | (simp (decide := true) [execSs, execS, evalE, evalAs, evalEs, evalP, evalI, slot, insOk, atPl, M.at, M.kids, M.kind, nodupB, Ag.roots, Ag.flat, As.vals, E.pure, Es.pure, As.pure, Path.pure, argMs, Mi.callEnd, backAs, putPl, M.put, M.setKid, M.toD, viewE, D.hard, D.hard.hards, datsOf, onDat, outD, fSub_i, fAddI_i, fAddX_i, fLt_i, fLe_i, fGt_i, fGe_i, fEq_i, fEq_s, fEq_b, fNe_i, fNe_s, fNe_b, fNot_b, fNeg_i, fIx_l, fIx_t, fLen_l, fLen_t, fIsi_int_i, fIsi_bool_i, fIsi_bool_b, setTg, Tg.slots, setMany, fldIx, toOwned, datOf, p]; done) | (simp (decide := true) [execSs, execS, evalE, evalAs, evalEs, evalP, evalI, slot, insOk, atPl, M.at, M.kids, M.kind, nodupB, Ag.roots, Ag.flat, As.vals, E.pure, Es.pure, As.pure, Path.pure, argMs, Mi.callEnd, backAs, putPl, M.put, M.setKid, M.toD, viewE, D.hard, D.hard.hards, datsOf, onDat, outD, fSub_i, fAddI_i, fAddX_i, fLt_i, fLe_i, fGt_i, fGe_i, fEq_i, fEq_s, fEq_b, fNe_i, fNe_s, fNe_b, fNot_b, fNeg_i, fIx_l, fIx_t, fLen_l, fLen_t, fIsi_int_i, fIsi_bool_i, fIsi_bool_b, setTg, Tg.slots, setMany, fldIx, toOwned, datOf, p]; rfl))).trans ?_
    refine ex_ret ?_
    simp (decide := true) [execSs, execS, evalE, evalAs, evalEs, evalP, evalI, slot, insOk, atPl, M.at, M.kids, M.kind, nodupB, Ag.roots, Ag.flat, As.vals, E.pure, Es.pure, As.pure, Path.pure, argMs, Mi.callEnd, backAs, putPl, M.put, M.setKid, M.toD, viewE, D.hard, D.hard.hards, datsOf, onDat, outD, fSub_i, fAddI_i, fAddX_i, fLt_i, fLe_i, fGt_i, fGe_i, fEq_i, fEq_s, fEq_b, fNe_i, fNe_s, fNe_b, fNot_b, fNeg_i, fIx_l, fIx_t, fLen_l, fLen_t, fIsi_int_i, fIsi_bool_i, fIsi_bool_b, setTg, Tg.slots, setMany, fldIx, toOwned, datOf, ln, mm, h', flat_b, fTup_n]
  · intro h
    have h' : ¬ (1000 : Int) < 1 + 2 * (1 + (xs.length : Int)) := by omega
    unfold w16_0b
    refine (ex_nx (by first | (simp (decide := true) [execSs, execS, evalE, evalAs, evalEs, evalP, evalI, slot, insOk, atPl, M.at, M.kids, M.kind, nodupB, Ag.roots, Ag.flat, As.vals, E.pure, Es.pure, As.pure, Path.pure, argMs, Mi.callEnd, backAs, putPl, M.put, M.setKid, M.toD, viewE, D.hard, D.hard.hards, datsOf, onDat, outD, fSub_i, fAddI_i, fAddX_i, fLt_i, fLe_i, fGt_i, fGe_i, fEq_i, fEq_s, fEq_b, fNe_i, fNe_s, fNe_b, fNot_b, fNeg_i, fIx_l, fIx_t, fLen_l, fLen_t, fIsi_int_i, fIsi_bool_i, fIsi_bool_b, setTg, Tg.slots, setMany, fldIx, toOwned, datOf, p]; done) | (simp (decide := true) [execSs, execS, evalE, evalAs, evalEs, evalP, evalI, slot, insOk, atPl, M.at, M.kids, M.kind, nodupB, Ag.roots, Ag.flat, As.vals, E.pure, Es.pure, As.pure, Path.pure, argMs, Mi.callEnd, backAs, putPl, M.put, M.setKid, M.toD, viewE, D.hard, D.hard.hards, datsOf, onDat, outD, fSub_i, fAddI_i, fAddX_i, fLt_i, fLe_i, fGt_i, fGe_i, fEq_i, fEq_s, fEq_b, fNe_i, fNe_s, fNe_b, fNot_b, fNeg_i, fIx_l, fIx_t, fLen_l, fLen_t, fIsi_int_i, fIsi_bool_i, fIsi_bool_b, setTg, Tg.slots, setMany, fldIx, toOwned, datOf, p]; rfl))).trans ?_
    refine (ex_nx (by first | (simp (decide := true) [execSs, execS, evalE, evalAs, evalEs, evalP, evalI, slot, insOk, atPl, M.at, M.kids, M.kind, nodupB, Ag.roots, Ag.flat, As.vals, E.pure, Es.pure, As.pure, Path.pure, argMs, Mi.callEnd, backAs, putPl, M.put, M.setKid, M.toD, viewE, D.hard, D.hard.hards, datsOf, onDat, outD, fSub_i, fAddI_i, fAddX_i, fLt_i, fLe_i, fGt_i, fGe_i, fEq_i, fEq_s, fEq_b, fNe_i, fNe_s, fNe_b, fNot_b, fNeg_i, fIx_l, fIx_t, fLen_l, fLen_t, fIsi_int_i, fIsi_bool_i, fIsi_bool_b, setTg, Tg.slots, setMany, fldIx, toOwned, datOf, ln, mm, h', flat_b, fTup_n]; done) | (simp (decide := true) [execSs, execS, evalE, evalAs, evalEs, evalP, evalI, slot, insOk, atPl, M.at, M.kids, M.kind, nodupB, Ag.roots, Ag.flat, As.vals, E.pure, Es.pure, As.pure, Path.pure, argMs, Mi.callEnd, backAs, putPl, M.put, M.setKid, M.toD, viewE, D.hard, D.hard.hards, datsOf, onDat, outD, fSub_i, fAddI_i, fAddX_i, fLt_i, fLe_i, fGt_i, fGe_i, fEq_i, fEq_s, fEq_b, fNe_i, fNe_s, fNe_b, fNot_b, fNeg_i, fIx_l, fIx_t, fLen_l, fLen_t, fIsi_int_i, fIsi_bool_i, fIsi_bool_b, setTg, Tg.slots, setMany, fldIx, toOwned, datOf, ln, mm, h', flat_b, fTup_n]; rfl))).trans ?_
    rfl
theorem put_loop {wb : Ss} (hw : wb = w16_0b) {xs : List Int} (hl : xs.length ≤ 499) {m : Nat} (hm : m ≤ 300) :
    (499 < m + xs.length → ∃ μ2, forLoop (.one 6) (execSs sub C [] bigN wb) ((List.range m).map fun k => .int ((m : Int) + (k : Nat) * -1)) [x0, x1, x2, x3, some (rowM xs), x5, x6] = .ret (dueM "great") μ2) ∧
    (¬ 499 < m + xs.length → ∃ x6', forLoop (.one 6) (execSs sub C [] bigN wb) ((List.range m).map fun k => .int ((m : Int) + (k : Nat) * -1)) [x0, x1, x2, x3, some (rowM xs), x5, x6] = .nx [x0, x1, x2, x3, some (rowM (ascN m m ++ xs)), x5, x6']) := by
  have lp := forLoop_ex (t := .one 6) (b := execSs sub C [] bigN wb) (g := gPut m) (S := fun a μ => a.length ≤ 900 ∧ ∃ x6', μ = [x0, x1, x2, x3, some (rowM a), x5, x6'])
    (ds := (List.range m).map fun k => .int ((m : Int) + (k : Nat) * -1)) (i := 0) (a := xs) (μ := [x0, x1, x2, x3, some (rowM xs), x5, x6]) ⟨by omega, x6, rfl⟩ (by
      rintro j d a μ hd ⟨hl, x6', rfl⟩
      obtain ⟨hj, rfl⟩ := rangeD_get hd
      refine ⟨_, rfl, ?_⟩
      have t := put_turn (C := C) (x0 := x0) (x1 := x1) (x2 := x2) (x3 := x3) (x5 := x5) hw (xs := a) (z := (m : Int) - j) hl
      rw [Nat.zero_add]
      unfold gPut
      by_cases h : 499 < 1 + a.length
      · rw [if_pos h]
        exact t.1 h
      · rw [if_neg h]
        exact ⟨_, t.2 h, by simp; omega, _, rfl⟩)
  rw [show ((List.range m).map fun k => D.int ((m : Int) + (k : Nat) * -1)).length = m by simp] at lp
  have r := gPut_run (m := m) (xs := xs) m 0 (by omega)
  rw [show ascN m 0 ++ xs = xs from rfl] at r
  rw [r] at lp
  constructor
  · intro h
    rw [if_pos (by omega)] at lp
    exact lp
  · intro h
    rw [if_neg (by omega)] at lp
    obtain ⟨μ2, lp, _, x6', rfl⟩ := lp
    rw [Nat.zero_add] at lp
    exact ⟨x6', lp⟩
def evt (k : Nat) : Bool := decide (64 ≤ k ∨ 0 < k % 8)
def evsF : Nat → Nat → List Bool
  | _, 0 => []
  | i, n + 1 => evt i :: evsF (i + 1) n
def toX : Except Str St → Except M St
  | .ok s => .ok s
  | .error w => .error (dueM w)
def gRow (mx : Int) (i : Nat) (s : St) : Except M St := toX (stepE mx (evt i) s)
theorem gRow_run {mx : Int} : ∀ (n i : Nat) (s : St), foldX (gRow mx) i n s = toX (foldE mx (evsF i n) s)
  | 0, i, s => rfl
  | n + 1, i, s => by
    rw [foldX.eq_2]
    have e0 : gRow mx i s = toX (stepE mx (evt i) s) := rfl
    rw [e0]
    show _ = toX (match stepE mx (evt i) s with | .ok s1 => foldE mx (evsF (i + 1) n) s1 | .error w => .error w)
    cases stepE mx (evt i) s with
    | error w => rfl
    | ok s1 => exact gRow_run n (i + 1) s1
theorem evsF_is : ∀ many, many < 8 → evsF 0 (64 + many) = mEvs 8 ++ List.replicate many true := by decide +kernel
theorem row_turn {mx : Int} {s : St} (hl : s.2.length ≤ 499) (k : Nat) (hk : k ≤ 200) {x5 x6 : Option M} (h5 : x5 = some (.dat (.int (k : Nat)))) :
    match gRow mx k s with
      | .ok s1 => ∃ x6', execSs sub C [] bigN w16_1b [x0, x1, some (.dat (.int mx)), some (.dat (.int s.1)), some (rowM s.2), x5, x6] = .nx [x0, x1, some (.dat (.int mx)), some (.dat (.int s1.1)), some (rowM s1.2), x5, x6'] 
      | .error m => ∃ μ2, execSs sub C [] bigN w16_1b [x0, x1, some (.dat (.int mx)), some (.dat (.int s.1)), some (rowM s.2), x5, x6] = .ret m μ2 := by
  subst h5
  obtain ⟨b, xs⟩ := s
  have pl := put_loop (C := C) (x0 := x0) (x1 := x1) (x2 := some (.dat (.int mx))) (x3 := some (.dat (.int (b + 1)))) (x5 := some (.dat (.int (k : Nat)))) (x6 := x6) rfl (xs := xs) hl (m := 8) (by omega)
  have rg : fRangeD [.int 8, .int 0, .int (-1)] = some ((List.range 8).map fun k => .int (((8 : Nat) : Int) + (k : Nat) * -1)) := fRangeD_n (a := 8) (b := 0) (by omega) (by omega) (by omega) (by omega)
  have m8 : fMod (.int (k : Nat)) (.int 8) = some (.int ((k : Int) % 8)) := fMod_p (by decide)
  unfold gRow stepE
  generalize hrow : rowM xs = row at *
  by_cases c1 : mx < b + 1
  · rw [if_pos c1]
    show ∃ μ2, _ = Mi.Res.ret (dueM "long") μ2
    refine ⟨[x0, x1, some (.dat (.int mx)), some (.dat (.int (b + 1))), some row, some (.dat (.int (k : Nat))), x6], ?_⟩
    unfold w16_1b dueM
    refine (ex_nx (by first | (simp (decide := true) [execSs, execS, evalE, evalAs, evalEs, evalP, evalI, slot, insOk, atPl, M.at, M.kids, M.kind, nodupB, Ag.roots, Ag.flat, As.vals, E.pure, Es.pure, As.pure, Path.pure, argMs, Mi.callEnd, backAs, putPl, M.put, M.setKid, M.toD, viewE, D.hard, D.hard.hards, datsOf, onDat, outD, fSub_i, fAddI_i, fAddX_i, fLt_i, fLe_i, fGt_i, fGe_i, fEq_i, fEq_s, fEq_b, fNe_i, fNe_s, fNe_b, fNot_b, fNeg_i, fIx_l, fIx_t, fLen_l, fLen_t, fIsi_int_i, fIsi_bool_i, fIsi_bool_b, setTg, Tg.slots, setMany, fldIx, toOwned, datOf]; done) | (simp (decide := true) [execSs, execS, evalE, evalAs, evalEs, evalP, evalI, slot, insOk, atPl, M.at, M.kids, M.kind, nodupB, Ag.roots, Ag.flat, As.vals, E.pure, Es.pure, As.pure, Path.pure, argMs, Mi.callEnd, backAs, putPl, M.put, M.setKid, M.toD, viewE, D.hard, D.hard.hards, datsOf, onDat, outD, fSub_i, fAddI_i, fAddX_i, fLt_i, fLe_i, fGt_i, fGe_i, fEq_i, fEq_s, fEq_b, fNe_i, fNe_s, fNe_b, fNot_b, fNeg_i, fIx_l, fIx_t, fLen_l, fLen_t, fIsi_int_i, fIsi_bool_i, fIsi_bool_b, setTg, Tg.slots, setMany, fldIx, toOwned, datOf]; rfl))).trans ?_
    refine ex_ret ?_
    simp (decide := true) [execSs, execS, evalE, evalAs, evalEs, evalP, evalI, slot, insOk, atPl, M.at, M.kids, M.kind, nodupB, Ag.roots, Ag.flat, As.vals, E.pure, Es.pure, As.pure, Path.pure, argMs, Mi.callEnd, backAs, putPl, M.put, M.setKid, M.toD, viewE, D.hard, D.hard.hards, datsOf, onDat, outD, fSub_i, fAddI_i, fAddX_i, fLt_i, fLe_i, fGt_i, fGe_i, fEq_i, fEq_s, fEq_b, fNe_i, fNe_s, fNe_b, fNot_b, fNeg_i, fIx_l, fIx_t, fLen_l, fLen_t, fIsi_int_i, fIsi_bool_i, fIsi_bool_b, setTg, Tg.slots, setMany, fldIx, toOwned, datOf, c1, fTup_n]
  · rw [if_neg c1]
    have pre : execSs sub C [] bigN w16_1b [x0, x1, some (.dat (.int mx)), some (.dat (.int b)), some row, some (.dat (.int (k : Nat))), x6] = execSs sub C [] bigN (tl (tl w16_1b)) [x0, x1, some (.dat (.int mx)), some (.dat (.int (b + 1))), some row, some (.dat (.int (k : Nat))), x6] := by
      unfold w16_1b
      refine (ex_nx (by first | (simp (decide := true) [execSs, execS, evalE, evalAs, evalEs, evalP, evalI, slot, insOk, atPl, M.at, M.kids, M.kind, nodupB, Ag.roots, Ag.flat, As.vals, E.pure, Es.pure, As.pure, Path.pure, argMs, Mi.callEnd, backAs, putPl, M.put, M.setKid, M.toD, viewE, D.hard, D.hard.hards, datsOf, onDat, outD, fSub_i, fAddI_i, fAddX_i, fLt_i, fLe_i, fGt_i, fGe_i, fEq_i, fEq_s, fEq_b, fNe_i, fNe_s, fNe_b, fNot_b, fNeg_i, fIx_l, fIx_t, fLen_l, fLen_t, fIsi_int_i, fIsi_bool_i, fIsi_bool_b, setTg, Tg.slots, setMany, fldIx, toOwned, datOf]; done) | (simp (decide := true) [execSs, execS, evalE, evalAs, evalEs, evalP, evalI, slot, insOk, atPl, M.at, M.kids, M.kind, nodupB, Ag.roots, Ag.flat, As.vals, E.pure, Es.pure, As.pure, Path.pure, argMs, Mi.callEnd, backAs, putPl, M.put, M.setKid, M.toD, viewE, D.hard, D.hard.hards, datsOf, onDat, outD, fSub_i, fAddI_i, fAddX_i, fLt_i, fLe_i, fGt_i, fGe_i, fEq_i, fEq_s, fEq_b, fNe_i, fNe_s, fNe_b, fNot_b, fNeg_i, fIx_l, fIx_t, fLen_l, fLen_t, fIsi_int_i, fIsi_bool_i, fIsi_bool_b, setTg, Tg.slots, setMany, fldIx, toOwned, datOf]; rfl))).trans ?_
      refine (ex_nx (by first | (simp (decide := true) [execSs, execS, evalE, evalAs, evalEs, evalP, evalI, slot, insOk, atPl, M.at, M.kids, M.kind, nodupB, Ag.roots, Ag.flat, As.vals, E.pure, Es.pure, As.pure, Path.pure, argMs, Mi.callEnd, backAs, putPl, M.put, M.setKid, M.toD, viewE, D.hard, D.hard.hards, datsOf, onDat, outD, fSub_i, fAddI_i, fAddX_i, fLt_i, fLe_i, fGt_i, fGe_i, fEq_i, fEq_s, fEq_b, fNe_i, fNe_s, fNe_b, fNot_b, fNeg_i, fIx_l, fIx_t, fLen_l, fLen_t, fIsi_int_i, fIsi_bool_i, fIsi_bool_b, setTg, Tg.slots, setMany, fldIx, toOwned, datOf, c1]; done) | (simp (decide := true) [execSs, execS, evalE, evalAs, evalEs, evalP, evalI, slot, insOk, atPl, M.at, M.kids, M.kind, nodupB, Ag.roots, Ag.flat, As.vals, E.pure, Es.pure, As.pure, Path.pure, argMs, Mi.callEnd, backAs, putPl, M.put, M.setKid, M.toD, viewE, D.hard, D.hard.hards, datsOf, onDat, outD, fSub_i, fAddI_i, fAddX_i, fLt_i, fLe_i, fGt_i, fGe_i, fEq_i, fEq_s, fEq_b, fNe_i, fNe_s, fNe_b, fNot_b, fNeg_i, fIx_l, fIx_t, fLen_l, fLen_t, fIsi_int_i, fIsi_bool_i, fIsi_bool_b, setTg, Tg.slots, setMany, fldIx, toOwned, datOf, c1]; rfl))).trans ?_
      rfl
    rw [pre]
    by_cases c2 : evt k = true
    · rw [if_pos c2]
      have c2' : 64 ≤ k ∨ 0 < k % 8 := of_decide_eq_true c2
      have lead : ∀ R, forLoop (.one 6) (execSs sub C [] bigN w16_0b) ((List.range 8).map fun k => .int (((8 : Nat) : Int) + (k : Nat) * -1)) [x0, x1, some (.dat (.int mx)), some (.dat (.int (b + 1))), some row, some (.dat (.int (k : Nat))), x6] = R →
          execS sub C [] bigN (.ite (.or (.op2 fGe (.var 5) (.con (.int 64))) (.op2 fGt (.op2 fMod (.var 5) (.con (.int 8))) (.con (.int 0)))) (.cons (.for_ (.one 6) fRangeD (.cons (.con (.int 8)) (.cons (.con (.int 0)) (.cons (.op1 fNeg (.con (.int 1))) .nil))) w16_0b) .nil) .nil) [x0, x1, some (.dat (.int mx)), some (.dat (.int (b + 1))), some row, some (.dat (.int (k : Nat))), x6] = 
          (match R with | .nx μ1 => .nx μ1 | q => q) := fun R hR => by
        refine ite_t (μ1 := [x0, x1, some (.dat (.int mx)), some (.dat (.int (b + 1))), some row, some (.dat (.int (k : Nat))), x6]) ?_ ?_
        · by_cases h64 : 64 ≤ k
          · have h64' : (64 : Int) ≤ (k : Nat) := by omega
            simp (decide := true) [execSs, execS, evalE, evalAs, evalEs, evalP, evalI, slot, insOk, atPl, M.at, M.kids, M.kind, nodupB, Ag.roots, Ag.flat, As.vals, E.pure, Es.pure, As.pure, Path.pure, argMs, Mi.callEnd, backAs, putPl, M.put, M.setKid, M.toD, viewE, D.hard, D.hard.hards, datsOf, onDat, outD, fSub_i, fAddI_i, fAddX_i, fLt_i, fLe_i, fGt_i, fGe_i, fEq_i, fEq_s, fEq_b, fNe_i, fNe_s, fNe_b, fNot_b, fNeg_i, fIx_l, fIx_t, fLen_l, fLen_t, fIsi_int_i, fIsi_bool_i, fIsi_bool_b, setTg, Tg.slots, setMany, fldIx, toOwned, datOf, h64']
          · have h64' : ¬ (64 : Int) ≤ (k : Nat) := by omega
            have hm : (0 : Int) < (k : Int) % 8 := by omega
            simp (decide := true) [execSs, execS, evalE, evalAs, evalEs, evalP, evalI, slot, insOk, atPl, M.at, M.kids, M.kind, nodupB, Ag.roots, Ag.flat, As.vals, E.pure, Es.pure, As.pure, Path.pure, argMs, Mi.callEnd, backAs, putPl, M.put, M.setKid, M.toD, viewE, D.hard, D.hard.hards, datsOf, onDat, outD, fSub_i, fAddI_i, fAddX_i, fLt_i, fLe_i, fGt_i, fGe_i, fEq_i, fEq_s, fEq_b, fNe_i, fNe_s, fNe_b, fNot_b, fNeg_i, fIx_l, fIx_t, fLen_l, fLen_t, fIsi_int_i, fIsi_bool_i, fIsi_bool_b, setTg, Tg.slots, setMany, fldIx, toOwned, datOf, h64', m8, hm]
        · show (match execS sub C [] bigN (.for_ (.one 6) fRangeD (.cons (.con (.int 8)) (.cons (.con (.int 0)) (.cons (.op1 fNeg (.con (.int 1))) .nil))) w16_0b) [x0, x1, some (.dat (.int mx)), some (.dat (.int (b + 1))), some row, some (.dat (.int (k : Nat))), x6] with | .nx μ1 => execSs sub C [] bigN .nil μ1 | q => q) = _
          have e1 := ex_for (sub := sub) (C := C) (pin := []) (N := bigN) (t := .one 6) (f := fRangeD) (src := (.cons (.con (.int 8)) (.cons (.con (.int 0)) (.cons (.op1 fNeg (.con (.int 1))) .nil)))) (b := w16_0b) (μ := [x0, x1, some (.dat (.int mx)), some (.dat (.int (b + 1))), some row, some (.dat (.int (k : Nat))), x6]) (ms := [.dat (.int 8), .dat (.int 0), .dat (.int (-1))]) (ds := [.int 8, .int 0, .int (-1)]) rfl (by simp (decide := true) [execSs, execS, evalE, evalAs, evalEs, evalP, evalI, slot, insOk, atPl, M.at, M.kids, M.kind, nodupB, Ag.roots, Ag.flat, As.vals, E.pure, Es.pure, As.pure, Path.pure, argMs, Mi.callEnd, backAs, putPl, M.put, M.setKid, M.toD, viewE, D.hard, D.hard.hards, datsOf, onDat, outD, fSub_i, fAddI_i, fAddX_i, fLt_i, fLe_i, fGt_i, fGe_i, fEq_i, fEq_s, fEq_b, fNe_i, fNe_s, fNe_b, fNot_b, fNeg_i, fIx_l, fIx_t, fLen_l, fLen_t, fIsi_int_i, fIsi_bool_i, fIsi_bool_b, setTg, Tg.slots, setMany, fldIx, toOwned, datOf]) rfl rg hR
          rw [e1]
          cases R <;> rfl
      by_cases c3 : 499 < 8 + xs.length
      · rw [if_pos c3]
        obtain ⟨μ2, e⟩ := pl.1 c3
        refine ⟨μ2, ?_⟩
        unfold w16_1b
        simp only [tl]
        exact ex_ret (lead _ e)
      · rw [if_neg c3]
        obtain ⟨x6', e⟩ := pl.2 c3
        refine ⟨x6', ?_⟩
        unfold w16_1b
        simp only [tl]
        exact ex_last (lead _ e)
    · rw [if_neg c2]
      have c2' : ¬ (64 ≤ k ∨ 0 < k % 8) := fun h => c2 (decide_eq_true h)
      have h64' : ¬ (64 : Int) ≤ (k : Nat) := by omega
      have hm : ¬ (0 : Int) < (k : Int) % 8 := by omega
      show ∃ x6', _ = Mi.Res.nx [x0, x1, _, some (.dat (.int (b + 1))), some (rowM xs), _, x6']
      refine ⟨x6, ?_⟩
      rw [hrow]
      unfold w16_1b
      simp only [tl]
      refine ex_last ?_
      simp (decide := true) [execSs, execS, evalE, evalAs, evalEs, evalP, evalI, slot, insOk, atPl, M.at, M.kids, M.kind, nodupB, Ag.roots, Ag.flat, As.vals, E.pure, Es.pure, As.pure, Path.pure, argMs, Mi.callEnd, backAs, putPl, M.put, M.setKid, M.toD, viewE, D.hard, D.hard.hards, datsOf, onDat, outD, fSub_i, fAddI_i, fAddX_i, fLt_i, fLe_i, fGt_i, fGe_i, fEq_i, fEq_s, fEq_b, fNe_i, fNe_s, fNe_b, fNot_b, fNeg_i, fIx_l, fIx_t, fLen_l, fLen_t, fIsi_int_i, fIsi_bool_i, fIsi_bool_b, setTg, Tg.slots, setMany, fldIx, toOwned, datOf, h64', m8, hm]
end
end K16
namespace K16
open PySem L2 Mi
def dueL (r : Except Str St) : D := match r with
  | .ok s => .tup [.str "", .lst (s.2.map .int)]
  | .error w => .tup [.str w, .non]
theorem hards_ints : ∀ ns : List Int, D.hard.hards (ns.map .int) = true
  | [] => rfl
  | n :: r => hards_ints r
theorem flats_ints (ns : List Int) : (ns.map D.int).all D.flat = true := by
  rw [List.all_eq_true]
  intro d hd
  obtain ⟨i, _, rfl⟩ := List.mem_map.mp hd
  rfl
section
variable {C : Nat → List M → Mi.CR}
theorem row_loop {mx : Int} {many few : Nat} (hm : many ≤ 7) : match foldE mx (mEvs 8 ++ List.replicate many true) (0, []) with
      | .ok s => ∃ x5 x6, forLoop (.one 5) (execSs sub C [] bigN w16_1b) ((List.range (64 + many)).map fun i => .int (0 + (i : Nat))) [some (.dat (.int (many : Nat))), some (.dat (.int (few : Nat))), some (.dat (.int mx)), some (.dat (.int 0)), some (rowM []), none, none] = .nx [some (.dat (.int (many : Nat))), some (.dat (.int (few : Nat))), some (.dat (.int mx)), some (.dat (.int s.1)), some (rowM s.2), x5, x6]
      | .error w => ∃ μ2, forLoop (.one 5) (execSs sub C [] bigN w16_1b) ((List.range (64 + many)).map fun i => .int (0 + (i : Nat))) [some (.dat (.int (many : Nat))), some (.dat (.int (few : Nat))), some (.dat (.int mx)), some (.dat (.int 0)), some (rowM []), none, none] = .ret (dueM w) μ2 := by
  have lp := forLoop_ex (t := .one 5) (b := execSs sub C [] bigN w16_1b) (g := gRow mx) (S := fun (s : St) μ => s.2.length ≤ 499 ∧ ∃ x5 x6, μ = [some (.dat (.int (many : Nat))), some (.dat (.int (few : Nat))), some (.dat (.int mx)), some (.dat (.int s.1)), some (rowM s.2), x5, x6])
    (ds := (List.range (64 + many)).map fun i => .int (0 + (i : Nat))) (i := 0) (a := (0, [])) (μ := [some (.dat (.int (many : Nat))), some (.dat (.int (few : Nat))), some (.dat (.int mx)), some (.dat (.int 0)), some (rowM []), none, none]) ⟨by simp, none, none, rfl⟩ (by
      rintro j d s μ hd ⟨hl, x5, x6, rfl⟩
      obtain ⟨hj, rfl⟩ := range_get hd
      refine ⟨_, rfl, ?_⟩
      rw [Nat.zero_add]
      have t := row_turn (C := C) (x0 := some (.dat (.int (many : Nat)))) (x1 := some (.dat (.int (few : Nat)))) (mx := mx) (s := s) hl j (by omega) (x5 := some (.dat (.int (j : Nat)))) (x6 := x6) rfl
      cases q : gRow mx j s with
      | error m => rw [q] at t; exact t
      | ok s1 =>
        rw [q] at t
        obtain ⟨x6', t⟩ := t
        refine ⟨_, t, ?_, _, _, rfl⟩
        unfold gRow at q
        cases q2 : stepE mx (evt j) s with
        | error w => rw [q2] at q; cases q
        | ok s2 => rw [q2] at q; cases q; exact stepE_len q2 hl)
  rw [show ((List.range (64 + many)).map fun i => D.int (0 + (i : Nat))).length = 64 + many by simp, gRow_run, evsF_is many (by omega)] at lp
  cases q : foldE mx (mEvs 8 ++ List.replicate many true) (0, []) with
  | error w => rw [q] at lp; exact lp
  | ok s =>
    rw [q] at lp
    obtain ⟨μ2, lp, _, x5, x6, rfl⟩ := lp
    exact ⟨x5, x6, lp⟩
theorem due_walk {mx : Int} {many few : Nat} (hm : many ≤ 7) (hf : few ≤ 7) : ∃ μ', execSs sub C fn16.pin bigN fn16.body (startE fn16 [.dat (.int (many : Nat)), .dat (.int (few : Nat)), .dat (.int mx)]) = .ret (.dat (dueL (wholeE mx many few))) μ' := by
  have lp := row_loop (C := C) (mx := mx) (many := many) (few := few) hm
  have rg := fRange1_len (64 + many) (by omega)
  have pre : execSs sub C fn16.pin bigN fn16.body (startE fn16 [.dat (.int (many : Nat)), .dat (.int (few : Nat)), .dat (.int mx)]) = execSs sub C fn16.pin bigN (tl (tl fn16.body)) [some (.dat (.int (many : Nat))), some (.dat (.int (few : Nat))), some (.dat (.int mx)), some (.dat (.int 0)), some (rowM []), none, none] := by
    have er : rowM [] = .lst [] := rfl
    rw [er]
    unfold fn16
    refine (ex_nx (by first | (simp (decide := true) [execSs, execS, evalE, evalAs, evalEs, evalP, evalI, slot, insOk, atPl, M.at, M.kids, M.kind, nodupB, Ag.roots, Ag.flat, As.vals, E.pure, Es.pure, As.pure, Path.pure, argMs, Mi.callEnd, backAs, putPl, M.put, M.setKid, M.toD, viewE, D.hard, D.hard.hards, datsOf, onDat, outD, fSub_i, fAddI_i, fAddX_i, fLt_i, fLe_i, fGt_i, fGe_i, fEq_i, fEq_s, fEq_b, fNe_i, fNe_s, fNe_b, fNot_b, fNeg_i, fIx_l, fIx_t, fLen_l, fLen_t, fIsi_int_i, fIsi_bool_i, fIsi_bool_b, setTg, Tg.slots, setMany, fldIx, toOwned, datOf, startE]; done) | (simp (decide := true) [execSs, execS, evalE, evalAs, evalEs, evalP, evalI, slot, insOk, atPl, M.at, M.kids, M.kind, nodupB, Ag.roots, Ag.flat, As.vals, E.pure, Es.pure, As.pure, Path.pure, argMs, Mi.callEnd, backAs, putPl, M.put, M.setKid, M.toD, viewE, D.hard, D.hard.hards, datsOf, onDat, outD, fSub_i, fAddI_i, fAddX_i, fLt_i, fLe_i, fGt_i, fGe_i, fEq_i, fEq_s, fEq_b, fNe_i, fNe_s, fNe_b, fNot_b, fNeg_i, fIx_l, fIx_t, fLen_l, fLen_t, fIsi_int_i, fIsi_bool_i, fIsi_bool_b, setTg, Tg.slots, setMany, fldIx, toOwned, datOf, startE]; rfl))).trans ?_
    refine (ex_nx (by first | (simp (decide := true) [execSs, execS, evalE, evalAs, evalEs, evalP, evalI, slot, insOk, atPl, M.at, M.kids, M.kind, nodupB, Ag.roots, Ag.flat, As.vals, E.pure, Es.pure, As.pure, Path.pure, argMs, Mi.callEnd, backAs, putPl, M.put, M.setKid, M.toD, viewE, D.hard, D.hard.hards, datsOf, onDat, outD, fSub_i, fAddI_i, fAddX_i, fLt_i, fLe_i, fGt_i, fGe_i, fEq_i, fEq_s, fEq_b, fNe_i, fNe_s, fNe_b, fNot_b, fNeg_i, fIx_l, fIx_t, fLen_l, fLen_t, fIsi_int_i, fIsi_bool_i, fIsi_bool_b, setTg, Tg.slots, setMany, fldIx, toOwned, datOf, fLst_n, toOwned]; done) | (simp (decide := true) [execSs, execS, evalE, evalAs, evalEs, evalP, evalI, slot, insOk, atPl, M.at, M.kids, M.kind, nodupB, Ag.roots, Ag.flat, As.vals, E.pure, Es.pure, As.pure, Path.pure, argMs, Mi.callEnd, backAs, putPl, M.put, M.setKid, M.toD, viewE, D.hard, D.hard.hards, datsOf, onDat, outD, fSub_i, fAddI_i, fAddX_i, fLt_i, fLe_i, fGt_i, fGe_i, fEq_i, fEq_s, fEq_b, fNe_i, fNe_s, fNe_b, fNot_b, fNeg_i, fIx_l, fIx_t, fLen_l, fLen_t, fIsi_int_i, fIsi_bool_i, fIsi_bool_b, setTg, Tg.slots, setMany, fldIx, toOwned, datOf, fLst_n, toOwned]; rfl))).trans ?_
    rfl
  have e64 : ((64 + many : Nat) : Int) = 64 + (many : Int) := by omega
  have h1 : evalEs C [] (.cons (.op2 fAddX (.con (.int 64)) (.var 0)) .nil) [some (.dat (.int (many : Nat))), some (.dat (.int (few : Nat))), some (.dat (.int mx)), some (.dat (.int 0)), some (rowM []), none, none] = .ok [.dat (.int ((64 + many : Nat) : Int))] [some (.dat (.int (many : Nat))), some (.dat (.int (few : Nat))), some (.dat (.int mx)), some (.dat (.int 0)), some (rowM []), none, none] := by
    rw [e64]
    generalize rowM [] = row
    simp (decide := true) [execSs, execS, evalE, evalAs, evalEs, evalP, evalI, slot, insOk, atPl, M.at, M.kids, M.kind, nodupB, Ag.roots, Ag.flat, As.vals, E.pure, Es.pure, As.pure, Path.pure, argMs, Mi.callEnd, backAs, putPl, M.put, M.setKid, M.toD, viewE, D.hard, D.hard.hards, datsOf, onDat, outD, fSub_i, fAddI_i, fAddX_i, fLt_i, fLe_i, fGt_i, fGe_i, fEq_i, fEq_s, fEq_b, fNe_i, fNe_s, fNe_b, fNot_b, fNeg_i, fIx_l, fIx_t, fLen_l, fLen_t, fIsi_int_i, fIsi_bool_i, fIsi_bool_b, setTg, Tg.slots, setMany, fldIx, toOwned, datOf]
  unfold wholeE
  cases q : foldE mx (mEvs 8 ++ List.replicate many true) (0, []) with
  | error w =>
    rw [q] at lp
    obtain ⟨μ2, lp⟩ := lp
    refine ⟨μ2, pre.trans ?_⟩
    unfold fn16
    exact ex_ret (ex_for (ms := [.dat (.int ((64 + many : Nat) : Int))]) (ds := [.int ((64 + many : Nat) : Int)]) (xs := (List.range (64 + many)).map fun i => .int (0 + (i : Nat))) rfl h1 rfl rg lp)
  | ok s =>
    rw [q] at lp
    obtain ⟨x5, x6, lp⟩ := lp
    have hs := foldE_len q (by simp)
    have s2 : execSs sub C fn16.pin bigN (tl (tl fn16.body)) [some (.dat (.int (many : Nat))), some (.dat (.int (few : Nat))), some (.dat (.int mx)), some (.dat (.int 0)), some (rowM []), none, none] = execSs sub C fn16.pin bigN (tl (tl (tl fn16.body))) [some (.dat (.int (many : Nat))), some (.dat (.int (few : Nat))), some (.dat (.int mx)), some (.dat (.int s.1)), some (rowM s.2), x5, x6] := by
      unfold fn16
      exact ex_nx (ex_for (ms := [.dat (.int ((64 + many : Nat) : Int))]) (ds := [.int ((64 + many : Nat) : Int)]) (xs := (List.range (64 + many)).map fun i => .int (0 + (i : Nat))) rfl h1 rfl rg lp)
    have pl := put_loop (C := C) (x0 := some (.dat (.int (many : Nat)))) (x1 := some (.dat (.int (few : Nat)))) (x2 := some (.dat (.int mx))) (x3 := some (.dat (.int s.1))) (x5 := x5) (x6 := x6) (show w16_2b = w16_0b from rfl) (xs := s.2) hs (m := few) (by omega)
    have rg2 : fRangeD [.int (few : Nat), .int 0, .int (-1)] = some ((List.range few).map fun k => .int ((few : Int) + (k : Nat) * -1)) := by
      have := fRangeD_n (a := (few : Int)) (b := 0) (by omega) (by omega) (by omega) (by omega)
      rw [show ((few : Int) - 0).toNat = few by omega] at this
      exact this
    have h2 : evalEs C [] (.cons (.var 1) (.cons (.con (.int 0)) (.cons (.op1 fNeg (.con (.int 1))) .nil))) [some (.dat (.int (many : Nat))), some (.dat (.int (few : Nat))), some (.dat (.int mx)), some (.dat (.int s.1)), some (rowM s.2), x5, x6] = .ok [.dat (.int (few : Nat)), .dat (.int 0), .dat (.int (-1))] [some (.dat (.int (many : Nat))), some (.dat (.int (few : Nat))), some (.dat (.int mx)), some (.dat (.int s.1)), some (rowM s.2), x5, x6] := by
      generalize rowM s.2 = row
      simp (decide := true) [execSs, execS, evalE, evalAs, evalEs, evalP, evalI, slot, insOk, atPl, M.at, M.kids, M.kind, nodupB, Ag.roots, Ag.flat, As.vals, E.pure, Es.pure, As.pure, Path.pure, argMs, Mi.callEnd, backAs, putPl, M.put, M.setKid, M.toD, viewE, D.hard, D.hard.hards, datsOf, onDat, outD, fSub_i, fAddI_i, fAddX_i, fLt_i, fLe_i, fGt_i, fGe_i, fEq_i, fEq_s, fEq_b, fNe_i, fNe_s, fNe_b, fNot_b, fNeg_i, fIx_l, fIx_t, fLen_l, fLen_t, fIsi_int_i, fIsi_bool_i, fIsi_bool_b, setTg, Tg.slots, setMany, fldIx, toOwned, datOf]
    dsimp only
    by_cases c : 499 < few + s.2.length
    · rw [if_pos c]
      obtain ⟨μ2, e⟩ := pl.1 c
      refine ⟨μ2, (pre.trans s2).trans ?_⟩
      unfold fn16
      exact ex_ret (ex_for (ms := [.dat (.int (few : Nat)), .dat (.int 0), .dat (.int (-1))]) (ds := [.int (few : Nat), .int 0, .int (-1)]) (xs := (List.range few).map fun k => .int ((few : Int) + (k : Nat) * -1)) rfl h2 rfl rg2 e)
    · rw [if_neg c]
      obtain ⟨x6', e⟩ := pl.2 c
      refine ⟨[some (.dat (.int (many : Nat))), some (.dat (.int (few : Nat))), some (.dat (.int mx)), some (.dat (.int s.1)), some (rowM (ascN few few ++ s.2)), x5, x6'], (pre.trans s2).trans ?_⟩
      have hh := hards_ints (ascN few few ++ s.2)
      have hf' := flats_ints (ascN few few ++ s.2)
      have tD := toDs_map ((ascN few few ++ s.2).reverse.map .int)
      have rr : ((ascN few few ++ s.2).reverse.map D.int).reverse = (ascN few few ++ s.2).map .int := by rw [List.map_reverse, List.reverse_reverse]
      have f1 : ∀ xs, fRevL [.lst xs] = some (.lst xs.reverse) := fun _ => rfl
      unfold fn16
      refine (ex_nx (ex_for (ms := [.dat (.int (few : Nat)), .dat (.int 0), .dat (.int (-1))]) (ds := [.int (few : Nat), .int 0, .int (-1)]) (xs := (List.range few).map fun k => .int ((few : Int) + (k : Nat) * -1)) rfl h2 rfl rg2 e)).trans ?_
      unfold dueL rowM
      dsimp only
      generalize (ascN few few ++ s.2).map D.int = A at *
      generalize (ascN few few ++ s.2).reverse.map D.int = B at *
      refine ex_ret (by first | (simp (decide := true) [execSs, execS, evalE, evalAs, evalEs, evalP, evalI, slot, insOk, atPl, M.at, M.kids, M.kind, nodupB, Ag.roots, Ag.flat, As.vals, E.pure, Es.pure, As.pure, Path.pure, argMs, Mi.callEnd, backAs, putPl, M.put, M.setKid, M.toD, viewE, D.hard, D.hard.hards, datsOf, onDat, outD, fSub_i, fAddI_i, fAddX_i, fLt_i, fLe_i, fGt_i, fGe_i, fEq_i, fEq_s, fEq_b, fNe_i, fNe_s, fNe_b, fNot_b, fNeg_i, fIx_l, fIx_t, fLen_l, fLen_t, fIsi_int_i, fIsi_bool_i, fIsi_bool_b, setTg, Tg.slots, setMany, fldIx, toOwned, datOf, tD, f1, rr, hh, hf', fTup_n]; done) | (simp (decide := true) [execSs, execS, evalE, evalAs, evalEs, evalP, evalI, slot, insOk, atPl, M.at, M.kids, M.kind, nodupB, Ag.roots, Ag.flat, As.vals, E.pure, Es.pure, As.pure, Path.pure, argMs, Mi.callEnd, backAs, putPl, M.put, M.setKid, M.toD, viewE, D.hard, D.hard.hards, datsOf, onDat, outD, fSub_i, fAddI_i, fAddX_i, fLt_i, fLe_i, fGt_i, fGe_i, fEq_i, fEq_s, fEq_b, fNe_i, fNe_s, fNe_b, fNot_b, fNeg_i, fIx_l, fIx_t, fLen_l, fLen_t, fIsi_int_i, fIsi_bool_i, fIsi_bool_b, setTg, Tg.slots, setMany, fldIx, toOwned, datOf, tD, f1, rr, hh, hf', fTup_n]; rfl))
end
theorem due_ok (k : Nat) {mx : Int} {many few : Nat} (hm : many ≤ 7) (hf : few ≤ 7) : callF sub tab bigN (k + 1) 16 [.dat (.int (many : Nat)), .dat (.int (few : Nat)), .dat (.int mx)] = .ok (.dat (dueL (wholeE mx many few))) [none, none, none] := by
  obtain ⟨μ', e⟩ := due_walk (C := callF sub tab bigN k) (mx := mx) hm hf
  exact call_ret (fn := fn16) rfl rfl e
end K16
namespace K16
open PySem L2 Mi
/-! ### what is due: the number -/
def toC : Except Str Int → Except M Int
  | .ok s => .ok s
  | .error w => .error (dueM w)
theorem fold_down {mx : Int} : ∀ (d i : Nat) (b : Int), foldX (fun i b => toC (stepC mx (2 + (i : Nat)) b)) i (d + 1) b = toC (foldC mx (downU ((i : Int) + 1) d) b)
  | 0, i, b => by
    rw [foldX.eq_2]
    unfold downU foldC foldC
    rw [show (i : Int) + 1 + 1 = 2 + (i : Int) by omega]
    cases stepC mx (2 + (i : Int)) b with
    | error w => rfl
    | ok b1 => rfl
  | d + 1, i, b => by
    rw [foldX.eq_2]
    unfold downU foldC
    rw [show (i : Int) + 1 + 1 = 2 + (i : Int) by omega]
    cases stepC mx (2 + (i : Int)) b with
    | error w => rfl
    | ok b1 =>
      show foldX _ (i + 1) (d + 1) b1 = toC (foldC mx (downU (2 + (i : Int)) d) b1)
      rw [fold_down d (i + 1) b1]
      rw [show ((i + 1 : Nat) : Int) + 1 = 2 + (i : Int) by omega]
theorem fold_rep {mx : Int} {D0 : List Int} : ∀ (n i : Nat) (b : Int), foldX (fun _ b => toC (foldC mx D0 b)) i n b = toC (foldC mx (repU D0 n) b)
  | 0, i, b => rfl
  | n + 1, i, b => by
    rw [foldX.eq_2]
    unfold repU
    rw [foldC_app]
    cases foldC mx D0 b with
    | error w => rfl
    | ok b1 => exact fold_rep n (i + 1) b1
section
variable {C : Nat → List M → Mi.CR} {x0 x4 x5 x6 : Option M}
theorem under_turn {mx b un : Int} {n : Int} : match toC (stepC mx un b) with
    | .ok b1 => execSs sub C [] bigN w17_0b [x0, some (.dat (.int n)), some (.dat (.int mx)), some (.dat (.int b)), x4, x5, some (.dat (.int un))] = .nx [x0, some (.dat (.int n)), some (.dat (.int mx)), some (.dat (.int b1)), x4, x5, some (.dat (.int un))]
    | .error m => ∃ μ2, execSs sub C [] bigN w17_0b [x0, some (.dat (.int n)), some (.dat (.int mx)), some (.dat (.int b)), x4, x5, some (.dat (.int un))] = .ret m μ2 := by
  unfold stepC
  by_cases c1 : mx < b + 1
  · rw [if_pos c1]
    refine ⟨[x0, some (.dat (.int n)), some (.dat (.int mx)), some (.dat (.int (b + 1))), x4, x5, some (.dat (.int un))], ?_⟩
    unfold w17_0b dueM
    refine (ex_nx (by first | (simp (decide := true) [execSs, execS, evalE, evalAs, evalEs, evalP, evalI, slot, insOk, atPl, M.at, M.kids, M.kind, nodupB, Ag.roots, Ag.flat, As.vals, E.pure, Es.pure, As.pure, Path.pure, argMs, Mi.callEnd, backAs, putPl, M.put, M.setKid, M.toD, viewE, D.hard, D.hard.hards, datsOf, onDat, outD, fSub_i, fAddI_i, fAddX_i, fLt_i, fLe_i, fGt_i, fGe_i, fEq_i, fEq_s, fEq_b, fNe_i, fNe_s, fNe_b, fNot_b, fNeg_i, fIx_l, fIx_t, fLen_l, fLen_t, fIsi_int_i, fIsi_bool_i, fIsi_bool_b, setTg, Tg.slots, setMany, fldIx, toOwned, datOf]; done) | (simp (decide := true) [execSs, execS, evalE, evalAs, evalEs, evalP, evalI, slot, insOk, atPl, M.at, M.kids, M.kind, nodupB, Ag.roots, Ag.flat, As.vals, E.pure, Es.pure, As.pure, Path.pure, argMs, Mi.callEnd, backAs, putPl, M.put, M.setKid, M.toD, viewE, D.hard, D.hard.hards, datsOf, onDat, outD, fSub_i, fAddI_i, fAddX_i, fLt_i, fLe_i, fGt_i, fGe_i, fEq_i, fEq_s, fEq_b, fNe_i, fNe_s, fNe_b, fNot_b, fNeg_i, fIx_l, fIx_t, fLen_l, fLen_t, fIsi_int_i, fIsi_bool_i, fIsi_bool_b, setTg, Tg.slots, setMany, fldIx, toOwned, datOf]; rfl))).trans ?_
    refine ex_ret ?_
    simp (decide := true) [execSs, execS, evalE, evalAs, evalEs, evalP, evalI, slot, insOk, atPl, M.at, M.kids, M.kind, nodupB, Ag.roots, Ag.flat, As.vals, E.pure, Es.pure, As.pure, Path.pure, argMs, Mi.callEnd, backAs, putPl, M.put, M.setKid, M.toD, viewE, D.hard, D.hard.hards, datsOf, onDat, outD, fSub_i, fAddI_i, fAddX_i, fLt_i, fLe_i, fGt_i, fGe_i, fEq_i, fEq_s, fEq_b, fNe_i, fNe_s, fNe_b, fNot_b, fNeg_i, fIx_l, fIx_t, fLen_l, fLen_t, fIsi_int_i, fIsi_bool_i, fIsi_bool_b, setTg, Tg.slots, setMany, fldIx, toOwned, datOf, c1, fTup_n]
  · rw [if_neg c1]
    by_cases c2 : 12 < un
    · rw [if_pos c2]
      refine ⟨[x0, some (.dat (.int n)), some (.dat (.int mx)), some (.dat (.int (b + 1))), x4, x5, some (.dat (.int un))], ?_⟩
      unfold w17_0b dueM
      refine (ex_nx (by first | (simp (decide := true) [execSs, execS, evalE, evalAs, evalEs, evalP, evalI, slot, insOk, atPl, M.at, M.kids, M.kind, nodupB, Ag.roots, Ag.flat, As.vals, E.pure, Es.pure, As.pure, Path.pure, argMs, Mi.callEnd, backAs, putPl, M.put, M.setKid, M.toD, viewE, D.hard, D.hard.hards, datsOf, onDat, outD, fSub_i, fAddI_i, fAddX_i, fLt_i, fLe_i, fGt_i, fGe_i, fEq_i, fEq_s, fEq_b, fNe_i, fNe_s, fNe_b, fNot_b, fNeg_i, fIx_l, fIx_t, fLen_l, fLen_t, fIsi_int_i, fIsi_bool_i, fIsi_bool_b, setTg, Tg.slots, setMany, fldIx, toOwned, datOf]; done) | (simp (decide := true) [execSs, execS, evalE, evalAs, evalEs, evalP, evalI, slot, insOk, atPl, M.at, M.kids, M.kind, nodupB, Ag.roots, Ag.flat, As.vals, E.pure, Es.pure, As.pure, Path.pure, argMs, Mi.callEnd, backAs, putPl, M.put, M.setKid, M.toD, viewE, D.hard, D.hard.hards, datsOf, onDat, outD, fSub_i, fAddI_i, fAddX_i, fLt_i, fLe_i, fGt_i, fGe_i, fEq_i, fEq_s, fEq_b, fNe_i, fNe_s, fNe_b, fNot_b, fNeg_i, fIx_l, fIx_t, fLen_l, fLen_t, fIsi_int_i, fIsi_bool_i, fIsi_bool_b, setTg, Tg.slots, setMany, fldIx, toOwned, datOf]; rfl))).trans ?_
      refine (ex_nx (by first | (simp (decide := true) [execSs, execS, evalE, evalAs, evalEs, evalP, evalI, slot, insOk, atPl, M.at, M.kids, M.kind, nodupB, Ag.roots, Ag.flat, As.vals, E.pure, Es.pure, As.pure, Path.pure, argMs, Mi.callEnd, backAs, putPl, M.put, M.setKid, M.toD, viewE, D.hard, D.hard.hards, datsOf, onDat, outD, fSub_i, fAddI_i, fAddX_i, fLt_i, fLe_i, fGt_i, fGe_i, fEq_i, fEq_s, fEq_b, fNe_i, fNe_s, fNe_b, fNot_b, fNeg_i, fIx_l, fIx_t, fLen_l, fLen_t, fIsi_int_i, fIsi_bool_i, fIsi_bool_b, setTg, Tg.slots, setMany, fldIx, toOwned, datOf, c1]; done) | (simp (decide := true) [execSs, execS, evalE, evalAs, evalEs, evalP, evalI, slot, insOk, atPl, M.at, M.kids, M.kind, nodupB, Ag.roots, Ag.flat, As.vals, E.pure, Es.pure, As.pure, Path.pure, argMs, Mi.callEnd, backAs, putPl, M.put, M.setKid, M.toD, viewE, D.hard, D.hard.hards, datsOf, onDat, outD, fSub_i, fAddI_i, fAddX_i, fLt_i, fLe_i, fGt_i, fGe_i, fEq_i, fEq_s, fEq_b, fNe_i, fNe_s, fNe_b, fNot_b, fNeg_i, fIx_l, fIx_t, fLen_l, fLen_t, fIsi_int_i, fIsi_bool_i, fIsi_bool_b, setTg, Tg.slots, setMany, fldIx, toOwned, datOf, c1]; rfl))).trans ?_
      refine ex_ret ?_
      simp (decide := true) [execSs, execS, evalE, evalAs, evalEs, evalP, evalI, slot, insOk, atPl, M.at, M.kids, M.kind, nodupB, Ag.roots, Ag.flat, As.vals, E.pure, Es.pure, As.pure, Path.pure, argMs, Mi.callEnd, backAs, putPl, M.put, M.setKid, M.toD, viewE, D.hard, D.hard.hards, datsOf, onDat, outD, fSub_i, fAddI_i, fAddX_i, fLt_i, fLe_i, fGt_i, fGe_i, fEq_i, fEq_s, fEq_b, fNe_i, fNe_s, fNe_b, fNot_b, fNeg_i, fIx_l, fIx_t, fLen_l, fLen_t, fIsi_int_i, fIsi_bool_i, fIsi_bool_b, setTg, Tg.slots, setMany, fldIx, toOwned, datOf, c2, fTup_n]
    · rw [if_neg c2]
      show _ = Mi.Res.nx [x0, some (.dat (.int n)), some (.dat (.int mx)), some (.dat (.int (b + 1))), x4, x5, some (.dat (.int un))]
      unfold w17_0b
      refine (ex_nx (by first | (simp (decide := true) [execSs, execS, evalE, evalAs, evalEs, evalP, evalI, slot, insOk, atPl, M.at, M.kids, M.kind, nodupB, Ag.roots, Ag.flat, As.vals, E.pure, Es.pure, As.pure, Path.pure, argMs, Mi.callEnd, backAs, putPl, M.put, M.setKid, M.toD, viewE, D.hard, D.hard.hards, datsOf, onDat, outD, fSub_i, fAddI_i, fAddX_i, fLt_i, fLe_i, fGt_i, fGe_i, fEq_i, fEq_s, fEq_b, fNe_i, fNe_s, fNe_b, fNot_b, fNeg_i, fIx_l, fIx_t, fLen_l, fLen_t, fIsi_int_i, fIsi_bool_i, fIsi_bool_b, setTg, Tg.slots, setMany, fldIx, toOwned, datOf]; done) | (simp (decide := true) [execSs, execS, evalE, evalAs, evalEs, evalP, evalI, slot, insOk, atPl, M.at, M.kids, M.kind, nodupB, Ag.roots, Ag.flat, As.vals, E.pure, Es.pure, As.pure, Path.pure, argMs, Mi.callEnd, backAs, putPl, M.put, M.setKid, M.toD, viewE, D.hard, D.hard.hards, datsOf, onDat, outD, fSub_i, fAddI_i, fAddX_i, fLt_i, fLe_i, fGt_i, fGe_i, fEq_i, fEq_s, fEq_b, fNe_i, fNe_s, fNe_b, fNot_b, fNeg_i, fIx_l, fIx_t, fLen_l, fLen_t, fIsi_int_i, fIsi_bool_i, fIsi_bool_b, setTg, Tg.slots, setMany, fldIx, toOwned, datOf]; rfl))).trans ?_
      refine (ex_nx (by first | (simp (decide := true) [execSs, execS, evalE, evalAs, evalEs, evalP, evalI, slot, insOk, atPl, M.at, M.kids, M.kind, nodupB, Ag.roots, Ag.flat, As.vals, E.pure, Es.pure, As.pure, Path.pure, argMs, Mi.callEnd, backAs, putPl, M.put, M.setKid, M.toD, viewE, D.hard, D.hard.hards, datsOf, onDat, outD, fSub_i, fAddI_i, fAddX_i, fLt_i, fLe_i, fGt_i, fGe_i, fEq_i, fEq_s, fEq_b, fNe_i, fNe_s, fNe_b, fNot_b, fNeg_i, fIx_l, fIx_t, fLen_l, fLen_t, fIsi_int_i, fIsi_bool_i, fIsi_bool_b, setTg, Tg.slots, setMany, fldIx, toOwned, datOf, c1]; done) | (simp (decide := true) [execSs, execS, evalE, evalAs, evalEs, evalP, evalI, slot, insOk, atPl, M.at, M.kids, M.kind, nodupB, Ag.roots, Ag.flat, As.vals, E.pure, Es.pure, As.pure, Path.pure, argMs, Mi.callEnd, backAs, putPl, M.put, M.setKid, M.toD, viewE, D.hard, D.hard.hards, datsOf, onDat, outD, fSub_i, fAddI_i, fAddX_i, fLt_i, fLe_i, fGt_i, fGe_i, fEq_i, fEq_s, fEq_b, fNe_i, fNe_s, fNe_b, fNot_b, fNeg_i, fIx_l, fIx_t, fLen_l, fLen_t, fIsi_int_i, fIsi_bool_i, fIsi_bool_b, setTg, Tg.slots, setMany, fldIx, toOwned, datOf, c1]; rfl))).trans ?_
      refine ex_last ?_
      simp (decide := true) [execSs, execS, evalE, evalAs, evalEs, evalP, evalI, slot, insOk, atPl, M.at, M.kids, M.kind, nodupB, Ag.roots, Ag.flat, As.vals, E.pure, Es.pure, As.pure, Path.pure, argMs, Mi.callEnd, backAs, putPl, M.put, M.setKid, M.toD, viewE, D.hard, D.hard.hards, datsOf, onDat, outD, fSub_i, fAddI_i, fAddX_i, fLt_i, fLe_i, fGt_i, fGe_i, fEq_i, fEq_s, fEq_b, fNe_i, fNe_s, fNe_b, fNot_b, fNeg_i, fIx_l, fIx_t, fLen_l, fLen_t, fIsi_int_i, fIsi_bool_i, fIsi_bool_b, setTg, Tg.slots, setMany, fldIx, toOwned, datOf, c2]
theorem turn_turn {mx b n : Int} {d : Nat} (hd : d ≤ 300) (hnd : n ≤ 0 ∧ d = 0 ∨ n = d) : match toC (foldC mx (downU 1 d) b) with
    | .ok b1 => ∃ x6', execSs sub C [] bigN w17_1b [x0, some (.dat (.int n)), some (.dat (.int mx)), some (.dat (.int b)), x4, x5, x6] = .nx [x0, some (.dat (.int n)), some (.dat (.int mx)), some (.dat (.int b1)), x4, x5, x6']
    | .error m => ∃ μ2, execSs sub C [] bigN w17_1b [x0, some (.dat (.int n)), some (.dat (.int mx)), some (.dat (.int b)), x4, x5, x6] = .ret m μ2 := by
  have lp := forLoop_ex (t := .one 6) (b := execSs sub C [] bigN w17_0b) (g := fun i b => toC (stepC mx (2 + (i : Nat)) b)) (S := fun (b : Int) μ => ∃ x6', μ = [x0, some (.dat (.int n)), some (.dat (.int mx)), some (.dat (.int b)), x4, x5, x6'])
    (ds := (List.range (d + 1)).map fun k => .int (2 + (k : Nat))) (i := 0) (a := b) (μ := [x0, some (.dat (.int n)), some (.dat (.int mx)), some (.dat (.int b)), x4, x5, x6]) ⟨x6, rfl⟩ (by
      rintro j dd b μ hd ⟨x6', rfl⟩
      have e : dd = .int (2 + (j : Nat)) := by
        rw [List.getElem?_map] at hd
        cases q : (List.range (d + 1))[j]? with
        | none => rw [q] at hd; cases hd
        | some i =>
          rw [q] at hd
          have hj : j < d + 1 := by
            have := (List.getElem?_eq_some_iff.mp q).1
            simpa using this
          rw [List.getElem?_range hj] at q
          cases q
          cases hd
          rfl
      subst e
      refine ⟨_, rfl, ?_⟩
      rw [Nat.zero_add]
      have t := under_turn (C := C) (x0 := x0) (x4 := x4) (x5 := x5) (mx := mx) (b := b) (un := 2 + (j : Nat)) (n := n)
      cases q : toC (stepC mx (2 + (j : Nat)) b) with
      | error m => rw [q] at t; exact t
      | ok b1 => rw [q] at t; exact ⟨_, t, _, rfl⟩)
  rw [show ((List.range (d + 1)).map fun k => D.int (2 + (k : Nat))).length = d + 1 by simp, fold_down d 0 b] at lp
  have rg : fRange2 [.int 2, .int (3 + (d : Int))] = some ((List.range (d + 1)).map fun k => .int (2 + (k : Nat))) := by
    unfold fRange2
    dsimp only
    rw [if_pos ⟨⟨by omega, by omega⟩, by omega, by omega⟩, show (3 + (d : Int) - 2).toNat = d + 1 by omega]
  have hmax : fMax [.int 0, .int n] = some (.int (d : Int)) := by
    rw [fMax_i]
    have : (if n > 0 then n else 0) = (d : Int) := by split <;> omega
    rw [this]
  have h1 : evalEs C [] (.cons (.con (.int 2)) (.cons (.op2 fAddX (.con (.int 3)) (.opN fMax (.cons (.con (.int 0)) (.cons (.var 1) .nil)))) .nil)) [x0, some (.dat (.int n)), some (.dat (.int mx)), some (.dat (.int b)), x4, x5, x6] = .ok [.dat (.int 2), .dat (.int (3 + (d : Int)))] [x0, some (.dat (.int n)), some (.dat (.int mx)), some (.dat (.int b)), x4, x5, x6] := by
    generalize ((d : Nat) : Int) = dd at *
    simp (decide := true) [execSs, execS, evalE, evalAs, evalEs, evalP, evalI, slot, insOk, atPl, M.at, M.kids, M.kind, nodupB, Ag.roots, Ag.flat, As.vals, E.pure, Es.pure, As.pure, Path.pure, argMs, Mi.callEnd, backAs, putPl, M.put, M.setKid, M.toD, viewE, D.hard, D.hard.hards, datsOf, onDat, outD, fSub_i, fAddI_i, fAddX_i, fLt_i, fLe_i, fGt_i, fGe_i, fEq_i, fEq_s, fEq_b, fNe_i, fNe_s, fNe_b, fNot_b, fNeg_i, fIx_l, fIx_t, fLen_l, fLen_t, fIsi_int_i, fIsi_bool_i, fIsi_bool_b, setTg, Tg.slots, setMany, fldIx, toOwned, datOf, hmax]
  have hh : ∀ R, forLoop (.one 6) (execSs sub C [] bigN w17_0b) ((List.range (d + 1)).map fun k => .int (2 + (k : Nat))) [x0, some (.dat (.int n)), some (.dat (.int mx)), some (.dat (.int b)), x4, x5, x6] = R → execS sub C [] bigN (.for_ (.one 6) fRange2 (.cons (.con (.int 2)) (.cons (.op2 fAddX (.con (.int 3)) (.opN fMax (.cons (.con (.int 0)) (.cons (.var 1) .nil)))) .nil)) w17_0b) [x0, some (.dat (.int n)), some (.dat (.int mx)), some (.dat (.int b)), x4, x5, x6] = R := fun R h =>
    ex_for (ms := [.dat (.int 2), .dat (.int (3 + (d : Int)))]) (ds := [.int 2, .int (3 + (d : Int))]) rfl h1 rfl rg h
  have e1 : downU (((0 : Nat) : Int) + 1) d = downU 1 d := rfl
  rw [e1] at lp
  cases q : toC (foldC mx (downU 1 d) b) with
  | error m =>
    rw [q] at lp
    obtain ⟨μ2, lp⟩ := lp
    refine ⟨μ2, ?_⟩
    unfold w17_1b
    exact ex_ret (hh _ lp)
  | ok b1 =>
    rw [q] at lp
    obtain ⟨μ2, lp, x6', rfl⟩ := lp
    refine ⟨x6', ?_⟩
    unfold w17_1b
    exact ex_last (hh _ lp)
theorem block_turn {mx b n : Int} {d : Nat} (hd : d ≤ 300) (hnd : n ≤ 0 ∧ d = 0 ∨ n = d) : match toC (foldC mx (blU 0 d) b) with
    | .ok b1 => ∃ x5' x6', execSs sub C [] bigN w17_2b [x0, some (.dat (.int n)), some (.dat (.int mx)), some (.dat (.int b)), x4, x5, x6] = .nx [x0, some (.dat (.int n)), some (.dat (.int mx)), some (.dat (.int b1)), x4, x5', x6']
    | .error m => ∃ μ2, execSs sub C [] bigN w17_2b [x0, some (.dat (.int n)), some (.dat (.int mx)), some (.dat (.int b)), x4, x5, x6] = .ret m μ2 := by
  unfold blU foldC stepC
  by_cases c1 : mx < b + 1
  · rw [if_pos c1]
    refine ⟨[x0, some (.dat (.int n)), some (.dat (.int mx)), some (.dat (.int (b + 1))), x4, x5, x6], ?_⟩
    unfold w17_2b dueM
    refine (ex_nx (by first | (simp (decide := true) [execSs, execS, evalE, evalAs, evalEs, evalP, evalI, slot, insOk, atPl, M.at, M.kids, M.kind, nodupB, Ag.roots, Ag.flat, As.vals, E.pure, Es.pure, As.pure, Path.pure, argMs, Mi.callEnd, backAs, putPl, M.put, M.setKid, M.toD, viewE, D.hard, D.hard.hards, datsOf, onDat, outD, fSub_i, fAddI_i, fAddX_i, fLt_i, fLe_i, fGt_i, fGe_i, fEq_i, fEq_s, fEq_b, fNe_i, fNe_s, fNe_b, fNot_b, fNeg_i, fIx_l, fIx_t, fLen_l, fLen_t, fIsi_int_i, fIsi_bool_i, fIsi_bool_b, setTg, Tg.slots, setMany, fldIx, toOwned, datOf]; done) | (simp (decide := true) [execSs, execS, evalE, evalAs, evalEs, evalP, evalI, slot, insOk, atPl, M.at, M.kids, M.kind, nodupB, Ag.roots, Ag.flat, As.vals, E.pure, Es.pure, As.pure, Path.pure, argMs, Mi.callEnd, backAs, putPl, M.put, M.setKid, M.toD, viewE, D.hard, D.hard.hards, datsOf, onDat, outD, fSub_i, fAddI_i, fAddX_i, fLt_i, fLe_i, fGt_i, fGe_i, fEq_i, fEq_s, fEq_b, fNe_i, fNe_s, fNe_b, fNot_b, fNeg_i, fIx_l, fIx_t, fLen_l, fLen_t, fIsi_int_i, fIsi_bool_i, fIsi_bool_b, setTg, Tg.slots, setMany, fldIx, toOwned, datOf]; rfl))).trans ?_
    refine ex_ret ?_
    simp (decide := true) [execSs, execS, evalE, evalAs, evalEs, evalP, evalI, slot, insOk, atPl, M.at, M.kids, M.kind, nodupB, Ag.roots, Ag.flat, As.vals, E.pure, Es.pure, As.pure, Path.pure, argMs, Mi.callEnd, backAs, putPl, M.put, M.setKid, M.toD, viewE, D.hard, D.hard.hards, datsOf, onDat, outD, fSub_i, fAddI_i, fAddX_i, fLt_i, fLe_i, fGt_i, fGe_i, fEq_i, fEq_s, fEq_b, fNe_i, fNe_s, fNe_b, fNot_b, fNeg_i, fIx_l, fIx_t, fLen_l, fLen_t, fIsi_int_i, fIsi_bool_i, fIsi_bool_b, setTg, Tg.slots, setMany, fldIx, toOwned, datOf, c1, fTup_n]
  · rw [if_neg c1, if_neg (by decide)]
    have lp := forLoop_ex (t := .one 5) (b := execSs sub C [] bigN w17_1b) (g := fun _ b => toC (foldC mx (downU 1 d) b)) (S := fun (b : Int) μ => ∃ x5' x6', μ = [x0, some (.dat (.int n)), some (.dat (.int mx)), some (.dat (.int b)), x4, x5', x6'])
      (ds := (List.range 7).map fun k => .int (0 + (k : Nat))) (i := 0) (a := b + 1) (μ := [x0, some (.dat (.int n)), some (.dat (.int mx)), some (.dat (.int (b + 1))), x4, x5, x6]) ⟨x5, x6, rfl⟩ (by
        rintro j dd b μ hdd ⟨x5', x6', rfl⟩
        refine ⟨_, rfl, ?_⟩
        have t := turn_turn (C := C) (x0 := x0) (x4 := x4) (x5 := some (.dat dd)) (x6 := x6') (mx := mx) (b := b) (n := n) hd hnd
        cases q : toC (foldC mx (downU 1 d) b) with
        | error m => rw [q] at t; exact t
        | ok b1 =>
          rw [q] at t
          obtain ⟨y6, t⟩ := t
          exact ⟨_, t, _, _, rfl⟩)
    rw [show ((List.range 7).map fun k => D.int (0 + (k : Nat))).length = 7 by simp, fold_rep] at lp
    have rg := fRange1_len 7 (by omega)
    have pre : execSs sub C [] bigN w17_2b [x0, some (.dat (.int n)), some (.dat (.int mx)), some (.dat (.int b)), x4, x5, x6] = execSs sub C [] bigN (tl (tl w17_2b)) [x0, some (.dat (.int n)), some (.dat (.int mx)), some (.dat (.int (b + 1))), x4, x5, x6] := by
      unfold w17_2b
      refine (ex_nx (by first | (simp (decide := true) [execSs, execS, evalE, evalAs, evalEs, evalP, evalI, slot, insOk, atPl, M.at, M.kids, M.kind, nodupB, Ag.roots, Ag.flat, As.vals, E.pure, Es.pure, As.pure, Path.pure, argMs, Mi.callEnd, backAs, putPl, M.put, M.setKid, M.toD, viewE, D.hard, D.hard.hards, datsOf, onDat, outD, fSub_i, fAddI_i, fAddX_i, fLt_i, fLe_i, fGt_i, fGe_i, fEq_i, fEq_s, fEq_b, fNe_i, fNe_s, fNe_b, fNot_b, fNeg_i, fIx_l, fIx_t, fLen_l, fLen_t, fIsi_int_i, fIsi_bool_i, fIsi_bool_b, setTg, Tg.slots, setMany, fldIx, toOwned, datOf]; done) | (simp (decide := true) [execSs, execS, evalE, evalAs, evalEs, evalP, evalI, slot, insOk, atPl, M.at, M.kids, M.kind, nodupB, Ag.roots, Ag.flat, As.vals, E.pure, Es.pure, As.pure, Path.pure, argMs, Mi.callEnd, backAs, putPl, M.put, M.setKid, M.toD, viewE, D.hard, D.hard.hards, datsOf, onDat, outD, fSub_i, fAddI_i, fAddX_i, fLt_i, fLe_i, fGt_i, fGe_i, fEq_i, fEq_s, fEq_b, fNe_i, fNe_s, fNe_b, fNot_b, fNeg_i, fIx_l, fIx_t, fLen_l, fLen_t, fIsi_int_i, fIsi_bool_i, fIsi_bool_b, setTg, Tg.slots, setMany, fldIx, toOwned, datOf]; rfl))).trans ?_
      refine (ex_nx (by first | (simp (decide := true) [execSs, execS, evalE, evalAs, evalEs, evalP, evalI, slot, insOk, atPl, M.at, M.kids, M.kind, nodupB, Ag.roots, Ag.flat, As.vals, E.pure, Es.pure, As.pure, Path.pure, argMs, Mi.callEnd, backAs, putPl, M.put, M.setKid, M.toD, viewE, D.hard, D.hard.hards, datsOf, onDat, outD, fSub_i, fAddI_i, fAddX_i, fLt_i, fLe_i, fGt_i, fGe_i, fEq_i, fEq_s, fEq_b, fNe_i, fNe_s, fNe_b, fNot_b, fNeg_i, fIx_l, fIx_t, fLen_l, fLen_t, fIsi_int_i, fIsi_bool_i, fIsi_bool_b, setTg, Tg.slots, setMany, fldIx, toOwned, datOf, c1]; done) | (simp (decide := true) [execSs, execS, evalE, evalAs, evalEs, evalP, evalI, slot, insOk, atPl, M.at, M.kids, M.kind, nodupB, Ag.roots, Ag.flat, As.vals, E.pure, Es.pure, As.pure, Path.pure, argMs, Mi.callEnd, backAs, putPl, M.put, M.setKid, M.toD, viewE, D.hard, D.hard.hards, datsOf, onDat, outD, fSub_i, fAddI_i, fAddX_i, fLt_i, fLe_i, fGt_i, fGe_i, fEq_i, fEq_s, fEq_b, fNe_i, fNe_s, fNe_b, fNot_b, fNeg_i, fIx_l, fIx_t, fLen_l, fLen_t, fIsi_int_i, fIsi_bool_i, fIsi_bool_b, setTg, Tg.slots, setMany, fldIx, toOwned, datOf, c1]; rfl))).trans ?_
      rfl
    rw [pre]
    dsimp only
    have e1 : downU (0 + 1) d = downU 1 d := rfl
    rw [e1]
    cases q : toC (foldC mx (repU (downU 1 d) 7) (b + 1)) with
    | error m =>
      rw [q] at lp
      obtain ⟨μ2, lp⟩ := lp
      refine ⟨μ2, ?_⟩
      unfold w17_2b
      exact ex_ret (ex_for (ms := [.dat (.int (7 : Nat))]) (ds := [.int (7 : Nat)]) (xs := (List.range 7).map fun i => .int (0 + (i : Nat))) rfl rfl rfl rg lp)
    | ok b1 =>
      rw [q] at lp
      obtain ⟨μ2, lp, x5', x6', rfl⟩ := lp
      refine ⟨x5', x6', ?_⟩
      unfold w17_2b
      exact ex_last (ex_for (ms := [.dat (.int (7 : Nat))]) (ds := [.int (7 : Nat)]) (xs := (List.range 7).map fun i => .int (0 + (i : Nat))) rfl rfl rfl rg lp)
def dueC (r : Except Str Int) (z : Int) : D := match r with
  | .ok _ => .tup [.str "", .int z]
  | .error w => .tup [.str w, .non]
theorem count_fin {mm n z mx b1 : Int} {x4 x5 x6 : Option M} (hz : z = 0 ∨ z = 1) (ib : (if n < 1 then (1 : Int) else 0) = z) : execSs sub C fn17.pin bigN (tl (tl fn17.body)) [some (.dat (.int mm)), some (.dat (.int n)), some (.dat (.int mx)), some (.dat (.int b1)), x4, x5, x6] = .ret (.dat (.tup [.str "", .int (mm * (7 * z))])) [some (.dat (.int mm)), some (.dat (.int n)), some (.dat (.int mx)), some (.dat (.int b1)), x4, x5, x6] := by
  have m1 : fMul (.int 7) (.int mm) = some (.int (7 * mm)) := fMul_l (by decide) (by decide)
  have m2 : fMul (.int (7 * mm)) (.int z) = some (.int (mm * (7 * z))) := by
    have e : 7 * mm * z = mm * (7 * z) := by rcases hz with z | z <;> rw [z] <;> omega
    rw [fMul_r (by omega) (by omega), e]
  have fb : fInt [.bl (decide (n < 1))] = some (.int z) := by
    rw [← ib]
    by_cases h : n < 1
    · rw [decide_eq_true h, if_pos h]; rfl
    · rw [decide_eq_false h, if_neg h]; rfl
  unfold fn17
  simp only [tl]
  refine ex_ret (by first | (simp (decide := true) [execSs, execS, evalE, evalAs, evalEs, evalP, evalI, slot, insOk, atPl, M.at, M.kids, M.kind, nodupB, Ag.roots, Ag.flat, As.vals, E.pure, Es.pure, As.pure, Path.pure, argMs, Mi.callEnd, backAs, putPl, M.put, M.setKid, M.toD, viewE, D.hard, D.hard.hards, datsOf, onDat, outD, fSub_i, fAddI_i, fAddX_i, fLt_i, fLe_i, fGt_i, fGe_i, fEq_i, fEq_s, fEq_b, fNe_i, fNe_s, fNe_b, fNot_b, fNeg_i, fIx_l, fIx_t, fLen_l, fLen_t, fIsi_int_i, fIsi_bool_i, fIsi_bool_b, setTg, Tg.slots, setMany, fldIx, toOwned, datOf, m1, m2, fb, fTup_n]; done) | (simp (decide := true) [execSs, execS, evalE, evalAs, evalEs, evalP, evalI, slot, insOk, atPl, M.at, M.kids, M.kind, nodupB, Ag.roots, Ag.flat, As.vals, E.pure, Es.pure, As.pure, Path.pure, argMs, Mi.callEnd, backAs, putPl, M.put, M.setKid, M.toD, viewE, D.hard, D.hard.hards, datsOf, onDat, outD, fSub_i, fAddI_i, fAddX_i, fLt_i, fLe_i, fGt_i, fGe_i, fEq_i, fEq_s, fEq_b, fNe_i, fNe_s, fNe_b, fNot_b, fNeg_i, fIx_l, fIx_t, fLen_l, fLen_t, fIsi_int_i, fIsi_bool_i, fIsi_bool_b, setTg, Tg.slots, setMany, fldIx, toOwned, datOf, m1, m2, fb, fTup_n]; rfl))
theorem count_h1 {mm n mx : Int} : evalEs C [] (.cons (.var 0) .nil) [some (.dat (.int mm)), some (.dat (.int n)), some (.dat (.int mx)), some (.dat (.int 0)), none, none, none] = .ok [.dat (.int mm)] [some (.dat (.int mm)), some (.dat (.int n)), some (.dat (.int mx)), some (.dat (.int 0)), none, none, none] := by
  simp (decide := true) [execSs, execS, evalE, evalAs, evalEs, evalP, evalI, slot, insOk, atPl, M.at, M.kids, M.kind, nodupB, Ag.roots, Ag.flat, As.vals, E.pure, Es.pure, As.pure, Path.pure, argMs, Mi.callEnd, backAs, putPl, M.put, M.setKid, M.toD, viewE, D.hard, D.hard.hards, datsOf, onDat, outD, fSub_i, fAddI_i, fAddX_i, fLt_i, fLe_i, fGt_i, fGe_i, fEq_i, fEq_s, fEq_b, fNe_i, fNe_s, fNe_b, fNot_b, fNeg_i, fIx_l, fIx_t, fLen_l, fLen_t, fIsi_int_i, fIsi_bool_i, fIsi_bool_b, setTg, Tg.slots, setMany, fldIx, toOwned, datOf]
theorem count_pre {mm n mx : Int} : execSs sub C fn17.pin bigN fn17.body (startE fn17 [.dat (.int mm), .dat (.int n), .dat (.int mx)]) = execSs sub C fn17.pin bigN (tl fn17.body) [some (.dat (.int mm)), some (.dat (.int n)), some (.dat (.int mx)), some (.dat (.int 0)), none, none, none] := by
  unfold fn17
  refine (ex_nx (by first | (simp (decide := true) [execSs, execS, evalE, evalAs, evalEs, evalP, evalI, slot, insOk, atPl, M.at, M.kids, M.kind, nodupB, Ag.roots, Ag.flat, As.vals, E.pure, Es.pure, As.pure, Path.pure, argMs, Mi.callEnd, backAs, putPl, M.put, M.setKid, M.toD, viewE, D.hard, D.hard.hards, datsOf, onDat, outD, fSub_i, fAddI_i, fAddX_i, fLt_i, fLe_i, fGt_i, fGe_i, fEq_i, fEq_s, fEq_b, fNe_i, fNe_s, fNe_b, fNot_b, fNeg_i, fIx_l, fIx_t, fLen_l, fLen_t, fIsi_int_i, fIsi_bool_i, fIsi_bool_b, setTg, Tg.slots, setMany, fldIx, toOwned, datOf, startE]; done) | (simp (decide := true) [execSs, execS, evalE, evalAs, evalEs, evalP, evalI, slot, insOk, atPl, M.at, M.kids, M.kind, nodupB, Ag.roots, Ag.flat, As.vals, E.pure, Es.pure, As.pure, Path.pure, argMs, Mi.callEnd, backAs, putPl, M.put, M.setKid, M.toD, viewE, D.hard, D.hard.hards, datsOf, onDat, outD, fSub_i, fAddI_i, fAddX_i, fLt_i, fLe_i, fGt_i, fGe_i, fEq_i, fEq_s, fEq_b, fNe_i, fNe_s, fNe_b, fNot_b, fNeg_i, fIx_l, fIx_t, fLen_l, fLen_t, fIsi_int_i, fIsi_bool_i, fIsi_bool_b, setTg, Tg.slots, setMany, fldIx, toOwned, datOf, startE]; rfl))).trans ?_
  rfl
theorem count_walk {mx n : Int} {d many : Nat} (hm : many ≤ 300) (hd : d ≤ 300) (hnd : n ≤ 0 ∧ d = 0 ∨ n = d) : ∃ μ', execSs sub C fn17.pin bigN fn17.body (startE fn17 [.dat (.int (many : Nat)), .dat (.int n), .dat (.int mx)]) = .ret (.dat (dueC (foldC mx (repU (blU 0 d) many) 0) ((many : Int) * (7 * zN d)))) μ' := by
  have lp := forLoop_ex (t := .one 4) (b := execSs sub C [] bigN w17_2b) (g := fun _ b => toC (foldC mx (blU 0 d) b)) (S := fun (b : Int) μ => ∃ x4 x5' x6', μ = [some (.dat (.int (many : Nat))), some (.dat (.int n)), some (.dat (.int mx)), some (.dat (.int b)), x4, x5', x6'])
    (ds := (List.range many).map fun k => .int (0 + (k : Nat))) (i := 0) (a := 0) (μ := [some (.dat (.int (many : Nat))), some (.dat (.int n)), some (.dat (.int mx)), some (.dat (.int 0)), none, none, none]) ⟨none, none, none, rfl⟩ (by
      rintro j dd b μ hdd ⟨x4, x5', x6', rfl⟩
      refine ⟨_, rfl, ?_⟩
      have t := block_turn (C := C) (x0 := some (.dat (.int (many : Nat)))) (x4 := some (.dat dd)) (x5 := x5') (x6 := x6') (mx := mx) (b := b) (n := n) hd hnd
      cases q : toC (foldC mx (blU 0 d) b) with
      | error m => rw [q] at t; exact t
      | ok b1 =>
        rw [q] at t
        obtain ⟨y5, y6, t⟩ := t
        exact ⟨_, t, _, _, _, rfl⟩)
  rw [show ((List.range many).map fun k => D.int (0 + (k : Nat))).length = many by simp, fold_rep] at lp
  have rg := fRange1_len many (by omega)
  have pre := count_pre (C := C) (mm := (many : Int)) (n := n) (mx := mx)
  have h1 := count_h1 (C := C) (mm := (many : Int)) (n := n) (mx := mx)
  cases q : foldC mx (repU (blU 0 d) many) 0 with
  | error w =>
    rw [q] at lp
    obtain ⟨μ2, lp⟩ := lp
    refine ⟨μ2, pre.trans ?_⟩
    unfold fn17
    exact ex_ret (ex_for (ms := [.dat (.int (many : Nat))]) (ds := [.int (many : Nat)]) (xs := (List.range many).map fun i => .int (0 + (i : Nat))) rfl h1 rfl rg lp)
  | ok b1 =>
    rw [q] at lp
    obtain ⟨μ2, lp, x4, x5, x6, rfl⟩ := lp
    refine ⟨[some (.dat (.int (many : Nat))), some (.dat (.int n)), some (.dat (.int mx)), some (.dat (.int b1)), x4, x5, x6], pre.trans ?_⟩
    have ib : (if n < 1 then (1 : Int) else 0) = zN d := by unfold zN; split <;> split <;> omega
    have hz : zN d = 0 ∨ zN d = 1 := by unfold zN; split <;> simp
    have fin := count_fin (C := C) (mm := (many : Int)) (n := n) (mx := mx) (b1 := b1) (x4 := x4) (x5 := x5) (x6 := x6) hz ib
    refine Eq.trans ?_ fin
    unfold fn17
    exact ex_nx (ex_for (ms := [.dat (.int (many : Nat))]) (ds := [.int (many : Nat)]) (xs := (List.range many).map fun i => .int (0 + (i : Nat))) rfl h1 rfl rg lp)
end
theorem count_due (k : Nat) {mx n : Int} {d many : Nat} (hm : many ≤ 300) (hd : d ≤ 300) (hnd : n ≤ 0 ∧ d = 0 ∨ n = d) : callF sub tab bigN (k + 1) 17 [.dat (.int (many : Nat)), .dat (.int n), .dat (.int mx)] = .ok (.dat (dueC (foldC mx (repU (blU 0 d) many) 0) ((many : Int) * (7 * zN d)))) [none, none, none] := by
  obtain ⟨μ', e⟩ := count_walk (C := callF sub tab bigN k) (mx := mx) hm hd hnd
  exact call_ret (fn := fn17) rfl rfl e
end K16
namespace K16
open PySem L2 Mi
/-! ### asked -/
section
variable {C : Nat → List M → Mi.CR}
theorem asked_w {P N : D} {mx : Int} {r : M} (h : C 10 [.dat P, .dat N, .dat (.int mx)] = .ok r [none, none, none]) : execSs sub C fn18.pin bigN fn18.body (startE fn18 [.dat P, .dat N, .dat (.int mx)]) = .ret (.tup [.dat (.str ""), r]) [some (.dat P), some (.dat N), some (.dat (.int mx)), some (.dat (.str "")), none] := by
  unfold fn18
  refine (ex_nx (by first | (simp (decide := true) [execSs, execS, evalE, evalAs, evalEs, evalP, evalI, slot, insOk, atPl, M.at, M.kids, M.kind, nodupB, Ag.roots, Ag.flat, As.vals, E.pure, Es.pure, As.pure, Path.pure, argMs, Mi.callEnd, backAs, putPl, M.put, M.setKid, M.toD, viewE, D.hard, D.hard.hards, datsOf, onDat, outD, fSub_i, fAddI_i, fAddX_i, fLt_i, fLe_i, fGt_i, fGe_i, fEq_i, fEq_s, fEq_b, fNe_i, fNe_s, fNe_b, fNot_b, fNeg_i, fIx_l, fIx_t, fLen_l, fLen_t, fIsi_int_i, fIsi_bool_i, fIsi_bool_b, setTg, Tg.slots, setMany, fldIx, toOwned, datOf, startE]; done) | (simp (decide := true) [execSs, execS, evalE, evalAs, evalEs, evalP, evalI, slot, insOk, atPl, M.at, M.kids, M.kind, nodupB, Ag.roots, Ag.flat, As.vals, E.pure, Es.pure, As.pure, Path.pure, argMs, Mi.callEnd, backAs, putPl, M.put, M.setKid, M.toD, viewE, D.hard, D.hard.hards, datsOf, onDat, outD, fSub_i, fAddI_i, fAddX_i, fLt_i, fLe_i, fGt_i, fGe_i, fEq_i, fEq_s, fEq_b, fNe_i, fNe_s, fNe_b, fNot_b, fNeg_i, fIx_l, fIx_t, fLen_l, fLen_t, fIsi_int_i, fIsi_bool_i, fIsi_bool_b, setTg, Tg.slots, setMany, fldIx, toOwned, datOf, startE]; rfl))).trans ?_
  refine (ex_nx (by first | (simp (decide := true) [execSs, execS, evalE, evalAs, evalEs, evalP, evalI, slot, insOk, atPl, M.at, M.kids, M.kind, nodupB, Ag.roots, Ag.flat, As.vals, E.pure, Es.pure, As.pure, Path.pure, argMs, Mi.callEnd, backAs, putPl, M.put, M.setKid, M.toD, viewE, D.hard, D.hard.hards, datsOf, onDat, outD, fSub_i, fAddI_i, fAddX_i, fLt_i, fLe_i, fGt_i, fGe_i, fEq_i, fEq_s, fEq_b, fNe_i, fNe_s, fNe_b, fNot_b, fNeg_i, fIx_l, fIx_t, fLen_l, fLen_t, fIsi_int_i, fIsi_bool_i, fIsi_bool_b, setTg, Tg.slots, setMany, fldIx, toOwned, datOf]; done) | (simp (decide := true) [execSs, execS, evalE, evalAs, evalEs, evalP, evalI, slot, insOk, atPl, M.at, M.kids, M.kind, nodupB, Ag.roots, Ag.flat, As.vals, E.pure, Es.pure, As.pure, Path.pure, argMs, Mi.callEnd, backAs, putPl, M.put, M.setKid, M.toD, viewE, D.hard, D.hard.hards, datsOf, onDat, outD, fSub_i, fAddI_i, fAddX_i, fLt_i, fLe_i, fGt_i, fGe_i, fEq_i, fEq_s, fEq_b, fNe_i, fNe_s, fNe_b, fNot_b, fNeg_i, fIx_l, fIx_t, fLen_l, fLen_t, fIsi_int_i, fIsi_bool_i, fIsi_bool_b, setTg, Tg.slots, setMany, fldIx, toOwned, datOf]; rfl))).trans ?_
  refine (ex_nx (μ1 := [some (.dat P), some (.dat N), some (.dat (.int mx)), some (.dat (.str "")), some r]) ?_).trans ?_
  · show (match execSs sub C [] bigN w18_0b [some (.dat P), some (.dat N), some (.dat (.int mx)), some (.dat (.str "")), some (.dat .non)] with | .err c μ1 => execHs sub C [] bigN _ c μ1 | r => r) = _
    have e : execSs sub C [] bigN w18_0b [some (.dat P), some (.dat N), some (.dat (.int mx)), some (.dat (.str "")), some (.dat .non)] = .nx [some (.dat P), some (.dat N), some (.dat (.int mx)), some (.dat (.str "")), some r] := by
      unfold w18_0b
      refine ex_last ?_
      simp (decide := true) [execSs, execS, evalE, evalAs, evalEs, evalP, evalI, slot, insOk, atPl, M.at, M.kids, M.kind, nodupB, Ag.roots, Ag.flat, As.vals, E.pure, Es.pure, As.pure, Path.pure, argMs, Mi.callEnd, backAs, putPl, M.put, M.setKid, M.toD, viewE, D.hard, D.hard.hards, datsOf, onDat, outD, fSub_i, fAddI_i, fAddX_i, fLt_i, fLe_i, fGt_i, fGe_i, fEq_i, fEq_s, fEq_b, fNe_i, fNe_s, fNe_b, fNot_b, fNeg_i, fIx_l, fIx_t, fLen_l, fLen_t, fIsi_int_i, fIsi_bool_i, fIsi_bool_b, setTg, Tg.slots, setMany, fldIx, toOwned, datOf, As.app, consAs, h]
    rw [e]
  · refine ex_ret (by first | (simp (decide := true) [execSs, execS, evalE, evalAs, evalEs, evalP, evalI, slot, insOk, atPl, M.at, M.kids, M.kind, nodupB, Ag.roots, Ag.flat, As.vals, E.pure, Es.pure, As.pure, Path.pure, argMs, Mi.callEnd, backAs, putPl, M.put, M.setKid, M.toD, viewE, D.hard, D.hard.hards, datsOf, onDat, outD, fSub_i, fAddI_i, fAddX_i, fLt_i, fLe_i, fGt_i, fGe_i, fEq_i, fEq_s, fEq_b, fNe_i, fNe_s, fNe_b, fNot_b, fNeg_i, fIx_l, fIx_t, fLen_l, fLen_t, fIsi_int_i, fIsi_bool_i, fIsi_bool_b, setTg, Tg.slots, setMany, fldIx, toOwned, datOf, le_line]; done) | (simp (decide := true) [execSs, execS, evalE, evalAs, evalEs, evalP, evalI, slot, insOk, atPl, M.at, M.kids, M.kind, nodupB, Ag.roots, Ag.flat, As.vals, E.pure, Es.pure, As.pure, Path.pure, argMs, Mi.callEnd, backAs, putPl, M.put, M.setKid, M.toD, viewE, D.hard, D.hard.hards, datsOf, onDat, outD, fSub_i, fAddI_i, fAddX_i, fLt_i, fLe_i, fGt_i, fGe_i, fEq_i, fEq_s, fEq_b, fNe_i, fNe_s, fNe_b, fNot_b, fNeg_i, fIx_l, fIx_t, fLen_l, fLen_t, fIsi_int_i, fIsi_bool_i, fIsi_bool_b, setTg, Tg.slots, setMany, fldIx, toOwned, datOf, le_line]; rfl))
theorem sb1 : sub "TooGreat" "TooGreat" = true := by decide +kernel
theorem sb2 : sub "TooLong" "TooLong" = true := by decide +kernel
theorem sb3 : sub "TooLong" "TooGreat" = false := by decide +kernel
theorem sb4 : sub "TooLong" "Empty" = false := by decide +kernel
theorem sb5 : sub "TooDeep" "TooDeep" = true := by decide +kernel
theorem sb6 : sub "TooDeep" "TooGreat" = false := by decide +kernel
theorem sb7 : sub "TooDeep" "Empty" = false := by decide +kernel
theorem sb8 : sub "TooDeep" "TooLong" = false := by decide +kernel
def Wx (w : Str) : Prop := w = "long" ∨ w = "great" ∨ w = "deep"
theorem asked_x {P N : D} {mx : Int} {w : Str} (hw : Wx w) (h : C 10 [.dat P, .dat N, .dat (.int mx)] = .err (xc w) [none, none, none]) : execSs sub C fn18.pin bigN fn18.body (startE fn18 [.dat P, .dat N, .dat (.int mx)]) = .ret (.tup [.dat (.str w), .dat .non]) [some (.dat P), some (.dat N), some (.dat (.int mx)), some (.dat (.str w)), none] := by
  unfold fn18
  refine (ex_nx (by first | (simp (decide := true) [execSs, execS, evalE, evalAs, evalEs, evalP, evalI, slot, insOk, atPl, M.at, M.kids, M.kind, nodupB, Ag.roots, Ag.flat, As.vals, E.pure, Es.pure, As.pure, Path.pure, argMs, Mi.callEnd, backAs, putPl, M.put, M.setKid, M.toD, viewE, D.hard, D.hard.hards, datsOf, onDat, outD, fSub_i, fAddI_i, fAddX_i, fLt_i, fLe_i, fGt_i, fGe_i, fEq_i, fEq_s, fEq_b, fNe_i, fNe_s, fNe_b, fNot_b, fNeg_i, fIx_l, fIx_t, fLen_l, fLen_t, fIsi_int_i, fIsi_bool_i, fIsi_bool_b, setTg, Tg.slots, setMany, fldIx, toOwned, datOf, startE]; done) | (simp (decide := true) [execSs, execS, evalE, evalAs, evalEs, evalP, evalI, slot, insOk, atPl, M.at, M.kids, M.kind, nodupB, Ag.roots, Ag.flat, As.vals, E.pure, Es.pure, As.pure, Path.pure, argMs, Mi.callEnd, backAs, putPl, M.put, M.setKid, M.toD, viewE, D.hard, D.hard.hards, datsOf, onDat, outD, fSub_i, fAddI_i, fAddX_i, fLt_i, fLe_i, fGt_i, fGe_i, fEq_i, fEq_s, fEq_b, fNe_i, fNe_s, fNe_b, fNot_b, fNeg_i, fIx_l, fIx_t, fLen_l, fLen_t, fIsi_int_i, fIsi_bool_i, fIsi_bool_b, setTg, Tg.slots, setMany, fldIx, toOwned, datOf, startE]; rfl))).trans ?_
  refine (ex_nx (by first | (simp (decide := true) [execSs, execS, evalE, evalAs, evalEs, evalP, evalI, slot, insOk, atPl, M.at, M.kids, M.kind, nodupB, Ag.roots, Ag.flat, As.vals, E.pure, Es.pure, As.pure, Path.pure, argMs, Mi.callEnd, backAs, putPl, M.put, M.setKid, M.toD, viewE, D.hard, D.hard.hards, datsOf, onDat, outD, fSub_i, fAddI_i, fAddX_i, fLt_i, fLe_i, fGt_i, fGe_i, fEq_i, fEq_s, fEq_b, fNe_i, fNe_s, fNe_b, fNot_b, fNeg_i, fIx_l, fIx_t, fLen_l, fLen_t, fIsi_int_i, fIsi_bool_i, fIsi_bool_b, setTg, Tg.slots, setMany, fldIx, toOwned, datOf]; done) | (simp (decide := true) [execSs, execS, evalE, evalAs, evalEs, evalP, evalI, slot, insOk, atPl, M.at, M.kids, M.kind, nodupB, Ag.roots, Ag.flat, As.vals, E.pure, Es.pure, As.pure, Path.pure, argMs, Mi.callEnd, backAs, putPl, M.put, M.setKid, M.toD, viewE, D.hard, D.hard.hards, datsOf, onDat, outD, fSub_i, fAddI_i, fAddX_i, fLt_i, fLe_i, fGt_i, fGe_i, fEq_i, fEq_s, fEq_b, fNe_i, fNe_s, fNe_b, fNot_b, fNeg_i, fIx_l, fIx_t, fLen_l, fLen_t, fIsi_int_i, fIsi_bool_i, fIsi_bool_b, setTg, Tg.slots, setMany, fldIx, toOwned, datOf]; rfl))).trans ?_
  refine (ex_nx (μ1 := [some (.dat P), some (.dat N), some (.dat (.int mx)), some (.dat (.str w)), some (.dat .non)]) ?_).trans ?_
  · show (match execSs sub C [] bigN w18_0b [some (.dat P), some (.dat N), some (.dat (.int mx)), some (.dat (.str "")), some (.dat .non)] with | .err c μ1 => execHs sub C [] bigN _ c μ1 | r => r) = _
    have e : execSs sub C [] bigN w18_0b [some (.dat P), some (.dat N), some (.dat (.int mx)), some (.dat (.str "")), some (.dat .non)] = .err (xc w) [some (.dat P), some (.dat N), some (.dat (.int mx)), some (.dat (.str "")), some (.dat .non)] := by
      unfold w18_0b
      refine ex_er ?_
      simp (decide := true) [execSs, execS, evalE, evalAs, evalEs, evalP, evalI, slot, insOk, atPl, M.at, M.kids, M.kind, nodupB, Ag.roots, Ag.flat, As.vals, E.pure, Es.pure, As.pure, Path.pure, argMs, Mi.callEnd, backAs, putPl, M.put, M.setKid, M.toD, viewE, D.hard, D.hard.hards, datsOf, onDat, outD, fSub_i, fAddI_i, fAddX_i, fLt_i, fLe_i, fGt_i, fGe_i, fEq_i, fEq_s, fEq_b, fNe_i, fNe_s, fNe_b, fNot_b, fNeg_i, fIx_l, fIx_t, fLen_l, fLen_t, fIsi_int_i, fIsi_bool_i, fIsi_bool_b, setTg, Tg.slots, setMany, fldIx, toOwned, datOf, As.app, consAs, h]
    rw [e]
    rcases hw with rfl | rfl | rfl
    · have e0 : xc "long" = "TooLong" := rfl
      rw [e0]
      simp (decide := true) [execSs, execS, evalE, evalAs, evalEs, evalP, evalI, slot, insOk, atPl, M.at, M.kids, M.kind, nodupB, Ag.roots, Ag.flat, As.vals, E.pure, Es.pure, As.pure, Path.pure, argMs, Mi.callEnd, backAs, putPl, M.put, M.setKid, M.toD, viewE, D.hard, D.hard.hards, datsOf, onDat, outD, fSub_i, fAddI_i, fAddX_i, fLt_i, fLe_i, fGt_i, fGe_i, fEq_i, fEq_s, fEq_b, fNe_i, fNe_s, fNe_b, fNot_b, fNeg_i, fIx_l, fIx_t, fLen_l, fLen_t, fIsi_int_i, fIsi_bool_i, fIsi_bool_b, setTg, Tg.slots, setMany, fldIx, toOwned, datOf, execHs, sb2, sb3, sb4, Mi.Res.noErr]
    · have e0 : xc "great" = "TooGreat" := rfl
      rw [e0]
      simp (decide := true) [execSs, execS, evalE, evalAs, evalEs, evalP, evalI, slot, insOk, atPl, M.at, M.kids, M.kind, nodupB, Ag.roots, Ag.flat, As.vals, E.pure, Es.pure, As.pure, Path.pure, argMs, Mi.callEnd, backAs, putPl, M.put, M.setKid, M.toD, viewE, D.hard, D.hard.hards, datsOf, onDat, outD, fSub_i, fAddI_i, fAddX_i, fLt_i, fLe_i, fGt_i, fGe_i, fEq_i, fEq_s, fEq_b, fNe_i, fNe_s, fNe_b, fNot_b, fNeg_i, fIx_l, fIx_t, fLen_l, fLen_t, fIsi_int_i, fIsi_bool_i, fIsi_bool_b, setTg, Tg.slots, setMany, fldIx, toOwned, datOf, execHs, sb1, Mi.Res.noErr]
    · have e0 : xc "deep" = "TooDeep" := rfl
      rw [e0]
      simp (decide := true) [execSs, execS, evalE, evalAs, evalEs, evalP, evalI, slot, insOk, atPl, M.at, M.kids, M.kind, nodupB, Ag.roots, Ag.flat, As.vals, E.pure, Es.pure, As.pure, Path.pure, argMs, Mi.callEnd, backAs, putPl, M.put, M.setKid, M.toD, viewE, D.hard, D.hard.hards, datsOf, onDat, outD, fSub_i, fAddI_i, fAddX_i, fLt_i, fLe_i, fGt_i, fGe_i, fEq_i, fEq_s, fEq_b, fNe_i, fNe_s, fNe_b, fNot_b, fNeg_i, fIx_l, fIx_t, fLen_l, fLen_t, fIsi_int_i, fIsi_bool_i, fIsi_bool_b, setTg, Tg.slots, setMany, fldIx, toOwned, datOf, execHs, sb5, sb6, sb7, sb8, Mi.Res.noErr]
  · refine ex_ret (by first | (simp (decide := true) [execSs, execS, evalE, evalAs, evalEs, evalP, evalI, slot, insOk, atPl, M.at, M.kids, M.kind, nodupB, Ag.roots, Ag.flat, As.vals, E.pure, Es.pure, As.pure, Path.pure, argMs, Mi.callEnd, backAs, putPl, M.put, M.setKid, M.toD, viewE, D.hard, D.hard.hards, datsOf, onDat, outD, fSub_i, fAddI_i, fAddX_i, fLt_i, fLe_i, fGt_i, fGe_i, fEq_i, fEq_s, fEq_b, fNe_i, fNe_s, fNe_b, fNot_b, fNeg_i, fIx_l, fIx_t, fLen_l, fLen_t, fIsi_int_i, fIsi_bool_i, fIsi_bool_b, setTg, Tg.slots, setMany, fldIx, toOwned, datOf, le_line]; done) | (simp (decide := true) [execSs, execS, evalE, evalAs, evalEs, evalP, evalI, slot, insOk, atPl, M.at, M.kids, M.kind, nodupB, Ag.roots, Ag.flat, As.vals, E.pure, Es.pure, As.pure, Path.pure, argMs, Mi.callEnd, backAs, putPl, M.put, M.setKid, M.toD, viewE, D.hard, D.hard.hards, datsOf, onDat, outD, fSub_i, fAddI_i, fAddX_i, fLt_i, fLe_i, fGt_i, fGe_i, fEq_i, fEq_s, fEq_b, fNe_i, fNe_s, fNe_b, fNot_b, fNeg_i, fIx_l, fIx_t, fLen_l, fLen_t, fIsi_int_i, fIsi_bool_i, fIsi_bool_b, setTg, Tg.slots, setMany, fldIx, toOwned, datOf, le_line]; rfl))
end
theorem asked_ok (k : Nat) {P N : D} {mx : Int} {r : M} (h : callF sub tab bigN k 10 [.dat P, .dat N, .dat (.int mx)] = .ok r [none, none, none]) : callF sub tab bigN (k + 1) 18 [.dat P, .dat N, .dat (.int mx)] = .ok (.tup [.dat (.str ""), r]) [none, none, none] := call_ret (fn := fn18) rfl rfl (asked_w h)
theorem asked_er (k : Nat) {P N : D} {mx : Int} {w : Str} (hw : Wx w) (h : callF sub tab bigN k 10 [.dat P, .dat N, .dat (.int mx)] = .err (xc w) [none, none, none]) : callF sub tab bigN (k + 1) 18 [.dat P, .dat N, .dat (.int mx)] = .ok (.tup [.dat (.str w), .dat .non]) [none, none, none] := call_ret (fn := fn18) rfl rfl (asked_x hw h)
/-! ### the refusals' words -/
theorem stepE_wx {mx : Int} {p : Bool} {s : St} {w : Str} (h : stepE mx p s = .error w) : Wx w := by
  unfold stepE at h
  split at h
  · cases h; exact .inl rfl
  · split at h
    · split at h
      · cases h; exact .inr (.inl rfl)
      · cases h
    · cases h
theorem foldE_wx {mx : Int} : ∀ {xs : List Bool} {s : St} {w : Str}, foldE mx xs s = .error w → Wx w
  | [], s, w, h => by cases h
  | p :: r, s, w, h => by
    unfold foldE at h
    cases q : stepE mx p s with
    | error w' => rw [q] at h; cases h; exact stepE_wx q
    | ok s2 => rw [q] at h; exact foldE_wx h
theorem wholeE_wx {mx : Int} {many few : Nat} {w : Str} (h : wholeE mx many few = .error w) : Wx w := by
  unfold wholeE at h
  cases q : foldE mx (mEvs 8 ++ List.replicate many true) (0, []) with
  | error w' => rw [q] at h; cases h; exact foldE_wx q
  | ok s =>
    rw [q] at h
    dsimp only at h
    split at h
    · cases h; exact .inr (.inl rfl)
    · cases h
theorem stepC_wx {mx p : Int} {b : Int} {w : Str} (h : stepC mx p b = .error w) : Wx w := by
  unfold stepC at h
  split at h
  · cases h; exact .inl rfl
  · split at h
    · cases h; exact .inr (.inr rfl)
    · cases h
theorem foldC_wx {mx : Int} : ∀ {xs : List Int} {s : Int} {w : Str}, foldC mx xs s = .error w → Wx w
  | [], s, w, h => by cases h
  | p :: r, s, w, h => by
    unfold foldC at h
    cases q : stepC mx p s with
    | error w' => rw [q] at h; cases h; exact stepC_wx q
    | ok s2 => rw [q] at h; exact foldC_wx h
theorem wholeE_len {mx : Int} {many few : Nat} {s : St} (hf : few ≤ 7) (h : wholeE mx many few = .ok s) : s.2.length ≤ 600 := by
  unfold wholeE at h
  cases q : foldE mx (mEvs 8 ++ List.replicate many true) (0, []) with
  | error w' => rw [q] at h; cases h
  | ok s =>
    rw [q] at h
    have := foldE_len q (by simp)
    dsimp only at h
    split at h
    · cases h
    · cases h
      show (ascN few few ++ s.2).length ≤ 600
      rw [List.length_append, ascN_len]
      omega
/-! ### the runs -/
theorem noTf3 {a b c : Str × D} (h1 : b.1 ≠ a.1) (h2 : c.1 ≠ a.1) (h3 : c.1 ≠ b.1) : NoTf [a, b, c] := by
  refine ⟨fun q hq => ?_, fun q hq => ?_, fun q hq => (nomatch hq), trivial⟩
  · simp only [List.mem_cons, List.not_mem_nil, or_false] at hq
    rcases hq with rfl | rfl
    · exact h1
    · exact h2
  · simp only [List.mem_cons, List.not_mem_nil, or_false] at hq
    subst hq
    exact h3
theorem okL (many few : Nat) : FsOk (progL many few) := ⟨noTf3 (show ("eight" : Str) ≠ "main" by decide) (show ("more" : Str) ≠ "main" by decide) (show ("more" : Str) ≠ "eight" by decide), fun g hg => by
  simp only [progL, List.mem_cons, List.not_mem_nil, or_false] at hg
  rcases hg with rfl | rfl | rfl <;> simp [mainL, fEight, fMore]⟩
theorem okC (j : Nat) : FsOk (progC j) := ⟨noTf3 (show ("block" : Str) ≠ "down" by decide) (show ("main" : Str) ≠ "down" by decide) (show ("main" : Str) ≠ "block" by decide), fun g hg => by
  simp only [progC, List.mem_cons, List.not_mem_nil, or_false] at hg
  rcases hg with rfl | rfl | rfl <;> simp [mainC, fDown, fBlock]⟩
/-- the answer as the law sees it -/
def ansL (r : Except Str St) : M := match r with
  | .ok s => .tup [.dat (.str ""), .lst (dm (s.2.map .int))]
  | .error w => .tup [.dat (.str w), .dat .non]
def ansC (r : Except Str Int) (z : Int) : M := match r with
  | .ok _ => .tup [.dat (.str ""), .dat (.int z)]
  | .error w => .tup [.dat (.str w), .dat .non]
theorem PD_eq (fs : List Fn1) : PD fs = .lst ((fs.map Fn1.z).map Fun0.d) := by
  unfold PD
  rw [List.map_map]
  rfl
theorem run_list (k : Nat) (hk : 60 ≤ k) {mx : Int} {many few : Nat} (hm : many ≤ 7) (hf : few ≤ 7) : callF sub tab bigN (k + 4) 18 [.dat (PD (progL many few)), .dat (.lst []), .dat (.int mx)] = .ok (ansL (wholeE mx many few)) [none, none, none] := by
  have O := okL many few
  have c := mainL_ev (mx := mx) hm hf
  have ro : RunOk ((progL many few).map Fn1.z) (mainL many few).z [] := ⟨O.nf, List.mem_cons_self .., rfl, by simp [progL], by simp [mainL, Fn1.z]⟩
  rw [PD_eq]
  cases q : wholeE mx many few with
  | ok s =>
    rw [q] at c
    have c := ev_mono hk _ _ _ _ _ c
    have w := (ev_ok (mx := mx) O k).1 _ [] _ _ _ trivial c
    have hs := wholeE_len hf q
    exact asked_ok (k + 3) (run_ok (k := k + 1) (P := (progL many few).map Fn1.z) (m := (mainL many few).z) (vs := []) (mx := mx) (v := lv s.2) ro w (told_list k s.2 (by omega)))
  | error w =>
    rw [q] at c
    obtain ⟨b', u', c⟩ := c
    have c := ev_mono hk _ _ _ _ _ c
    have wk := (ev_ok (mx := mx) O k).1 _ [] _ _ _ trivial c
    exact asked_er (k + 3) (wholeE_wx q) (run_er (k := k + 1) (P := (progL many few).map Fn1.z) (m := (mainL many few).z) (vs := []) (mx := mx) (x := xc w) (c := cnt mx b' u') ro wk)
theorem run_count (k : Nat) (hk : 67 ≤ k) {mx n : Int} {j d : Nat} (hj : j ≤ 4) (hd : d ≤ 11) (hn : -30 ≤ n) (hnd : n ≤ 0 ∧ d = 0 ∨ n = d) : callF sub tab bigN (k + 4) 18 [.dat (PD (progC j)), .dat (.lst [.int n]), .dat (.int mx)] = .ok (ansC (foldC mx (repU (blU 0 d) (j + 1)) 0) (((j : Int) + 1) * (7 * zN d))) [none, none, none] := by
  have O := okC j
  have hE : getE "u" (putE "u" (Vl.num n) []) = some (.num n) := by rw [getE_put, if_pos rfl]
  have c := pm_ev (mx := mx) (j := j) (k := 17 + 4 * d) (Nat.le_refl _) (by omega) hn hnd hE j (b := 0) (by omega)
  have ro : RunOk ((progC j).map Fn1.z) (mainC j).z [.num n] := ⟨O.nf, List.mem_cons_of_mem _ (List.mem_cons_of_mem _ (List.mem_cons_self ..)), rfl, by simp [progC], by simp [mainC, Fn1.z]⟩
  have ne : NoTw (putE "u" (Vl.num n) []) := NoTw.put (e := []) trivial
  rw [PD_eq]
  cases q : foldC mx (repU (blU 0 d) (j + 1)) 0 with
  | ok s =>
    rw [q] at c
    have c := ev_mono (show 17 + 4 * d + 2 + j ≤ k by omega) _ _ _ _ _ c
    have w := (ev_ok (mx := mx) O k).1 _ _ _ _ _ ne c
    exact asked_ok (k + 3) (run_ok (k := k + 1) (P := (progC j).map Fn1.z) (m := (mainC j).z) (vs := [.num n]) (mx := mx) (v := .num (((j : Int) + 1) * (7 * zN d))) ro w (told_num (k + 1) _))
  | error w =>
    rw [q] at c
    obtain ⟨b', u', c⟩ := c
    have c := ev_mono (show 17 + 4 * d + 2 + j ≤ k by omega) _ _ _ _ _ c
    have wk := (ev_ok (mx := mx) O k).1 _ _ _ _ _ ne c
    exact asked_er (k + 3) (foldC_wx q) (run_er (k := k + 1) (P := (progC j).map Fn1.z) (m := (mainC j).z) (vs := [.num n]) (mx := mx) (x := xc w) (c := cnt mx b' u') ro wk)
end K16
namespace K16
open PySem L2 Mi
theorem ne_ansL {r : Except Str St} (h : ∀ w, r = .error w → Wx w) : fNe (ansL r).toD (dueL r) = some (.bl false) := by
  cases r with
  | ok s =>
    have e : (ansL (.ok s)).toD = .tup [.str "", .lst (s.2.map .int)] := by
      show D.tup [.str "", .lst (M.toDs _)] = _
      rw [toDs_map]
    rw [e]
    exact fNe_self ((Lay.str (by decide +kernel)).two (Lay.ints (n := 3) _)) (n := 5) (by omega)
  | error w =>
    have hw := h w rfl
    have sw : PyData.strOk w = true := by rcases hw with rfl | rfl | rfl <;> decide +kernel
    exact fNe_self ((Lay.str sw).two Lay.non) (n := 2) (by omega)
theorem ne_ansC {r : Except Str Int} {z : Int} (h : ∀ w, r = .error w → Wx w) : fNe (ansC r z).toD (dueC r z) = some (.bl false) := by
  cases r with
  | ok s => exact fNe_self (d := .tup [.str "", .int z]) ((Lay.str (by decide +kernel)).two Lay.int) (n := 2) (by omega)
  | error w =>
    have hw := h w rfl
    have sw : PyData.strOk w = true := by rcases hw with rfl | rfl | rfl <;> decide +kernel
    exact fNe_self ((Lay.str sw).two Lay.non) (n := 2) (by omega)
section
variable {C : Nat → List M → Mi.CR} {x0 x2 x3 x4 x5 x6 x7 x8 : Option M}
theorem even_turn {c nu mx ma fe : Int} {P DU : D} {F : M} (h11 : C 11 [.dat (.int c)] = .ok (.dat (.int nu)) [none]) (hmx : nu / 7 % 401 = mx) (hev : nu % 2 = 0) (hma : nu / 2807 % 8 = ma) (hfe : nu / 22456 % 8 = fe)
    (h14 : C 14 [.dat (.int ma), .dat (.int fe)] = .ok (.dat P) [none, none]) (h18 : C 18 [.dat P, .dat (.lst []), .dat (.int mx)] = .ok F [none, none, none]) (h16 : C 16 [.dat (.int ma), .dat (.int fe), .dat (.int mx)] = .ok (.dat DU) [none, none, none]) (hne : fNe F.toD DU = some (.bl false)) :
    execSs sub C [] bigN w19_0b [x0, some (.dat (.int c)), x2, x3, x4, x5, x6, x7, x8] = .nx [x0, some (.dat (.int c)), some (.dat (.int nu)), some (.dat (.int mx)), some (.dat (.int ma)), some (.dat (.int fe)), some F, some (.dat DU), x8] := by
  have m2 : fMod (.int nu) (.int 2) = some (.int (nu % 2)) := fMod_p (by decide)
  have d7 : fDivW (.int nu) (.int 7) = some (.int (nu / 7)) := fDivW_p (by decide) (by decide)
  have m401 : ∀ x, fMod (.int x) (.int 401) = some (.int (x % 401)) := fun x => fMod_p (by decide)
  have m8 : ∀ x, fMod (.int x) (.int 8) = some (.int (x % 8)) := fun x => fMod_p (by decide)
  have d1 : fDivW (.int nu) (.int 2807) = some (.int (nu / 2807)) := fDivW_p (by decide) (by decide)
  have d2 : fDivW (.int nu) (.int 22456) = some (.int (nu / 22456)) := fDivW_p (by decide) (by decide)
  unfold w19_0b
  refine (ex_nx (by first | (simp (decide := true) [execSs, execS, evalE, evalAs, evalEs, evalP, evalI, slot, insOk, atPl, M.at, M.kids, M.kind, nodupB, Ag.roots, Ag.flat, As.vals, E.pure, Es.pure, As.pure, Path.pure, argMs, Mi.callEnd, backAs, putPl, M.put, M.setKid, M.toD, viewE, D.hard, D.hard.hards, datsOf, onDat, outD, fSub_i, fAddI_i, fAddX_i, fLt_i, fLe_i, fGt_i, fGe_i, fEq_i, fEq_s, fEq_b, fNe_i, fNe_s, fNe_b, fNot_b, fNeg_i, fIx_l, fIx_t, fLen_l, fLen_t, fIsi_int_i, fIsi_bool_i, fIsi_bool_b, setTg, Tg.slots, setMany, fldIx, toOwned, datOf, h11]; done) | (simp (decide := true) [execSs, execS, evalE, evalAs, evalEs, evalP, evalI, slot, insOk, atPl, M.at, M.kids, M.kind, nodupB, Ag.roots, Ag.flat, As.vals, E.pure, Es.pure, As.pure, Path.pure, argMs, Mi.callEnd, backAs, putPl, M.put, M.setKid, M.toD, viewE, D.hard, D.hard.hards, datsOf, onDat, outD, fSub_i, fAddI_i, fAddX_i, fLt_i, fLe_i, fGt_i, fGe_i, fEq_i, fEq_s, fEq_b, fNe_i, fNe_s, fNe_b, fNot_b, fNeg_i, fIx_l, fIx_t, fLen_l, fLen_t, fIsi_int_i, fIsi_bool_i, fIsi_bool_b, setTg, Tg.slots, setMany, fldIx, toOwned, datOf, h11]; rfl))).trans ?_
  refine (ex_nx (by first | (simp (decide := true) [execSs, execS, evalE, evalAs, evalEs, evalP, evalI, slot, insOk, atPl, M.at, M.kids, M.kind, nodupB, Ag.roots, Ag.flat, As.vals, E.pure, Es.pure, As.pure, Path.pure, argMs, Mi.callEnd, backAs, putPl, M.put, M.setKid, M.toD, viewE, D.hard, D.hard.hards, datsOf, onDat, outD, fSub_i, fAddI_i, fAddX_i, fLt_i, fLe_i, fGt_i, fGe_i, fEq_i, fEq_s, fEq_b, fNe_i, fNe_s, fNe_b, fNot_b, fNeg_i, fIx_l, fIx_t, fLen_l, fLen_t, fIsi_int_i, fIsi_bool_i, fIsi_bool_b, setTg, Tg.slots, setMany, fldIx, toOwned, datOf, d7, m401, hmx]; done) | (simp (decide := true) [execSs, execS, evalE, evalAs, evalEs, evalP, evalI, slot, insOk, atPl, M.at, M.kids, M.kind, nodupB, Ag.roots, Ag.flat, As.vals, E.pure, Es.pure, As.pure, Path.pure, argMs, Mi.callEnd, backAs, putPl, M.put, M.setKid, M.toD, viewE, D.hard, D.hard.hards, datsOf, onDat, outD, fSub_i, fAddI_i, fAddX_i, fLt_i, fLe_i, fGt_i, fGe_i, fEq_i, fEq_s, fEq_b, fNe_i, fNe_s, fNe_b, fNot_b, fNeg_i, fIx_l, fIx_t, fLen_l, fLen_t, fIsi_int_i, fIsi_bool_i, fIsi_bool_b, setTg, Tg.slots, setMany, fldIx, toOwned, datOf, d7, m401, hmx]; rfl))).trans ?_
  refine (ex_nx (ite_t (μ1 := [x0, some (.dat (.int c)), some (.dat (.int nu)), some (.dat (.int mx)), x4, x5, x6, x7, x8]) (R := .nx [x0, some (.dat (.int c)), some (.dat (.int nu)), some (.dat (.int mx)), some (.dat (.int ma)), some (.dat (.int fe)), some F, some (.dat DU), x8]) (by simp (decide := true) [execSs, execS, evalE, evalAs, evalEs, evalP, evalI, slot, insOk, atPl, M.at, M.kids, M.kind, nodupB, Ag.roots, Ag.flat, As.vals, E.pure, Es.pure, As.pure, Path.pure, argMs, Mi.callEnd, backAs, putPl, M.put, M.setKid, M.toD, viewE, D.hard, D.hard.hards, datsOf, onDat, outD, fSub_i, fAddI_i, fAddX_i, fLt_i, fLe_i, fGt_i, fGe_i, fEq_i, fEq_s, fEq_b, fNe_i, fNe_s, fNe_b, fNot_b, fNeg_i, fIx_l, fIx_t, fLen_l, fLen_t, fIsi_int_i, fIsi_bool_i, fIsi_bool_b, setTg, Tg.slots, setMany, fldIx, toOwned, datOf, m2, hev]) ?_)).trans ?_
  · refine (ex_nx (by first | (simp (decide := true) [execSs, execS, evalE, evalAs, evalEs, evalP, evalI, slot, insOk, atPl, M.at, M.kids, M.kind, nodupB, Ag.roots, Ag.flat, As.vals, E.pure, Es.pure, As.pure, Path.pure, argMs, Mi.callEnd, backAs, putPl, M.put, M.setKid, M.toD, viewE, D.hard, D.hard.hards, datsOf, onDat, outD, fSub_i, fAddI_i, fAddX_i, fLt_i, fLe_i, fGt_i, fGe_i, fEq_i, fEq_s, fEq_b, fNe_i, fNe_s, fNe_b, fNot_b, fNeg_i, fIx_l, fIx_t, fLen_l, fLen_t, fIsi_int_i, fIsi_bool_i, fIsi_bool_b, setTg, Tg.slots, setMany, fldIx, toOwned, datOf, d1, m8, hma]; done) | (simp (decide := true) [execSs, execS, evalE, evalAs, evalEs, evalP, evalI, slot, insOk, atPl, M.at, M.kids, M.kind, nodupB, Ag.roots, Ag.flat, As.vals, E.pure, Es.pure, As.pure, Path.pure, argMs, Mi.callEnd, backAs, putPl, M.put, M.setKid, M.toD, viewE, D.hard, D.hard.hards, datsOf, onDat, outD, fSub_i, fAddI_i, fAddX_i, fLt_i, fLe_i, fGt_i, fGe_i, fEq_i, fEq_s, fEq_b, fNe_i, fNe_s, fNe_b, fNot_b, fNeg_i, fIx_l, fIx_t, fLen_l, fLen_t, fIsi_int_i, fIsi_bool_i, fIsi_bool_b, setTg, Tg.slots, setMany, fldIx, toOwned, datOf, d1, m8, hma]; rfl))).trans ?_
    refine (ex_nx (by first | (simp (decide := true) [execSs, execS, evalE, evalAs, evalEs, evalP, evalI, slot, insOk, atPl, M.at, M.kids, M.kind, nodupB, Ag.roots, Ag.flat, As.vals, E.pure, Es.pure, As.pure, Path.pure, argMs, Mi.callEnd, backAs, putPl, M.put, M.setKid, M.toD, viewE, D.hard, D.hard.hards, datsOf, onDat, outD, fSub_i, fAddI_i, fAddX_i, fLt_i, fLe_i, fGt_i, fGe_i, fEq_i, fEq_s, fEq_b, fNe_i, fNe_s, fNe_b, fNot_b, fNeg_i, fIx_l, fIx_t, fLen_l, fLen_t, fIsi_int_i, fIsi_bool_i, fIsi_bool_b, setTg, Tg.slots, setMany, fldIx, toOwned, datOf, d2, m8, hfe]; done) | (simp (decide := true) [execSs, execS, evalE, evalAs, evalEs, evalP, evalI, slot, insOk, atPl, M.at, M.kids, M.kind, nodupB, Ag.roots, Ag.flat, As.vals, E.pure, Es.pure, As.pure, Path.pure, argMs, Mi.callEnd, backAs, putPl, M.put, M.setKid, M.toD, viewE, D.hard, D.hard.hards, datsOf, onDat, outD, fSub_i, fAddI_i, fAddX_i, fLt_i, fLe_i, fGt_i, fGe_i, fEq_i, fEq_s, fEq_b, fNe_i, fNe_s, fNe_b, fNot_b, fNeg_i, fIx_l, fIx_t, fLen_l, fLen_t, fIsi_int_i, fIsi_bool_i, fIsi_bool_b, setTg, Tg.slots, setMany, fldIx, toOwned, datOf, d2, m8, hfe]; rfl))).trans ?_
    refine (ex_nx (by first | (simp (decide := true) [execSs, execS, evalE, evalAs, evalEs, evalP, evalI, slot, insOk, atPl, M.at, M.kids, M.kind, nodupB, Ag.roots, Ag.flat, As.vals, E.pure, Es.pure, As.pure, Path.pure, argMs, Mi.callEnd, backAs, putPl, M.put, M.setKid, M.toD, viewE, D.hard, D.hard.hards, datsOf, onDat, outD, fSub_i, fAddI_i, fAddX_i, fLt_i, fLe_i, fGt_i, fGe_i, fEq_i, fEq_s, fEq_b, fNe_i, fNe_s, fNe_b, fNot_b, fNeg_i, fIx_l, fIx_t, fLen_l, fLen_t, fIsi_int_i, fIsi_bool_i, fIsi_bool_b, setTg, Tg.slots, setMany, fldIx, toOwned, datOf, h14, h18, fLst_n]; done) | (simp (decide := true) [execSs, execS, evalE, evalAs, evalEs, evalP, evalI, slot, insOk, atPl, M.at, M.kids, M.kind, nodupB, Ag.roots, Ag.flat, As.vals, E.pure, Es.pure, As.pure, Path.pure, argMs, Mi.callEnd, backAs, putPl, M.put, M.setKid, M.toD, viewE, D.hard, D.hard.hards, datsOf, onDat, outD, fSub_i, fAddI_i, fAddX_i, fLt_i, fLe_i, fGt_i, fGe_i, fEq_i, fEq_s, fEq_b, fNe_i, fNe_s, fNe_b, fNot_b, fNeg_i, fIx_l, fIx_t, fLen_l, fLen_t, fIsi_int_i, fIsi_bool_i, fIsi_bool_b, setTg, Tg.slots, setMany, fldIx, toOwned, datOf, h14, h18, fLst_n]; rfl))).trans ?_
    refine ex_last ?_
    simp (decide := true) [execSs, execS, evalE, evalAs, evalEs, evalP, evalI, slot, insOk, atPl, M.at, M.kids, M.kind, nodupB, Ag.roots, Ag.flat, As.vals, E.pure, Es.pure, As.pure, Path.pure, argMs, Mi.callEnd, backAs, putPl, M.put, M.setKid, M.toD, viewE, D.hard, D.hard.hards, datsOf, onDat, outD, fSub_i, fAddI_i, fAddX_i, fLt_i, fLe_i, fGt_i, fGe_i, fEq_i, fEq_s, fEq_b, fNe_i, fNe_s, fNe_b, fNot_b, fNeg_i, fIx_l, fIx_t, fLen_l, fLen_t, fIsi_int_i, fIsi_bool_i, fIsi_bool_b, setTg, Tg.slots, setMany, fldIx, toOwned, datOf, h16]
  · refine ex_last ?_
    simp (decide := true) [execSs, execS, evalE, evalAs, evalEs, evalP, evalI, slot, insOk, atPl, M.at, M.kids, M.kind, nodupB, Ag.roots, Ag.flat, As.vals, E.pure, Es.pure, As.pure, Path.pure, argMs, Mi.callEnd, backAs, putPl, M.put, M.setKid, M.toD, viewE, D.hard, D.hard.hards, datsOf, onDat, outD, fSub_i, fAddI_i, fAddX_i, fLt_i, fLe_i, fGt_i, fGe_i, fEq_i, fEq_s, fEq_b, fNe_i, fNe_s, fNe_b, fNot_b, fNeg_i, fIx_l, fIx_t, fLen_l, fLen_t, fIsi_int_i, fIsi_bool_i, fIsi_bool_b, setTg, Tg.slots, setMany, fldIx, toOwned, datOf, hne, flat_b]
theorem odd_turn {c nu mx ma gi : Int} {P DU : D} {F : M} (h11 : C 11 [.dat (.int c)] = .ok (.dat (.int nu)) [none]) (hmx : nu / 7 % 401 = mx) (hev : ¬ nu % 2 = 0) (hma : 1 + nu / 2807 % 5 = ma) (hgi : nu / 14035 % 13 - 1 = gi)
    (h15 : C 15 [.dat (.int ma)] = .ok (.dat P) [none]) (h18 : C 18 [.dat P, .dat (.lst [.int gi]), .dat (.int mx)] = .ok F [none, none, none]) (h17 : C 17 [.dat (.int ma), .dat (.int gi), .dat (.int mx)] = .ok (.dat DU) [none, none, none]) (hne : fNe F.toD DU = some (.bl false)) :
    execSs sub C [] bigN w19_0b [x0, some (.dat (.int c)), x2, x3, x4, x5, x6, x7, x8] = .nx [x0, some (.dat (.int c)), some (.dat (.int nu)), some (.dat (.int mx)), some (.dat (.int ma)), x5, some F, some (.dat DU), some (.dat (.int gi))] := by
  have m2 : fMod (.int nu) (.int 2) = some (.int (nu % 2)) := fMod_p (by decide)
  have d7 : fDivW (.int nu) (.int 7) = some (.int (nu / 7)) := fDivW_p (by decide) (by decide)
  have m401 : ∀ x, fMod (.int x) (.int 401) = some (.int (x % 401)) := fun x => fMod_p (by decide)
  have m5 : ∀ x, fMod (.int x) (.int 5) = some (.int (x % 5)) := fun x => fMod_p (by decide)
  have m13 : ∀ x, fMod (.int x) (.int 13) = some (.int (x % 13)) := fun x => fMod_p (by decide)
  have d1 : fDivW (.int nu) (.int 2807) = some (.int (nu / 2807)) := fDivW_p (by decide) (by decide)
  have d2 : fDivW (.int nu) (.int 14035) = some (.int (nu / 14035)) := fDivW_p (by decide) (by decide)
  unfold w19_0b
  refine (ex_nx (by first | (simp (decide := true) [execSs, execS, evalE, evalAs, evalEs, evalP, evalI, slot, insOk, atPl, M.at, M.kids, M.kind, nodupB, Ag.roots, Ag.flat, As.vals, E.pure, Es.pure, As.pure, Path.pure, argMs, Mi.callEnd, backAs, putPl, M.put, M.setKid, M.toD, viewE, D.hard, D.hard.hards, datsOf, onDat, outD, fSub_i, fAddI_i, fAddX_i, fLt_i, fLe_i, fGt_i, fGe_i, fEq_i, fEq_s, fEq_b, fNe_i, fNe_s, fNe_b, fNot_b, fNeg_i, fIx_l, fIx_t, fLen_l, fLen_t, fIsi_int_i, fIsi_bool_i, fIsi_bool_b, setTg, Tg.slots, setMany, fldIx, toOwned, datOf, h11]; done) | (simp (decide := true) [execSs, execS, evalE, evalAs, evalEs, evalP, evalI, slot, insOk, atPl, M.at, M.kids, M.kind, nodupB, Ag.roots, Ag.flat, As.vals, E.pure, Es.pure, As.pure, Path.pure, argMs, Mi.callEnd, backAs, putPl, M.put, M.setKid, M.toD, viewE, D.hard, D.hard.hards, datsOf, onDat, outD, fSub_i, fAddI_i, fAddX_i, fLt_i, fLe_i, fGt_i, fGe_i, fEq_i, fEq_s, fEq_b, fNe_i, fNe_s, fNe_b, fNot_b, fNeg_i, fIx_l, fIx_t, fLen_l, fLen_t, fIsi_int_i, fIsi_bool_i, fIsi_bool_b, setTg, Tg.slots, setMany, fldIx, toOwned, datOf, h11]; rfl))).trans ?_
  refine (ex_nx (by first | (simp (decide := true) [execSs, execS, evalE, evalAs, evalEs, evalP, evalI, slot, insOk, atPl, M.at, M.kids, M.kind, nodupB, Ag.roots, Ag.flat, As.vals, E.pure, Es.pure, As.pure, Path.pure, argMs, Mi.callEnd, backAs, putPl, M.put, M.setKid, M.toD, viewE, D.hard, D.hard.hards, datsOf, onDat, outD, fSub_i, fAddI_i, fAddX_i, fLt_i, fLe_i, fGt_i, fGe_i, fEq_i, fEq_s, fEq_b, fNe_i, fNe_s, fNe_b, fNot_b, fNeg_i, fIx_l, fIx_t, fLen_l, fLen_t, fIsi_int_i, fIsi_bool_i, fIsi_bool_b, setTg, Tg.slots, setMany, fldIx, toOwned, datOf, d7, m401, hmx]; done) | (simp (decide := true) [execSs, execS, evalE, evalAs, evalEs, evalP, evalI, slot, insOk, atPl, M.at, M.kids, M.kind, nodupB, Ag.roots, Ag.flat, As.vals, E.pure, Es.pure, As.pure, Path.pure, argMs, Mi.callEnd, backAs, putPl, M.put, M.setKid, M.toD, viewE, D.hard, D.hard.hards, datsOf, onDat, outD, fSub_i, fAddI_i, fAddX_i, fLt_i, fLe_i, fGt_i, fGe_i, fEq_i, fEq_s, fEq_b, fNe_i, fNe_s, fNe_b, fNot_b, fNeg_i, fIx_l, fIx_t, fLen_l, fLen_t, fIsi_int_i, fIsi_bool_i, fIsi_bool_b, setTg, Tg.slots, setMany, fldIx, toOwned, datOf, d7, m401, hmx]; rfl))).trans ?_
  refine (ex_nx (ite_f (μ1 := [x0, some (.dat (.int c)), some (.dat (.int nu)), some (.dat (.int mx)), x4, x5, x6, x7, x8]) (R := .nx [x0, some (.dat (.int c)), some (.dat (.int nu)), some (.dat (.int mx)), some (.dat (.int ma)), x5, some F, some (.dat DU), some (.dat (.int gi))]) (by simp (decide := true) [execSs, execS, evalE, evalAs, evalEs, evalP, evalI, slot, insOk, atPl, M.at, M.kids, M.kind, nodupB, Ag.roots, Ag.flat, As.vals, E.pure, Es.pure, As.pure, Path.pure, argMs, Mi.callEnd, backAs, putPl, M.put, M.setKid, M.toD, viewE, D.hard, D.hard.hards, datsOf, onDat, outD, fSub_i, fAddI_i, fAddX_i, fLt_i, fLe_i, fGt_i, fGe_i, fEq_i, fEq_s, fEq_b, fNe_i, fNe_s, fNe_b, fNot_b, fNeg_i, fIx_l, fIx_t, fLen_l, fLen_t, fIsi_int_i, fIsi_bool_i, fIsi_bool_b, setTg, Tg.slots, setMany, fldIx, toOwned, datOf, m2, hev]) ?_)).trans ?_
  · refine (ex_nx (by first | (simp (decide := true) [execSs, execS, evalE, evalAs, evalEs, evalP, evalI, slot, insOk, atPl, M.at, M.kids, M.kind, nodupB, Ag.roots, Ag.flat, As.vals, E.pure, Es.pure, As.pure, Path.pure, argMs, Mi.callEnd, backAs, putPl, M.put, M.setKid, M.toD, viewE, D.hard, D.hard.hards, datsOf, onDat, outD, fSub_i, fAddI_i, fAddX_i, fLt_i, fLe_i, fGt_i, fGe_i, fEq_i, fEq_s, fEq_b, fNe_i, fNe_s, fNe_b, fNot_b, fNeg_i, fIx_l, fIx_t, fLen_l, fLen_t, fIsi_int_i, fIsi_bool_i, fIsi_bool_b, setTg, Tg.slots, setMany, fldIx, toOwned, datOf, d1, m5, hma]; done) | (simp (decide := true) [execSs, execS, evalE, evalAs, evalEs, evalP, evalI, slot, insOk, atPl, M.at, M.kids, M.kind, nodupB, Ag.roots, Ag.flat, As.vals, E.pure, Es.pure, As.pure, Path.pure, argMs, Mi.callEnd, backAs, putPl, M.put, M.setKid, M.toD, viewE, D.hard, D.hard.hards, datsOf, onDat, outD, fSub_i, fAddI_i, fAddX_i, fLt_i, fLe_i, fGt_i, fGe_i, fEq_i, fEq_s, fEq_b, fNe_i, fNe_s, fNe_b, fNot_b, fNeg_i, fIx_l, fIx_t, fLen_l, fLen_t, fIsi_int_i, fIsi_bool_i, fIsi_bool_b, setTg, Tg.slots, setMany, fldIx, toOwned, datOf, d1, m5, hma]; rfl))).trans ?_
    refine (ex_nx (by first | (simp (decide := true) [execSs, execS, evalE, evalAs, evalEs, evalP, evalI, slot, insOk, atPl, M.at, M.kids, M.kind, nodupB, Ag.roots, Ag.flat, As.vals, E.pure, Es.pure, As.pure, Path.pure, argMs, Mi.callEnd, backAs, putPl, M.put, M.setKid, M.toD, viewE, D.hard, D.hard.hards, datsOf, onDat, outD, fSub_i, fAddI_i, fAddX_i, fLt_i, fLe_i, fGt_i, fGe_i, fEq_i, fEq_s, fEq_b, fNe_i, fNe_s, fNe_b, fNot_b, fNeg_i, fIx_l, fIx_t, fLen_l, fLen_t, fIsi_int_i, fIsi_bool_i, fIsi_bool_b, setTg, Tg.slots, setMany, fldIx, toOwned, datOf, d2, m13, hgi]; done) | (simp (decide := true) [execSs, execS, evalE, evalAs, evalEs, evalP, evalI, slot, insOk, atPl, M.at, M.kids, M.kind, nodupB, Ag.roots, Ag.flat, As.vals, E.pure, Es.pure, As.pure, Path.pure, argMs, Mi.callEnd, backAs, putPl, M.put, M.setKid, M.toD, viewE, D.hard, D.hard.hards, datsOf, onDat, outD, fSub_i, fAddI_i, fAddX_i, fLt_i, fLe_i, fGt_i, fGe_i, fEq_i, fEq_s, fEq_b, fNe_i, fNe_s, fNe_b, fNot_b, fNeg_i, fIx_l, fIx_t, fLen_l, fLen_t, fIsi_int_i, fIsi_bool_i, fIsi_bool_b, setTg, Tg.slots, setMany, fldIx, toOwned, datOf, d2, m13, hgi]; rfl))).trans ?_
    refine (ex_nx (by first | (simp (decide := true) [execSs, execS, evalE, evalAs, evalEs, evalP, evalI, slot, insOk, atPl, M.at, M.kids, M.kind, nodupB, Ag.roots, Ag.flat, As.vals, E.pure, Es.pure, As.pure, Path.pure, argMs, Mi.callEnd, backAs, putPl, M.put, M.setKid, M.toD, viewE, D.hard, D.hard.hards, datsOf, onDat, outD, fSub_i, fAddI_i, fAddX_i, fLt_i, fLe_i, fGt_i, fGe_i, fEq_i, fEq_s, fEq_b, fNe_i, fNe_s, fNe_b, fNot_b, fNeg_i, fIx_l, fIx_t, fLen_l, fLen_t, fIsi_int_i, fIsi_bool_i, fIsi_bool_b, setTg, Tg.slots, setMany, fldIx, toOwned, datOf, h15, h18, fLst_n]; done) | (simp (decide := true) [execSs, execS, evalE, evalAs, evalEs, evalP, evalI, slot, insOk, atPl, M.at, M.kids, M.kind, nodupB, Ag.roots, Ag.flat, As.vals, E.pure, Es.pure, As.pure, Path.pure, argMs, Mi.callEnd, backAs, putPl, M.put, M.setKid, M.toD, viewE, D.hard, D.hard.hards, datsOf, onDat, outD, fSub_i, fAddI_i, fAddX_i, fLt_i, fLe_i, fGt_i, fGe_i, fEq_i, fEq_s, fEq_b, fNe_i, fNe_s, fNe_b, fNot_b, fNeg_i, fIx_l, fIx_t, fLen_l, fLen_t, fIsi_int_i, fIsi_bool_i, fIsi_bool_b, setTg, Tg.slots, setMany, fldIx, toOwned, datOf, h15, h18, fLst_n]; rfl))).trans ?_
    refine ex_last ?_
    simp (decide := true) [execSs, execS, evalE, evalAs, evalEs, evalP, evalI, slot, insOk, atPl, M.at, M.kids, M.kind, nodupB, Ag.roots, Ag.flat, As.vals, E.pure, Es.pure, As.pure, Path.pure, argMs, Mi.callEnd, backAs, putPl, M.put, M.setKid, M.toD, viewE, D.hard, D.hard.hards, datsOf, onDat, outD, fSub_i, fAddI_i, fAddX_i, fLt_i, fLe_i, fGt_i, fGe_i, fEq_i, fEq_s, fEq_b, fNe_i, fNe_s, fNe_b, fNot_b, fNeg_i, fIx_l, fIx_t, fLen_l, fLen_t, fIsi_int_i, fIsi_bool_i, fIsi_bool_b, setTg, Tg.slots, setMany, fldIx, toOwned, datOf, h17]
  · refine ex_last ?_
    simp (decide := true) [execSs, execS, evalE, evalAs, evalEs, evalP, evalI, slot, insOk, atPl, M.at, M.kids, M.kind, nodupB, Ag.roots, Ag.flat, As.vals, E.pure, Es.pure, As.pure, Path.pure, argMs, Mi.callEnd, backAs, putPl, M.put, M.setKid, M.toD, viewE, D.hard, D.hard.hards, datsOf, onDat, outD, fSub_i, fAddI_i, fAddX_i, fLt_i, fLe_i, fGt_i, fGe_i, fEq_i, fEq_s, fEq_b, fNe_i, fNe_s, fNe_b, fNot_b, fNeg_i, fIx_l, fIx_t, fLen_l, fLen_t, fIsi_int_i, fIsi_bool_i, fIsi_bool_b, setTg, Tg.slots, setMany, fldIx, toOwned, datOf, hne, flat_b]
theorem lawfin {L : List D} {xs : List D} {μ' : Mi.Env} {y : Option M} (hs : fSlL [.lst L, .non, .int 12] = some (.lst xs)) (hadd : fAddX (.lst [.int 0]) (.lst xs) = some (.lst (.int 0 :: xs)))
    (lp : forLoop (.one 1) (execSs sub C [] bigN w19_0b) (.int 0 :: xs) [some (.dat (.lst L)), none, none, none, none, none, none, none, none] = .nx μ') :
    execSs sub C fn19.pin bigN fn19.body (startE fn19 [.dat (.lst L)]) = .ret (.dat (.bl true)) μ' := by
  have sq : fSeq [.lst (.int 0 :: xs)] = some (.int 0 :: xs) := rfl
  unfold fn19
  refine (ex_nx (ex_for (ms := [.dat (.lst (.int 0 :: xs))]) (μ1 := [some (.dat (.lst L)), none, none, none, none, none, none, none, none]) (ds := [.lst (.int 0 :: xs)]) rfl (by simp (decide := true) [execSs, execS, evalE, evalAs, evalEs, evalP, evalI, slot, insOk, atPl, M.at, M.kids, M.kind, nodupB, Ag.roots, Ag.flat, As.vals, E.pure, Es.pure, As.pure, Path.pure, argMs, Mi.callEnd, backAs, putPl, M.put, M.setKid, M.toD, viewE, D.hard, D.hard.hards, datsOf, onDat, outD, fSub_i, fAddI_i, fAddX_i, fLt_i, fLe_i, fGt_i, fGe_i, fEq_i, fEq_s, fEq_b, fNe_i, fNe_s, fNe_b, fNot_b, fNeg_i, fIx_l, fIx_t, fLen_l, fLen_t, fIsi_int_i, fIsi_bool_i, fIsi_bool_b, setTg, Tg.slots, setMany, fldIx, toOwned, datOf, startE, fLst_n, fI, hs, hadd]) rfl sq lp)).trans ?_
  refine ex_ret (by first | (simp (decide := true) [execSs, execS, evalE, evalAs, evalEs, evalP, evalI, slot, insOk, atPl, M.at, M.kids, M.kind, nodupB, Ag.roots, Ag.flat, As.vals, E.pure, Es.pure, As.pure, Path.pure, argMs, Mi.callEnd, backAs, putPl, M.put, M.setKid, M.toD, viewE, D.hard, D.hard.hards, datsOf, onDat, outD, fSub_i, fAddI_i, fAddX_i, fLt_i, fLe_i, fGt_i, fGe_i, fEq_i, fEq_s, fEq_b, fNe_i, fNe_s, fNe_b, fNot_b, fNeg_i, fIx_l, fIx_t, fLen_l, fLen_t, fIsi_int_i, fIsi_bool_i, fIsi_bool_b, setTg, Tg.slots, setMany, fldIx, toOwned, datOf]; done) | (simp (decide := true) [execSs, execS, evalE, evalAs, evalEs, evalP, evalI, slot, insOk, atPl, M.at, M.kids, M.kind, nodupB, Ag.roots, Ag.flat, As.vals, E.pure, Es.pure, As.pure, Path.pure, argMs, Mi.callEnd, backAs, putPl, M.put, M.setKid, M.toD, viewE, D.hard, D.hard.hards, datsOf, onDat, outD, fSub_i, fAddI_i, fAddX_i, fLt_i, fLe_i, fGt_i, fGe_i, fEq_i, fEq_s, fEq_b, fNe_i, fNe_s, fNe_b, fNot_b, fNeg_i, fIx_l, fIx_t, fLen_l, fLen_t, fIsi_int_i, fIsi_bool_i, fIsi_bool_b, setTg, Tg.slots, setMany, fldIx, toOwned, datOf]; rfl))
end
theorem fAddX_l {xs ys : List D} (h : xs.length + ys.length ≤ 1000) : fAddX (.lst xs) (.lst ys) = some (.lst (xs ++ ys)) := by
  show fAddL (.lst xs) (.lst ys) = _
  unfold fAddL
  dsimp only
  rw [if_pos (Nat.le_trans h (by decide))]
theorem turn_any {c : Int} {x0 x2 x3 x4 x5 x6 x7 x8 : Option M} : ∃ y2 y3 y4 y5 y6 y7 y8, execSs sub (callF sub tab bigN 75) [] bigN w19_0b [x0, some (.dat (.int c)), x2, x3, x4, x5, x6, x7, x8] = .nx [x0, some (.dat (.int c)), y2, y3, y4, y5, y6, y7, y8] := by
  have h11 := mixed 74 c
  generalize mix c = nu at *
  by_cases hev : nu % 2 = 0
  · obtain ⟨ma, hma, hm'⟩ : ∃ ma : Nat, ma ≤ 7 ∧ nu / 2807 % 8 = (ma : Int) := ⟨(nu / 2807 % 8).toNat, by omega, by omega⟩
    obtain ⟨fe, hfe, hf'⟩ : ∃ fe : Nat, fe ≤ 7 ∧ nu / 22456 % 8 = (fe : Int) := ⟨(nu / 22456 % 8).toNat, by omega, by omega⟩
    exact ⟨_, _, _, _, _, _, _, even_turn h11 rfl hev hm' hf' (lists_ok 73 (by omega) (by omega)) (run_list 71 (by omega) hma hfe) (due_ok 74 hma hfe) (ne_ansL fun w h => wholeE_wx h)⟩
  · obtain ⟨j, hj, hj'⟩ : ∃ j : Nat, j ≤ 4 ∧ nu / 2807 % 5 = (j : Int) := ⟨(nu / 2807 % 5).toNat, by omega, by omega⟩
    obtain ⟨g, hg⟩ : ∃ g : Int, nu / 14035 % 13 - 1 = g := ⟨_, rfl⟩
    have hg1 : -1 ≤ g ∧ g ≤ 11 := by omega
    have h17 := count_due 74 (mx := nu / 7 % 401) (n := g) (d := g.toNat) (many := j + 1) (by omega) (by omega) (by omega)
    have ej : ((j + 1 : Nat) : Int) = (j : Int) + 1 := by omega
    rw [ej] at h17
    exact ⟨_, _, _, _, _, _, _, odd_turn h11 rfl hev (show 1 + nu / 2807 % 5 = (j : Int) + 1 by omega) hg (counts_ok 74 (by omega)) (run_count 71 (by omega) (by omega) (by omega) (by omega) (by omega)) h17 (ne_ansC fun w h => foldC_wx h)⟩
theorem law_true (ns : List Int) (_ : ns.length ≤ 63) : ∃ outs, callF sub tab bigN 76 19 [.dat (.lst (ns.map .int))] = .ok (.dat (.bl true)) outs := by
  obtain ⟨ys, hs, hy⟩ := sl_upto (ns.map .int) 12 12 rfl
  rw [← List.map_take] at hy
  subst hy
  have lp := forLoop_inv (t := .one 1) (b := execSs sub (callF sub tab bigN 75) [] bigN w19_0b) (fun _ μ => ∃ x1 x2 x3 x4 x5 x6 x7 x8, μ = [some (.dat (.lst (ns.map .int))), x1, x2, x3, x4, x5, x6, x7, x8])
    (ds := .int 0 :: (ns.take 12).map .int) (i := 0) (μ := [some (.dat (.lst (ns.map .int))), none, none, none, none, none, none, none, none]) ⟨none, none, none, none, none, none, none, none, rfl⟩ (by
      rintro j d μ hd ⟨x1, x2, x3, x4, x5, x6, x7, x8, rfl⟩
      obtain ⟨c, rfl⟩ : ∃ c : Int, d = .int c := by
        have := List.mem_of_getElem? hd
        rcases List.mem_cons.mp this with rfl | h
        · exact ⟨0, rfl⟩
        · obtain ⟨c, _, rfl⟩ := List.mem_map.mp h
          exact ⟨c, rfl⟩
      obtain ⟨y2, y3, y4, y5, y6, y7, y8, e⟩ := turn_any (c := c) (x0 := some (.dat (.lst (ns.map .int)))) (x2 := x2) (x3 := x3) (x4 := x4) (x5 := x5) (x6 := x6) (x7 := x7) (x8 := x8)
      exact ⟨_, _, rfl, .inl e, _, y2, y3, y4, y5, y6, y7, y8, rfl⟩)
  obtain ⟨μ', lp, _⟩ := lp
  have hadd : fAddX (.lst [.int 0]) (.lst ((ns.take 12).map .int)) = some (.lst (.int 0 :: (ns.take 12).map .int)) := fAddX_l (by simp; omega)
  exact ⟨_, call_ret (fn := fn19) rfl rfl (lawfin (y := none) hs hadd lp)⟩
end K16
namespace K16
open PySem L2 Mi
theorem all_mk {l : PySem.W.OpenLaw} {w : World} {K : PySem.W.Frag} {h : Heap} {mg : Str → Option Value} {fa f0 f1 f2 f3 f4 f5 f6 f7 f8 f9 f10 f11 f12 f13 f14 f15 f16 f17 f18 f19 C0 C1 C2 C3 C4 C5 : Addr} (X : K.In h) (G : h.Ns mainGlobals mg) (hfa : mg "law" = some (.ref fa))
    {tv_MOST_DEEP tv_MOST_SIZE tv_OVER : Nat}
    {tD10 : Addr} {toc10 : Value} {tod10 : Option Addr} {tt10 tn10 : Nat} {tsl10 : Array (Option Value)}
    {od0 an0 od1 an1 od2 an2 od3 an3 od4 an4 od5 an5 od6 an6 od7 an7 od8 an8 od9 an9 od10 an10 od11 an11 od12 an12 od13 an13 od14 an14 od15 an15 od16 an16 od17 an17 od18 an18 od19 an19 : Option Addr} {sl0 sl1 sl2 sl3 sl4 sl5 sl6 sl7 sl8 sl9 sl10 sl11 sl12 sl13 sl14 sl15 sl16 sl17 sl18 sl19 : Array (Option Value)} {oc0 kV0 dc0 pm0 cd0 ct0 oc1 kV1 dc1 pm1 cd1 ct1 oc2 kV2 dc2 pm2 cd2 ct2 oc3 kV3 dc3 pm3 cd3 ct3 oc4 kV4 dc4 pm4 cd4 ct4 oc5 kV5 dc5 pm5 cd5 ct5 oc6 kV6 dc6 pm6 cd6 ct6 oc7 kV7 dc7 pm7 cd7 ct7 oc8 kV8 dc8 pm8 cd8 ct8 oc9 kV9 dc9 pm9 cd9 ct9 oc10 kV10 dc10 pm10 cd10 ct10 oc11 kV11 dc11 pm11 cd11 ct11 oc12 kV12 dc12 pm12 cd12 ct12 oc13 kV13 dc13 pm13 cd13 ct13 oc14 kV14 dc14 pm14 cd14 ct14 oc15 kV15 dc15 pm15 cd15 ct15 oc16 kV16 dc16 pm16 cd16 ct16 oc17 kV17 dc17 pm17 cd17 ct17 oc18 kV18 dc18 pm18 cd18 ct18 oc19 kV19 dc19 pm19 cd19 ct19 : Value}
    (aC0 : PySem.W.nsIn K mainGlobals "Count" = some (some (.ref C0)))
    (aC1 : PySem.W.nsIn K mainGlobals "GateError" = some (some (.ref C1)))
    (aC2 : PySem.W.nsIn K mainGlobals "TooGreat" = some (some (.ref C2)))
    (aC3 : PySem.W.nsIn K mainGlobals "Empty" = some (some (.ref C3)))
    (aC4 : PySem.W.nsIn K mainGlobals "TooLong" = some (some (.ref C4)))
    (aC5 : PySem.W.nsIn K mainGlobals "TooDeep" = some (some (.ref C5)))
    (v_MOST_DEEP : PySem.W.nsIn K mainGlobals "MOST_DEEP" = some (some (.int 12 tv_MOST_DEEP)))
    (v_MOST_SIZE : PySem.W.nsIn K mainGlobals "MOST_SIZE" = some (some (.int 1000 tv_MOST_SIZE)))
    (v_OVER : PySem.W.nsIn K mainGlobals "OVER" = some (some (.int 1000000000000000000000000000000000000000000000000000000000000 tv_OVER)))
    (xq1 : PySem.W.excIn K C1 [.type "ValueError", .type "Exception", .type "BaseException", .type "object"] "ValueError.__new__" = true)
    (xk1 : PySem.W.keepIn K (.ref C1) = true)
    (xs1 : PySem.W.subIn K (.ref C1) (.type "BaseException") = some true)
    (xt1 : PySem.W.typeIn K (.ref C1) = some (.type "type"))
    (xd1 : PySem.W.hasDictIn K C1 = true)
    (xp1_1 : PySem.W.subIn K (.ref C1) (.ref C1) = some true)
    (xp1_2 : PySem.W.subIn K (.ref C1) (.ref C2) = some false)
    (xp1_3 : PySem.W.subIn K (.ref C1) (.ref C3) = some false)
    (xp1_4 : PySem.W.subIn K (.ref C1) (.ref C4) = some false)
    (xp1_5 : PySem.W.subIn K (.ref C1) (.ref C5) = some false)
    (xq2 : PySem.W.excIn K C2 [.type "ValueError", .type "Exception", .type "BaseException", .type "object"] "ValueError.__new__" = true)
    (xk2 : PySem.W.keepIn K (.ref C2) = true)
    (xs2 : PySem.W.subIn K (.ref C2) (.type "BaseException") = some true)
    (xt2 : PySem.W.typeIn K (.ref C2) = some (.type "type"))
    (xd2 : PySem.W.hasDictIn K C2 = true)
    (xp2_1 : PySem.W.subIn K (.ref C2) (.ref C1) = some true)
    (xp2_2 : PySem.W.subIn K (.ref C2) (.ref C2) = some true)
    (xp2_3 : PySem.W.subIn K (.ref C2) (.ref C3) = some false)
    (xp2_4 : PySem.W.subIn K (.ref C2) (.ref C4) = some false)
    (xp2_5 : PySem.W.subIn K (.ref C2) (.ref C5) = some false)
    (xq3 : PySem.W.excIn K C3 [.type "ValueError", .type "Exception", .type "BaseException", .type "object"] "ValueError.__new__" = true)
    (xk3 : PySem.W.keepIn K (.ref C3) = true)
    (xs3 : PySem.W.subIn K (.ref C3) (.type "BaseException") = some true)
    (xt3 : PySem.W.typeIn K (.ref C3) = some (.type "type"))
    (xd3 : PySem.W.hasDictIn K C3 = true)
    (xp3_1 : PySem.W.subIn K (.ref C3) (.ref C1) = some true)
    (xp3_2 : PySem.W.subIn K (.ref C3) (.ref C2) = some false)
    (xp3_3 : PySem.W.subIn K (.ref C3) (.ref C3) = some true)
    (xp3_4 : PySem.W.subIn K (.ref C3) (.ref C4) = some false)
    (xp3_5 : PySem.W.subIn K (.ref C3) (.ref C5) = some false)
    (xq4 : PySem.W.excIn K C4 [.type "ValueError", .type "Exception", .type "BaseException", .type "object"] "ValueError.__new__" = true)
    (xk4 : PySem.W.keepIn K (.ref C4) = true)
    (xs4 : PySem.W.subIn K (.ref C4) (.type "BaseException") = some true)
    (xt4 : PySem.W.typeIn K (.ref C4) = some (.type "type"))
    (xd4 : PySem.W.hasDictIn K C4 = true)
    (xp4_1 : PySem.W.subIn K (.ref C4) (.ref C1) = some true)
    (xp4_2 : PySem.W.subIn K (.ref C4) (.ref C2) = some false)
    (xp4_3 : PySem.W.subIn K (.ref C4) (.ref C3) = some false)
    (xp4_4 : PySem.W.subIn K (.ref C4) (.ref C4) = some true)
    (xp4_5 : PySem.W.subIn K (.ref C4) (.ref C5) = some false)
    (xq5 : PySem.W.excIn K C5 [.type "ValueError", .type "Exception", .type "BaseException", .type "object"] "ValueError.__new__" = true)
    (xk5 : PySem.W.keepIn K (.ref C5) = true)
    (xs5 : PySem.W.subIn K (.ref C5) (.type "BaseException") = some true)
    (xt5 : PySem.W.typeIn K (.ref C5) = some (.type "type"))
    (xd5 : PySem.W.hasDictIn K C5 = true)
    (xp5_1 : PySem.W.subIn K (.ref C5) (.ref C1) = some true)
    (xp5_2 : PySem.W.subIn K (.ref C5) (.ref C2) = some false)
    (xp5_3 : PySem.W.subIn K (.ref C5) (.ref C3) = some false)
    (xp5_4 : PySem.W.subIn K (.ref C5) (.ref C4) = some false)
    (xp5_5 : PySem.W.subIn K (.ref C5) (.ref C5) = some true)
    (a0 : PySem.W.findIn K (.ref C0) "__init__" = some (some (.ref f0)))
    (i0 : PySem.W.isFn K (.ref f0) = true)
    (l0 : K.lookup f0 = some ⟨oc0, od0, .func (PySem.W.fnOf "__init__" "Count.__init__" (defArgs s0) (defBody s0) (defScope s0) .none kV0 dc0 pm0 an0 cd0 ct0), sl0⟩)
    (c0 : PySem.W.codeIn K cd0 "Count.__init__" = true)
    (k0 : PySem.W.keepIn K (.ref f0) = true)
    (a1 : PySem.W.findIn K (.ref C0) "begin" = some (some (.ref f1)))
    (i1 : PySem.W.isFn K (.ref f1) = true)
    (l1 : K.lookup f1 = some ⟨oc1, od1, .func (PySem.W.fnOf "begin" "Count.begin" (defArgs s1) (defBody s1) (defScope s1) .none kV1 dc1 pm1 an1 cd1 ct1), sl1⟩)
    (c1 : PySem.W.codeIn K cd1 "Count.begin" = true)
    (k1 : PySem.W.keepIn K (.ref f1) = true)
    (a2 : PySem.W.findIn K (.ref C0) "end" = some (some (.ref f2)))
    (i2 : PySem.W.isFn K (.ref f2) = true)
    (l2 : K.lookup f2 = some ⟨oc2, od2, .func (PySem.W.fnOf "end" "Count.end" (defArgs s2) (defBody s2) (defScope s2) .none kV2 dc2 pm2 an2 cd2 ct2), sl2⟩)
    (c2 : PySem.W.codeIn K cd2 "Count.end" = true)
    (k2 : PySem.W.keepIn K (.ref f2) = true)
    (a3 : PySem.W.nsIn K mainGlobals "size_of" = some (some (.ref f3)))
    (l3 : K.lookup f3 = some ⟨oc3, od3, .func (PySem.W.fnOf "size_of" "size_of" (defArgs s3) (defBody s3) (defScope s3) .none kV3 dc3 pm3 an3 cd3 ct3), sl3⟩)
    (c3 : PySem.W.codeIn K cd3 "size_of" = true)
    (k3 : PySem.W.keepIn K (.ref f3) = true)
    (a4 : PySem.W.nsIn K mainGlobals "cell_of" = some (some (.ref f4)))
    (l4 : K.lookup f4 = some ⟨oc4, od4, .func (PySem.W.fnOf "cell_of" "cell_of" (defArgs s4) (defBody s4) (defScope s4) .none kV4 dc4 pm4 an4 cd4 ct4), sl4⟩)
    (c4 : PySem.W.codeIn K cd4 "cell_of" = true)
    (k4 : PySem.W.keepIn K (.ref f4) = true)
    (a5 : PySem.W.nsIn K mainGlobals "reckoned" = some (some (.ref f5)))
    (l5 : K.lookup f5 = some ⟨oc5, od5, .func (PySem.W.fnOf "reckoned" "reckoned" (defArgs s5) (defBody s5) (defScope s5) .none kV5 dc5 pm5 an5 cd5 ct5), sl5⟩)
    (c5 : PySem.W.codeIn K cd5 "reckoned" = true)
    (k5 : PySem.W.keepIn K (.ref f5) = true)
    (a6 : PySem.W.nsIn K mainGlobals "looked" = some (some (.ref f6)))
    (l6 : K.lookup f6 = some ⟨oc6, od6, .func (PySem.W.fnOf "looked" "looked" (defArgs s6) (defBody s6) (defScope s6) .none kV6 dc6 pm6 an6 cd6 ct6), sl6⟩)
    (c6 : PySem.W.codeIn K cd6 "looked" = true)
    (k6 : PySem.W.keepIn K (.ref f6) = true)
    (a7 : PySem.W.nsIn K mainGlobals "called" = some (some (.ref f7)))
    (l7 : K.lookup f7 = some ⟨oc7, od7, .func (PySem.W.fnOf "called" "called" (defArgs s7) (defBody s7) (defScope s7) .none kV7 dc7 pm7 an7 cd7 ct7), sl7⟩)
    (c7 : PySem.W.codeIn K cd7 "called" = true)
    (k7 : PySem.W.keepIn K (.ref f7) = true)
    (a8 : PySem.W.nsIn K mainGlobals "worked" = some (some (.ref f8)))
    (l8 : K.lookup f8 = some ⟨oc8, od8, .func (PySem.W.fnOf "worked" "worked" (defArgs s8) (defBody s8) (defScope s8) .none kV8 dc8 pm8 an8 cd8 ct8), sl8⟩)
    (c8 : PySem.W.codeIn K cd8 "worked" = true)
    (k8 : PySem.W.keepIn K (.ref f8) = true)
    (a9 : PySem.W.nsIn K mainGlobals "told" = some (some (.ref f9)))
    (l9 : K.lookup f9 = some ⟨oc9, od9, .func (PySem.W.fnOf "told" "told" (defArgs s9) (defBody s9) (defScope s9) .none kV9 dc9 pm9 an9 cd9 ct9), sl9⟩)
    (c9 : PySem.W.codeIn K cd9 "told" = true)
    (k9 : PySem.W.keepIn K (.ref f9) = true)
    (lt10 : K.lookup tD10 = some ⟨toc10, tod10, .seq #[.int 200 tt10] tn10, tsl10⟩)
    (a10 : PySem.W.nsIn K mainGlobals "plain_run" = some (some (.ref f10)))
    (l10 : K.lookup f10 = some ⟨oc10, od10, .func (PySem.W.fnOf "plain_run" "plain_run" (defArgs s10) (defBody s10) (defScope s10) (.ref tD10) kV10 dc10 pm10 an10 cd10 ct10), sl10⟩)
    (c10 : PySem.W.codeIn K cd10 "plain_run" = true)
    (k10 : PySem.W.keepIn K (.ref f10) = true)
    (a11 : PySem.W.nsIn K mainGlobals "_law_mixed" = some (some (.ref f11)))
    (l11 : K.lookup f11 = some ⟨oc11, od11, .func (PySem.W.fnOf "_law_mixed" "_law_mixed" (defArgs s11) (defBody s11) (defScope s11) .none kV11 dc11 pm11 an11 cd11 ct11), sl11⟩)
    (c11 : PySem.W.codeIn K cd11 "_law_mixed" = true)
    (k11 : PySem.W.keepIn K (.ref f11) = true)
    (a12 : PySem.W.nsIn K mainGlobals "_law_put" = some (some (.ref f12)))
    (l12 : K.lookup f12 = some ⟨oc12, od12, .func (PySem.W.fnOf "_law_put" "_law_put" (defArgs s12) (defBody s12) (defScope s12) .none kV12 dc12 pm12 an12 cd12 ct12), sl12⟩)
    (c12 : PySem.W.codeIn K cd12 "_law_put" = true)
    (k12 : PySem.W.keepIn K (.ref f12) = true)
    (a13 : PySem.W.nsIn K mainGlobals "_law_nested" = some (some (.ref f13)))
    (l13 : K.lookup f13 = some ⟨oc13, od13, .func (PySem.W.fnOf "_law_nested" "_law_nested" (defArgs s13) (defBody s13) (defScope s13) .none kV13 dc13 pm13 an13 cd13 ct13), sl13⟩)
    (c13 : PySem.W.codeIn K cd13 "_law_nested" = true)
    (k13 : PySem.W.keepIn K (.ref f13) = true)
    (a14 : PySem.W.nsIn K mainGlobals "_law_lists" = some (some (.ref f14)))
    (l14 : K.lookup f14 = some ⟨oc14, od14, .func (PySem.W.fnOf "_law_lists" "_law_lists" (defArgs s14) (defBody s14) (defScope s14) .none kV14 dc14 pm14 an14 cd14 ct14), sl14⟩)
    (c14 : PySem.W.codeIn K cd14 "_law_lists" = true)
    (k14 : PySem.W.keepIn K (.ref f14) = true)
    (a15 : PySem.W.nsIn K mainGlobals "_law_counts" = some (some (.ref f15)))
    (l15 : K.lookup f15 = some ⟨oc15, od15, .func (PySem.W.fnOf "_law_counts" "_law_counts" (defArgs s15) (defBody s15) (defScope s15) .none kV15 dc15 pm15 an15 cd15 ct15), sl15⟩)
    (c15 : PySem.W.codeIn K cd15 "_law_counts" = true)
    (k15 : PySem.W.keepIn K (.ref f15) = true)
    (a16 : PySem.W.nsIn K mainGlobals "_law_list_due" = some (some (.ref f16)))
    (l16 : K.lookup f16 = some ⟨oc16, od16, .func (PySem.W.fnOf "_law_list_due" "_law_list_due" (defArgs s16) (defBody s16) (defScope s16) .none kV16 dc16 pm16 an16 cd16 ct16), sl16⟩)
    (c16 : PySem.W.codeIn K cd16 "_law_list_due" = true)
    (k16 : PySem.W.keepIn K (.ref f16) = true)
    (a17 : PySem.W.nsIn K mainGlobals "_law_count_due" = some (some (.ref f17)))
    (l17 : K.lookup f17 = some ⟨oc17, od17, .func (PySem.W.fnOf "_law_count_due" "_law_count_due" (defArgs s17) (defBody s17) (defScope s17) .none kV17 dc17 pm17 an17 cd17 ct17), sl17⟩)
    (c17 : PySem.W.codeIn K cd17 "_law_count_due" = true)
    (k17 : PySem.W.keepIn K (.ref f17) = true)
    (a18 : PySem.W.nsIn K mainGlobals "_law_asked" = some (some (.ref f18)))
    (l18 : K.lookup f18 = some ⟨oc18, od18, .func (PySem.W.fnOf "_law_asked" "_law_asked" (defArgs s18) (defBody s18) (defScope s18) .none kV18 dc18 pm18 an18 cd18 ct18), sl18⟩)
    (c18 : PySem.W.codeIn K cd18 "_law_asked" = true)
    (k18 : PySem.W.keepIn K (.ref f18) = true)
    (a19 : PySem.W.nsIn K mainGlobals "law" = some (some (.ref f19)))
    (l19 : K.lookup f19 = some ⟨oc19, od19, .func (PySem.W.fnOf "law" "law" (defArgs s19) (defBody s19) (defScope s19) .none kV19 dc19 pm19 an19 cd19 ct19), sl19⟩)
    (c19 : PySem.W.codeIn K cd19 "law" = true)
    (k19 : PySem.W.keepIn K (.ref f19) = true)
    (pg0 : PySem.W.plainGet K C0 Str.empty = true)
    (hd0 : PySem.W.hasDictIn K C0 = true)
    (po0 : PySem.W.plainOver K C0 = true)
    (sa0 : PySem.W.findIn K (.ref C0) "__setattr__" = some (some (.builtin "object.__setattr__")))
    (mk0 : PySem.W.makesIn K C0 = true)
    (kc0 : PySem.W.keepIn K (.ref C0) = true)
    (n0_begun : PySem.W.findIn K (.ref C0) "begun" = some none)
    (n0_most : PySem.W.findIn K (.ref C0) "most" = some none)
    (n0_under : PySem.W.findIn K (.ref C0) "under" = some none)
    (z_abs : PySem.W.nsIn K mainGlobals "abs" = some none)
    (z_dict : PySem.W.nsIn K mainGlobals "dict" = some none)
    (z_int : PySem.W.nsIn K mainGlobals "int" = some none)
    (z_isinstance : PySem.W.nsIn K mainGlobals "isinstance" = some none)
    (z_len : PySem.W.nsIn K mainGlobals "len" = some none)
    (z_max : PySem.W.nsIn K mainGlobals "max" = some none)
    (z_range : PySem.W.nsIn K mainGlobals "range" = some none)
    (z_zip : PySem.W.nsIn K mainGlobals "zip" = some none)
    (hlaw : ∀ ns : List Int, ns.length ≤ 63 → ∃ outs, callF sub tab bigN 76 19 [.dat (.lst (ns.map .int))] = .ok (.dat (.bl true)) outs) :
    ∃ fd : FuncData, (∀ (s : Shared) (v : Value), BindsTo s fd ⟨[v], []⟩ [("script", v)]) ∧ ∀ base : Heap, K.In base → base.Ns mainGlobals mg → FnOk l.prog w K mg base (L2.CX l.prog w) 152 fa fd ["script"] (spLaw K) := by
  have e := hfa.symm.trans (PySem.W.mg_of X G a19)
  cases e
  have F0 := fun_mk (st := s0) l0 c0 k0
  have b0 := F0.binds (ps := ["self", "most"]) fun _ _ _ _ _ _ us hl => match us, hl with | [_, _], _ => rfl
  have F1 := fun_mk (st := s1) l1 c1 k1
  have b1 := F1.binds (ps := ["self"]) fun _ _ _ _ _ _ us hl => match us, hl with | [_], _ => rfl
  have F2 := fun_mk (st := s2) l2 c2 k2
  have b2 := F2.binds (ps := ["self"]) fun _ _ _ _ _ _ us hl => match us, hl with | [_], _ => rfl
  have F3 := fun_mk (st := s3) l3 c3 k3
  have b3 := F3.binds (ps := ["value"]) fun _ _ _ _ _ _ us hl => match us, hl with | [_], _ => rfl
  have F4 := fun_mk (st := s4) l4 c4 k4
  have b4 := F4.binds (ps := ["one", "other"]) fun _ _ _ _ _ _ us hl => match us, hl with | [_, _], _ => rfl
  have F5 := fun_mk (st := s5) l5 c5 k5
  have b5 := F5.binds (ps := ["word", "one", "other"]) fun _ _ _ _ _ _ us hl => match us, hl with | [_, _, _], _ => rfl
  have F6 := fun_mk (st := s6) l6 c6 k6
  have b6 := F6.binds (ps := ["word", "value"]) fun _ _ _ _ _ _ us hl => match us, hl with | [_, _], _ => rfl
  have F7 := fun_mk (st := s7) l7 c7 k7
  have b7 := F7.binds (ps := ["functions", "part", "names", "count"]) fun _ _ _ _ _ _ us hl => match us, hl with | [_, _, _, _], _ => rfl
  have F8 := fun_mk (st := s8) l8 c8 k8
  have b8 := F8.binds (ps := ["functions", "part", "names", "count"]) fun _ _ _ _ _ _ us hl => match us, hl with | [_, _, _, _], _ => rfl
  have F9 := fun_mk (st := s9) l9 c9 k9
  have b9 := F9.binds (ps := ["value", "kind"]) fun _ _ _ _ _ _ us hl => match us, hl with | [_, _], _ => rfl
  have F10 : FunD K "plain_run" "plain_run" (defArgs s10) (defBody s10) (defScope s10) [.int 200] [] f10 _ := ⟨⟨_, _, _, _, _, _, _, _, _, _, rfl, l10, c10, .inr ⟨by simp, _, _, _, _, rfl, lt10, rfl, vals_i⟩, .inl rfl⟩, k10⟩
  obtain ⟨ds10, vd10, b10⟩ := F10.binds1 (ps := ["program", "numbers", "most"]) 3 1 (by simp) rfl fun _ _ _ _ _ _ _ us its hu hi => match us, its, hu, hi with | [_, _, _], [_], _, _ => ⟨_, rfl, rfl⟩
  cases vd10
  have bd10 := F10.binds1 (ps := ["program", "numbers", "most"]) 2 0 (by simp) rfl fun _ _ _ _ _ _ _ us its hu hi => match us, its, hu, hi with | [_, _], [_], _, _ => ⟨_, rfl, rfl⟩
  have F11 := fun_mk (st := s11) l11 c11 k11
  have b11 := F11.binds (ps := ["cell"]) fun _ _ _ _ _ _ us hl => match us, hl with | [_], _ => rfl
  have F12 := fun_mk (st := s12) l12 c12 k12
  have b12 := F12.binds (ps := ["part", "many"]) fun _ _ _ _ _ _ us hl => match us, hl with | [_, _], _ => rfl
  have F13 := fun_mk (st := s13) l13 c13 k13
  have b13 := F13.binds (ps := ["name", "part", "many"]) fun _ _ _ _ _ _ us hl => match us, hl with | [_, _, _], _ => rfl
  have F14 := fun_mk (st := s14) l14 c14 k14
  have b14 := F14.binds (ps := ["many", "few"]) fun _ _ _ _ _ _ us hl => match us, hl with | [_, _], _ => rfl
  have F15 := fun_mk (st := s15) l15 c15 k15
  have b15 := F15.binds (ps := ["many"]) fun _ _ _ _ _ _ us hl => match us, hl with | [_], _ => rfl
  have F16 := fun_mk (st := s16) l16 c16 k16
  have b16 := F16.binds (ps := ["many", "few", "most"]) fun _ _ _ _ _ _ us hl => match us, hl with | [_, _, _], _ => rfl
  have F17 := fun_mk (st := s17) l17 c17 k17
  have b17 := F17.binds (ps := ["many", "number", "most"]) fun _ _ _ _ _ _ us hl => match us, hl with | [_, _, _], _ => rfl
  have F18 := fun_mk (st := s18) l18 c18 k18
  have b18 := F18.binds (ps := ["program", "numbers", "most"]) fun _ _ _ _ _ _ us hl => match us, hl with | [_, _, _], _ => rfl
  have F19 := fun_mk (st := s19) l19 c19 k19
  have b19 := F19.binds (ps := ["script"]) fun _ _ _ _ _ _ us hl => match us, hl with | [_], _ => rfl
  have T : Txt K mg (fun i => match i with | 0 => f0 | 1 => f1 | 2 => f2 | 3 => f3 | 4 => f4 | 5 => f5 | 6 => f6 | 7 => f7 | 8 => f8 | 9 => f9 | 10 => f10 | 11 => f11 | 12 => f12 | 13 => f13 | 14 => f14 | 15 => f15 | 16 => f16 | 17 => f17 | 18 => f18 | 19 => fa | _ => fa) (fun i => match i with | 0 => (PySem.W.fnOf "__init__" "Count.__init__" (defArgs s0) (defBody s0) (defScope s0) .none kV0 dc0 pm0 an0 cd0 ct0) | 1 => (PySem.W.fnOf "begin" "Count.begin" (defArgs s1) (defBody s1) (defScope s1) .none kV1 dc1 pm1 an1 cd1 ct1) | 2 => (PySem.W.fnOf "end" "Count.end" (defArgs s2) (defBody s2) (defScope s2) .none kV2 dc2 pm2 an2 cd2 ct2) | 3 => (PySem.W.fnOf "size_of" "size_of" (defArgs s3) (defBody s3) (defScope s3) .none kV3 dc3 pm3 an3 cd3 ct3) | 4 => (PySem.W.fnOf "cell_of" "cell_of" (defArgs s4) (defBody s4) (defScope s4) .none kV4 dc4 pm4 an4 cd4 ct4) | 5 => (PySem.W.fnOf "reckoned" "reckoned" (defArgs s5) (defBody s5) (defScope s5) .none kV5 dc5 pm5 an5 cd5 ct5) | 6 => (PySem.W.fnOf "looked" "looked" (defArgs s6) (defBody s6) (defScope s6) .none kV6 dc6 pm6 an6 cd6 ct6) | 7 => (PySem.W.fnOf "called" "called" (defArgs s7) (defBody s7) (defScope s7) .none kV7 dc7 pm7 an7 cd7 ct7) | 8 => (PySem.W.fnOf "worked" "worked" (defArgs s8) (defBody s8) (defScope s8) .none kV8 dc8 pm8 an8 cd8 ct8) | 9 => (PySem.W.fnOf "told" "told" (defArgs s9) (defBody s9) (defScope s9) .none kV9 dc9 pm9 an9 cd9 ct9) | 10 => (PySem.W.fnOf "plain_run" "plain_run" (defArgs s10) (defBody s10) (defScope s10) (.ref tD10) kV10 dc10 pm10 an10 cd10 ct10) | 11 => (PySem.W.fnOf "_law_mixed" "_law_mixed" (defArgs s11) (defBody s11) (defScope s11) .none kV11 dc11 pm11 an11 cd11 ct11) | 12 => (PySem.W.fnOf "_law_put" "_law_put" (defArgs s12) (defBody s12) (defScope s12) .none kV12 dc12 pm12 an12 cd12 ct12) | 13 => (PySem.W.fnOf "_law_nested" "_law_nested" (defArgs s13) (defBody s13) (defScope s13) .none kV13 dc13 pm13 an13 cd13 ct13) | 14 => (PySem.W.fnOf "_law_lists" "_law_lists" (defArgs s14) (defBody s14) (defScope s14) .none kV14 dc14 pm14 an14 cd14 ct14) | 15 => (PySem.W.fnOf "_law_counts" "_law_counts" (defArgs s15) (defBody s15) (defScope s15) .none kV15 dc15 pm15 an15 cd15 ct15) | 16 => (PySem.W.fnOf "_law_list_due" "_law_list_due" (defArgs s16) (defBody s16) (defScope s16) .none kV16 dc16 pm16 an16 cd16 ct16) | 17 => (PySem.W.fnOf "_law_count_due" "_law_count_due" (defArgs s17) (defBody s17) (defScope s17) .none kV17 dc17 pm17 an17 cd17 ct17) | 18 => (PySem.W.fnOf "_law_asked" "_law_asked" (defArgs s18) (defBody s18) (defScope s18) .none kV18 dc18 pm18 an18 cd18 ct18) | 19 => (PySem.W.fnOf "law" "law" (defArgs s19) (defBody s19) (defScope s19) .none kV19 dc19 pm19 an19 cd19 ct19) | _ => (PySem.W.fnOf "law" "law" (defArgs s19) (defBody s19) (defScope s19) .none kV19 dc19 pm19 an19 cd19 ct19)) (fun i => match i with | 0 => C0 | 1 => C1 | 2 => C2 | 3 => C3 | 4 => C4 | 5 => C5 | _ => C0) := {
    f0 := F0
    b0 := b0
    f1 := F1
    b1 := b1
    mt1 := ⟨a1, i1, k1⟩
    f2 := F2
    b2 := b2
    mt2 := ⟨a2, i2, k2⟩
    f3 := F3
    b3 := b3
    m3 := PySem.W.mg_of X G a3
    f4 := F4
    b4 := b4
    m4 := PySem.W.mg_of X G a4
    f5 := F5
    b5 := b5
    m5 := PySem.W.mg_of X G a5
    f6 := F6
    b6 := b6
    m6 := PySem.W.mg_of X G a6
    f7 := F7
    b7 := b7
    m7 := PySem.W.mg_of X G a7
    f8 := F8
    b8 := b8
    m8 := PySem.W.mg_of X G a8
    f9 := F9
    b9 := b9
    m9 := PySem.W.mg_of X G a9
    f10 := F10
    b10 := b10
    bd10 := bd10
    m10 := PySem.W.mg_of X G a10
    f11 := F11
    b11 := b11
    m11 := PySem.W.mg_of X G a11
    f12 := F12
    b12 := b12
    m12 := PySem.W.mg_of X G a12
    f13 := F13
    b13 := b13
    m13 := PySem.W.mg_of X G a13
    f14 := F14
    b14 := b14
    m14 := PySem.W.mg_of X G a14
    f15 := F15
    b15 := b15
    m15 := PySem.W.mg_of X G a15
    f16 := F16
    b16 := b16
    m16 := PySem.W.mg_of X G a16
    f17 := F17
    b17 := b17
    m17 := PySem.W.mg_of X G a17
    f18 := F18
    b18 := b18
    m18 := PySem.W.mg_of X G a18
    f19 := F19
    b19 := b19
    m19 := PySem.W.mg_of X G a19
    c0 := PySem.W.mg_of X G aC0
    cl0 := ⟨pg0, hd0, po0, sa0⟩
    mk0 := ⟨mk0, a0, i0, kc0⟩
    na0_begun := n0_begun
    na0_most := n0_most
    na0_under := n0_under
    z_abs := PySem.W.mg_none_of X G z_abs
    z_dict := PySem.W.mg_none_of X G z_dict
    z_int := PySem.W.mg_none_of X G z_int
    z_isinstance := PySem.W.mg_none_of X G z_isinstance
    z_len := PySem.W.mg_none_of X G z_len
    z_max := PySem.W.mg_none_of X G z_max
    z_range := PySem.W.mg_none_of X G z_range
    z_zip := PySem.W.mg_none_of X G z_zip
    v_MOST_DEEP := ⟨_, PySem.W.mg_of X G v_MOST_DEEP⟩
    v_MOST_SIZE := ⟨_, PySem.W.mg_of X G v_MOST_SIZE⟩
    v_OVER := ⟨_, PySem.W.mg_of X G v_OVER⟩
    c1 := PySem.W.mg_of X G aC1
    xc1 := ⟨xq1, xk1, xs1, xt1⟩
    c2 := PySem.W.mg_of X G aC2
    xc2 := ⟨xq2, xk2, xs2, xt2⟩
    c3 := PySem.W.mg_of X G aC3
    xc3 := ⟨xq3, xk3, xs3, xt3⟩
    c4 := PySem.W.mg_of X G aC4
    xc4 := ⟨xq4, xk4, xs4, xt4⟩
    c5 := PySem.W.mg_of X G aC5
    xc5 := ⟨xq5, xk5, xs5, xt5⟩
    so := so_mk fun c hc d hd C D mc md => by
      simp only [exN, List.mem_cons, List.not_mem_nil, or_false] at hc hd
      rcases hc with rfl | rfl | rfl | rfl | rfl <;> rcases hd with rfl | rfl | rfl | rfl | rfl
      · exact so_e (PySem.W.mg_of X G aC1) (PySem.W.mg_of X G aC1) (PySem.W.exm_ref xs1 xd1 xt1 xp1_1) (by decide +kernel) mc md
      · exact so_e (PySem.W.mg_of X G aC1) (PySem.W.mg_of X G aC2) (PySem.W.exm_ref xs2 xd2 xt2 xp1_2) (by decide +kernel) mc md
      · exact so_e (PySem.W.mg_of X G aC1) (PySem.W.mg_of X G aC3) (PySem.W.exm_ref xs3 xd3 xt3 xp1_3) (by decide +kernel) mc md
      · exact so_e (PySem.W.mg_of X G aC1) (PySem.W.mg_of X G aC4) (PySem.W.exm_ref xs4 xd4 xt4 xp1_4) (by decide +kernel) mc md
      · exact so_e (PySem.W.mg_of X G aC1) (PySem.W.mg_of X G aC5) (PySem.W.exm_ref xs5 xd5 xt5 xp1_5) (by decide +kernel) mc md
      · exact so_e (PySem.W.mg_of X G aC2) (PySem.W.mg_of X G aC1) (PySem.W.exm_ref xs1 xd1 xt1 xp2_1) (by decide +kernel) mc md
      · exact so_e (PySem.W.mg_of X G aC2) (PySem.W.mg_of X G aC2) (PySem.W.exm_ref xs2 xd2 xt2 xp2_2) (by decide +kernel) mc md
      · exact so_e (PySem.W.mg_of X G aC2) (PySem.W.mg_of X G aC3) (PySem.W.exm_ref xs3 xd3 xt3 xp2_3) (by decide +kernel) mc md
      · exact so_e (PySem.W.mg_of X G aC2) (PySem.W.mg_of X G aC4) (PySem.W.exm_ref xs4 xd4 xt4 xp2_4) (by decide +kernel) mc md
      · exact so_e (PySem.W.mg_of X G aC2) (PySem.W.mg_of X G aC5) (PySem.W.exm_ref xs5 xd5 xt5 xp2_5) (by decide +kernel) mc md
      · exact so_e (PySem.W.mg_of X G aC3) (PySem.W.mg_of X G aC1) (PySem.W.exm_ref xs1 xd1 xt1 xp3_1) (by decide +kernel) mc md
      · exact so_e (PySem.W.mg_of X G aC3) (PySem.W.mg_of X G aC2) (PySem.W.exm_ref xs2 xd2 xt2 xp3_2) (by decide +kernel) mc md
      · exact so_e (PySem.W.mg_of X G aC3) (PySem.W.mg_of X G aC3) (PySem.W.exm_ref xs3 xd3 xt3 xp3_3) (by decide +kernel) mc md
      · exact so_e (PySem.W.mg_of X G aC3) (PySem.W.mg_of X G aC4) (PySem.W.exm_ref xs4 xd4 xt4 xp3_4) (by decide +kernel) mc md
      · exact so_e (PySem.W.mg_of X G aC3) (PySem.W.mg_of X G aC5) (PySem.W.exm_ref xs5 xd5 xt5 xp3_5) (by decide +kernel) mc md
      · exact so_e (PySem.W.mg_of X G aC4) (PySem.W.mg_of X G aC1) (PySem.W.exm_ref xs1 xd1 xt1 xp4_1) (by decide +kernel) mc md
      · exact so_e (PySem.W.mg_of X G aC4) (PySem.W.mg_of X G aC2) (PySem.W.exm_ref xs2 xd2 xt2 xp4_2) (by decide +kernel) mc md
      · exact so_e (PySem.W.mg_of X G aC4) (PySem.W.mg_of X G aC3) (PySem.W.exm_ref xs3 xd3 xt3 xp4_3) (by decide +kernel) mc md
      · exact so_e (PySem.W.mg_of X G aC4) (PySem.W.mg_of X G aC4) (PySem.W.exm_ref xs4 xd4 xt4 xp4_4) (by decide +kernel) mc md
      · exact so_e (PySem.W.mg_of X G aC4) (PySem.W.mg_of X G aC5) (PySem.W.exm_ref xs5 xd5 xt5 xp4_5) (by decide +kernel) mc md
      · exact so_e (PySem.W.mg_of X G aC5) (PySem.W.mg_of X G aC1) (PySem.W.exm_ref xs1 xd1 xt1 xp5_1) (by decide +kernel) mc md
      · exact so_e (PySem.W.mg_of X G aC5) (PySem.W.mg_of X G aC2) (PySem.W.exm_ref xs2 xd2 xt2 xp5_2) (by decide +kernel) mc md
      · exact so_e (PySem.W.mg_of X G aC5) (PySem.W.mg_of X G aC3) (PySem.W.exm_ref xs3 xd3 xt3 xp5_3) (by decide +kernel) mc md
      · exact so_e (PySem.W.mg_of X G aC5) (PySem.W.mg_of X G aC4) (PySem.W.exm_ref xs4 xd4 xt4 xp5_4) (by decide +kernel) mc md
      · exact so_e (PySem.W.mg_of X G aC5) (PySem.W.mg_of X G aC5) (PySem.W.exm_ref xs5 xd5 xt5 xp5_5) (by decide +kernel) mc md
  }
  exact ⟨_, fun s v => .of_eq rfl, fun base _ _ => law_end (all_ok (P := l.prog) (w := w) (base := base) (NN := bigN) T 76 19) hlaw⟩
theorem walk {l : PySem.W.OpenLaw} {q : Program} {loose : List Str} {XP : (Str → Option Value) → Heap → Prop} {YP : World → Heap → Prop} {d : DefRec} {K : Params → PySem.W.Frag} (hn : l.most = some 63) (hdf : d.params.defaults = [])
    (hY : ∀ (w : World) (h : Heap), YP w h → (K w.params).In h)
    (F : ∀ (w : World) (mg : Str → Option Value) (fa : Addr) (h : Heap), (K w.params).In h → h.Ns mainGlobals mg → mg d.name = some (.ref fa) →
      ∃ fd : FuncData, (∀ (s : Shared) (u : Value), BindsTo s fd ⟨[u], []⟩ [("script", u)]) ∧ ∀ base : Heap, (K w.params).In base → base.Ns mainGlobals mg → FnOk l.prog w (K w.params) mg base (L2.CX l.prog w) 152 fa fd ["script"] (spLaw (K w.params))) :
    PySem.W.WalkO q loose XP YP l.row.toRowW d [] (fun f vs => PySem.call f vs) :=
  L2.walk_of (n := 63) (k := 152) (x := "script") (CX := fun w => L2.CX l.prog w) (sp := fun w => spLaw (K w.params)) hn (by decide) hdf ⟨rfl, by decide, by decide⟩ hY F (fun _ _ a ns hl _ hS => ⟨a, ns, rfl, hS, hl, fun _ => rfl⟩) cx_none
end K16
open PySem PySem.W PyProof.Rows
set_option maxRecDepth 100000 in
set_option maxHeartbeats 0 in
theorem PySem.Challenge.cw_fieldgate_k16_great_lists_and_many_calls_holds : PySem.Challenge.rw_fieldgate_k16_great_lists_and_many_calls.Holds := by
  w_on; o_law; k_head; (case hw => w_witness2)
  k_fill
  refine K16.walk (l := PySem.Challenge.rw_fieldgate_k16_great_lists_and_many_calls) rfl rfl (fun w h Y => PySem.W.kIn_of Y) ?F
  case F =>
    intro w mg fa h KX G hmg
    refine' K16.all_mk KX G hmg ?aC0 ?aC1 ?aC2 ?aC3 ?aC4 ?aC5 ?v_MOST_DEEP ?v_MOST_SIZE ?v_OVER ?xq1 ?xk1 ?xs1 ?xt1 ?xd1 ?xp1_1 ?xp1_2 ?xp1_3 ?xp1_4 ?xp1_5 ?xq2 ?xk2 ?xs2 ?xt2 ?xd2 ?xp2_1 ?xp2_2 ?xp2_3 ?xp2_4 ?xp2_5 ?xq3 ?xk3 ?xs3 ?xt3 ?xd3 ?xp3_1 ?xp3_2 ?xp3_3 ?xp3_4 ?xp3_5 ?xq4 ?xk4 ?xs4 ?xt4 ?xd4 ?xp4_1 ?xp4_2 ?xp4_3 ?xp4_4 ?xp4_5 ?xq5 ?xk5 ?xs5 ?xt5 ?xd5 ?xp5_1 ?xp5_2 ?xp5_3 ?xp5_4 ?xp5_5 ?a0 ?i0 ?l0 ?c0 ?k0 ?a1 ?i1 ?l1 ?c1 ?k1 ?a2 ?i2 ?l2 ?c2 ?k2 ?a3 ?l3 ?c3 ?k3 ?a4 ?l4 ?c4 ?k4 ?a5 ?l5 ?c5 ?k5 ?a6 ?l6 ?c6 ?k6 ?a7 ?l7 ?c7 ?k7 ?a8 ?l8 ?c8 ?k8 ?a9 ?l9 ?c9 ?k9 ?lt10 ?a10 ?l10 ?c10 ?k10 ?a11 ?l11 ?c11 ?k11 ?a12 ?l12 ?c12 ?k12 ?a13 ?l13 ?c13 ?k13 ?a14 ?l14 ?c14 ?k14 ?a15 ?l15 ?c15 ?k15 ?a16 ?l16 ?c16 ?k16 ?a17 ?l17 ?c17 ?k17 ?a18 ?l18 ?c18 ?k18 ?a19 ?l19 ?c19 ?k19 ?pg0 ?hd0 ?po0 ?sa0 ?mk0 ?kc0 ?n0_begun ?n0_most ?n0_under ?z_abs ?z_dict ?z_int ?z_isinstance ?z_len ?z_max ?z_range ?z_zip K16.law_true
    (case aC0 => k_is)
    (case aC1 => k_is)
    (case aC2 => k_is)
    (case aC3 => k_is)
    (case aC4 => k_is)
    (case aC5 => k_is)
    (case v_MOST_DEEP => k_is)
    (case v_MOST_SIZE => k_is)
    (case v_OVER => k_is)
    (case xq1 => first | k_is | k_exc | kit_is)
    (case xk1 => first | k_is | k_exc | kit_is)
    (case xs1 => first | k_is | k_exc | kit_is)
    (case xt1 => first | k_is | k_exc | kit_is)
    (case xd1 => first | k_is | k_exc | kit_is)
    (case xp1_1 => first | k_is | k_exc | kit_is)
    (case xp1_2 => first | k_is | k_exc | kit_is)
    (case xp1_3 => first | k_is | k_exc | kit_is)
    (case xp1_4 => first | k_is | k_exc | kit_is)
    (case xp1_5 => first | k_is | k_exc | kit_is)
    (case xq2 => first | k_is | k_exc | kit_is)
    (case xk2 => first | k_is | k_exc | kit_is)
    (case xs2 => first | k_is | k_exc | kit_is)
    (case xt2 => first | k_is | k_exc | kit_is)
    (case xd2 => first | k_is | k_exc | kit_is)
    (case xp2_1 => first | k_is | k_exc | kit_is)
    (case xp2_2 => first | k_is | k_exc | kit_is)
    (case xp2_3 => first | k_is | k_exc | kit_is)
    (case xp2_4 => first | k_is | k_exc | kit_is)
    (case xp2_5 => first | k_is | k_exc | kit_is)
    (case xq3 => first | k_is | k_exc | kit_is)
    (case xk3 => first | k_is | k_exc | kit_is)
    (case xs3 => first | k_is | k_exc | kit_is)
    (case xt3 => first | k_is | k_exc | kit_is)
    (case xd3 => first | k_is | k_exc | kit_is)
    (case xp3_1 => first | k_is | k_exc | kit_is)
    (case xp3_2 => first | k_is | k_exc | kit_is)
    (case xp3_3 => first | k_is | k_exc | kit_is)
    (case xp3_4 => first | k_is | k_exc | kit_is)
    (case xp3_5 => first | k_is | k_exc | kit_is)
    (case xq4 => first | k_is | k_exc | kit_is)
    (case xk4 => first | k_is | k_exc | kit_is)
    (case xs4 => first | k_is | k_exc | kit_is)
    (case xt4 => first | k_is | k_exc | kit_is)
    (case xd4 => first | k_is | k_exc | kit_is)
    (case xp4_1 => first | k_is | k_exc | kit_is)
    (case xp4_2 => first | k_is | k_exc | kit_is)
    (case xp4_3 => first | k_is | k_exc | kit_is)
    (case xp4_4 => first | k_is | k_exc | kit_is)
    (case xp4_5 => first | k_is | k_exc | kit_is)
    (case xq5 => first | k_is | k_exc | kit_is)
    (case xk5 => first | k_is | k_exc | kit_is)
    (case xs5 => first | k_is | k_exc | kit_is)
    (case xt5 => first | k_is | k_exc | kit_is)
    (case xd5 => first | k_is | k_exc | kit_is)
    (case xp5_1 => first | k_is | k_exc | kit_is)
    (case xp5_2 => first | k_is | k_exc | kit_is)
    (case xp5_3 => first | k_is | k_exc | kit_is)
    (case xp5_4 => first | k_is | k_exc | kit_is)
    (case xp5_5 => first | k_is | k_exc | kit_is)
    (case a0 => k_is)
    (case i0 => k_is)
    (case l0 => k_is)
    (case c0 => k_is)
    (case k0 => k_is)
    (case a1 => k_is)
    (case i1 => k_is)
    (case l1 => k_is)
    (case c1 => k_is)
    (case k1 => k_is)
    (case a2 => k_is)
    (case i2 => k_is)
    (case l2 => k_is)
    (case c2 => k_is)
    (case k2 => k_is)
    (case a3 => k_is)
    (case l3 => k_is)
    (case c3 => k_is)
    (case k3 => k_is)
    (case a4 => k_is)
    (case l4 => k_is)
    (case c4 => k_is)
    (case k4 => k_is)
    (case a5 => k_is)
    (case l5 => k_is)
    (case c5 => k_is)
    (case k5 => k_is)
    (case a6 => k_is)
    (case l6 => k_is)
    (case c6 => k_is)
    (case k6 => k_is)
    (case a7 => k_is)
    (case l7 => k_is)
    (case c7 => k_is)
    (case k7 => k_is)
    (case a8 => k_is)
    (case l8 => k_is)
    (case c8 => k_is)
    (case k8 => k_is)
    (case a9 => k_is)
    (case l9 => k_is)
    (case c9 => k_is)
    (case k9 => k_is)
    (case a10 => k_is)
    (case l10 => k_is)
    (case c10 => k_is)
    (case k10 => k_is)
    (case a11 => k_is)
    (case l11 => k_is)
    (case c11 => k_is)
    (case k11 => k_is)
    (case a12 => k_is)
    (case l12 => k_is)
    (case c12 => k_is)
    (case k12 => k_is)
    (case a13 => k_is)
    (case l13 => k_is)
    (case c13 => k_is)
    (case k13 => k_is)
    (case a14 => k_is)
    (case l14 => k_is)
    (case c14 => k_is)
    (case k14 => k_is)
    (case a15 => k_is)
    (case l15 => k_is)
    (case c15 => k_is)
    (case k15 => k_is)
    (case a16 => k_is)
    (case l16 => k_is)
    (case c16 => k_is)
    (case k16 => k_is)
    (case a17 => k_is)
    (case l17 => k_is)
    (case c17 => k_is)
    (case k17 => k_is)
    (case a18 => k_is)
    (case l18 => k_is)
    (case c18 => k_is)
    (case k18 => k_is)
    (case a19 => k_is)
    (case l19 => k_is)
    (case c19 => k_is)
    (case k19 => k_is)
    (case pg0 => k_is)
    (case hd0 => k_is)
    (case po0 => k_is)
    (case sa0 => k_is)
    (case mk0 => k_is)
    (case kc0 => k_is)
    (case n0_begun => k_is)
    (case n0_most => k_is)
    (case n0_under => k_is)
    (case z_abs => k_is)
    (case z_dict => k_is)
    (case z_int => k_is)
    (case z_isinstance => k_is)
    (case z_len => k_is)
    (case z_max => k_is)
    (case z_range => k_is)
    (case z_zip => k_is)
    (case lt10 => k_is)
#print axioms PySem.Challenge.cw_fieldgate_k16_great_lists_and_many_calls_holds
