import PyProof.Rows.All
import Wide.All
import OpenK.AllK
import Wide.FinOn
import HandS.ForMost
import HandS.ForExc
import HandS.Wide
import HandS.IsInst
import HandS.Conv
import HandS.ForDict
import HandS.Comp
import HandS.Exc
import HandS.More
import HandS.CallSlots
import HandS.Defaults
import HandS.WordsExc
import HandS.TryMany
import HandS.ExcIs
import HandS.ExcOwn
import HandS.Iter
import HandS.Style
import HandS.Zip
import HandS.MakeKw
import HandS.SetFor
import HandS.Sort
import PySem.Challenge.RW_fieldgate_k41_rows_of_numbers
set_option Elab.async false
set_option linter.all false
set_option maxRecDepth 100000
/-! Mi20: a list comprehension whose element may raise. -/
namespace Mi
open PySem L2 PySem.Spec PyProof.Rows
section
variable {M : Model} {A : Around} {E : Value → Shared → Prop} {s : Shared} {env : Env}
/-- a comprehension's end, the block's environment told -/
def cpX (M : Model) (A : Around) (E : Value → Shared → Prop) (use : Option (Value → Sem Unit)) (Q : Value → Shared → Prop) (acc : Value) (ce : Env) (r : Result) (s' : Shared) : Prop :=
  match r with
  | .error x => ∃ m, s'.heap.Ns ce.locals m ∧ ∀ h1, Heap.SameBut ce.locals s'.heap h1 → wpAny M A (passOn "comprehension.variables-let-go" x ce : Sem Value) (fun _ _ => False) E { s' with heap := h1 }
  | .ok f => compPost M A E use Q acc ce.locals (.ok f) s'
theorem comp_x {e : Expr} {scope : Scope} {pos : Pos} {nw fst : Sem Value} {g : Comprehension} {gs : List Comprehension} {cl : List (Str × Addr)} {use : Option (Value → Sem Unit)} {Q : Value → Shared → Prop}
    (h1 : clausesOf e = g :: gs) (h2 : ∀ x, foldedSetIterable g.iter env x = pure x) (h3 : closureFor scope env = pure cl) (h4 : scope.kind = .function) (h5 : ∀ x ∈ scope.names, x.2 = .local → scope.names.lookup x.1 = some .local)
    (h : wpAny M A fst (fun x s1 => wpAny M A (pyIter x) (fun it s2 => wpAny M A nw (fun acc s3 => wpAny M A (newFunctionEnv scope env.globals cl [] env.qual none .none (some env)) (fun ce s4 =>
      codeAny M A (.compStart e 0 it acc { ce with scope := relabel scope env }) (cpX M A E use Q acc { ce with scope := relabel scope env }) s4) E s3) E s2) E s1) E s) :
    wpAny M A (comprehension e scope env pos nw false fst use) Q E s := by
  unfold comprehension
  rw [h3, h1]
  refine wpAny_bind (wpAny_mono h (fun x s1 k1 => ?_) fun _ _ z => z)
  refine wpAny_bind (wpAny_standAt (wpAny_bind (wpAny_of_eq (h2 x) (wpAny_bind (wpAny_holding (wpAny_mono k1 (fun it s2 k2 => ?_) fun _ _ z => z))))))
  refine wpAny_standIf (wpAny_bind (wpAny_mono k2 (fun acc s3 k3 => ?_) fun _ _ z => z))
  refine wpAny_bind (wpAny_pure (wpAny_bind (wpAny_mono k3 (fun ce s4 k4 => ?_) fun _ _ z => z)))
  dsimp only
  have va : ∀ y ∈ (scope.names.filter fun x => (x.2 == .local || x.2 == .cell) && x.1 != (".0" : Str)).reverse, y.2 = .local → Env.kindOf { ce with scope := relabel scope env } y.1 = some .local :=
    fun y hy hl => lookup_relabel_local (h5 y (List.mem_filter.mp (List.mem_reverse.mp hy)).1 hl)
  have vb : ∀ y ∈ (scope.names.filter fun x => (x.2 == .local || x.2 == .cell) && x.1 != (".0" : Str)).reverse.drop 1 ++ (scope.names.filter fun x => (x.2 == .local || x.2 == .cell) && x.1 != (".0" : Str)).reverse.take 1,
      y.2 = .local → Env.kindOf { ce with scope := relabel scope env } y.1 = some .local := fun y hy hl =>
    (List.mem_append.mp hy).elim (fun z => va y (List.mem_of_mem_drop z) hl) fun z => va y (List.mem_of_mem_take z) hl
  refine wpAny_holding (wpAny_bind (wpAny_attempt (wpAny_holding (wpAny_run (codeAny_mono k4 fun r s' kr => ?_)))))
  cases r with
  | error x =>
    obtain ⟨m, k5, k6⟩ := kr
    have k7 := @k6
    exact wpAny_bind (wpAny_holding (wpAny_comp_letGo (cenv := { ce with scope := relabel scope env }) h4 _ s' m va k5 fun h' _ _ sb => wpAny_mono (k7 h' sb) (fun _ _ z => z.elim) fun _ _ z => z))
  | ok f =>
    cases use with
    | some u =>
      refine wpAny_bind (wpAny_rule (wpAny_bind (wpAny_holding (wpAny_mono kr (fun _ s'' k5 => ?_) fun _ _ z => z))))
      obtain ⟨m, k6, k7⟩ := k5
      exact wpAny_bind (wpAny_comp_letGo (cenv := { ce with scope := relabel scope env }) h4 _ s'' m vb k6 fun h' _ _ sb => wpAny_pure (k7 h' sb))
    | none =>
      obtain ⟨m, k6, k7⟩ := kr
      exact wpAny_bind (wpAny_holding (wpAny_comp_letGo (cenv := { ce with scope := relabel scope env }) h4 _ s' m va k6 fun h' _ _ sb => wpAny_pure (k7 h' sb)))
end
/-- a frame is noted by its own address alone -/
theorem noteFrame_eq {e : Value} {env env' : Env} (h : env.frame = env'.frame) : noteFrame e env = noteFrame e env' := by
  unfold noteFrame PySem.frameOf
  rw [h]
open HandSPX in
/-- noted by another frame so far, or by none -/
theorem look_otherZ {M : Model} {A : Around} {E : Value → Shared → Prop} {s : Shared} {Z : Obj → Prop} {G : Heap} {env : Env} {outer : List Env} {L e : Addr} {fl : Value} {Q : Unit → Shared → Prop} (hZ : Steady Z) (hfr : A.frames = some (env :: outer)) (hf : env.frame = some L)
    (g1 : G.StaysIn s.heap) (g2 : G.get? e = none) (g3 : s.heap.FunFrames G (env :: outer)) (g4 : TracedZ s.heap G e Z fl) (ne : (fl == rawInt L) = false)
    (hQ : ∀ h', HeldZ G (env :: outer) e Z L h' → s.heap.UpToSlots h' → Q () { s with heap := h' }) : wpAny M A (noteFrame (.ref e) env) Q E s := by
  obtain ⟨oe, vs, T, oT, ts, k1, k2, k3, k4, k5, k6, k7, k8, k9⟩ := g4
  unfold noteFrame
  simp only [hf]
  refine wpAny_bind (wpAny_field k1 k3 k4 ?_)
  rw [if_pos (show (Value.ref T != Value.none) = true by simp)]
  refine wpAny_bind (wpAny_field k7 k8 k9 ?_)
  rw [if_neg (show ¬ ((fl == rawInt L) = true) by rw [ne]; exact Bool.false_ne_true)]
  refine wpAny_bind (wpAny_setField k7 k8 (Array.getElem?_eq_some_iff.mp k9).1 ?_)
  have oth : ∀ b, b ≠ T → (s.heap.update T (Obj.mapFields (·.setIfInBounds 3 Value.none))).get? b = s.heap.get? b := fun b hb => Heap.get?_update_other _ _ fun z => hb z.symm
  have nor : ∀ b o, s.heap.get? b = some o → (∀ vs, o.data ≠ .fields vs) → b ≠ T := fun b o hb hn q => by
    subst q
    rw [k7] at hb
    cases hb
    exact hn ts k8
  refine wpAny_entryZ hZ hfr (g3.of_keeps fun b o hb hn => ⟨o, by rw [oth b (nor b o hb hn)]; exact hb, rfl⟩) hf (by rw [oth e fun z => k6 z.symm]; exact k1)
    (fun b o hb => by rw [oth b fun q => by rw [q, k5] at hb; cases hb]; exact g1 b o hb) g2 k3 (Array.getElem?_eq_some_iff.mp k4).1 k2 fun h' hN => ?_
  obtain ⟨x1, x2, x3, x4⟩ := hN
  exact hQ h' ⟨x1, g2, x2, x3⟩ fun b o hb hn => x4 b o (by rw [oth b (nor b o hb hn)]; exact hb) hn

theorem rawInt_ne {a b : Addr} (h : a ≠ b) : (rawInt a == rawInt b) = false := by
  simp only [rawInt, beq_eq_false_iff_ne, ne_eq]
  intro e
  injection e with e _
  exact h (Int.ofNat.inj e)
section
variable {X : Cx} {pins : List (Addr × Obj)} {σ : L2.St} {H3 : Hp} {s3 s' : Shared} {scope : Scope} {ce : Env} {fp : List Addr} {W : WX}
open HandSPX in
/-- an exception of the block's: noted, then let on with the block's names gone -/
theorem blk_out (hs : X.stack = X.env :: X.outer) (hf : X.env.frame = some X.env.locals) (tk : Takes X W) (I3 : Inv X pins σ H3 s3) (cL : ce.locals = s3.heap.objs.size) (cF : ce.frame = X.env.frame)
    (hfp : ∀ b ∈ fp, (b ∈ X.ex ∨ X.s_0.heap.objs.size ≤ b) ∧ b ≠ X.env.locals ∧ (∀ x c, X.env.cells.lookup x = some c → c ≠ b) ∧ ∀ p ∈ X.pn ++ pins, p.1 ≠ b)
    {use : Option (Value → Sem Unit)} {Qf : Value → Shared → Prop} {acc : Value} {u : Value} {E1 : Value → Shared → Prop} (x : XE (X.blk s3 H3 scope ce fp) (fun c d _ H => W c d σ H) u s') :
    wpAny (model X.prog X.w) X.A (noteFrame u ce) (fun _ s'' => cpX (model X.prog X.w) X.A X.xe use Qf acc ce (.error u) s'') E1 s' := by
  obtain ⟨a, B, sI, pins', σ', H', cls, d, rfl, I, nb, up, sky, na, os, ag, w⟩ := x
  have hfr : X.A.frames = some (X.env :: X.outer) := by rw [I3.ok.frames, hs]
  have fC : ce.frame = some X.env.locals := by rw [cF, hf]
  have nCL : ce.locals ≠ X.env.locals := by
    rw [cL]
    obtain ⟨m, ⟨oL, _, _, hoL, _⟩, _⟩ := I3.loc
    exact Nat.ne_of_gt (Heap.lt_size hoL)
  have nCF : ce.locals ∉ frs X.stack := fun z => by
    obtain ⟨o, e, _⟩ := (I3.stack.mem z).2
    rw [cL] at e
    exact absurd (Heap.lt_size e) (Nat.lt_irrefl _)
  obtain ⟨m, hn, _⟩ := I.loc
  obtain ⟨oC, es, ep, hoC, hdC, hrC⟩ := id hn
  have hBC : B.get? ce.locals = some oC := nb _ _ hoC nCF
  -- behind the note
  have fin : ∀ h1, HeldZ B (X.env :: X.outer) a (Zc cls d) X.env.locals h1 → s'.heap.UpToSlots h1 → cpX (model X.prog X.w) X.A X.xe use Qf acc ce (.error (.ref a)) { s' with heap := h1 } := fun h1 held up1 => by
    obtain ⟨k1, k2, k3, oe, vs, T, oT, ts, t1, t2, t3, t4, t5, t6, t7, t8, t9⟩ := held
    refine ⟨m, ⟨oC, es, ep, k1 _ _ hBC, hdC, hrC⟩, fun h2 sb => ?_⟩
    have aC : a ≠ ce.locals := fun z => by rw [z, hBC] at k2; cases k2
    have TC : T ≠ ce.locals := fun z => by rw [z, hBC] at t5; cases t5
    have e2 : ∀ b, b ≠ ce.locals → h2.get? b = h1.get? b := fun b z => sb.2 b z
    obtain ⟨G, g1, g2⟩ := restrict h2 fun b => (B.get? b).isSome
    obtain ⟨F, f1, f2⟩ := restrict h2 fun b => (B.get? b).isSome || decide (b ∈ frs X.stack)
    have gS : G.StaysIn h2 := fun b o e => by
      cases q : (B.get? b).isSome with
      | false => rw [g2 b q] at e; cases e
      | true => rw [g1 b q] at e; exact e
    have gN : ∀ b, B.get? b = none → G.get? b = none := fun b e => g2 b (by rw [e]; rfl)
    have fS : ∀ b o, F.get? b = some o → h2.get? b = some o := fun b o e => by
      cases q : ((B.get? b).isSome || decide (b ∈ frs X.stack)) with
      | false => rw [f2 b q] at e; cases e
      | true => rw [f1 b q] at e; exact e
    have fB : ∀ b o, b ≠ ce.locals → B.get? b = some o → F.get? b = some o := fun b o n e => by
      rw [f1 b (by simp [e]), e2 b n]
      exact k1 b o e
    have frs1 : ∀ b ∈ frs X.stack, ∀ o, sI.heap.get? b = some o → ∃ sl, F.get? b = some { o with slots := sl } := fun b hb o e => by
      obtain ⟨_, o', e', hd⟩ := I.stack.mem hb
      rw [e] at e'
      cases e'
      obtain ⟨sl, y1⟩ := up b o e hd
      obtain ⟨sl2, y2⟩ := up1 b _ y1 hd
      refine ⟨sl2, ?_⟩
      rw [f1 b (by simp [hb]), e2 b fun z => nCF (by rw [← z]; exact hb)]
      exact y2
    have hok : HOk X.prog X.w H' F := fun b o q => (I.hok b o q).stay (fun c v hc r => by
      have nc : H' c ≠ none := by
        rcases hc with hc | hc
        · rw [hc, q]; exact fun z => nomatch z
        · rw [hc]; exact fun z => nomatch z
      have n1 : c ≠ ce.locals := fun z => nc (by rw [z]; exact I.free)
      exact fB c v n1 (nb c v r fun hm => nc (I.stkFree c hm))) (fun _ r => r) fun _ _ r => r
    have J : Inv X pins σ H' { sI with heap := F } := by
      have sC : ∀ b o, s3.heap.get? b = some o → b ≠ ce.locals := fun b o e z => by
        rw [z, cL] at e
        exact absurd (Heap.lt_size e) (Nat.lt_irrefl _)
      refine I3.call' (ch := fp) I.os ⟨fun b o e n hb hx => ?_, fun b o e n hb hx => ?_, fun b o e n hx => I.base.free b o e n hx, fun b o e hx => ?_, I.base.tups, I.base.frzs, I.base.tbls⟩ hok I.bare hfp
      · exact fB b o (sC b o e) (nb b o (I.base.keep b o e n hb hx) hb)
      · obtain ⟨sl, y⟩ := I.base.slot b o e n hb hx
        obtain ⟨sl2, y2⟩ := frs1 b hb _ y
        exact ⟨sl2, y2⟩
      · obtain ⟨o', y⟩ := I.base.there b o e hx
        by_cases hb : b ∈ frs X.stack
        · obtain ⟨sl, y2⟩ := frs1 b hb _ y
          exact ⟨_, y2⟩
        · exact ⟨o', fB b o' (sC b o e) (nb b o' y hb)⟩
    have fr2 : h2.FunFrames G (X.env :: X.outer) := by
      have y := funFrames_none (B := G) k3 fun L hL => gN L (by
        rw [← hs] at hL
        exact (k3.mem (by rw [← hs]; exact hL)).1)
      have go : ∀ {l : List Env}, (∀ b ∈ frs l, b ≠ ce.locals) → h1.FunFrames G l → h2.FunFrames G l := by
        intro l
        induction l with
        | nil => intro _ _; trivial
        | cons env r ih =>
          intro hl hy
          obtain ⟨q1, ⟨L, o, q2, q3, q4, q5⟩, q6⟩ := hy
          refine ⟨q1, ⟨L, o, q2, q3, ?_, q5⟩, ih (fun b hb => hl b ?_) q6⟩
          · rw [e2 L (hl L (List.mem_filterMap.mpr ⟨env, List.mem_cons_self, q2⟩))]
            exact q4
          · obtain ⟨e, he, q⟩ := List.mem_filterMap.mp hb
            exact List.mem_filterMap.mpr ⟨e, List.mem_cons_of_mem _ he, q⟩
      exact go (fun b hb z => nCF (by rw [hs, ← z]; exact hb)) y
    have tr2 : TracedZ h2 G a (Zc cls d) (rawInt X.env.locals) := ⟨oe, vs, T, oT, ts, by rw [e2 a aC]; exact t1, t2, t3, t4, gN T t5, t6, by rw [e2 T TC]; exact t7, t8, t9⟩
    unfold PySem.passOn
    refine wpAny_bind (wpAny_field (by rw [e2 a aC]; exact t1) t3 t4 ?_)
    rw [if_neg (show ¬ ((Value.ref T == Value.none) = true) by simp)]
    have thr : wpAny (model X.prog X.w) X.A (setFlight (.ref a) ce.frame) (fun _ s4 => wpAny (model X.prog X.w) X.A (throw (.ref a) : Sem Value) (fun _ _ => False) X.xe s4) X.xe { s' with heap := h2 } := by
      rw [fC]
      refine setFlight_anyZ gS fr2 tr2 fun h3 y1 y2 y3 y4 => wpAny_throw (tk _ _ ?_)
      refine ⟨a, G, { sI with heap := F }, pins, σ, H', cls, d, rfl, J, fun b o e hb => ?_, (Heap.UpToSlots.of_keeps fS).trans y4, .inr (.inr ?_), na, os, ag, w⟩
      · have e : F.get? b = some o := e
        cases q : (B.get? b).isSome with
        | false => rw [f2 b (by rw [q]; simpa using hb)] at e; cases e
        | true => rw [g1 b q]; exact fS b o e
      · rw [hs]
        exact ⟨y1, gN a k2, y2, y3⟩
    first
      | exact wpAny_bind (wpAny_pure (wpAny_bind thr))
      | exact wpAny_bind thr
  have sky : Sky B (X.env :: X.outer) a (Zc cls d) ce.locals s'.heap := by
    have y : Sky B X.stack a (Zc cls d) ce.locals s'.heap := sky
    rw [hs] at y
    exact y
  rw [noteFrame_eq cF]
  rcases sky with ⟨hB, hn, hl, oe, vs, he, hz, hd, h1⟩ | ⟨y1, y2, y3, y4⟩ | ⟨y1, y2, y3, y4⟩
  · exact look_newZ Zc.steady hfr hl hf he hB hn hd h1 hz fin
  · exact looks_onZ Zc.steady hfr hf ⟨y1, y2, y3, y4⟩ fin
  · exact look_otherZ Zc.steady hfr hf y1 y2 y3 y4 (rawInt_ne nCL) fin
end
end Mi
/-! Mi21: a list comprehension whose element may raise: the loop. -/
namespace Mi
open PySem L2 PySem.Spec PyProof.Rows
/-- what leaves a block, by the slots ahead of it -/
def wOut (W : WX) (σ : L2.St) : WX := fun c d _ H => W c d σ H
/-- the block of a comprehension, its exceptions told by W -/
abbrev blkX (X : Cx) (s : Shared) (H : Hp) (scope : Scope) (ce : Env) (fp : List Addr) (W : WX) : Cx := (X.blk s H scope ce fp).wish (XE (X.blk s H scope ce fp) W)
theorem takes_blk {X : Cx} {s : Shared} {H : Hp} {scope : Scope} {ce : Env} {fp : List Addr} {W : WX} : Takes (blkX X s H scope ce fp W) W := fun u s' ⟨a, B, sI, pins, σ, H', cls, d, e, I, nb, up, sky, na, os, ag, w⟩ =>
  ⟨a, B, sI, pins, σ, H', cls, d, e, I.unwish, nb, up, sky, na, os, ag, w⟩
section
variable {X : Cx} {elt tg iter : Expr} {ifs : List Expr} {scope : Scope} {own : List (Str × Nat)} {pos : Pos} {wi : TI} {g : TG} {tt : WX → TT} {te : WX → TE} {W : WX}
/-- what is asked of a block's parts -/
structure BlkX (X : Cx) (tg : Expr) (ifs : List Expr) (elt : Expr) (scope : Scope) (g : TG) (tt : WX → TT) (te : WX → TE) : Prop where
  g : ∀ (s : Shared) (H : Hp) (C : Addr) (cl : List (Str × Addr)) (fp : List Addr) (W : WX), PG (blkX X s H scope (compEnvC scope cl C X.env) fp W) tg g
  t : ∀ (s : Shared) (H : Hp) (C : Addr) (cl : List (Str × Addr)) (fp : List Addr) (W : WX), PTs (blkX X s H scope (compEnvC scope cl C X.env) fp W) ifs (tt W)
  e : ∀ (s : Shared) (H : Hp) (C : Addr) (cl : List (Str × Addr)) (fp : List Addr) (W : WX), PE (blkX X s H scope (compEnvC scope cl C X.env) fp W) elt (te W)
def tLcX (W : WX) (wi : TI) (g : TG) (tt : WX → TT) (te : WX → TE) (vs : List Nat) : TE := fun σ H Q => tLc wi g (tt (wOut W σ)) (te (wOut W σ)) vs σ H Q
theorem lcX_core {pins : List (Addr × Obj)} {s : Shared} {σ : L2.St} {H : Hp} {Q : VK} {pos' : Pos} {use : Option (Value → Sem Unit)} {Qf : Value → Shared → Prop}
    (hst : X.stack = X.env :: X.outer) (hfr : X.env.frame = some X.env.locals) (tk : Takes X W) (hc : X.calm = true) (hN : X.N.Nodup) (I : Inv X pins σ H s) (hi : PI X tg iter wi) (ok : BlkOk X.N X.env.scope scope own)
    (bk : BlkX X tg ifs elt scope g tt te) (hs : ∀ x, foldedSetIterable iter X.env x = pure x) (h : tLcX W wi g tt te (own.map (·.2)) σ H Q)
    (hR : ∀ D C s' m H', Inv X pins σ H' s' → Q (.ref D) H' → s'.heap.Ns C m → FpOk X pins H' C → compPost (model X.prog X.w) X.A X.xe use Qf (.ref D) C (.ok .next) s') :
    wpAny (model X.prog X.w) X.A (comprehension (.ListComp elt [⟨tg, iter, ifs, 0⟩] scope pos) scope X.env pos' (newList []) false (eval iter X.env) use) Qf X.xe s := by
  have hfree : ∀ y ∈ scope.names, y.2 = .free → ∃ c, X.env.cells.lookup y.1 = some c := fun y hy e => (ok.free y hy e).elim (fun k => I.ok.has _ (.inl k)) fun k => I.ok.has _ (.inr k)
  refine comp_x (use := use) rfl hs (closure_ok hfree) ok.kind (fun y hy e => by rw [ok.uniq y hy, e]) (thn (hi.run pins s σ H _ I h) fun xv s1 hx => thn hx fun itv s2 h2 => ?_)
  obtain ⟨it, fp, tn, J, H2, rfl, I2, T, st2, f2, q⟩ := h2
  refine wpAny_newObj_type (newEnv_comp ?_) (by show 0 ≤ sizeLine; decide)
  generalize hD : s2.heap.objs.size = D
  obtain ⟨Wt, ⟨m0, w0⟩, turn⟩ := q D (I2.hok.fresh (Nat.le_of_eq hD))
  generalize hs3 : ({ s2 with heap := s2.heap.push { cls := .type "list", data := .seq ([] : List Value).toArray } } : Shared) = s3
  have h3 : s3.heap = s2.heap.push { cls := .type "list", data := .seq ([] : List Value).toArray } := by rw [← hs3]
  have up3 : ∀ b o, s2.heap.get? b = some o → s3.heap.get? b = some o := fun b o e => by
    rw [h3]
    exact Heap.get?_push_of_some _ e
  have I3 : Inv X pins σ (upd H2 D (.lst [])) s3 := by
    rw [← hs3]
    exact I2.laid (t' := s2.toks) (fun b o e => Heap.get?_push_of_some _ e) (Nat.le_of_eq hD) ⟨Nat.zero_le _, [], 0, .nil, by rw [← hD]; exact Heap.get?_push_size _ rfl⟩
  have sz : ∀ b ∈ fp, b < s2.heap.objs.size := fun b hb => let ⟨o, e, _⟩ := T.obj _ _ st2 b hb; Heap.lt_size e
  have f3 : ∀ b ∈ fp, FpOk X pins (upd H2 D (.lst [])) b ∧ b < s3.heap.objs.size := fun b hb => by
    have hlt := sz b hb
    refine ⟨⟨?_, (f2 b hb).2⟩, by rw [h3, Heap.size_push]; exact Nat.lt_succ_of_lt hlt⟩
    rw [upd_ne (by rw [← hD]; exact Nat.ne_of_lt hlt)]
    exact (f2 b hb).1
  have st3 : tn 0 s3.heap := T.keep _ _ _ st2 fun b _ o e => up3 b o e
  have I4 := block_start I3 ok hN f3
  generalize hcl : cellsFrom (s3.heap.objs.size + 1) scope.names (cloFrom X.env.cells scope.names []) = cl at I4
  have pg := bk.g s3 (upd H2 D (.lst [])) s3.heap.objs.size cl fp (wOut W σ)
  have pt := bk.t s3 (upd H2 D (.lst [])) s3.heap.objs.size cl fp (wOut W σ)
  have pe := bk.e s3 (upd H2 D (.lst [])) s3.heap.objs.size cl fp (wOut W σ)
  show codeAny _ _ (.compStart (.ListComp elt [⟨tg, iter, ifs, 0⟩] scope pos) 0 (.ref it) (.ref D) (compEnvC scope cl s3.heap.objs.size X.env))
    (cpX (model X.prog X.w) X.A X.xe use Qf (.ref D) (compEnvC scope cl s3.heap.objs.size X.env)) { s3 with heap := pushCells (s3.heap.push { cls := .type "dict", data := .dict #[] }) scope.names }
  generalize hce : compEnvC scope cl s3.heap.objs.size X.env = ce at I4 pg pt pe ⊢
  have cL : ce.locals = s3.heap.objs.size := by subst hce; rfl
  have cF : ce.frame = X.env.frame := by subst hce; rfl
  generalize hH3 : upd H2 D (.lst []) = H3 at I3 I4 pg pt pe w0 f3
  generalize hs4 : ({ s3 with heap := pushCells (s3.heap.push { cls := .type "dict", data := .dict #[] }) scope.names } : Shared) = s4 at I4 ⊢
  have st4 : tn 0 s4.heap := T.keep _ _ _ st3 fun b _ o e => by rw [← hs4]; exact pushCells_keeps _ _ _ _ (Heap.get?_push_of_some _ e)
  have hfp : ∀ b ∈ fp, (b ∈ X.ex ∨ X.s_0.heap.objs.size ≤ b) ∧ b ≠ X.env.locals ∧ (∀ x c, X.env.cells.lookup x = some c → c ≠ b) ∧ ∀ p ∈ X.pn ++ pins, p.1 ≠ b := fun b hb => ⟨(f3 b hb).1.2.2.2.1, (f3 b hb).1.2.1, (f3 b hb).1.2.2.2.2.1, (f3 b hb).1.2.2.2.2.2⟩
  -- an exception of a turn
  have noted : ∀ e s', XE (X.blk s3 H3 scope ce fp) (wOut W σ) e s' → notedBy (model X.prog X.w) X.A ce (fun e s' => cpX (model X.prog X.w) X.A X.xe use Qf (.ref D) ce (.error e) s') e s' := fun e s' x =>
    blk_out hst hfr tk I3 cL cF hfp x
  have I4' : Inv (blkX X s3 H3 scope ce fp (wOut W σ)) [] (wipe σ (own.map (·.2))) H3 s4 := I4.wish _
  have stat : ∀ {σ' : L2.St} {H' : Hp} {s' : Shared}, Inv (blkX X s3 H3 scope ce fp (wOut W σ)) [] σ' H' s' → (∀ b ∈ fp, H' b = none) → ∀ b ∈ fp, FpOk (blkX X s3 H3 scope ce fp (wOut W σ)) [] H' b := fun {σ' H' s'} I' hn b hb =>
    ⟨hn b hb, (I'.ok.exf b hb).1, I'.ok.exfs b hb, .inl hb, fun x c e => (I'.ok.exf b hb).2 x c e, fun p hp => absurd (show p ∈ ([] : List (Addr × Obj)) ++ [] from hp) (by simp)⟩
  have loop : codeAny (model X.prog X.w) X.A (.compLoop (.ListComp elt [⟨tg, iter, ifs, 0⟩] scope pos) 0 (.ref it) (.ref D) ce) (cpX (model X.prog X.w) X.A X.xe use Qf (.ref D) ce) s4 := by
    refine compLoop_any (fun n s' => ∃ i H', Inv (blkX X s3 H3 scope ce fp (wOut W σ)) [] (wipe σ (own.map (·.2))) H' s' ∧ tn i s'.heap ∧ (∀ b ∈ fp, H' b = none) ∧ Wt i n H') ?_ m0 ⟨0, H3, I4', st4, fun b hb => (f3 b hb).1.1, w0⟩
    rintro n s5 ⟨i, H5, I5, st5, n5, w5⟩
    rcases turn i n H5 w5 with ⟨stop, qq⟩ | ⟨go, Nx, hNx, step⟩
    · have td := T.done (blkX X s3 H3 scope ce fp (wOut W σ)) rfl rfl rfl hc i [] s5 _ H5 (fun _ _ => False) I5 (stat I5 n5) st5 stop
      refine thnF td fun r s6 ⟨hr, I6⟩ => ?_
      subst hr
      have I7 : Inv X pins σ H5 s6 := I3.call' (ch := fp) I6.os I6.base I6.hok I6.bare hfp
      obtain ⟨m, hn, _⟩ := I6.loc
      have nC : H5 s3.heap.objs.size = none := by
        rw [← cL]
        exact I6.free
      have hR' := hR D s3.heap.objs.size s6 m H5 I7 qq (by rw [← cL]; exact hn) (I3.fpOk (Nat.le_refl _) nC)
      show compPost (model X.prog X.w) X.A X.xe use Qf (.ref D) ce.locals (.ok .next) s6
      rw [cL]
      exact hR'
    · have ti := T.item (blkX X s3 H3 scope ce fp (wOut W σ)) rfl rfl rfl hc i [] s5 _ H5 (fun _ _ => False) I5 (stat I5 n5) st5 go
      refine thnF ti fun r s6 ⟨u, hr, h6⟩ => ?_
      subst hr
      refine thnF h6 fun _ s7 ⟨x, H7, I7, r7, y7, st7, n7⟩ => ?_
      have I7' := I7.pinned (stat I7 n7) (T.obj _ _ st7)
      refine wpAny_mono (pg.run _ s7 _ H7 x u _ I7' r7 (step x H7 y7)) (fun _ s8 ⟨σ8, H8, I8, hw8, q8⟩ => ?_) noted
      refine wpAny_mono (pt.run _ s8 σ8 H8 _ I8 q8) (fun b s9 ⟨H9, I9, q9⟩ => ?_) noted
      have fin : ∀ {s' : Shared} {H' : Hp}, Inv (blkX X s3 H3 scope ce fp (wOut W σ)) ([] ++ pinsAt fp s7.heap) σ8 H' s' → Nx H' →
          ∃ m, m < n ∧ ∃ i H', Inv (blkX X s3 H3 scope ce fp (wOut W σ)) [] (wipe σ (own.map (·.2))) H' s' ∧ tn i s'.heap ∧ (∀ b ∈ fp, H' b = none) ∧ Wt i m H' := fun {s' H'} I' nx => by
        obtain ⟨m', hm, w'⟩ := hNx H' nx
        have pin' : ∀ b ∈ fp, ∀ o, s7.heap.get? b = some o → s'.heap.get? b = some o ∧ H' b = none := fun b hb o e =>
          let z := I'.pin (b, o) (List.mem_append_right _ (List.mem_append_right _ (mem_pinsAt hb e)))
          ⟨z.1, z.2.1⟩
        refine ⟨m', hm, i + 1, H', (I'.unpinned (pins := [])).weak (by rw [← hw8, wipe_length]) (fun j v e => ?_), T.keep _ _ _ st7 fun b hb o e => (pin' b hb o e).1, fun b hb => ?_, w'⟩
        · rw [← hw8] at e
          exact (wipe_some e).1
        · obtain ⟨o, e, _⟩ := T.obj _ _ st7 b hb
          exact (pin' b hb o e).2
      cases b with
      | false =>
        simp only [Bool.false_eq_true, if_false] at q9 ⊢
        exact fin I9 q9
      | true =>
        simp only [if_true] at q9 ⊢
        refine wpAny_mono (pe.run _ s9 σ8 H9 _ I9 q9) (fun z s10 ⟨yv, H10, I10, r10, acc, hD10, hz10, nx⟩ => ?_) noted
        exact app_ok (X := blkX X s3 H3 scope ce fp (wOut W σ)) I10 hD10 hz10 r10 fun s11 I11 => fin I11 nx
  exact codeAny_compStart_list loop (T.self X.A 0 _ _ _ st4 loop)
theorem pe_lcX (hst : X.stack = X.env :: X.outer) (hfr : X.env.frame = some X.env.locals) (tk : Takes X W) (hc : X.calm = true) (hN : X.N.Nodup) (hi : PI X tg iter wi) (ok : BlkOk X.N X.env.scope scope own) (bk : BlkX X tg ifs elt scope g tt te)
    (hs : ∀ x, foldedSetIterable iter X.env x = pure x) : PE X (.ListComp elt [⟨tg, iter, ifs, 0⟩] scope pos) (tLcX W wi g tt te (own.map (·.2))) := by
  refine ⟨fun pins s σ H Q I h => ?_⟩
  rw [eval_ListComp]
  refine lcX_core hst hfr tk hc hN I hi ok bk hs h fun D C s' m H' I' q hn f => ⟨m, hn, fun h'' sb => ?_⟩
  obtain ⟨f0, f1, f2, f3, f4, f5⟩ := f
  exact ⟨.ref D, H', I'.turned (t' := s'.toks) (fun b o hb e => (sb.2 b hb).trans e) f0 f1 f3 f4 f5, rfl, q⟩
theorem ps_setLcX {i : Nat} {y : Str} {py spos : Pos} (hst : X.stack = X.env :: X.outer) (hfr : X.env.frame = some X.env.locals) (tk : Takes X W) (hc : X.calm = true) (hN : X.N.Nodup) (hy : X.N[i]? = some y) (hyl : X.env.scope.names.lookup y = some .local)
    (hsw : swapsWith (.ListComp elt [⟨tg, iter, ifs, 0⟩] scope pos) (some (.Name y py)) spos.line X.env = pure true) (hi : PI X tg iter wi) (ok : BlkOk X.N X.env.scope scope own) (bk : BlkX X tg ifs elt scope g tt te)
    (hs : ∀ x, foldedSetIterable iter X.env x = pure x) : PS X (.Assign [.Name y py] (.ListComp elt [⟨tg, iter, ifs, 0⟩] scope pos) spos) (tAsg (tLcX W wi g tt te (own.map (·.2))) (gName i)) := by
  refine ⟨fun pins s σ H D I h => ?_⟩
  rw [exec_Assign_Name_used _ _ _ _ hsw]
  refine wpAny_bind (wpAny_standAt (wpAny_bind ?_))
  show wpAny _ X.A (do let _ ← comprehension (.ListComp elt [⟨tg, iter, ifs, 0⟩] scope pos) scope X.env (firstIterPos [⟨tg, iter, ifs, 0⟩] pos) (newList []) false (eval iter X.env) (some (assign (.Name y py) X.env))) _ _ s
  have h : tLcX W wi g tt te (own.map (·.2)) σ H (fun x H1 => gName i x σ H1 D.nx) := h
  refine wpAny_bind (thn (lcX_core (Qf := fun _ s' => SP X pins D .next s') hst hfr tk hc hN I hi ok bk hs h fun L C s' m H' I' q hn f => ?_) fun _ s' hq => wpAny_pure (wpAny_pure hq))
  show wpAny _ _ (assign (.Name y py) X.env (.ref L)) _ _ _
  obtain ⟨f0, f1, f2, f3, f4, f5⟩ := f
  refine wpAny_assign_Name (store_ok2 (v := V.ref L) I' hN hy (.inl hyl) rfl (fun s2 I2 ⟨a, sb, ha⟩ => ?_) (.inr hyl))
  have nC : C ≠ a := ha.elim (fun z => by rw [z]; exact f1) fun z e => f4 y a z e.symm
  exact ⟨m, hn.sameBut sb nC, fun h3 sb3 => ⟨_, H', I2.turned (t' := s2.toks) (fun b o hb e => (sb3.2 b hb).trans e) f0 f1 f3 f4 f5, q⟩⟩
end
end Mi
/-! Mi1: data, owned data, expressions, statements, and what they come to. -/
namespace Mi
open PySem L2

/-- data: frozen, shared at will -/
inductive D where
  | non | bl (b : Bool) | int (i : Int) | str (s : Str)
  | tup (xs : List D) | lst (xs : List D)
  | dct (ks : List Key) (xs : List D)
  | ins (c : Str) (ks : List Str) (xs : List D)
  | exc (c : Str)
  | adr (a : Addr)
  deriving Inhabited

/-- what one place alone holds -/
inductive M where
  | dat (d : D)
  | lst (xs : List M)
  | dct (ks : List Key) (xs : List M)
  | ins (c : Str) (ks : List Str) (xs : List M)
  | tup (xs : List M)
  deriving Inhabited

abbrev Env := List (Option M)
inductive Out (α : Type) where
  | stuck
  | err (c : Str) (μ : Env)
  | ok (a : α) (μ : Env)
@[simp] def Out.bind {α β : Type} (o : Out α) (k : α → Env → Out β) : Out β :=
  match o with
  | .stuck => .stuck
  | .err c μ => .err c μ
  | .ok a μ => k a μ

/-- what a call comes to: the parameters that are handed in by place, as they are then -/
inductive CR where
  | stuck
  | err (c : Str) (outs : List (Option M))
  | ok (m : M) (outs : List (Option M))

/-- a target: a slot, or some of a tuple -/
inductive Tg where
  | one (i : Nat)
  | many (is : List Nat)

/-- an index, reckoned without effects -/
inductive I where
  | var (i : Nat)
  | con (d : D)
  | op1 (f : D → Option D) (a : I)
  | op2 (f : D → D → Option D) (a b : I)
mutual
inductive E where
  | var (i : Nat)
  | mov (i : Nat)
  | con (d : D)
  | op1 (f : D → Option D) (a : E)
  | op2 (f : D → D → Option D) (a b : E)
  | opN (f : List D → Option D) (as : Es)
  | and (a b : E)
  | or (a b : E)
  | ite (c a b : E)
  | call (o : Bool) (g : Nat) (as : As)
  | comp (x : Bool) (own : List Nat) (t : Tg) (f : List D → Option (List D)) (src : Es) (c e : E)
  | own (e : E)
  | ml (es : Es)
  | mt (es : Es)
  | md (ks : List Key) (es : Es)
  | pth (p : Path)
  | view (e : E)
  | viewF (e : E)
  | mut (kd : Nat) (f : M → List M → Option (M × M)) (pre : Es) (p : Path) (as : Es)
  | mutA (kd : Nat) (f : M → List M → Option (M × M)) (j : Nat) (p : Path) (e : E)
  | movP (p : Path)
  | mutT (kd : Nat) (f : M → List M → Option (M × M)) (p : Path) (e : E)
  | new (c : Str) (g : Nat) (as : As)
  | meth (o : Bool) (c m : Str) (g : Nat) (p : Path) (as : As)
inductive Es where
  | nil
  | cons (e : E) (r : Es)
inductive As where
  | nil
  | val (e : E) (r : As)
  | ref (p : Path) (r : As)
inductive Path where
  | root (i : Nat)
  | fld (p : Path) (c n : Str)
  | key (p : Path) (k : Key)
  | idx (p : Path) (e : I)
end

mutual
inductive S where
  | set (t : Tg) (e : E)
  | expr (e : E)
  | ret (e : E)
  | ite (c : E) (a b : Ss)
  | wh (c : E) (b : Ss)
  | for_ (t : Tg) (f : List D → Option (List D)) (src : Es) (b : Ss)
  | brk
  | cont
  | pass
  | raise (c : Str)
  | try_ (b : Ss) (hs : Hs)
  | frz (i : Nat) (s : S)
  | isl (i j : Nat) (Ts : List Str)
  | nick (c : E) (j : Nat) (p : Path) (ss : Ss)
inductive Ss where
  | nil
  | cons (s : S) (r : Ss)
inductive Hs where
  | nil
  | cons (c : Str) (i : Option Nat) (b : Ss) (r : Hs)
end

/-- a function: how many parameters, how many slots, the parameters that stay bound, the body -/
structure Fn where
  np : Nat
  n : Nat
  pin : List Nat
  body : Ss

/-! ### owned data and data -/
mutual
def M.toD : M → D
  | .dat d => d
  | .lst xs => .lst (M.toDs xs)
  | .dct ks xs => .dct ks (M.toDs xs)
  | .ins c ks xs => .ins c ks (M.toDs xs)
  | .tup xs => .tup (M.toDs xs)
def M.toDs : List M → List D
  | [] => []
  | m :: r => m.toD :: M.toDs r
end
/-- nothing in it ever changes: no list, no dict, no instance -/
def D.hard : D → Bool
  | .tup xs => hards xs
  | .lst _ => false
  | .dct _ _ => false
  | .ins _ _ _ => false
  | _ => true
where hards : List D → Bool
  | [] => true
  | d :: r => d.hard && hards r

/-- no reference in it -/
def D.flat : D → Bool
  | .non => true
  | .bl _ => true
  | .int _ => true
  | .str _ => true
  | _ => false
/-- no owned tuple in it -/
def M.noTup : M → Bool
  | .dat _ => true
  | .lst xs => noTups xs
  | .dct _ xs => noTups xs
  | .ins _ _ xs => noTups xs
  | .tup _ => false
where noTups : List M → Bool
  | [] => true
  | m :: r => m.noTup && noTups r
def noTupE (μ : Env) : Bool := μ.all fun o => match o with
  | some m => m.noTup
  | none => true
def slot (μ : Env) (i : Nat) : Option M := (μ[i]?).getD none
def M.kind : M → Nat
  | .lst _ => 0
  | .dct _ _ => 1
  | .ins _ _ _ => 2
  | .dat _ => 3
  | .tup _ => 4
def M.kids : M → List M
  | .dat _ => []
  | .lst xs => xs
  | .dct _ xs => xs
  | .ins _ _ xs => xs
  | .tup xs => xs
def M.setKid : M → Nat → M → M
  | .dat d, _, _ => .dat d
  | .lst xs, i, m => .lst (xs.set i m)
  | .dct ks xs, i, m => .dct ks (xs.set i m)
  | .ins c ks xs, i, m => .ins c ks (xs.set i m)
  | .tup xs, i, m => .tup (xs.set i m)
/-- what stands at a place within -/
def M.at : M → List Nat → Option M
  | m, [] => some m
  | m, i :: r => match m.kids[i]? with
    | some k => k.at r
    | none => none
def M.put : M → List Nat → M → M
  | _, [], x => x
  | m, i :: r, x => match m.kids[i]? with
    | some k => m.setKid i (k.put r x)
    | none => m

/-- a place: a slot, and the way within -/
abbrev Pl := Nat × List Nat
def atPl (μ : Env) (p : Pl) : Option M := (slot μ p.1).bind fun m => m.at p.2
def putPl (μ : Env) (p : Pl) (x : M) : Env := match slot μ p.1 with
  | some m => μ.set p.1 (some (m.put p.2 x))
  | none => μ

/-! ### no effects -/
mutual
def E.pure : E → Bool
  | .var _ => true
  | .mov _ => false
  | .con _ => true
  | .op1 _ a => a.pure
  | .op2 _ a b => a.pure && b.pure
  | .opN _ as => as.pure
  | .and a b => a.pure && b.pure
  | .or a b => a.pure && b.pure
  | .ite c a b => c.pure && a.pure && b.pure
  | .call o _ as => !o && as.pure
  | .comp _ _ _ _ s c e => s.pure && c.pure && e.pure
  | .own _ => false
  | .ml _ => false
  | .mt _ => false
  | .md _ _ => false
  | .pth p => p.pure
  | .view e => e.pure
  | .viewF e => e.pure
  | .mut _ _ _ _ _ => false
  | .mutA _ _ _ _ _ => false
  | .movP _ => false
  | .mutT _ _ _ _ => false
  | .new _ _ _ => false
  | .meth _ _ _ _ _ _ => false
def Es.pure : Es → Bool
  | .nil => true
  | .cons e r => e.pure && r.pure
def As.pure : As → Bool
  | .nil => true
  | .val e r => e.pure && r.pure
  | .ref _ _ => false
def Path.pure : Path → Bool
  | .root _ => true
  | .fld p _ _ => p.pure
  | .key p _ => p.pure
  | .idx p _ => p.pure
end
/-- the values among them have no effects -/
def As.vals : As → Bool
  | .nil => true
  | .val e r => e.pure && r.vals
  | .ref _ r => r.vals

def Tg.slots : Tg → List Nat
  | .one i => [i]
  | .many is => is
def setMany : List Nat → List D → Env → Option Env
  | [], [], μ => some μ
  | i :: is, d :: ds, μ => if i < μ.length then setMany is ds (μ.set i (some (.dat d))) else none
  | _, _, _ => none
def setManyM : List Nat → List M → Env → Option Env
  | [], [], μ => some μ
  | i :: is, m :: ms, μ => if i < μ.length then setManyM is ms (μ.set i (some m)) else none
  | _, _, _ => none
def setTg : Tg → M → Env → Option Env
  | .one i, m, μ => if i < μ.length then some (μ.set i (some m)) else none
  | .many is, .dat (.tup ds), μ => setMany is ds μ
  | .many is, .tup ms, μ => setManyM is ms μ
  | .many _, _, _ => none
def wipeE : List Nat → Env → Env
  | [], μ => μ
  | i :: r, μ => (wipeE r μ).set i none
/-- errors may pass, or not -/
def Out.lets {α : Type} (x : Bool) (own : List Nat) (n : Nat) : Out α → Out α
  | .err c μ => if x = true ∧ n ≤ sizeLine then .err c (wipeE own μ) else .stuck
  | o => o
def viewE (μ : Env) : Env := μ.map fun o => o.map fun m => .dat m.toD

/-- the loop of a comprehension -/
def compLoop (own : List Nat) (t : Tg) (c e : Env → Out D) : List D → List D → Env → Out (List D)
  | [], acc, μ => .ok acc μ
  | d :: ds, acc, μ => match setTg t (.dat d) μ with
    | none => .stuck
    | some μ1 => (c μ1).bind fun b μ2 => match b with
      | .bl false => compLoop own t c e ds acc (wipeE own μ2)
      | .bl true => (e μ2).bind fun x μ3 => compLoop own t c e ds (acc ++ [x]) (wipeE own μ3)
      | _ => .stuck

def onDat (k : D → Env → Out M) : M → Env → Out M
  | .dat d, μ => k d μ
  | _, _ => .stuck
def outD (d : Option D) (μ : Env) : Out M := match d with
  | some d => .ok (.dat d) μ
  | none => .stuck
def keyIx (ks : List Key) (k : Key) : Option Nat := ks.findIdx? (· = k)
def fldIx (ks : List Str) (k : Str) : Option Nat := ks.findIdx? (· = k)
def toOwned : M → Option M
  | .dat (.lst ds) => some (.lst (ds.map .dat))
  | .dat (.dct ks ds) => some (.dct ks (ds.map .dat))
  | _ => none
def datOf : Out M → Out D
  | .stuck => .stuck
  | .err c μ => .err c μ
  | .ok (.dat d) μ => .ok d μ
  | .ok _ _ => .stuck

/-- an argument: a value, or a place -/
inductive Ag where
  | val (m : M)
  | ref (p : Pl)
def Ag.roots : List Ag → List Nat
  | [] => []
  | .val _ :: r => Ag.roots r
  | .ref p :: r => p.1 :: Ag.roots r
def Ag.flat : List Ag → Bool
  | [] => true
  | .val _ :: r => Ag.flat r
  | .ref p :: r => p.2.isEmpty && Ag.flat r
def argMs : List Ag → Env → Option (List M)
  | [], _ => some []
  | .val m :: r, μ => (argMs r μ).map (m :: ·)
  | .ref p :: r, μ => match atPl μ p with
    | some m => (argMs r μ).map (m :: ·)
    | none => none
/-- the places' objects as the callee leaves them -/
def backAs : List Ag → List (Option M) → Env → Option Env
  | [], _, μ => some μ
  | .val _ :: r, _ :: os, μ => backAs r os μ
  | .ref p :: r, some m :: os, μ => backAs r os (putPl μ p m)
  | _, _, _ => none
def nodupB : List Nat → Bool
  | [] => true
  | i :: r => !r.contains i && nodupB r
/-- behind a call -/
def callEnd (o : Bool) (ags : List Ag) (μ : Env) : CR → Out M
  | .stuck => .stuck
  | .err c outs => match backAs ags outs μ with
    | some μ' => .err c μ'
    | none => .stuck
  | .ok m outs => match backAs ags outs μ with
    | some μ' => .ok (if o = true then m else .dat m.toD) μ'
    | none => .stuck
def newEnd (ags : List Ag) (μ : Env) : CR → Out M
  | .ok (.dat .non) (some m :: outs) => match backAs ags outs μ with
    | some μ' => .ok m μ'
    | none => .stuck
  | .err c (_ :: outs) => match backAs ags outs μ with
    | some μ' => .err c μ'
    | none => .stuck
  | _ => .stuck
/-- an instance of class c without an attribute m of its own -/
def insOk (c m : Str) : Option M → Bool
  | some (.ins c' ks _) => decide (c' = c) && !ks.contains m
  | _ => false
def datsOf : List M → Option (List D)
  | [] => some []
  | .dat d :: r => (datsOf r).map (d :: ·)
  | _ :: _ => none

def evalI : I → Env → Option D
  | .var i, μ => match slot μ i with
    | some (.dat d) => some d
    | _ => none
  | .con d, _ => some d
  | .op1 f a, μ => (evalI a μ).bind f
  | .op2 f a b, μ => (evalI a μ).bind fun x => (evalI b μ).bind fun y => f x y
open Classical in
/-- what comes out whatever the address -/
noncomputable def allO (run : Addr → Out M) : Out M := if h : ∃ R, ∀ a, run a = R then Classical.choose h else .stuck
section
variable (C : Nat → List M → CR) (pin : List Nat)
mutual
noncomputable def evalE : E → Env → Out M
  | .var i, μ => match slot μ i with
    | some (.dat d) => .ok (.dat d) μ
    | _ => .stuck
  | .mov i, μ => match slot μ i with
    | some m => .ok m (μ.set i none)
    | none => .stuck
  | .con d, μ => .ok (.dat d) μ
  | .op1 f a, μ => (evalE a μ).bind (onDat fun d μ1 => outD (f d) μ1)
  | .op2 f a b, μ => (evalE a μ).bind (onDat fun x μ1 => (evalE b μ1).bind (onDat fun y μ2 => outD (f x y) μ2))
  | .opN f as, μ => (evalEs as μ).bind fun ms μ1 => match datsOf ms with
    | some ds => outD (f ds) μ1
    | none => .stuck
  | .and a b, μ => (evalE a μ).bind (onDat fun x μ1 => match x with
    | .bl true => evalE b μ1
    | .bl false => .ok (.dat (.bl false)) μ1
    | _ => .stuck)
  | .or a b, μ => (evalE a μ).bind (onDat fun x μ1 => match x with
    | .bl true => .ok (.dat (.bl true)) μ1
    | .bl false => evalE b μ1
    | _ => .stuck)
  | .ite c a b, μ => (evalE c μ).bind (onDat fun x μ1 => match x with
    | .bl true => evalE a μ1
    | .bl false => evalE b μ1
    | _ => .stuck)
  | .call o g as, μ => (evalAs as μ).bind fun ags μ1 =>
    if (nodupB (Ag.roots ags) && (Ag.flat ags || as.vals)) = true then
      match argMs ags μ1 with
      | some ms => callEnd o ags μ1 (C g ms)
      | none => .stuck
    else .stuck
  | .comp x own t f src c e, μ => if (own.all fun i => !pin.contains i) = true && (t.slots.all fun i => own.contains i) = true then
      (evalEs src μ).bind fun ms μ1 => match datsOf ms with
      | some ds => match f ds with
        | some xs => ((compLoop own t (fun μ => datOf (evalE c μ)) (fun μ => datOf (evalE e μ)) xs [] (wipeE own μ1)).lets x own xs.length).bind fun ys μ2 =>
          if ys.length ≤ sizeLine then .ok (.dat (.lst ys)) μ2 else .stuck
        | none => .stuck
      | none => .stuck
    else .stuck
  | .own e, μ => (evalE e μ).bind fun m μ1 => match toOwned m with
    | some m' => .ok m' μ1
    | none => .stuck
  | .ml es, μ => (evalEs es μ).bind fun ms μ1 => if ms.length ≤ sizeLine then .ok (.lst ms) μ1 else .stuck
  | .mt es, μ => (evalEs es μ).bind fun ms μ1 => if ms.length ≤ sizeLine then .ok (.tup ms) μ1 else .stuck
  | .md ks es, μ => (evalEs es μ).bind fun ms μ1 => if ms.length = ks.length then .ok (.dct ks ms) μ1 else .stuck
  | .pth p, μ => match evalP p μ with
    | some pl => match atPl μ pl with
      | some (.dat d) => .ok (.dat d) μ
      | _ => .stuck
    | none => .stuck
  | .view e, μ => if e.pure = true then
      match evalE e (viewE μ) with
      | .ok (.dat d) _ => if (d.hard && (d.flat || noTupE μ)) = true then .ok (.dat d) μ else .stuck
      | _ => .stuck
    else .stuck
  | .viewF e, μ => if e.pure = true then
      match evalE e (viewE μ) with
      | .ok (.dat (.lst ds)) _ => if (D.hard.hards ds && (ds.all D.flat || noTupE μ)) = true then .ok (.dat (.lst ds)) μ else .stuck
      | _ => .stuck
    else .stuck
  | .mut kd f pre p as, μ => (evalEs pre μ).bind fun ws μ0 => match evalP p μ0 with
    | some pl => if ((atPl μ0 pl).map M.kind) = some kd then (evalEs as μ0).bind fun ms μ1 => if (pl.2.isEmpty || as.pure) = true then
        match atPl μ1 pl with
        | some m => match f m (ws ++ ms) with
          | some (m', r) => .ok r (putPl μ1 pl m')
          | none => .stuck
        | none => .stuck
      else .stuck
      else .stuck
    | none => .stuck
  | .mutA kd f j p e, μ => match evalP p μ with
    | some pl => match slot μ j with
      | some mj => if pl.1 = j ∧ ((mj.at pl.2).map M.kind) = some kd then (evalE e (μ.set j none)).bind fun m μ1 => match slot μ1 j, mj.at pl.2 with
        | none, some mk => match f mk [m] with
          | some (mk', r) => .ok r (μ1.set j (some (mj.put pl.2 mk')))
          | none => .stuck
        | _, _ => .stuck
        else .stuck
      | none => .stuck
    | none => .stuck
  | .mutT kd f p e, μ => match evalP p μ with
    | some pl => match atPl μ pl with
      | some m1 => if m1.kind = kd ∧ kd ≠ 3 then allO fun a => (evalE e (putPl μ pl (.dat (.adr a)))).bind fun m μ1 => match atPl μ1 pl with
        | some (.dat (.adr a')) => if a' = a then match f m1 [m] with
          | some (m1', r) => .ok r (putPl μ1 pl m1')
          | none => .stuck
          else .stuck
        | _ => .stuck
        else .stuck
      | none => .stuck
    | none => .stuck
  | .movP p, μ => match evalP p μ with
    | some pl => match atPl μ pl with
      | some m => .ok m (μ.set pl.1 none)
      | none => .stuck
    | none => .stuck
  | .new c g as, μ => (evalAs as μ).bind fun ags μ1 =>
    if (nodupB (Ag.roots ags) && (Ag.flat ags || as.vals)) = true then
      match argMs ags μ1 with
      | some ms => newEnd ags μ1 (C g (.ins c [] [] :: ms))
      | none => .stuck
    else .stuck
  | .meth o c m g p as, μ => match evalP p μ with
    | some pl => if insOk c m (atPl μ pl) = true then (evalAs as μ).bind fun ags μ1 =>
        if (nodupB (Ag.roots (.ref pl :: ags)) && (Ag.flat (.ref pl :: ags) || as.vals)) = true then
          match argMs (.ref pl :: ags) μ1 with
          | some ms => callEnd o (.ref pl :: ags) μ1 (C g ms)
          | none => .stuck
        else .stuck
      else .stuck
    | none => .stuck
noncomputable def evalEs : Es → Env → Out (List M)
  | .nil, μ => .ok [] μ
  | .cons e r, μ => (evalE e μ).bind fun m μ1 => (evalEs r μ1).bind fun ms μ2 => .ok (m :: ms) μ2
noncomputable def evalAs : As → Env → Out (List Ag)
  | .nil, μ => .ok [] μ
  | .val e r, μ => (evalE e μ).bind fun m μ1 => (evalAs r μ1).bind fun ags μ2 => .ok (.val m :: ags) μ2
  | .ref p r, μ => match evalP p μ with
    | some pl => (evalAs r μ).bind fun ags μ2 => .ok (.ref pl :: ags) μ2
    | none => .stuck
noncomputable def evalP : Path → Env → Option Pl
  | .root i, μ => match slot μ i with
    | some _ => some (i, [])
    | none => none
  | .fld p c n, μ => match evalP p μ with
    | some pl => match atPl μ pl with
      | some (.ins c' ks _) => if c' = c then (fldIx ks n).map fun j => (pl.1, pl.2 ++ [j]) else none
      | _ => none
    | none => none
  | .key p k, μ => match evalP p μ with
    | some pl => match atPl μ pl with
      | some (.dct ks _) => (keyIx ks k).map fun j => (pl.1, pl.2 ++ [j])
      | _ => none
    | none => none
  | .idx p e, μ => match evalP p μ with
    | some pl => match evalI e μ with
      | some (.int i) => match atPl μ pl with
        | some (.lst xs) => (ixN xs.length i).map fun j => (pl.1, pl.2 ++ [j])
        | some (.tup xs) => (ixN xs.length i).map fun j => (pl.1, pl.2 ++ [j])
        | _ => none
      | _ => none
    | none => none
end
end

/-! ### statements -/
inductive Res where
  | stuck
  | err (c : Str) (μ : Env)
  | nx (μ : Env)
  | ret (m : M) (μ : Env)
  | brk (μ : Env)
  | cont (μ : Env)
@[simp] def Out.res {α : Type} (o : Out α) (k : α → Env → Res) : Res :=
  match o with
  | .stuck => .stuck
  | .err c μ => .err c μ
  | .ok a μ => k a μ
def whLoop (c : Env → Out M) (b : Env → Res) : Nat → Env → Res
  | 0, _ => .stuck
  | n + 1, μ => (c μ).res fun m μ1 => match m with
    | .dat (.bl false) => .nx μ1
    | .dat (.bl true) => match b μ1 with
      | .nx μ2 => whLoop c b n μ2
      | .cont μ2 => whLoop c b n μ2
      | .brk μ2 => .nx μ2
      | r => r
    | _ => .stuck
def forLoop (t : Tg) (b : Env → Res) : List D → Env → Res
  | [], μ => .nx μ
  | d :: ds, μ => match setTg t (.dat d) μ with
    | none => .stuck
    | some μ1 => match b μ1 with
      | .nx μ2 => forLoop t b ds μ2
      | .cont μ2 => forLoop t b ds μ2
      | .brk μ2 => .nx μ2
      | r => r
def Res.unslot (i : Nat) : Res → Res
  | .nx μ => .nx (μ.set i none)
  | .ret m μ => .ret m (μ.set i none)
  | .brk μ => .brk (μ.set i none)
  | .cont μ => .cont (μ.set i none)
  | _ => .stuck
def Res.noErr : Res → Res
  | .err _ _ => .stuck
  | r => r
/-- the object in slot j goes back to its place -/
def unal (j : Nat) (pl : Pl) (a : Addr) (μ : Env) : Option Env := match slot μ j with
  | some m => match atPl (μ.set j none) pl with
    | some (.dat (.adr a')) => if a' = a then some (putPl (μ.set j none) pl m) else some (μ.set j none)
    | _ => some (μ.set j none)
  | none => none
def unalR (j : Nat) (pl : Pl) (a : Addr) : Res → Res
  | .stuck => .stuck
  | .err c μ => match unal j pl a μ with
    | some μ' => .err c μ'
    | none => .stuck
  | .nx μ => match unal j pl a μ with
    | some μ' => .nx μ'
    | none => .stuck
  | .ret m μ => match unal j pl a μ with
    | some μ' => .ret m μ'
    | none => .stuck
  | .brk _ => .stuck
  | .cont _ => .stuck
open Classical in
/-- what comes out whatever the address -/
noncomputable def allA (run : Addr → Res) : Res := if h : ∃ R, ∀ a, run a = R then Classical.choose h else .stuck
section
variable (sub : Str → Str → Bool) (C : Nat → List M → CR)
mutual
noncomputable def execS (pin : List Nat) (N : Nat) : S → Env → Res
  | .set t e, μ => (evalE C pin e μ).res fun m μ1 => if (t.slots.all fun i => !pin.contains i) = true then match setTg t m μ1 with
      | some μ2 => .nx μ2
      | none => .stuck
    else .stuck
  | .expr e, μ => (evalE C pin e μ).res fun _ μ1 => .nx μ1
  | .ret e, μ => (evalE C pin e μ).res fun m μ1 => .ret m μ1
  | .ite c a b, μ => (evalE C pin c μ).res fun m μ1 => match m with
    | .dat (.bl true) => execSs pin N a μ1
    | .dat (.bl false) => execSs pin N b μ1
    | _ => .stuck
  | .wh c b, μ => whLoop (evalE C pin c) (execSs pin N b) N μ
  | .for_ t f src b, μ => if (t.slots.all fun i => !pin.contains i) = true then (evalEs C pin src μ).res fun ms μ1 => match datsOf ms with
      | some ds => match f ds with
        | some xs => forLoop t (execSs pin N b) xs μ1
        | none => .stuck
      | none => .stuck
    else .stuck
  | .brk, μ => .brk μ
  | .cont, μ => .cont μ
  | .pass, μ => .nx μ
  | .raise c, μ => .err c μ
  | .try_ b hs, μ => match execSs pin N b μ with
    | .err c μ1 => execHs pin N hs c μ1
    | r => r
  | .frz i s, μ => match slot μ i with
    | some m => execS pin N s (μ.set i (some (.dat m.toD)))
    | none => .stuck
  | .isl i j Ts, μ => match slot μ j with
    | some (.dat (.exc c)) => if i < μ.length ∧ pin.contains i = false then .nx (μ.set i (some (.dat (.lst (Ts.map fun T => .bl (sub c T)))))) else .stuck
    | _ => .stuck
  | .nick c j p ss, μ => if j < μ.length ∧ pin.contains j = false then match evalP C pin p μ with
      | some pl => match atPl μ pl with
        | some m => if m.kind = 2 ∧ pl.1 ≠ j then match evalE C pin c μ with
          | .ok (.dat (.bl false)) _ => execSs pin N ss (μ.set j none)
          | .ok (.dat (.bl true)) _ => allA fun a => unalR j pl a (execSs (j :: pin) N ss ((putPl μ pl (.dat (.adr a))).set j (some m)))
          | _ => .stuck
          else .stuck
        | none => .stuck
      | none => .stuck
    else .stuck
noncomputable def execSs (pin : List Nat) (N : Nat) : Ss → Env → Res
  | .nil, μ => .nx μ
  | .cons s r, μ => match execS pin N s μ with
    | .nx μ1 => execSs pin N r μ1
    | q => q
noncomputable def execHs (pin : List Nat) (N : Nat) : Hs → Str → Env → Res
  | .nil, c, μ => .err c μ
  | .cons c' i b r, c, μ => if sub c c = true then
      if sub c c' = true then match i with
        | none => (execSs pin N b μ).noErr
        | some j => if j < μ.length ∧ pin.contains j = false then (execSs pin N b (μ.set j (some (.dat (.exc c))))).noErr.unslot j else .stuck
      else execHs pin N r c μ
    else .stuck
end
end
def outsOf (fn : Fn) (μ : Env) : List (Option M) := (List.range fn.np).map fun j => if fn.pin.contains j then slot μ j else none
def fnEnd (fn : Fn) : Res → CR
  | .nx μ => .ok (.dat .non) (outsOf fn μ)
  | .ret m μ => .ok m (outsOf fn μ)
  | .err c μ => .err c (outsOf fn μ)
  | _ => .stuck
def startE (fn : Fn) (ms : List M) : Env := ms.map some ++ List.replicate (fn.n - fn.np) none
/-- the calls: k of them within one another -/
noncomputable def callF (sub : Str → Str → Bool) (tab : Nat → Option Fn) (N : Nat) : Nat → Nat → List M → CR
  | 0, _, _ => .stuck
  | k + 1, g, ms => match tab g with
    | some fn => if ms.length = fn.np then fnEnd fn (execSs sub (callF sub tab N k) fn.pin N fn.body (startE fn ms)) else .stuck
    | none => .stuck
example (C : Nat → List M → CR) (pin : List Nat) (d : D) (μ : Env) : evalE C pin (.con d) μ = .ok (.dat d) μ := rfl
end Mi
/-! Mi2: what stands for data in an abstract heap. -/
namespace Mi
open PySem L2

abbrev ASet := Addr → Prop
def Ex (H H' : Hp) : Prop := ∀ a o, H a = some o → H' a = some o
theorem Ex.refl (H : Hp) : Ex H H := fun _ _ h => h
theorem Ex.trans {H H1 H2 : Hp} (a : Ex H H1) (b : Ex H1 H2) : Ex H H2 := fun x o h => b x o (a x o h)
theorem Ex.new {H : Hp} {p : Addr} {o : HO} (h : H p = none) : Ex H (upd H p o) := fun a u e => by
  rw [upd_ne (ne_of_none e h)]
  exact e
theorem Ex.none {H H' : Hp} (e : Ex H H') {a : Addr} (h : H' a = none) : H a = none := by
  cases q : H a with
  | none => rfl
  | some o => rw [e a o q] at h; cases h
theorem Ex.l {K : PySem.W.Frag} {H H' : Hp} {a : Addr} {xs : List V} (e : Ex H H') (h : SqL K H a xs) : SqL K H' a xs := by
  rcases h with (h | ⟨o, h⟩) | h
  · exact .inl (.inl (e a _ h))
  · exact .inl (.inr ⟨o, e a _ h⟩)
  · exact .inr h
theorem Ex.t {K : PySem.W.Frag} {H H' : Hp} {a : Addr} {xs : List V} (e : Ex H H') (h : SqT K H a xs) : SqT K H' a xs := by
  rcases h with (h | ⟨o, h⟩) | h
  · exact .inl (.inl (e a _ h))
  · exact .inl (.inr ⟨o, e a _ h⟩)
  · exact .inr h

/-- what is read of a heap stays -/
structure Sw (K : PySem.W.Frag) (B B' : Hp) : Prop where
  l : ∀ {a : Addr} {xs : List V}, SqL K B a xs → SqL K B' a xs
  t : ∀ {a : Addr} {xs : List V}, SqT K B a xs → SqT K B' a xs
  d : ∀ {a : Addr} {kvs : List (Key × V)}, Rd B a (.dK kvs) → Rd B' a (.dK kvs)
  i : ∀ {a C dx : Addr} {fs : List (Str × V)}, B a = some (.ins C dx fs) → B' a = some (.ins C dx fs)
theorem Ex.r {H H' : Hp} {a : Addr} {u : HO} (e : Ex H H') (h : Rd H a u) : Rd H' a u := h.elim (fun h => .inl (e a _ h)) fun ⟨o, h⟩ => .inr ⟨o, e a _ h⟩
theorem Ex.sw {K : PySem.W.Frag} {H H' : Hp} (e : Ex H H') : Sw K H H' := ⟨fun h => e.l h, fun h => e.t h, fun h => e.r h, fun h => e _ _ h⟩

section
variable (K : PySem.W.Frag) (mg : Str → Option Value)
mutual
def Rep (B : Hp) : D → V → Prop
  | .non, v => v = .non
  | .bl b, v => v = .bl b
  | .int i, v => v = .int i
  | .str s, v => v = .str s
  | .tup xs, v => ∃ a vs, v = .ref a ∧ SqT K B a vs ∧ RepL B xs vs
  | .lst xs, v => ∃ a vs, v = .ref a ∧ SqL K B a vs ∧ RepL B xs vs
  | .dct ks xs, v => ∃ a vs, v = .ref a ∧ Rd B a (.dK (ks.zip vs)) ∧ ks.length = vs.length ∧ RepL B xs vs
  | .ins c ks xs, v => ∃ a vs, v = .ref a ∧ (∃ C dx, mg c = some (.ref C) ∧ B a = some (.ins C dx (ks.zip vs))) ∧ ks.length = vs.length ∧ RepL B xs vs
  | .exc _, v => ∃ a, v = .ref a
  | .adr a, v => v = .ref a
def RepL (B : Hp) : List D → List V → Prop
  | [], vs => vs = []
  | d :: ds, vs => ∃ v r, vs = v :: r ∧ Rep B d v ∧ RepL B ds r
end
/-- the object of an owned node -/
def ObjAt (H : Hp) : M → Addr → List V → Prop
  | .dat _, _, _ => False
  | .lst _, a, vs => H a = some (.lst vs)
  | .dct ks _, a, vs => H a = some (.dK (ks.zip vs)) ∧ ks.length = vs.length
  | .ins c ks _, a, vs => (∃ C dx, mg c = some (.ref C) ∧ H a = some (.ins C dx (ks.zip vs))) ∧ ks.length = vs.length
  | .tup _, a, vs => H a = some (.tup vs)
mutual
def RepM (B H : Hp) : M → V → ASet → Prop
  | .dat d, v, T => Rep K mg B d v ∧ ∀ a, ¬ T a
  | .lst ms, v, T => ∃ a vs U, v = .ref a ∧ ObjAt mg H (.lst ms) a vs ∧ B a = none ∧ RepMs B H ms vs U ∧ ¬ U a ∧ ∀ b, T b ↔ b = a ∨ U b
  | .dct ks ms, v, T => ∃ a vs U, v = .ref a ∧ ObjAt mg H (.dct ks ms) a vs ∧ B a = none ∧ RepMs B H ms vs U ∧ ¬ U a ∧ ∀ b, T b ↔ b = a ∨ U b
  | .ins c ks ms, v, T => ∃ a vs U, v = .ref a ∧ ObjAt mg H (.ins c ks ms) a vs ∧ B a = none ∧ RepMs B H ms vs U ∧ ¬ U a ∧ ∀ b, T b ↔ b = a ∨ U b
  | .tup ms, v, T => ∃ a vs U, v = .ref a ∧ ObjAt mg H (.tup ms) a vs ∧ B a = none ∧ RepMs B H ms vs U ∧ ¬ U a ∧ ∀ b, T b ↔ b = a ∨ U b
def RepMs (B H : Hp) : List M → List V → ASet → Prop
  | [], vs, T => vs = [] ∧ ∀ a, ¬ T a
  | m :: ms, vs, T => ∃ v r T1 T2, vs = v :: r ∧ RepM B H m v T1 ∧ RepMs B H ms r T2 ∧ (∀ a, T1 a → ¬ T2 a) ∧ ∀ b, T b ↔ T1 b ∨ T2 b
end
def M.isDat : M → Bool
  | .dat _ => true
  | _ => false
variable {K mg}
theorem repM_node {B H : Hp} {m : M} {v : V} {T : ASet} (h : m.isDat = false) :
    RepM K mg B H m v T ↔ ∃ a vs U, v = .ref a ∧ ObjAt mg H m a vs ∧ B a = none ∧ RepMs K mg B H m.kids vs U ∧ ¬ U a ∧ ∀ b, T b ↔ b = a ∨ U b := by
  cases m with
  | dat d => cases h
  | lst ms => unfold RepM; exact Iff.rfl
  | dct ks ms => unfold RepM; exact Iff.rfl
  | ins c ks ms => unfold RepM; exact Iff.rfl
  | tup ms => unfold RepM; exact Iff.rfl
theorem repM_dat {B H : Hp} {d : D} {v : V} {T : ASet} : RepM K mg B H (.dat d) v T ↔ Rep K mg B d v ∧ ∀ a, ¬ T a := by
  unfold RepM; exact Iff.rfl

mutual
theorem Rep.sw {B B' : Hp} (e : Sw K B B') : ∀ {d : D} {v : V}, Rep K mg B d v → Rep K mg B' d v
  | .non, _, h => by unfold Rep at *; exact h
  | .bl _, _, h => by unfold Rep at *; exact h
  | .int _, _, h => by unfold Rep at *; exact h
  | .str _, _, h => by unfold Rep at *; exact h
  | .exc _, _, h => by unfold Rep at *; exact h
  | .adr _, _, h => by unfold Rep at *; exact h
  | .tup xs, _, h => by
    unfold Rep at *
    obtain ⟨a, vs, h1, h2, h3⟩ := h
    exact ⟨a, vs, h1, e.t h2, RepL.sw e h3⟩
  | .lst xs, _, h => by
    unfold Rep at *
    obtain ⟨a, vs, h1, h2, h3⟩ := h
    exact ⟨a, vs, h1, e.l h2, RepL.sw e h3⟩
  | .dct ks xs, _, h => by
    unfold Rep at *
    obtain ⟨a, vs, h1, h2, h3, h4⟩ := h
    exact ⟨a, vs, h1, e.d h2, h3, RepL.sw e h4⟩
  | .ins c ks xs, _, h => by
    unfold Rep at *
    obtain ⟨a, vs, h1, ⟨C, dx, h2, h5⟩, h3, h4⟩ := h
    exact ⟨a, vs, h1, ⟨C, dx, h2, e.i h5⟩, h3, RepL.sw e h4⟩
theorem RepL.sw {B B' : Hp} (e : Sw K B B') : ∀ {ds : List D} {vs : List V}, RepL K mg B ds vs → RepL K mg B' ds vs
  | [], _, h => by unfold RepL at *; exact h
  | d :: ds, _, h => by
    unfold RepL at *
    obtain ⟨v, r, h1, h2, h3⟩ := h
    exact ⟨v, r, h1, Rep.sw e h2, RepL.sw e h3⟩
end
theorem Rep.mono {B B' : Hp} (e : Ex B B') {d : D} {v : V} (h : Rep K mg B d v) : Rep K mg B' d v := h.sw e.sw
theorem RepL.mono {B B' : Hp} (e : Ex B B') {ds : List D} {vs : List V} (h : RepL K mg B ds vs) : RepL K mg B' ds vs := h.sw e.sw
mutual
theorem Rep.hard {B B' : Hp} (e : ∀ a vs, SqT K B a vs → SqT K B' a vs) : ∀ {d : D} {v : V}, d.hard = true → Rep K mg B d v → Rep K mg B' d v
  | .non, _, _, h => by unfold Rep at *; exact h
  | .bl _, _, _, h => by unfold Rep at *; exact h
  | .int _, _, _, h => by unfold Rep at *; exact h
  | .str _, _, _, h => by unfold Rep at *; exact h
  | .exc _, _, _, h => by unfold Rep at *; exact h
  | .adr _, _, _, h => by unfold Rep at *; exact h
  | .tup xs, _, q, h => by
    unfold Rep at *
    obtain ⟨a, vs, h1, h2, h3⟩ := h
    exact ⟨a, vs, h1, e _ _ h2, RepL.hard e (by simpa [D.hard] using q) h3⟩
theorem RepL.hard {B B' : Hp} (e : ∀ a vs, SqT K B a vs → SqT K B' a vs) : ∀ {ds : List D} {vs : List V}, D.hard.hards ds = true → RepL K mg B ds vs → RepL K mg B' ds vs
  | [], _, _, h => by unfold RepL at *; exact h
  | d :: ds, _, q, h => by
    unfold RepL at *
    obtain ⟨v, r, h1, h2, h3⟩ := h
    have q' : d.hard = true ∧ D.hard.hards ds = true := by simpa [D.hard.hards] using q
    exact ⟨v, r, h1, Rep.hard e q'.1 h2, RepL.hard e q'.2 h3⟩
end

theorem ObjAt.there {H : Hp} {m : M} {a : Addr} {vs : List V} (h : ObjAt mg H m a vs) : H a ≠ none := by
  cases m with
  | dat d => exact h.elim
  | lst ms => intro e; have h : H a = some _ := h; rw [h] at e; cases e
  | dct ks ms => intro e; have h := h.1; rw [h] at e; cases e
  | ins c ks ms => intro e; obtain ⟨⟨C, dx, _, h⟩, _⟩ := h; rw [h] at e; cases e
  | tup ms => intro e; have h : H a = some _ := h; rw [h] at e; cases e
theorem ObjAt.congr {H H' : Hp} {m : M} {a : Addr} {vs : List V} (q : H' a = H a) (h : ObjAt mg H m a vs) : ObjAt mg H' m a vs := by
  cases m with
  | dat d => exact h
  | lst ms => show H' a = some _; rw [q]; exact h
  | dct ks ms => show H' a = some _ ∧ _; rw [q]; exact h
  | ins c ks ms => show (∃ C dx, _ ∧ H' a = some _) ∧ _; rw [q]; exact h
  | tup ms => show H' a = some _; rw [q]; exact h

mutual
/-- the owned nodes stand in the heap, and not among the frozen -/
theorem RepM.owned {B H : Hp} : ∀ {m : M} {v : V} {T : ASet}, RepM K mg B H m v T → ∀ a, T a → H a ≠ none ∧ B a = none
  | .dat d, v, T, h, a, ha => absurd ha ((repM_dat.mp h).2 a)
  | .lst ms, v, T, h, b, hb => by
    unfold RepM at h
    obtain ⟨a, vs, U, _, h2, h3, h4, _, h6⟩ := h
    rcases (h6 b).mp hb with rfl | q
    · exact ⟨h2.there, h3⟩
    · exact RepMs.owned h4 b q
  | .dct ks ms, v, T, h, b, hb => by
    unfold RepM at h
    obtain ⟨a, vs, U, _, h2, h3, h4, _, h6⟩ := h
    rcases (h6 b).mp hb with rfl | q
    · exact ⟨h2.there, h3⟩
    · exact RepMs.owned h4 b q
  | .ins c ks ms, v, T, h, b, hb => by
    unfold RepM at h
    obtain ⟨a, vs, U, _, h2, h3, h4, _, h6⟩ := h
    rcases (h6 b).mp hb with rfl | q
    · exact ⟨h2.there, h3⟩
    · exact RepMs.owned h4 b q
  | .tup ms, v, T, h, b, hb => by
    unfold RepM at h
    obtain ⟨a, vs, U, _, h2, h3, h4, _, h6⟩ := h
    rcases (h6 b).mp hb with rfl | q
    · exact ⟨h2.there, h3⟩
    · exact RepMs.owned h4 b q
theorem RepMs.owned {B H : Hp} : ∀ {ms : List M} {vs : List V} {T : ASet}, RepMs K mg B H ms vs T → ∀ a, T a → H a ≠ none ∧ B a = none
  | [], vs, T, h, a, ha => by unfold RepMs at h; exact absurd ha (h.2 a)
  | m :: ms, vs, T, h, a, ha => by
    unfold RepMs at h
    obtain ⟨v, r, T1, T2, _, h1, h2, _, h4⟩ := h
    rcases (h4 a).mp ha with q | q
    · exact RepM.owned h1 a q
    · exact RepMs.owned h2 a q
end

mutual
theorem RepM.sw {B B' H H' : Hp} (e : Sw K B B') : ∀ {m : M} {v : V} {T : ASet}, (∀ a, T a → H' a = H a ∧ B' a = none) → RepM K mg B H m v T → RepM K mg B' H' m v T
  | .dat d, v, T, _, h => repM_dat.mpr ⟨Rep.sw e (repM_dat.mp h).1, (repM_dat.mp h).2⟩
  | .lst ms, v, T, k, h => by
    unfold RepM at *
    obtain ⟨a, vs, U, h1, h2, h3, h4, h5, h6⟩ := h
    have ka := k a ((h6 a).mpr (.inl rfl))
    exact ⟨a, vs, U, h1, h2.congr ka.1, ka.2, RepMs.sw e (fun b hb => k b ((h6 b).mpr (.inr hb))) h4, h5, h6⟩
  | .dct ks ms, v, T, k, h => by
    unfold RepM at *
    obtain ⟨a, vs, U, h1, h2, h3, h4, h5, h6⟩ := h
    have ka := k a ((h6 a).mpr (.inl rfl))
    exact ⟨a, vs, U, h1, h2.congr ka.1, ka.2, RepMs.sw e (fun b hb => k b ((h6 b).mpr (.inr hb))) h4, h5, h6⟩
  | .ins c ks ms, v, T, k, h => by
    unfold RepM at *
    obtain ⟨a, vs, U, h1, h2, h3, h4, h5, h6⟩ := h
    have ka := k a ((h6 a).mpr (.inl rfl))
    exact ⟨a, vs, U, h1, h2.congr ka.1, ka.2, RepMs.sw e (fun b hb => k b ((h6 b).mpr (.inr hb))) h4, h5, h6⟩
  | .tup ms, v, T, k, h => by
    unfold RepM at *
    obtain ⟨a, vs, U, h1, h2, h3, h4, h5, h6⟩ := h
    have ka := k a ((h6 a).mpr (.inl rfl))
    exact ⟨a, vs, U, h1, h2.congr ka.1, ka.2, RepMs.sw e (fun b hb => k b ((h6 b).mpr (.inr hb))) h4, h5, h6⟩
theorem RepMs.sw {B B' H H' : Hp} (e : Sw K B B') : ∀ {ms : List M} {vs : List V} {T : ASet}, (∀ a, T a → H' a = H a ∧ B' a = none) → RepMs K mg B H ms vs T → RepMs K mg B' H' ms vs T
  | [], vs, T, _, h => by unfold RepMs at *; exact h
  | m :: ms, vs, T, k, h => by
    unfold RepMs at *
    obtain ⟨v, r, T1, T2, h0, h1, h2, h3, h4⟩ := h
    exact ⟨v, r, T1, T2, h0, RepM.sw e (fun a ha => k a ((h4 a).mpr (.inl ha))) h1, RepMs.sw e (fun a ha => k a ((h4 a).mpr (.inr ha))) h2, h3, h4⟩
end
theorem RepM.congr {B B' H H' : Hp} (e : Ex B B') {m : M} {v : V} {T : ASet} (k : ∀ a, T a → H' a = H a ∧ B' a = none) (h : RepM K mg B H m v T) : RepM K mg B' H' m v T := h.sw e.sw k
theorem RepMs.congr {B B' H H' : Hp} (e : Ex B B') {ms : List M} {vs : List V} {T : ASet} (k : ∀ a, T a → H' a = H a ∧ B' a = none) (h : RepMs K mg B H ms vs T) : RepMs K mg B' H' ms vs T := h.sw e.sw k

/-! ### freezing -/
open Classical in
/-- what is owned by T is frozen as it stands -/
noncomputable def frz (B H : Hp) (T : ASet) : Hp := fun a => if T a then H a else B a
theorem frz_in {B H : Hp} {T : ASet} {a : Addr} (h : T a) : frz B H T a = H a := by unfold frz; rw [if_pos h]
theorem frz_out {B H : Hp} {T : ASet} {a : Addr} (h : ¬ T a) : frz B H T a = B a := by unfold frz; rw [if_neg h]
theorem frz_ex {B H : Hp} {T : ASet} (k : ∀ a, T a → B a = none) : Ex B (frz B H T) := fun a o e => by
  by_cases h : T a
  · rw [k a h] at e; cases e
  · rw [frz_out h]; exact e
theorem frz_sub {B H : Hp} {T : ASet} (e : Ex B H) : Ex (frz B H T) H := fun a o q => by
  by_cases h : T a
  · rw [frz_in h] at q; exact q
  · rw [frz_out h] at q; exact e a o q

theorem repL_len {B : Hp} : ∀ {ds : List D} {vs : List V}, RepL K mg B ds vs → ds.length = vs.length
  | [], vs, h => by unfold RepL at h; subst h; rfl
  | d :: ds, vs, h => by
    unfold RepL at h
    obtain ⟨v, r, rfl, _, h⟩ := h
    simp [repL_len h]
theorem repMs_len {B H : Hp} : ∀ {ms : List M} {vs : List V} {T : ASet}, RepMs K mg B H ms vs T → ms.length = vs.length
  | [], vs, T, h => by unfold RepMs at h; rw [h.1]; rfl
  | m :: ms, vs, T, h => by
    unfold RepMs at h
    obtain ⟨v, r, T1, T2, rfl, _, h, _⟩ := h
    simp [repMs_len h]

mutual
theorem RepM.freeze {B H B' : Hp} (e : Ex B B') : ∀ {m : M} {v : V} {T : ASet}, (∀ a, T a → B' a = H a) → RepM K mg B H m v T → Rep K mg B' m.toD v
  | .dat d, v, T, _, h => by
    have q := (repM_dat.mp h).1
    unfold M.toD
    exact Rep.mono e q
  | .lst ms, v, T, k, h => by
    unfold RepM at h
    obtain ⟨a, vs, U, h1, h2, h3, h4, h5, h6⟩ := h
    unfold M.toD Rep
    refine ⟨a, vs, h1, .inl (.inl ?_), RepMs.freeze e (fun b hb => k b ((h6 b).mpr (.inr hb))) h4⟩
    rw [k a ((h6 a).mpr (.inl rfl))]
    exact h2
  | .dct ks ms, v, T, k, h => by
    unfold RepM at h
    obtain ⟨a, vs, U, h1, h2, h3, h4, h5, h6⟩ := h
    unfold M.toD Rep
    refine ⟨a, vs, h1, .inl ?_, h2.2, RepMs.freeze e (fun b hb => k b ((h6 b).mpr (.inr hb))) h4⟩
    rw [k a ((h6 a).mpr (.inl rfl))]
    exact h2.1
  | .ins c ks ms, v, T, k, h => by
    unfold RepM at h
    obtain ⟨a, vs, U, h1, h2, h3, h4, h5, h6⟩ := h
    unfold M.toD Rep
    refine ⟨a, vs, h1, ?_, h2.2, RepMs.freeze e (fun b hb => k b ((h6 b).mpr (.inr hb))) h4⟩
    rw [k a ((h6 a).mpr (.inl rfl))]
    exact h2.1
  | .tup ms, v, T, k, h => by
    unfold RepM at h
    obtain ⟨a, vs, U, h1, h2, h3, h4, h5, h6⟩ := h
    unfold M.toD Rep
    refine ⟨a, vs, h1, .inl (.inl ?_), RepMs.freeze e (fun b hb => k b ((h6 b).mpr (.inr hb))) h4⟩
    rw [k a ((h6 a).mpr (.inl rfl))]
    exact h2
theorem RepMs.freeze {B H B' : Hp} (e : Ex B B') : ∀ {ms : List M} {vs : List V} {T : ASet}, (∀ a, T a → B' a = H a) → RepMs K mg B H ms vs T → RepL K mg B' (M.toDs ms) vs
  | [], vs, T, _, h => by
    unfold RepMs at h
    unfold M.toDs RepL
    exact h.1
  | m :: ms, vs, T, k, h => by
    unfold RepMs at h
    obtain ⟨v, r, T1, T2, h0, h1, h2, h3, h4⟩ := h
    unfold M.toDs RepL
    exact ⟨v, r, h0, RepM.freeze e (fun a ha => k a ((h4 a).mpr (.inl ha))) h1, RepMs.freeze e (fun a ha => k a ((h4 a).mpr (.inr ha))) h2⟩
end
end
end Mi
/-! Mi3: the state of a body: slots, frozen and owned; what a step may change. -/
namespace Mi
open PySem L2

/-- what a piece of code may do to the heap: B frozen, S owned ahead; B', S' behind -/
structure Step (B H : Hp) (S : ASet) (B' H' : Hp) (S' : ASet) : Prop where
  ex : Ex B B'
  fr : ∀ a u, H a = some u → ¬ S a → H' a = some u
  dom : ∀ a, H' a = none → H a = none
  ow : ∀ a, S' a → S a ∨ H a = none
  fz : ∀ a, B' a ≠ none → B a ≠ none ∨ S a ∨ H a = none
theorem Step.refl (B H : Hp) (S : ASet) : Step B H S B H S := ⟨Ex.refl B, fun _ _ h _ => h, fun _ h => h, fun _ h => .inl h, fun _ h => .inl h⟩
theorem Step.trans {B H B1 H1 B2 H2 : Hp} {S S1 S2 : ASet} (x : Step B H S B1 H1 S1) (y : Step B1 H1 S1 B2 H2 S2) : Step B H S B2 H2 S2 where
  ex := x.ex.trans y.ex
  fr := fun a u e n => y.fr a u (x.fr a u e n) fun q => (x.ow a q).elim n fun z => by rw [z] at e; cases e
  dom := fun a e => x.dom a (y.dom a e)
  ow := fun a q => (y.ow a q).elim (x.ow a) fun z => .inr (x.dom a z)
  fz := fun a q => (y.fz a q).elim (x.fz a) fun z => z.elim (fun z => (x.ow a z).elim (fun w => .inr (.inl w)) fun w => .inr (.inr w)) fun z => .inr (.inr (x.dom a z))
/-- more owned ahead, less behind -/
theorem Step.weak {B H B' H' : Hp} {S S' T T' : ASet} (x : Step B H S B' H' S') (h : ∀ a, S a → T a) (h' : ∀ a, T' a → S' a) : Step B H T B' H' T' where
  ex := x.ex
  fr := fun a u e n => x.fr a u e fun q => n (h a q)
  dom := x.dom
  ow := fun a q => (x.ow a (h' a q)).imp (h a) id
  fz := fun a q => (x.fz a q).imp id fun z => z.imp (h a) id
/-- something beside that stays -/
theorem Step.frame {B H B' H' : Hp} {S S' F : ASet} (x : Step B H S B' H' S') (hF : ∀ a, F a → ¬ S a ∧ H a ≠ none) : Step B H (fun a => S a ∨ F a) B' H' (fun a => S' a ∨ F a) where
  ex := x.ex
  fr := fun a u e n => x.fr a u e fun q => n (.inl q)
  dom := x.dom
  ow := fun a q => q.elim (fun z => (x.ow a z).imp .inl id) fun z => .inl (.inr z)
  fz := fun a q => (x.fz a q).imp id fun z => z.imp .inl id
/-- .. and is apart from what is owned behind, and not frozen -/
theorem Step.apart {B H B' H' : Hp} {S S' : ASet} (x : Step B H S B' H' S') {a : Addr} (n : ¬ S a) (h : H a ≠ none) (hb : B a = none) : ¬ S' a ∧ B' a = none ∧ H' a = H a := by
  refine ⟨fun q => (x.ow a q).elim n h, ?_, ?_⟩
  · cases e : B' a with
    | none => rfl
    | some u => exact absurd ((x.fz a (by rw [e]; simp)).elim (fun z => absurd hb z) fun z => z.elim (fun z => absurd z n) fun z => absurd z h) id
  · cases e : H a with
    | none => exact absurd e h
    | some u => exact x.fr a u e n
/-- new things alone, and they are frozen -/
structure PStep (B H B' H' : Hp) : Prop where
  ex : Ex B B'
  sub : Ex B' H'
  ext : Ex H H'
  fz : ∀ a, B' a ≠ none → B a ≠ none ∨ H a = none
theorem PStep.refl {B H : Hp} (h : Ex B H) : PStep B H B H := ⟨Ex.refl B, h, Ex.refl H, fun _ h => .inl h⟩
theorem PStep.step {B H B' H' : Hp} (x : PStep B H B' H') (S : ASet) : Step B H S B' H' S where
  ex := x.ex
  fr := fun a u e _ => x.ext a u e
  dom := fun a e => x.ext.none e
  ow := fun _ q => .inl q
  fz := fun a q => (x.fz a q).imp id .inr
/-- a new object, frozen -/
theorem PStep.new {B H : Hp} (e : Ex B H) {p : Addr} (o : HO) (h : H p = none) : PStep B H (upd B p o) (upd H p o) where
  ex := Ex.new (e.none h)
  sub := fun a u q => by
    by_cases z : a = p
    · subst z; rw [upd_same] at q ⊢; exact q
    · rw [upd_ne z] at q ⊢; exact e a u q
  ext := Ex.new h
  fz := fun a q => by
    by_cases z : a = p
    · subst z; exact .inr h
    · rw [upd_ne z] at q; exact .inl q

section
variable (K : PySem.W.Frag) (mg : Str → Option Value)
/-- the slots: each its own -/
def Slots (B H : Hp) (σ : L2.St) (μ : Env) (S : ASet) : Prop :=
  ∃ F : Nat → ASet, (∀ i m, slot μ i = some m → ∃ v, σ[i]? = some (some v) ∧ RepM K mg B H m v (F i)) ∧ (∀ i, slot μ i = none → ∀ a, ¬ F i a) ∧
    (∀ i j a, i ≠ j → F i a → ¬ F j a) ∧ ∀ a, S a ↔ ∃ i, F i a
/-- the state: π the slots that stay bound -/
structure Stt (π : List (Nat × V)) (B H : Hp) (σ : L2.St) (μ : Env) (S : ASet) : Prop where
  sub : Ex B H
  len : σ.length = μ.length
  slots : Slots K mg B H σ μ S
  pins : ∀ p ∈ π, σ[p.1]? = some (some p.2)
variable {K mg}
variable {π : List (Nat × V)} {B H B' H' : Hp} {σ : L2.St} {μ : Env} {S : ASet}

theorem RepM.cast {m : M} {v : V} {T T' : ASet} (r : RepM K mg B H m v T) (h : ∀ a, T a ↔ T' a) : RepM K mg B H m v T' := by
  have e : T = T' := funext fun a => propext (h a)
  rw [← e]; exact r
theorem slot_lt {i : Nat} {m : M} (h : slot μ i = some m) : i < μ.length := by
  unfold slot at h
  cases e : μ[i]? with
  | none => rw [e] at h; cases h
  | some o => exact (List.getElem?_eq_some_iff.mp e).1
theorem slot_set_same {i : Nat} {o : Option M} (h : i < μ.length) : slot (μ.set i o) i = o := by
  unfold slot; rw [List.getElem?_set_self h]; rfl
theorem slot_set_ne {i j : Nat} {o : Option M} (h : i ≠ j) : slot (μ.set i o) j = slot μ j := by
  unfold slot; rw [List.getElem?_set_ne h]
theorem slot_set_none {i j : Nat} : slot (μ.set i none) j = if i = j then none else slot μ j := by
  by_cases h : i = j
  · subst h
    rw [if_pos rfl]
    by_cases hl : i < μ.length
    · exact slot_set_same hl
    · unfold slot; rw [List.getElem?_eq_none (by simpa using hl)]; rfl
  · rw [if_neg h]; exact slot_set_ne h

theorem Stt.owned (s : Stt K mg π B H σ μ S) : ∀ a, S a → H a ≠ none ∧ B a = none := fun a ha => by
  obtain ⟨F, h1, h2, h3, h4⟩ := s.slots
  obtain ⟨i, hi⟩ := (h4 a).mp ha
  cases e : slot μ i with
  | none => exact absurd hi (h2 i e a)
  | some m =>
    obtain ⟨v, _, r⟩ := h1 i m e
    exact r.owned a hi
/-- what is owned stands as it stood -/
theorem Stt.congr (s : Stt K mg π B H σ μ S) (ex : Ex B B') (sub : Ex B' H') (k : ∀ a, S a → H' a = H a ∧ B' a = none) : Stt K mg π B' H' σ μ S := by
  obtain ⟨F, h1, h2, h3, h4⟩ := s.slots
  refine ⟨sub, s.len, ⟨F, fun i m e => ?_, h2, h3, h4⟩, s.pins⟩
  obtain ⟨v, e1, r⟩ := h1 i m e
  exact ⟨v, e1, r.congr ex fun a ha => k a ((h4 a).mpr ⟨i, ha⟩)⟩
theorem Stt.pure (s : Stt K mg π B H σ μ S) (p : PStep B H B' H') : Stt K mg π B' H' σ μ S := by
  refine s.congr p.ex p.sub fun a ha => ?_
  obtain ⟨h1, h2⟩ := s.owned a ha
  refine ⟨?_, ?_⟩
  · cases e : H a with
    | none => exact absurd e h1
    | some u => exact p.ext a u e
  · cases e : B' a with
    | none => rfl
    | some u => exact absurd ((p.fz a (by rw [e]; simp)).elim (fun z => z h2) h1) id
/-- a slot's own -/
theorem Stt.get (s : Stt K mg π B H σ μ S) {i : Nat} {m : M} (e : slot μ i = some m) : ∃ v T, σ[i]? = some (some v) ∧ RepM K mg B H m v T ∧ ∀ a, T a → S a := by
  obtain ⟨F, h1, h2, h3, h4⟩ := s.slots
  obtain ⟨v, e1, r⟩ := h1 i m e
  exact ⟨v, F i, e1, r, fun a ha => (h4 a).mpr ⟨i, ha⟩⟩
theorem Stt.getD (s : Stt K mg π B H σ μ S) {i : Nat} {d : D} (e : slot μ i = some (.dat d)) : ∃ v, σ[i]? = some (some v) ∧ Rep K mg B d v := by
  obtain ⟨v, T, e1, r, _⟩ := s.get e
  exact ⟨v, e1, (repM_dat.mp r).1⟩
/-- a slot is taken out -/
theorem Stt.take (s : Stt K mg π B H σ μ S) {i : Nat} {m : M} (e : slot μ i = some m) : ∃ v T S', σ[i]? = some (some v) ∧ RepM K mg B H m v T ∧ Stt K mg π B H σ (μ.set i none) S' ∧ (∀ a, T a → ¬ S' a) ∧ ∀ a, S a ↔ S' a ∨ T a := by
  obtain ⟨F, h1, h2, h3, h4⟩ := s.slots
  obtain ⟨v, e1, r⟩ := h1 i m e
  refine ⟨v, F i, fun a => ∃ j, j ≠ i ∧ F j a, e1, r, ⟨s.sub, by rw [List.length_set]; exact s.len, ⟨fun j a => j ≠ i ∧ F j a, fun j m' e' => ?_, fun j e' a q => ?_, fun j k a n q z => h3 j k a n q.2 z.2, fun a => Iff.rfl⟩, s.pins⟩,
    fun a q ⟨j, n, z⟩ => h3 j i a n z q, fun a => ⟨fun q => ?_, fun q => ?_⟩⟩
  · rw [slot_set_none] at e'
    by_cases z : i = j
    · rw [if_pos z] at e'; cases e'
    · rw [if_neg z] at e'
      obtain ⟨v', e2, r'⟩ := h1 j m' e'
      exact ⟨v', e2, r'.cast fun a => ⟨fun q => ⟨fun w => z w.symm, q⟩, fun q => q.2⟩⟩
  · rw [slot_set_none] at e'
    by_cases z : i = j
    · exact q.1 z.symm
    · rw [if_neg z] at e'
      exact h2 j e' a q.2
  · obtain ⟨j, z⟩ := (h4 a).mp q
    by_cases w : j = i
    · subst w; exact .inr z
    · exact .inl ⟨j, w, z⟩
  · rcases q with ⟨j, _, z⟩ | z
    · exact (h4 a).mpr ⟨j, z⟩
    · exact (h4 a).mpr ⟨i, z⟩
/-- a slot is filled (what stood there is dropped) -/
theorem Stt.fill (s : Stt K mg π B H σ μ S) {i : Nat} {m : M} {v : V} {T : ASet} (hi : i < μ.length) (r : RepM K mg B H m v T) (d : ∀ a, T a → ¬ S a) (np : ∀ p ∈ π, p.1 ≠ i) :
    ∃ S', Stt K mg π B H (σ.set i (some v)) (μ.set i (some m)) S' ∧ ∀ a, S' a → S a ∨ T a := by
  obtain ⟨F, h1, h2, h3, h4⟩ := s.slots
  refine ⟨fun a => ∃ j, (j ≠ i ∧ F j a) ∨ (j = i ∧ T a), ⟨s.sub, by rw [List.length_set, List.length_set]; exact s.len, ⟨fun j a => (j ≠ i ∧ F j a) ∨ (j = i ∧ T a), fun j m' e' => ?_, fun j e' a q => ?_, fun j k a n q z => ?_, fun a => Iff.rfl⟩, fun p hp => ?_⟩, fun a ⟨j, q⟩ => ?_⟩
  · by_cases z : j = i
    · subst z
      rw [slot_set_same hi] at e'
      cases e'
      exact ⟨v, List.getElem?_set_self (by rw [s.len]; exact hi), r.cast fun a => ⟨fun q => .inr ⟨rfl, q⟩, fun q => q.elim (fun q => absurd rfl q.1) fun q => q.2⟩⟩
    · rw [slot_set_ne (fun w => z w.symm)] at e'
      obtain ⟨v', e2, r'⟩ := h1 j m' e'
      exact ⟨v', by rw [List.getElem?_set_ne (fun w => z w.symm)]; exact e2, r'.cast fun a => ⟨fun q => .inl ⟨z, q⟩, fun q => q.elim (fun q => q.2) fun q => absurd q.1 z⟩⟩
  · by_cases z : j = i
    · subst z
      rw [slot_set_same hi] at e'
      cases e'
    · rw [slot_set_ne (fun w => z w.symm)] at e'
      rcases q with q | q
      · exact h2 j e' a q.2
      · exact z q.1
  · rcases q with q | q
    · rcases z with z | z
      · exact h3 j k a n q.2 z.2
      · exact d a z.2 ((h4 a).mpr ⟨j, q.2⟩)
    · rcases z with z | z
      · exact d a q.2 ((h4 a).mpr ⟨k, z.2⟩)
      · exact n (q.1.trans z.1.symm)
  · rw [List.getElem?_set_ne (fun w => np p hp w.symm)]
    exact s.pins p hp
  · rcases q with q | q
    · exact .inl ((h4 a).mpr ⟨j, q.2⟩)
    · exact .inr q.2
theorem set_back {i : Nat} {v : V} (h : σ[i]? = some (some v)) : σ.set i (some v) = σ := by
  apply List.ext_getElem?
  intro j
  by_cases e : i = j
  · subst e
    rw [h, List.getElem?_set_self (List.getElem?_eq_some_iff.mp h).1]
  · rw [List.getElem?_set_ne e]
/-- a slot is filled with what stands at its value -/
theorem Stt.refill (s : Stt K mg π B H σ μ S) {i : Nat} {m : M} {v : V} {T : ASet} (hv : σ[i]? = some (some v)) (r : RepM K mg B H m v T) (d : ∀ a, T a → ¬ S a) :
    ∃ S', Stt K mg π B H σ (μ.set i (some m)) S' ∧ ∀ a, S' a → S a ∨ T a := by
  have s0 : Stt K mg [] B H σ μ S := ⟨s.sub, s.len, s.slots, fun p hp => nomatch hp⟩
  have hi : i < μ.length := by rw [← s.len]; exact (List.getElem?_eq_some_iff.mp hv).1
  obtain ⟨S', s1, h⟩ := s0.fill hi r d fun p hp => nomatch hp
  rw [set_back hv] at s1
  exact ⟨S', ⟨s1.sub, s1.len, s1.slots, s.pins⟩, h⟩
end

/-! ### places within -/
def kidsO : HO → List V
  | .lst vs => vs
  | .dK kvs => kvs.map (·.2)
  | .ins _ _ fs => fs.map (·.2)
  | .tup vs => vs
  | _ => []
/-- the value at a place within -/
def vAt (H : Hp) : V → List Nat → V → Prop
  | v, [], w => w = v
  | v, i :: r, w => ∃ a o v', v = .ref a ∧ H a = some o ∧ (kidsO o)[i]? = some v' ∧ vAt H v' r w
theorem vAt.mono {H H' : Hp} (e : Ex H H') : ∀ {p : List Nat} {v w : V}, vAt H v p w → vAt H' v p w
  | [], _, _, h => h
  | i :: r, _, _, h => by
    obtain ⟨a, o, v', h1, h2, h3, h4⟩ := h
    exact ⟨a, o, v', h1, e _ _ h2, h3, h4.mono e⟩
theorem vAt.det {H : Hp} : ∀ {p : List Nat} {v w w' : V}, vAt H v p w → vAt H v p w' → w = w'
  | [], _, _, _, h, h' => by rw [show _ = _ from h, show _ = _ from h']
  | i :: r, _, _, _, h, h' => by
    obtain ⟨a, o, v', h1, h2, h3, h4⟩ := h
    obtain ⟨a', o', v'', k1, k2, k3, k4⟩ := h'
    rw [h1] at k1
    cases k1
    rw [h2] at k2
    cases k2
    rw [h3] at k3
    cases k3
    exact h4.det k4
section
variable {K : PySem.W.Frag} {mg : Str → Option Value}
/-- one of some -/
theorem RepMs.at {B H : Hp} : ∀ {ms : List M} {vs : List V} {T : ASet} {i : Nat} {m : M}, RepMs K mg B H ms vs T → ms[i]? = some m →
    ∃ v Ti, vs[i]? = some v ∧ RepM K mg B H m v Ti ∧ (∀ a, Ti a → T a) ∧
      ∀ (B' H' : Hp) (m' : M) (v' : V) (T' : ASet), Ex B B' → (∀ a, T a → ¬ Ti a → H' a = H a ∧ B' a = none) → RepM K mg B' H' m' v' T' → (∀ a, T' a → T a → Ti a) →
        ∃ Tn, RepMs K mg B' H' (ms.set i m') (vs.set i v') Tn ∧ ∀ a, Tn a ↔ (T a ∧ ¬ Ti a) ∨ T' a
  | [], _, _, _, _, _, e => by simp at e
  | m0 :: ms, vs, T, 0, m, h, e => by
    simp only [List.getElem?_cons_zero, Option.some.injEq] at e
    subst e
    unfold RepMs at h
    obtain ⟨v, r, T1, T2, rfl, h1, h2, h3, h4⟩ := h
    refine ⟨v, T1, rfl, h1, fun a q => (h4 a).mpr (.inl q), fun B' H' m' v' T' ex k r' d => ?_⟩
    refine ⟨fun a => T' a ∨ T2 a, ?_, fun a => ⟨fun q => q.elim .inr fun q => .inl ⟨(h4 a).mpr (.inr q), fun z => h3 a z q⟩, fun q => q.elim (fun q => ((h4 a).mp q.1).elim (fun z => absurd z q.2) .inr) .inl⟩⟩
    show RepMs K mg B' H' (m' :: ms) (v' :: r) _
    unfold RepMs
    exact ⟨v', r, T', T2, rfl, r', h2.congr ex fun a q => k a ((h4 a).mpr (.inr q)) fun z => h3 a z q, fun a q z => h3 a (d a q ((h4 a).mpr (.inr z))) z, fun _ => Iff.rfl⟩
  | m0 :: ms, vs, T, i + 1, m, h, e => by
    simp only [List.getElem?_cons_succ] at e
    unfold RepMs at h
    obtain ⟨v, r, T1, T2, rfl, h1, h2, h3, h4⟩ := h
    obtain ⟨w, Ti, e1, rw', sub, k0⟩ := RepMs.at h2 e
    refine ⟨w, Ti, by simpa using e1, rw', fun a q => (h4 a).mpr (.inr (sub a q)), fun B' H' m' v' T' ex k r' d => ?_⟩
    obtain ⟨Tn, q1, q2⟩ := k0 B' H' m' v' T' ex (fun a z n => k a ((h4 a).mpr (.inr z)) n) r' fun a z w => d a z ((h4 a).mpr (.inr w))
    refine ⟨fun a => T1 a ∨ Tn a, ?_, fun a => ?_⟩
    · show RepMs K mg B' H' (m0 :: ms.set i m') (v :: r.set i v') _
      unfold RepMs
      refine ⟨v, r.set i v', T1, Tn, rfl, h1.congr ex fun a q => k a ((h4 a).mpr (.inl q)) fun z => h3 a q (sub a z), q1, fun a q z => ?_, fun _ => Iff.rfl⟩
      rcases (q2 a).mp z with ⟨z, _⟩ | z
      · exact h3 a q z
      · exact h3 a q (sub a (d a z ((h4 a).mpr (.inl q))))
    · show (T1 a ∨ Tn a) ↔ _
      rw [h4, q2]
      refine ⟨fun q => q.elim (fun q => .inl ⟨.inl q, fun z => h3 a q (sub a z)⟩) fun q => q.elim (fun q => .inl ⟨.inr q.1, q.2⟩) .inr, fun q => q.elim (fun q => q.1.elim .inl fun z => .inr (.inl ⟨z, q.2⟩)) fun z => .inr (.inr z)⟩

theorem map_snd_zip {α : Type} : ∀ {ks : List α} {vs : List V}, ks.length = vs.length → (ks.zip vs).map (·.2) = vs
  | [], [], _ => rfl
  | k :: ks, v :: vs, h => by
    show v :: (ks.zip vs).map (·.2) = v :: vs
    rw [map_snd_zip (by simpa using h)]
theorem ObjAt.kids {H : Hp} {m : M} {a : Addr} {vs : List V} (h : ObjAt mg H m a vs) : ∃ o, H a = some o ∧ kidsO o = vs := by
  cases m with
  | dat d => exact h.elim
  | lst ms => exact ⟨_, h, rfl⟩
  | dct ks ms => exact ⟨_, h.1, map_snd_zip h.2⟩
  | ins c ks ms =>
    obtain ⟨⟨C, dx, _, e⟩, l⟩ := h
    exact ⟨_, e, map_snd_zip l⟩
  | tup ms => exact ⟨_, h, rfl⟩
theorem M.kids_dat {d : D} : (M.dat d).kids = [] := rfl
theorem ObjAt.put {H : Hp} {m : M} {a : Addr} {vs : List V} {i : Nat} {x : M} {v : V} (h : ObjAt mg H m a vs) (e : vs[i]? = some v) : ObjAt mg H (m.setKid i x) a (vs.set i v) := by
  have q : vs.set i v = vs := by
    apply List.ext_getElem?
    intro j
    by_cases w : i = j
    · subst w; rw [e, List.getElem?_set_self (List.getElem?_eq_some_iff.mp e).1]
    · rw [List.getElem?_set_ne w]
  rw [q]
  cases m with
  | dat d => exact h
  | lst ms => exact h
  | dct ks ms => exact h
  | ins c ks ms => exact h
  | tup ms => exact h
theorem M.isDat_setKid {m : M} {i : Nat} {x : M} : (m.setKid i x).isDat = m.isDat := by cases m <;> rfl
theorem M.kids_setKid {m : M} {i : Nat} {x : M} : (m.setKid i x).kids = m.kids.set i x := by cases m <;> rfl
/-- what stands within, and what comes of another thing there -/
theorem RepM.at {B H : Hp} : ∀ (p : List Nat) {m : M} {v : V} {T : ASet} {m1 : M}, RepM K mg B H m v T → m.at p = some m1 →
    ∃ v1 T1, RepM K mg B H m1 v1 T1 ∧ (∀ a, T1 a → T a) ∧ vAt H v p v1 ∧
      ∀ (B' H' : Hp) (m' : M) (T' : ASet), Ex B B' → (∀ a, T a → ¬ T1 a → H' a = H a ∧ B' a = none) → RepM K mg B' H' m' v1 T' → (∀ a, T' a → T a → T1 a) →
        ∃ Tn, RepM K mg B' H' (m.put p m') v Tn ∧ ∀ a, Tn a ↔ (T a ∧ ¬ T1 a) ∨ T' a
  | [], m, v, T, m1, h, e => by
    have e' : m = m1 := by simpa [M.at] using e
    subst e'
    refine ⟨v, T, h, fun _ q => q, rfl, fun B' H' m' T' _ _ r _ => ⟨T', ?_, fun a => ⟨.inr, fun q => q.elim (fun z => absurd z.1 z.2) id⟩⟩⟩
    have q : m.put [] m' = m' := by unfold M.put; rfl
    rw [q]; exact r
  | i :: p, m, v, T, m1, h, e => by
    unfold M.at at e
    cases ek : m.kids[i]? with
    | none => rw [ek] at e; cases e
    | some k =>
      rw [ek] at e
      have e : k.at p = some m1 := e
      have nd : m.isDat = false := by
        cases m with
        | dat d => simp [M.kids] at ek
        | lst ms => rfl
        | dct ks ms => rfl
        | ins c ks ms => rfl
        | tup ms => rfl
      obtain ⟨a, vs, U, hv, ho, hb, hk, hu, ht⟩ := (repM_node nd).mp h
      obtain ⟨w, Ti, e1, rk, sub, put1⟩ := hk.at ek
      obtain ⟨v1, T1, r1, sub1, va, put2⟩ := RepM.at p rk e
      obtain ⟨o, ho1, ho2⟩ := ho.kids
      have sT : ∀ a, Ti a → T a := fun b q => (ht b).mpr (.inr (sub b q))
      refine ⟨v1, T1, r1, fun b q => sT b (sub1 b q), ⟨a, o, w, hv, ho1, by rw [ho2]; exact e1, va⟩, fun B' H' m' T' ex keep r' d => ?_⟩
      obtain ⟨Tn, q1, q2⟩ := put2 B' H' m' T' ex (fun b z n => keep b (sT b z) n) r' fun b z w => d b z (sT b w)
      obtain ⟨Tm, q3, q4⟩ := put1 B' H' (k.put p m') w Tn ex (fun b z n => keep b ((ht b).mpr (.inr z)) fun z' => n (sub1 b z')) q1 fun b z w => ((q2 b).mp z).elim (fun z => z.1) fun z => sub1 b (d b z ((ht b).mpr (.inr w)))
      have na : ¬ Ti a := fun z => hu (sub a z)
      have ka := keep a ((ht a).mpr (.inl rfl)) fun z => na (sub1 a z)
      have nTn : ¬ Tm a := fun z => by
        rcases (q4 a).mp z with z | z
        · exact hu z.1
        · rcases (q2 a).mp z with z | z
          · exact na z.1
          · exact na (sub1 a (d a z ((ht a).mpr (.inl rfl))))
      have ep : m.put (i :: p) m' = m.setKid i (k.put p m') := by
        show (match m.kids[i]? with | some k => m.setKid i (k.put p m') | none => m) = _
        rw [ek]
      rw [ep]
      refine ⟨fun b => b = a ∨ Tm b, (repM_node (by rw [M.isDat_setKid]; exact nd)).mpr ⟨a, vs.set i w, Tm, hv, (ho.congr ka.1).put e1, ka.2, by rw [M.kids_setKid]; exact q3, nTn, fun _ => Iff.rfl⟩, fun b => ?_⟩
      show (b = a ∨ Tm b) ↔ _
      rw [q4, q2, ht]
      refine ⟨fun q => ?_, fun q => ?_⟩
      · rcases q with rfl | q | q | q
        · exact .inl ⟨.inl rfl, fun z => na (sub1 b z)⟩
        · exact .inl ⟨.inr q.1, fun z => q.2 (sub1 b z)⟩
        · exact .inl ⟨.inr (sub b q.1), q.2⟩
        · exact .inr q
      · rcases q with ⟨rfl | z, n⟩ | q
        · exact .inl rfl
        · by_cases w : Ti b
          · exact .inr (.inr (.inl ⟨w, n⟩))
          · exact .inr (.inl ⟨z, w⟩)
        · exact .inr (.inr (.inr q))

variable {π : List (Nat × V)} {B H : Hp} {σ : L2.St} {μ : Env} {S : ASet}
/-- what stands at a place, and what comes of another thing there -/
theorem Stt.at (s : Stt K mg π B H σ μ S) {p : Pl} {m1 : M} (e : atPl μ p = some m1) :
    ∃ v1 T1, RepM K mg B H m1 v1 T1 ∧ (∀ a, T1 a → S a) ∧ (∃ v0, σ[p.1]? = some (some v0) ∧ vAt H v0 p.2 v1) ∧
      ∀ (B' H' : Hp) (m' : M) (T' : ASet), Ex B B' → Ex B' H' → (∀ a, S a → ¬ T1 a → H' a = H a ∧ B' a = none) → RepM K mg B' H' m' v1 T' → (∀ a, T' a → S a → T1 a) →
        ∃ S', Stt K mg π B' H' σ (putPl μ p m') S' ∧ ∀ a, S' a → (S a ∧ ¬ T1 a) ∨ T' a := by
  unfold atPl at e
  cases es : slot μ p.1 with
  | none => rw [es] at e; cases e
  | some m =>
    rw [es] at e
    have e : m.at p.2 = some m1 := e
    obtain ⟨v, T, S0, hv, r, s0, dj, hS⟩ := s.take es
    obtain ⟨v1, T1, r1, sub1, va, put1⟩ := r.at p.2 e
    refine ⟨v1, T1, r1, fun a q => (hS a).mpr (.inr (sub1 a q)), ⟨v, hv, va⟩, fun B' H' m' T' ex sub keep r' d => ?_⟩
    obtain ⟨Tn, q1, q2⟩ := put1 B' H' m' T' ex (fun a z n => keep a ((hS a).mpr (.inr z)) n) r' fun a z w => d a z ((hS a).mpr (.inr w))
    have s1 : Stt K mg π B' H' σ (μ.set p.1 none) S0 := s0.congr ex sub fun a q => keep a ((hS a).mpr (.inl q)) fun z => dj a (sub1 a z) q
    obtain ⟨S', s2, h2⟩ := s1.refill hv q1 fun a z w => by
      rcases (q2 a).mp z with z | z
      · exact dj a z.1 w
      · exact dj a (sub1 a (d a z ((hS a).mpr (.inl w)))) w
    rw [List.set_set] at s2
    have ep : putPl μ p m' = μ.set p.1 (some (m.put p.2 m')) := by unfold putPl; rw [es]
    rw [ep]
    refine ⟨S', s2, fun a q => ?_⟩
    rcases h2 a q with z | z
    · exact .inl ⟨(hS a).mpr (.inl z), fun w => dj a (sub1 a w) z⟩
    · exact ((q2 a).mp z).imp (fun z => ⟨(hS a).mpr (.inr z.1), z.2⟩) id
end
end Mi
/-! Mi4: expressions: what they come to is what the machine comes to. -/
namespace Mi
open PySem L2

/-! ### behind a piece of code -/
section
variable (K : PySem.W.Frag) (mg : Str → Option Value)
def Post {α β : Type} (pu : Bool) (Rl : Hp → Hp → α → β → ASet → Prop) (π : List (Nat × V)) (B H : Hp) (S : ASet) (σ : L2.St) (W : WX) (Q : β → Hp → Prop) : Out α → Prop
  | .stuck => False
  | .err c μ' => ∀ B' H' S', Stt K mg π B' H' σ μ' S' → Step B H S B' H' S' → ∀ C, mg c = some (.ref C) → W (.ref C) none σ H'
  | .ok a μ' => ∀ v B' H' S' T, Stt K mg π B' H' σ μ' S' → Rl B' H' a v T → (∀ x, T x → ¬ S' x) → Step B H S B' H' (fun x => S' x ∨ T x) → (pu = true → Ex H H') → Q v H'
variable {K mg}
theorem Post.mono {α β : Type} {pu : Bool} {Rl : Hp → Hp → α → β → ASet → Prop} {π : List (Nat × V)} {B H B1 H1 : Hp} {S S1 T : ASet} {σ : L2.St} {W : WX} {Q : β → Hp → Prop} {o : Out α}
    (h : Post K mg pu Rl π B H S σ W Q o) (x : Step B H S B1 H1 T) (hs : ∀ a, S1 a → T a) (hu : pu = true → Ex H H1) : Post K mg pu Rl π B1 H1 S1 σ W Q o := by
  cases o with
  | stuck => exact h
  | err c μ' => exact fun B' H' S' s y C hC => h B' H' S' s (x.trans (y.weak hs fun _ q => q)) C hC
  | ok a μ' => exact fun v B' H' S' T' s r d y u => h v B' H' S' T' s r d (x.trans (y.weak hs fun _ q => q)) fun q => (hu q).trans (u q)
end
theorem Post.pu {K : PySem.W.Frag} {mg : Str → Option Value} {α β : Type} {pu pu' : Bool} {Rl : Hp → Hp → α → β → ASet → Prop} {π : List (Nat × V)} {B H : Hp} {S : ASet} {σ : L2.St} {W : WX} {Q : β → Hp → Prop} {o : Out α}
    (h : Post K mg pu Rl π B H S σ W Q o) (k : pu = true → pu' = true) : Post K mg pu' Rl π B H S σ W Q o := by
  cases o with
  | stuck => exact h
  | err c μ' => exact h
  | ok a μ' => exact fun v B' H' S' T' s r d y u => h v B' H' S' T' s r d y fun q => u (k q)
/-- the pins are of these slots -/
def PinOf (π : List (Nat × V)) (pin : List Nat) : Prop := ∀ p ∈ π, p.1 ∈ pin
abbrev RM (K : PySem.W.Frag) (mg : Str → Option Value) : Hp → Hp → M → V → ASet → Prop := fun B H m v T => RepM K mg B H m v T
abbrev RMs (K : PySem.W.Frag) (mg : Str → Option Value) : Hp → Hp → List M → List V → ASet → Prop := fun B H m v T => RepMs K mg B H m v T
section
variable (K : PySem.W.Frag) (mg : Str → Option Value) (C : Nat → List M → CR) (pin : List Nat)
def tE (e : E) (W : WX) : TE := fun σ H Q => ∃ π B μ S, PinOf π pin ∧ Stt K mg π B H σ μ S ∧ Post K mg e.pure (RM K mg) π B H S σ W Q (evalE C pin e μ)
def tEs (es : Es) (W : WX) : TA := fun σ H Q => ∃ π B μ S, PinOf π pin ∧ Stt K mg π B H σ μ S ∧ Post K mg es.pure (RMs K mg) π B H S σ W Q (evalEs C pin es μ)
def tB' (Q : Bool → Hp → Prop) : V → Hp → Prop := fun v H => ∃ b, v = .bl b ∧ Q b H
def tT (e : E) (W : WX) : TT := fun σ H Q => tE K mg C pin e W σ H (fun v H' => ∃ b, v = .bl b ∧ Q b H')
/-- something new that holds this -/
def Fresh (B : Hp) (d : D) (o : HO) : Prop := (∃ ds vs, d = .lst ds ∧ o = .lst vs ∧ RepL K mg B ds vs) ∨ (∃ ks ds vs, d = .dct ks ds ∧ o = .dK (ks.zip vs) ∧ ks.length = vs.length ∧ RepL K mg B ds vs)
def PostF (pu : Bool) (π : List (Nat × V)) (B H : Hp) (S : ASet) (σ : L2.St) (W : WX) (Q : VK) : Out M → Prop
  | .ok (.dat d) μ' => ∀ p o B' H' S', Stt K mg π B' H' σ μ' S' → Step B H S B' H' S' → (pu = true → Ex H H') → H' p = none → Fresh K mg B' d o → Q (.ref p) (upd H' p o)
  | .ok _ _ => True
  | .stuck => False
  | .err c μ' => ∀ B' H' S', Stt K mg π B' H' σ μ' S' → Step B H S B' H' S' → ∀ C, mg c = some (.ref C) → W (.ref C) none σ H'
def tF (e : E) (W : WX) : TE := fun σ H Q => ∃ π B μ S, PinOf π pin ∧ Stt K mg π B H σ μ S ∧ PostF K mg e.pure π B H S σ W Q (evalE C pin e μ)
end

theorem PE.imp {X : Cx} {e : Expr} {t t' : TE} (h : PE X e t) (k : ∀ σ H Q, t' σ H Q → t σ H Q) : PE X e t' := ⟨fun pins s σ H Q I q => h.run pins s σ H Q I (k σ H Q q)⟩
theorem PT.imp {X : Cx} {e : Expr} {t t' : TT} (h : PT X e t) (k : ∀ σ H Q, t' σ H Q → t σ H Q) : PT X e t' := ⟨fun pins s σ H Q I q => h.run pins s σ H Q I (k σ H Q q)⟩
theorem PA.imp {X : Cx} {e : List Expr} {t t' : TA} (h : PA X e t) (k : ∀ σ H Q, t' σ H Q → t σ H Q) : PA X e t' := ⟨fun pos pins s σ H Q I q => h.run pos pins s σ H Q I (k σ H Q q)⟩

/-- the calls and the pins of a body -/
structure Bd where
  C : Nat → List M → CR
  pin : List Nat
  sub : Str → Str → Bool
  N : Nat
abbrev Bd.tE (b : Bd) (X : Cx) (e : E) (W : WX) : TE := Mi.tE X.K X.mg b.C b.pin e W
abbrev Bd.tEs (b : Bd) (X : Cx) (e : Es) (W : WX) : TA := Mi.tEs X.K X.mg b.C b.pin e W
abbrev Bd.tT (b : Bd) (X : Cx) (e : E) (W : WX) : TT := Mi.tT X.K X.mg b.C b.pin e W
abbrev Bd.tF (b : Bd) (X : Cx) (e : E) (W : WX) : TE := Mi.tF X.K X.mg b.C b.pin e W
/-- an expression does as e says -/
def ME (b : Bd) (X : Cx) (x : Expr) (e : E) : Prop := ∀ W, Takes X W → PE X x (b.tE X e W)
def MEs (b : Bd) (X : Cx) (x : List Expr) (e : Es) : Prop := ∀ W, Takes X W → PA X x (b.tEs X e W)
def MT (b : Bd) (X : Cx) (x : Expr) (e : E) : Prop := ∀ W, Takes X W → PT X x (b.tT X e W)
def MF (b : Bd) (X : Cx) (x : Expr) (e : E) : Prop := ∀ W, Takes X W → PE X x (b.tF X e W)

section
variable {K : PySem.W.Frag} {mg : Str → Option Value} {C : Nat → List M → CR} {pin : List Nat}
variable {π : List (Nat × V)} {B H : Hp} {σ : L2.St} {μ : Env} {S : ASet} {W : WX}
/-- an expression ahead of more -/
theorem bindE {β γ : Type} {pu : Bool} {Rl : Hp → Hp → β → γ → ASet → Prop} {e : E} {k : M → Env → Out β} {Q' : γ → Hp → Prop} {Q : VK} (hp : PinOf π pin) (s : Stt K mg π B H σ μ S)
    (h : Post K mg pu Rl π B H S σ W Q' ((evalE C pin e μ).bind k)) (hu : pu = true → e.pure = true)
    (hk : ∀ m μ1 v B1 H1 S1 T, Stt K mg π B1 H1 σ μ1 S1 → RepM K mg B1 H1 m v T → (∀ x, T x → ¬ S1 x) → Step B H S B1 H1 (fun x => S1 x ∨ T x) → Post K mg pu Rl π B1 H1 S1 σ W Q' (k m μ1) → Post K mg pu Rl π B1 H1 (fun x => S1 x ∨ T x) σ W Q' (k m μ1) → (e.pure = true → Ex H H1) → Q v H1) : tE K mg C pin e W σ H Q := by
  refine ⟨π, B, μ, S, hp, s, ?_⟩
  cases q : evalE C pin e μ with
  | stuck => rw [q] at h; exact h
  | err c μ' => rw [q] at h; exact h
  | ok m μ1 =>
    rw [q] at h
    have h : Post K mg pu Rl π B H S σ W Q' (k m μ1) := h
    exact fun v B' H' S' T s' r d x u => hk m μ1 v B' H' S' T s' r d x (h.mono x (fun _ z => .inl z) fun q => u (hu q)) (h.mono x (fun _ z => z) fun q => u (hu q)) u
theorem bindEs {β γ : Type} {pu : Bool} {Rl : Hp → Hp → β → γ → ASet → Prop} {e : Es} {k : List M → Env → Out β} {Q' : γ → Hp → Prop} {Q : List V → Hp → Prop} (hp : PinOf π pin) (s : Stt K mg π B H σ μ S)
    (h : Post K mg pu Rl π B H S σ W Q' ((evalEs C pin e μ).bind k)) (hu : pu = true → e.pure = true)
    (hk : ∀ m μ1 v B1 H1 S1 T, Stt K mg π B1 H1 σ μ1 S1 → RepMs K mg B1 H1 m v T → (∀ x, T x → ¬ S1 x) → Step B H S B1 H1 (fun x => S1 x ∨ T x) → Post K mg pu Rl π B1 H1 S1 σ W Q' (k m μ1) → Post K mg pu Rl π B1 H1 (fun x => S1 x ∨ T x) σ W Q' (k m μ1) → (e.pure = true → Ex H H1) → Q v H1) : tEs K mg C pin e W σ H Q := by
  refine ⟨π, B, μ, S, hp, s, ?_⟩
  cases q : evalEs C pin e μ with
  | stuck => rw [q] at h; exact h
  | err c μ' => rw [q] at h; exact h
  | ok m μ1 =>
    rw [q] at h
    have h : Post K mg pu Rl π B H S σ W Q' (k m μ1) := h
    exact fun v B' H' S' T s' r d x u => hk m μ1 v B' H' S' T s' r d x (h.mono x (fun _ z => .inl z) fun q => u (hu q)) (h.mono x (fun _ z => z) fun q => u (hu q)) u
theorem onDat_dat {γ : Type} {pu : Bool} {Rl : Hp → Hp → M → γ → ASet → Prop} {k : D → Env → Out M} {m : M} {Q' : γ → Hp → Prop} (h : Post K mg pu Rl π B H S σ W Q' (onDat k m μ)) : ∃ d, m = .dat d ∧ Post K mg pu Rl π B H S σ W Q' (k d μ) := by
  cases m with
  | dat d => exact ⟨d, rfl, h⟩
  | lst _ => exact False.elim h
  | dct _ _ => exact False.elim h
  | ins _ _ _ => exact False.elim h
  | tup _ => exact False.elim h
theorem outD_some {γ : Type} {pu : Bool} {Rl : Hp → Hp → M → γ → ASet → Prop} {o : Option D} {Q' : γ → Hp → Prop} (h : Post K mg pu Rl π B H S σ W Q' (outD o μ)) : ∃ d, o = some d ∧ Post K mg pu Rl π B H S σ W Q' (.ok (.dat d) μ) := by
  cases o with
  | none => exact False.elim h
  | some d => exact ⟨d, rfl, h⟩
/-- a frozen answer -/
theorem Post.done {pu : Bool} {d : D} {Q : VK} {v : V} {B' H' : Hp} (h : Post K mg pu (RM K mg) π B H S σ W Q (.ok (.dat d) μ)) (s : Stt K mg π B H σ μ S) (p : PStep B H B' H') (r : Rep K mg B' d v) : Q v H' :=
  h v B' H' S (fun _ => False) (s.pure p) (repM_dat.mpr ⟨r, fun _ z => z⟩) (fun _ z => z.elim) ((p.step S).weak (fun _ z => z) fun _ z => z.elim id False.elim) fun _ => p.ext
end

/-! ### names, constants -/
section
variable {b : Bd} {X : Cx} {x y : Expr} {e e' : E} {pos : Pos}
theorem me_var {i : Nat} {n : Str} (hN : X.N[i]? = some n) (hv : Vis X.env.scope n) (hd : (n == ("__debug__" : Str)) = false := by decide) (hcd : (n == ("__classdict__" : Str)) = false := by decide) : ME b X (.Name n pos) (.var i) := fun W tk =>
  PE.imp (pe_var hN hv hd hcd) fun σ H Q ⟨π, B, μ, S, hp, s, h⟩ => by
    unfold evalE at h
    split at h
    · rename_i d hs
      obtain ⟨v, e1, r⟩ := s.getD hs
      exact ⟨v, e1, h.done s (PStep.refl s.sub) r⟩
    · exact False.elim h
/-- a name's object goes -/
theorem me_mov {i : Nat} {n : Str} (hN : X.N[i]? = some n) (hv : Vis X.env.scope n) (hd : (n == ("__debug__" : Str)) = false := by decide) (hcd : (n == ("__classdict__" : Str)) = false := by decide) : ME b X (.Name n pos) (.mov i) := fun W tk =>
  PE.imp (pe_var hN hv hd hcd) fun σ H Q ⟨π, B, μ, S, hp, s, h⟩ => by
    unfold evalE at h
    split at h
    · rename_i m hs
      obtain ⟨v, T, S', e1, r, s', dj, hS⟩ := s.take hs
      exact ⟨v, e1, h v B H S' T s' r dj ((Step.refl B H S).weak (fun _ z => z) fun a z => (hS a).mpr z) fun q => nomatch q⟩
    · exact False.elim h
/-- what evaluates to data at once -/
theorem me_con {d : D} {v : V} {t : TE} (h : PE X x t) (ht : ∀ σ H (Q : VK), Q v H → t σ H Q) (hr : ∀ B, Rep X.K X.mg B d v) : ME b X x (.con d) := fun W tk =>
  PE.imp h fun σ H Q ⟨π, B, μ, S, hp, s, h⟩ => ht σ H Q (by
    unfold evalE at h
    exact h.done s (PStep.refl s.sub) (hr B))
theorem me_int {i : Int} {j} : ME b X (.Constant (.int i) j pos) (.con (.int i)) := me_con pe_int (fun _ _ _ q => q) fun B => by unfold Rep; rfl
theorem me_str {i : Str} {j} : ME b X (.Constant (.str i) j pos) (.con (.str i)) := me_con pe_str (fun _ _ _ q => q) fun B => by unfold Rep; rfl
theorem me_bl {i : Bool} {j} : ME b X (.Constant (.bool i) j pos) (.con (.bl i)) := me_con pe_bl (fun _ _ _ q => q) fun B => by unfold Rep; rfl
theorem me_non {j} : ME b X (.Constant .none j pos) (.con .non) := me_con pe_non (fun _ _ _ q => q) fun B => by unfold Rep; rfl
/-- a module's constant -/
theorem me_glob {n : Str} {d : D} {v : V} {u : Value} (hg : Gl X n) (hm : X.mg n = some u) (r : RelV v u) (hr : ∀ B, Rep X.K X.mg B d v) (hd : (n == ("__debug__" : Str)) = false := by decide) : ME b X (.Name n pos) (.con d) :=
  me_con (pe_glob hg hm r hd) (fun _ _ _ q => q) hr

/-! ### operators -/
/-- f tells what the operation comes to on data -/
def Imp2 (K : PySem.W.Frag) (mg : Str → Option Value) (f : D → D → Option D) (r : R2) : Prop :=
  ∀ (B H : Hp) (x y : V) (d1 d2 d3 : D) (Q : VK), Ex B H → Rep K mg B d1 x → Rep K mg B d2 y → f d1 d2 = some d3 → (∀ v B' H', PStep B H B' H' → Rep K mg B' d3 v → Q v H') → r x y H Q
def Imp2F (K : PySem.W.Frag) (mg : Str → Option Value) (f : D → D → Option D) (r : R2) : Prop :=
  ∀ (B H : Hp) (x y : V) (d1 d2 d3 : D) (Q : VK), Ex B H → Rep K mg B d1 x → Rep K mg B d2 y → f d1 d2 = some d3 → (∀ p o, H p = none → Fresh K mg B d3 o → Q (.ref p) (upd H p o)) → r x y H Q
def Imp1 (K : PySem.W.Frag) (mg : Str → Option Value) (f : D → Option D) (r : V → Hp → VK → Prop) : Prop :=
  ∀ (B H : Hp) (x : V) (d1 d3 : D) (Q : VK), Ex B H → Rep K mg B d1 x → f d1 = some d3 → (∀ v B' H', PStep B H B' H' → Rep K mg B' d3 v → Q v H') → r x H Q
def ImpN (K : PySem.W.Frag) (mg : Str → Option Value) (f : List D → Option D) (r : List V → Hp → VK → Prop) : Prop :=
  ∀ (B H : Hp) (xs : List V) (ds : List D) (d3 : D) (Q : VK), Ex B H → RepL K mg B ds xs → f ds = some d3 → (∀ v B' H', PStep B H B' H' → Rep K mg B' d3 v → Q v H') → r xs H Q
def ImpNF (K : PySem.W.Frag) (mg : Str → Option Value) (f : List D → Option D) (r : List V → Hp → VK → Prop) : Prop :=
  ∀ (B H : Hp) (xs : List V) (ds : List D) (d3 : D) (Q : VK), Ex B H → RepL K mg B ds xs → f ds = some d3 → (∀ p o, H p = none → Fresh K mg B d3 o → Q (.ref p) (upd H p o)) → r xs H Q
theorem Fresh.rep {K : PySem.W.Frag} {mg : Str → Option Value} {B B' : Hp} {d : D} {o : HO} {p : Addr} (h : Fresh K mg B d o) (e : Ex B B') (hp : B' p = some o) : Rep K mg B' d (.ref p) := by
  rcases h with ⟨ds, vs, rfl, rfl, r⟩ | ⟨ks, ds, vs, rfl, rfl, l, r⟩
  · unfold Rep; exact ⟨p, vs, rfl, .inl (.inl hp), r.mono e⟩
  · unfold Rep; exact ⟨p, vs, rfl, .inl hp, l, r.mono e⟩
theorem Imp2F.imp {K : PySem.W.Frag} {mg : Str → Option Value} {f : D → D → Option D} {r : R2} (h : Imp2F K mg f r) : Imp2 K mg f r := fun B H x y d1 d2 d3 Q e r1 r2 hf k =>
  h B H x y d1 d2 d3 Q e r1 r2 hf fun p o hp fr => k _ _ _ (PStep.new e o hp) (fr.rep (Ex.new (e.none hp)) upd_same)
theorem ImpNF.imp {K : PySem.W.Frag} {mg : Str → Option Value} {f : List D → Option D} {r : List V → Hp → VK → Prop} (h : ImpNF K mg f r) : ImpN K mg f r := fun B H xs ds d3 Q e r1 hf k =>
  h B H xs ds d3 Q e r1 hf fun p o hp fr => k _ _ _ (PStep.new e o hp) (fr.rep (Ex.new (e.none hp)) upd_same)

variable {ex ey : E} {f : D → D → Option D} {g : D → Option D} {fN : List D → Option D} {r : R2}
/-- two operands, then an operation on data -/
theorem two_imp {W : WX} {σ : L2.St} {H : Hp} {Q : VK} (hf : Imp2 X.K X.mg f r) (h : b.tE X (.op2 f ex ey) W σ H Q) : tOp r (b.tE X ex W) (b.tE X ey W) σ H Q := by
  obtain ⟨π, B, μ, S, hp, s, h⟩ := h
  unfold evalE at h
  refine bindE hp s h (fun q => ((Bool.and_eq_true _ _).mp q).1) fun m μ1 v B1 H1 S1 T s1 r1 _ x1 h1 _ _ => ?_
  obtain ⟨d1, rfl, h1⟩ := onDat_dat h1
  refine bindE hp s1 h1 (fun q => ((Bool.and_eq_true _ _).mp q).2) fun m2 μ2 v2 B2 H2 S2 T2 s2 r2 _ x2 h2 _ _ => ?_
  obtain ⟨d2, rfl, h2⟩ := onDat_dat h2
  obtain ⟨d3, hd, h3⟩ := outD_some h2
  exact hf B2 H2 v v2 d1 d2 d3 Q s2.sub ((repM_dat.mp r1).1.mono x2.ex) (repM_dat.mp r2).1 hd fun w B' H' p rw' => h3.done s2 p rw'
theorem me_op {op : Operator} (ho : OpR X (binaryOp op) r) (hf : Imp2 X.K X.mg f r) (hx : ME b X x ex) (hy : ME b X y ey) : ME b X (.BinOp x op y pos) (.op2 f ex ey) := fun W tk =>
  PE.imp (pe_op ho (hx W tk) (hy W tk)) fun σ H Q h => two_imp hf h
theorem me_cmp {op : CmpOp} (ho : OpR X (compareOp op) r) (hf : Imp2 X.K X.mg f r) (hx : ME b X x ex) (hy : ME b X y ey) (hm : behindInMarks op y = false) : ME b X (.Compare x [op] [y] pos) (.op2 f ex ey) := fun W tk =>
  PE.imp (pe_cmpR ho (hx W tk) (hy W tk) hm) fun σ H Q h => two_imp hf h
theorem mt_cmp {op : CmpOp} (ho : OpR X (compareOp op) r) (hf : Imp2 X.K X.mg f r) (hx : ME b X x ex) (hy : ME b X y ey) (hm : behindInMarks op y = false) : MT b X (.Compare x [op] [y] pos) (.op2 f ex ey) := fun W tk =>
  PT.imp (pt_cmpR ho (hx W tk) (hy W tk) hm) fun σ H Q h => two_imp hf h
theorem me_ix (ho : IxR X r) (hf : Imp2 X.K X.mg f r) (hx : ME b X x ex) (hy : ME b X y ey) (hs : PlainIx y) : ME b X (.Subscript x y pos) (.op2 f ex ey) := fun W tk =>
  PE.imp (pe_ix ho (hx W tk) (hy W tk) hs) fun σ H Q h => two_imp hf h
theorem one_imp {ru : V → Hp → VK → Prop} {W : WX} {σ : L2.St} {H : Hp} {Q : VK} (hf : Imp1 X.K X.mg g ru) (h : b.tE X (.op1 g ex) W σ H Q) : tUn ru (b.tE X ex W) σ H Q := by
  obtain ⟨π, B, μ, S, hp, s, h⟩ := h
  unfold evalE at h
  refine bindE hp s h (fun q => q) fun m μ1 v B1 H1 S1 T s1 r1 _ x1 h1 _ _ => ?_
  obtain ⟨d1, rfl, h1⟩ := onDat_dat h1
  obtain ⟨d3, hd, h3⟩ := outD_some h1
  exact hf B1 H1 v d1 d3 Q s1.sub (repM_dat.mp r1).1 hd fun w B' H' p rw' => h3.done s1 p rw'
theorem me_un {op : UnaryOp} {ru : V → Hp → VK → Prop} (ho : UnR X (unaryOp op) ru) (hf : Imp1 X.K X.mg g ru) (hx : ME b X x ex) : ME b X (.UnaryOp op x pos) (.op1 g ex) := fun W tk =>
  PE.imp (pe_un ho (hx W tk)) fun σ H Q h => one_imp hf h

/-! ### argument lists -/
theorem mes_nil : MEs b X [] .nil := fun W tk => PA.imp pa_nil fun σ H Q ⟨π, B, μ, S, hp, s, h⟩ => by
  unfold evalEs at h
  exact h [] B H S (fun _ => False) s (by unfold RMs RepMs; exact ⟨rfl, fun _ z => z⟩) (fun _ z => z.elim) ((Step.refl B H S).weak (fun _ z => z) fun _ z => z.elim id False.elim) fun _ => Ex.refl H
theorem mes_cons {xs : List Expr} {es : Es} (hx : ME b X x e) (hr : MEs b X xs es) (hs : starEach (x :: xs) X.env = (false, eval x X.env) :: starEach xs X.env := by rfl) : MEs b X (x :: xs) (.cons e es) := fun W tk =>
  PA.imp (pa_cons (hx W tk) (hr W tk) hs) fun σ H Q ⟨π, B, μ, S, hp, s, h⟩ => by
    unfold evalEs at h
    refine bindE hp s h (fun q => ((Bool.and_eq_true _ _).mp q).1) fun m μ1 v B1 H1 S1 T s1 r1 d1 x1 h1 h1' _ => ?_
    refine ⟨π, B1, μ1, S1, hp, s1, ?_⟩
    cases q : evalEs b.C b.pin es μ1 with
    | stuck => rw [q] at h1; exact h1
    | err c μ' => rw [q] at h1; exact h1
    | ok ms μ2 =>
      rw [q] at h1'
      intro vs B2 H2 S2 U s2 r2 d2 x2 u2
      have ap : ∀ a, T a → ¬ (S2 a ∨ U a) ∧ B2 a = none ∧ H2 a = H1 a := fun a q => x2.apart (d1 a q) (r1.owned a q).1 (r1.owned a q).2
      refine h1' (v :: vs) B2 H2 S2 (fun a => T a ∨ U a) s2 ?_ (fun a z => z.elim (fun z w => (ap a z).1 (.inl w)) (d2 a)) ?_ ?_
      · unfold RMs RepMs
        exact ⟨v, vs, T, U, rfl, r1.congr (fun a o q => x2.ex a o q) fun a q => ⟨(ap a q).2.2, (ap a q).2.1⟩, r2, fun a q z => (ap a q).1 (.inr z), fun _ => Iff.rfl⟩
      · exact (x2.frame (F := T) fun a q => ⟨d1 a q, (r1.owned a q).1⟩).weak (fun _ z => z) fun a z => z.elim (fun z => .inl (.inl z)) fun z => z.elim .inr fun z => .inl (.inr z)
      · exact fun q => u2 ((Bool.and_eq_true _ _).mp q).2
/-- data alone -/
theorem datsOf_rep {K : PySem.W.Frag} {mg : Str → Option Value} {B H : Hp} : ∀ {ms : List M} {vs : List V} {T : ASet} {ds : List D}, datsOf ms = some ds → RepMs K mg B H ms vs T → RepL K mg B ds vs ∧ ∀ a, ¬ T a
  | [], vs, T, ds, e, h => by
    unfold datsOf at e
    cases e
    unfold RepMs at h
    unfold RepL
    exact ⟨h.1, h.2⟩
  | .dat d :: ms, vs, T, ds, e, h => by
    unfold datsOf at e
    cases q : datsOf ms with
    | none => rw [q] at e; cases e
    | some ds' =>
      rw [q] at e
      cases e
      unfold RepMs at h
      obtain ⟨v, r, T1, T2, rfl, h1, h2, _, h4⟩ := h
      obtain ⟨k1, k2⟩ := datsOf_rep q h2
      unfold RepL
      exact ⟨⟨v, r, rfl, (repM_dat.mp h1).1, k1⟩, fun a z => ((h4 a).mp z).elim ((repM_dat.mp h1).2 a) (k2 a)⟩
  | .lst _ :: _, _, _, _, e, _ => by unfold datsOf at e; cases e
  | .dct _ _ :: _, _, _, _, e, _ => by unfold datsOf at e; cases e
  | .ins _ _ _ :: _, _, _, _, e, _ => by unfold datsOf at e; cases e
  | .tup _ :: _, _, _, _, e, _ => by unfold datsOf at e; cases e
/-- some operands, then an operation on data -/
theorem many_imp {W : WX} {σ : L2.St} {H : Hp} {es : Es} {Q : VK} {rN : List V → Hp → VK → Prop} (hf : ImpN X.K X.mg fN rN) (h : b.tE X (.opN fN es) W σ H Q) : b.tEs X es W σ H fun xs H1 => rN xs H1 Q := by
  obtain ⟨π, B, μ, S, hp, s, h⟩ := h
  unfold evalE at h
  refine bindEs hp s h (fun q => q) fun ms μ1 vs B1 H1 S1 T s1 r1 _ x1 h1 _ _ => ?_
  cases q : datsOf ms with
  | none => simp only [q] at h1; exact h1.elim
  | some ds =>
    simp only [q] at h1
    obtain ⟨d3, hd, h3⟩ := outD_some h1
    obtain ⟨k1, _⟩ := datsOf_rep q r1
    exact hf B1 H1 vs ds d3 Q s1.sub k1 hd fun w B' H' p rw' => h3.done s1 p rw'
def fTup : List D → Option D := fun ds => if ds.length ≤ sizeLine then some (.tup ds) else none
def fLst : List D → Option D := fun ds => if ds.length ≤ sizeLine then some (.lst ds) else none
theorem impN_tup {K : PySem.W.Frag} {mg : Str → Option Value} : ImpN K mg fTup fun xs H Q => xs.length ≤ sizeLine ∧ ∀ p, H p = none → Q (.ref p) (upd H p (.tup xs)) := fun B H xs ds d3 Q e r hf k => by
  unfold fTup at hf
  split at hf
  · rename_i hl
    cases hf
    refine ⟨by rw [← repL_len r]; exact hl, fun p hp => k _ _ _ (PStep.new e _ hp) ?_⟩
    unfold Rep
    exact ⟨p, xs, rfl, .inl (.inl upd_same), r.mono (Ex.new (e.none hp))⟩
  · cases hf
theorem impN_lst {K : PySem.W.Frag} {mg : Str → Option Value} : ImpNF K mg fLst fun xs H Q => xs.length ≤ sizeLine ∧ ∀ p, H p = none → Q (.ref p) (upd H p (.lst xs)) := fun B H xs ds d3 Q e r hf k => by
  unfold fLst at hf
  split at hf
  · rename_i hl
    cases hf
    exact ⟨by rw [← repL_len r]; exact hl, fun p hp => k p _ hp (.inl ⟨ds, xs, rfl, rfl, r⟩)⟩
  · cases hf
theorem me_tup {xs : List Expr} {es : Es} {n : Nat} (h : MEs b X xs es) : ME b X (.Tuple xs n pos) (.opN fTup es) := fun W tk => PE.imp (pe_tup (h W tk)) fun σ H Q q => many_imp impN_tup q
theorem me_lst {xs : List Expr} {es : Es} (h : MEs b X xs es) : ME b X (.List xs pos) (.opN fLst es) := fun W tk => PE.imp (pe_lst (h W tk)) fun σ H Q q => many_imp impN_lst.imp q
/-- a built-in function, a built-in class called -/
theorem me_bi {n : Str} {p : Pos} {id : String} {xs : List Expr} {es : Es} {rN : List V → Hp → VK → Prop} (hc : CallR X (.builtin id) rN) (hf : ImpN X.K X.mg fN rN) (hg : Gl X n) (hm : X.mg n = none) (hv : bootBuiltins n = some (.builtin id)) (ha : MEs b X (x :: xs) es) (hn : n ≠ "__name__" := by decide) (hdb : (n == ("__debug__" : Str)) = false := by decide)
    (he : starEach (x :: xs) X.env = (false, eval x X.env) :: starEach xs X.env := by rfl) (hpl : (backTo pos (starEach xs X.env)).any (·.1) = false := by rfl) : ME b X (.Call (.Name n p) (x :: xs) [] pos) (.opN fN es) := fun W tk =>
  PE.imp (pe_callB hc hg hm hv (ha W tk) hn hdb he hpl) fun σ H Q q => many_imp hf q
theorem me_ty {n : Str} {p : Pos} {T : String} {xs : List Expr} {es : Es} {rN : List V → Hp → VK → Prop} (hc : CallR X (.type T) rN) (hf : ImpN X.K X.mg fN rN) (hg : Gl X n) (hm : X.mg n = none) (hv : bootBuiltins n = some (.type T)) (ha : MEs b X (x :: xs) es) (hn : n ≠ "__name__" := by decide) (hdb : (n == ("__debug__" : Str)) = false := by decide)
    (he : starEach (x :: xs) X.env = (false, eval x X.env) :: starEach xs X.env := by rfl) (hpl : (backTo pos (starEach xs X.env)).any (·.1) = false := by rfl) : ME b X (.Call (.Name n p) (x :: xs) [] pos) (.opN fN es) := fun W tk =>
  PE.imp (pe_callTy hc hg hm hv (ha W tk) hn hdb he hpl) fun σ H Q q => many_imp hf q
/-- a method of a built-in type: the object ahead of the arguments -/
def ImpM (K : PySem.W.Frag) (mg : Str → Option Value) (T : String) (f : List D → Option D) (r : V → List V → Hp → VK → Prop) : Prop :=
  ∀ (B H : Hp) (x : V) (xs : List V) (d : D) (ds : List D) (d3 : D) (Q : VK), Ex B H → Rep K mg B d x → RepL K mg B ds xs → f (d :: ds) = some d3 → (∀ v B' H', PStep B H B' H' → Rep K mg B' d3 v → Q v H') → r x xs H Q

/-! ### and, or, if, tests -/
theorem boolD {K : PySem.W.Frag} {mg : Str → Option Value} {B : Hp} {d : D} {v : V} {c : Bool} (h : Rep K mg B d v) (e : v = .bl c) : d = .bl c := by
  subst e
  cases d with
  | bl b' => unfold Rep at h; cases h; rfl
  | non => unfold Rep at h; cases h
  | int _ => unfold Rep at h; cases h
  | str _ => unfold Rep at h; cases h
  | tup _ => unfold Rep at h; obtain ⟨_, _, h, _⟩ := h; cases h
  | lst _ => unfold Rep at h; obtain ⟨_, _, h, _⟩ := h; cases h
  | dct _ _ => unfold Rep at h; obtain ⟨_, _, h, _⟩ := h; cases h
  | ins _ _ _ => unfold Rep at h; obtain ⟨_, _, h, _⟩ := h; cases h
  | exc _ => unfold Rep at h; obtain ⟨_, h⟩ := h; cases h
  | adr _ => unfold Rep at h; cases h
theorem rep_bl {K : PySem.W.Frag} {mg : Str → Option Value} {B : Hp} {c : Bool} {v : V} (h : Rep K mg B (.bl c) v) : v = .bl c := by unfold Rep at h; exact h
end
end Mi
/-! Mi5: and, or, if; calls; places; owned things. -/
namespace Mi
open PySem L2
def MW (b : Bd) (X : Cx) (x : Expr) (e : E) : Prop := ∀ W, Takes X W → PW X x (b.tT X e W)
def fNot : D → Option D
  | .bl c => some (.bl !c)
  | _ => none
section
variable {b : Bd} {X : Cx} {x y z : Expr} {ex ey ez : E} {pos : Pos} {rest : List Expr}
theorem PW.imp {X : Cx} {e : Expr} {t t' : TT} (h : PW X e t) (k : ∀ σ H Q, t' σ H Q → t σ H Q) : PW X e t' := ⟨fun wh pins s σ H Q I q => h.run wh pins s σ H Q I (k σ H Q q)⟩
theorem mt_val (h : ME b X x ex) (he : ∀ whole, isTrue x X.env whole = (do let v ← whole; standAt x.pos; holding [v] (truthy v)) := by intro _; rfl) : MT b X x ex := fun W tk => PT.imp (pt_val (h W tk) he) fun σ H Q q => q
theorem MW.mt (h : MW b X x ex) : MT b X x ex := fun W tk => (h W tk).pt
/-- a truth, then more -/
theorem bindB {γ : Type} {pu : Bool} {Rl : Hp → Hp → M → γ → ASet → Prop} {K : PySem.W.Frag} {mg : Str → Option Value} {C : Nat → List M → CR} {pin : List Nat} {π : List (Nat × V)} {B H : Hp} {σ : L2.St} {μ : Env} {S : ASet} {W : WX} {e : E} {k : D → Env → Out M} {Q' : γ → Hp → Prop} {Q : V → Hp → Prop}
    (hp : PinOf π pin) (s : Stt K mg π B H σ μ S) (h : Post K mg pu Rl π B H S σ W Q' ((evalE C pin e μ).bind (onDat k))) (hu : pu = true → e.pure = true) (kb : ∀ d μ1, (∀ c, d ≠ .bl c) → k d μ1 = .stuck)
    (hk : ∀ c μ1 B1 H1 S1, Stt K mg π B1 H1 σ μ1 S1 → Step B H S B1 H1 S1 → (e.pure = true → Ex H H1) → Post K mg pu Rl π B1 H1 S1 σ W Q' (k (.bl c) μ1) → Q (.bl c) H1) : tE K mg C pin e W σ H Q := by
  refine bindE hp s h hu fun m μ1 v B1 H1 S1 T s1 r1 _ x1 h1 _ u1 => ?_
  obtain ⟨d1, rfl, h2⟩ := onDat_dat h1
  have x1' : Step B H S B1 H1 S1 := x1.weak (fun _ z => z) fun _ z => .inl z
  by_cases q : ∃ c, d1 = .bl c
  · obtain ⟨c, rfl⟩ := q
    have e : v = .bl c := rep_bl (repM_dat.mp r1).1
    subst e
    exact hk c μ1 B1 H1 S1 s1 x1' u1 h2
  · rw [kb d1 μ1 fun c e => q ⟨c, e⟩] at h2
    exact h2.elim
theorem boolAns {W : WX} {σ : L2.St} {H : Hp} {Q : Bool → Hp → Prop} (h : b.tT X ex W σ H Q) : b.tE X ex W σ H fun v H' => ∃ c, v = .bl c ∧ Q c H' := h
theorem and_imp {W : WX} {σ : L2.St} {H : Hp} {Q : Bool → Hp → Prop} (h : b.tT X (.and ex ey) W σ H Q) : tAnd (b.tT X ex W) (b.tT X ey W) σ H Q := by
  obtain ⟨π, B, μ, S, hp, s, h⟩ := h
  unfold evalE at h
  refine bindB hp s h (fun q => ((Bool.and_eq_true _ _).mp q).1) (fun d μ1 n => ?_) fun c μ1 B1 H1 S1 s1 x1 u1 h1 => ⟨c, rfl, ?_⟩
  · cases d <;> first | rfl | exact absurd rfl (n _)
  · cases c with
    | true => exact ⟨π, B1, μ1, S1, hp, s1, (h1.mono (Step.refl _ _ _) (fun _ z => z) fun _ => Ex.refl _).pu fun q => ((Bool.and_eq_true _ _).mp q).2⟩
    | false =>
      obtain ⟨c, e, q⟩ := h1.done s1 (PStep.refl s1.sub) (v := .bl false) (by unfold Rep; rfl)
      cases e
      exact q
theorem or_imp {W : WX} {σ : L2.St} {H : Hp} {Q : Bool → Hp → Prop} (h : b.tT X (.or ex ey) W σ H Q) : tOr (b.tT X ex W) (b.tT X ey W) σ H Q := by
  obtain ⟨π, B, μ, S, hp, s, h⟩ := h
  unfold evalE at h
  refine bindB hp s h (fun q => ((Bool.and_eq_true _ _).mp q).1) (fun d μ1 n => ?_) fun c μ1 B1 H1 S1 s1 x1 u1 h1 => ⟨c, rfl, ?_⟩
  · cases d <;> first | rfl | exact absurd rfl (n _)
  · cases c with
    | false => exact ⟨π, B1, μ1, S1, hp, s1, h1.pu fun q => ((Bool.and_eq_true _ _).mp q).2⟩
    | true =>
      obtain ⟨c, e, q⟩ := h1.done s1 (PStep.refl s1.sub) (v := .bl true) (by unfold Rep; rfl)
      cases e
      exact q
theorem mw_and1 (h : MT b X x ex) : MW b X (.BoolOp .And [x] pos) ex := fun W tk => pw_and1 (h W tk)
theorem mw_or1 (h : MT b X x ex) : MW b X (.BoolOp .Or [x] pos) ex := fun W tk => pw_or1 (h W tk)
theorem mw_and (h : MT b X x ex) (hr : MW b X (.BoolOp .And (y :: rest) pos) ey) : MW b X (.BoolOp .And (x :: y :: rest) pos) (.and ex ey) := fun W tk => PW.imp (pw_and (h W tk) (hr W tk)) fun σ H Q q => and_imp q
theorem mw_or (h : MT b X x ex) (hr : MW b X (.BoolOp .Or (y :: rest) pos) ey) : MW b X (.BoolOp .Or (x :: y :: rest) pos) (.or ex ey) := fun W tk => PW.imp (pw_or (h W tk) (hr W tk)) fun σ H Q q => or_imp q
theorem not_imp {W : WX} {σ : L2.St} {H : Hp} {Q : Bool → Hp → Prop} (h : b.tT X (.op1 fNot ex) W σ H Q) : tNot (b.tT X ex W) σ H Q := by
  obtain ⟨π, B, μ, S, hp, s, h⟩ := h
  unfold evalE at h
  refine bindB hp s h (fun q => q) (fun d μ1 n => ?_) fun c μ1 B1 H1 S1 s1 x1 u1 h1 => ⟨c, rfl, ?_⟩
  · cases d <;> first | rfl | exact absurd rfl (n _)
  · obtain ⟨c', e, q⟩ := h1.done (d := .bl !c) s1 (PStep.refl s1.sub) (v := .bl !c) (by unfold Rep; rfl)
    cases e
    exact q
theorem mt_not (h : MT b X x ex) : MT b X (.UnaryOp .Not x pos) (.op1 fNot ex) := fun W tk => PT.imp (pt_not (h W tk)) fun σ H Q q => not_imp q
theorem me_not (h : ME b X x ex) : ME b X (.UnaryOp .Not x pos) (.op1 fNot ex) := fun W tk => PE.imp (pe_not (h W tk)) fun σ H Q q => by
  obtain ⟨π, B, μ, S, hp, s, h⟩ := q
  unfold evalE at h
  refine bindB hp s h (fun q => q) (fun d μ1 n => ?_) fun c μ1 B1 H1 S1 s1 x1 u1 h1 => ⟨c, rfl, ?_⟩
  · cases d <;> first | rfl | exact absurd rfl (n _)
  · exact h1.done (d := .bl !c) s1 (PStep.refl s1.sub) (v := .bl !c) (by unfold Rep; rfl)
theorem me_one {op} (h : ME b X x ex) : ME b X (.BoolOp op [x] pos) ex := fun W tk => pe_one (h W tk)
theorem me_and (h : ME b X x ex) (hr : ME b X (.BoolOp .And (y :: rest) pos) ey) : ME b X (.BoolOp .And (x :: y :: rest) pos) (.and ex ey) := fun W tk => PE.imp (pe_and (h W tk) (hr W tk)) fun σ H Q q => by
  obtain ⟨π, B, μ, S, hp, s, h⟩ := q
  unfold evalE at h
  refine bindB hp s h (fun q => ((Bool.and_eq_true _ _).mp q).1) (fun d μ1 n => ?_) fun c μ1 B1 H1 S1 s1 x1 u1 h1 => ⟨c, rfl, ?_⟩
  · cases d <;> first | rfl | exact absurd rfl (n _)
  · cases c with
    | true => exact ⟨π, B1, μ1, S1, hp, s1, h1.pu fun q => ((Bool.and_eq_true _ _).mp q).2⟩
    | false => exact h1.done s1 (PStep.refl s1.sub) (by unfold Rep; rfl)
theorem me_or (h : ME b X x ex) (hr : ME b X (.BoolOp .Or (y :: rest) pos) ey) : ME b X (.BoolOp .Or (x :: y :: rest) pos) (.or ex ey) := fun W tk => PE.imp (pe_or (h W tk) (hr W tk)) fun σ H Q q => by
  obtain ⟨π, B, μ, S, hp, s, h⟩ := q
  unfold evalE at h
  refine bindB hp s h (fun q => ((Bool.and_eq_true _ _).mp q).1) (fun d μ1 n => ?_) fun c μ1 B1 H1 S1 s1 x1 u1 h1 => ⟨c, rfl, ?_⟩
  · cases d <;> first | rfl | exact absurd rfl (n _)
  · cases c with
    | false => exact ⟨π, B1, μ1, S1, hp, s1, h1.pu fun q => ((Bool.and_eq_true _ _).mp q).2⟩
    | true => exact h1.done s1 (PStep.refl s1.sub) (by unfold Rep; rfl)
theorem me_ite {c : Expr} {ec : E} (hc : MT b X c ec) (hx : ME b X x ex) (hy : ME b X y ey) : ME b X (.IfExp c x y pos) (.ite ec ex ey) := fun W tk => PE.imp (pe_ifExp (hc W tk) (hx W tk) (hy W tk)) fun σ H Q q => by
  obtain ⟨π, B, μ, S, hp, s, h⟩ := q
  unfold evalE at h
  have pr : (E.ite ec ex ey).pure = true → (ec.pure = true ∧ ex.pure = true) ∧ ey.pure = true := fun q => by
    have q1 := (Bool.and_eq_true _ _).mp q
    exact ⟨(Bool.and_eq_true _ _).mp q1.1, q1.2⟩
  refine bindB hp s h (fun q => (pr q).1.1) (fun d μ1 n => ?_) fun c μ1 B1 H1 S1 s1 x1 u1 h1 => ⟨c, rfl, ?_⟩
  · cases d <;> first | rfl | exact absurd rfl (n _)
  · cases c with
    | true => exact ⟨π, B1, μ1, S1, hp, s1, h1.pu fun q => (pr q).1.2⟩
    | false => exact ⟨π, B1, μ1, S1, hp, s1, h1.pu fun q => (pr q).2⟩
end

/-! ### arguments: values and places -/
def PlV (H : Hp) (σ : L2.St) (pl : Pl) (v : V) : Prop := ∃ v0, σ[pl.1]? = some (some v0) ∧ vAt H v0 pl.2 v
def RAs (K : PySem.W.Frag) (mg : Str → Option Value) (fl : Bool) (σ : L2.St) (B H : Hp) : List Ag → List V → ASet → Prop
  | [], vs, T => vs = [] ∧ ∀ a, ¬ T a
  | .val m :: r, vs, T => ∃ v r' T1 T2, vs = v :: r' ∧ RepM K mg B H m v T1 ∧ RAs K mg fl σ B H r r' T2 ∧ (∀ a, T1 a → ¬ T2 a) ∧ ∀ a, T a ↔ T1 a ∨ T2 a
  | .ref pl :: r, vs, T => ∃ v r', vs = v :: r' ∧ ((pl.2 = [] ∨ fl = true) → PlV H σ pl v) ∧ RAs K mg fl σ B H r r' T
def OutRep (K : PySem.W.Frag) (mg : Str → Option Value) (B H : Hp) : List (Option M) → List V → ASet → Prop
  | [], _, T => ∀ a, ¬ T a
  | none :: r, vs, T => OutRep K mg B H r vs.tail T
  | some m :: r, vs, T => ∃ v T1 T2, vs.head? = some v ∧ RepM K mg B H m v T1 ∧ OutRep K mg B H r vs.tail T2 ∧ (∀ a, T1 a → ¬ T2 a) ∧ ∀ a, T a ↔ T1 a ∨ T2 a
section
variable {K : PySem.W.Frag} {mg : Str → Option Value} {π : List (Nat × V)} {B H : Hp} {σ : L2.St} {fl : Bool}
theorem RAs.owned : ∀ {ags : List Ag} {vs : List V} {T : ASet}, RAs K mg fl σ B H ags vs T → ∀ a, T a → H a ≠ none ∧ B a = none
  | [], _, _, h, a, q => by unfold RAs at h; exact absurd q (h.2 a)
  | .val m :: r, _, _, h, a, q => by
    unfold RAs at h
    obtain ⟨v, r', T1, T2, _, h1, h2, _, h4⟩ := h
    exact ((h4 a).mp q).elim (h1.owned a) (h2.owned a)
  | .ref pl :: r, _, _, h, a, q => by
    unfold RAs at h
    obtain ⟨v, r', _, _, h2⟩ := h
    exact h2.owned a q
theorem nodupB_not {i : Nat} {r : List Nat} (h : nodupB (i :: r) = true) : i ∉ r ∧ nodupB r = true := by
  unfold nodupB at h
  have q := (Bool.and_eq_true _ _).mp h
  refine ⟨fun z => ?_, q.2⟩
  have w := q.1
  simp [z] at w
theorem atPl_set {μ : Env} {p : Pl} {i : Nat} {o : Option M} (h : p.1 ≠ i) : atPl (μ.set i o) p = atPl μ p := by
  unfold atPl; rw [slot_set_ne (fun e => h e.symm)]
theorem argMs_set {μ : Env} {i : Nat} {o : Option M} : ∀ {ags : List Ag}, i ∉ Ag.roots ags → argMs ags (μ.set i o) = argMs ags μ
  | [], _ => rfl
  | .val m :: r, h => by
    show (argMs r _).map _ = (argMs r _).map _
    rw [argMs_set (ags := r) h]
  | .ref p :: r, h => by
    have h' : i ≠ p.1 ∧ i ∉ Ag.roots r := by simpa [Ag.roots] using h
    show (match atPl (μ.set i o) p with | some m => (argMs r (μ.set i o)).map (m :: ·) | none => none) = _
    rw [atPl_set (fun e => h'.1 e.symm), argMs_set (ags := r) h'.2]
    rfl
theorem putPl_set {μ : Env} {p : Pl} {i : Nat} {o : Option M} {x : M} (h : p.1 ≠ i) : putPl (μ.set i o) p x = (putPl μ p x).set i o := by
  unfold putPl
  rw [slot_set_ne (fun e => h e.symm)]
  cases slot μ p.1 with
  | none => rfl
  | some m => exact List.set_comm _ _ (fun e => h e.symm)
theorem backAs_set {i : Nat} {o : Option M} : ∀ {ags : List Ag} {os : List (Option M)} {μ : Env}, i ∉ Ag.roots ags → backAs ags os (μ.set i o) = (backAs ags os μ).map fun μ' => μ'.set i o
  | [], _, _, _ => rfl
  | .val m :: r, [], _, _ => rfl
  | .val m :: r, _ :: os, μ, h => backAs_set (ags := r) (os := os) h
  | .ref p :: r, [], _, _ => rfl
  | .ref p :: r, none :: os, _, _ => rfl
  | .ref p :: r, some x :: os, μ, h => by
    have h' : i ≠ p.1 ∧ i ∉ Ag.roots r := by simpa [Ag.roots] using h
    show backAs r os (putPl (μ.set i o) p x) = _
    rw [putPl_set (fun e => h'.1 e.symm)]
    exact backAs_set (ags := r) h'.2
theorem putPl_len {μ : Env} {p : Pl} {x : M} : (putPl μ p x).length = μ.length := by
  unfold putPl
  split
  · rw [List.length_set]
  · rfl
/-- the callee's arguments; and back -/
theorem refs_ok : ∀ {ags : List Ag} {μ : Env} {S T : ASet} {vs : List V} {ms : List M}, Stt K mg π B H σ μ S → RAs K mg fl σ B H ags vs T → (∀ a, T a → ¬ S a) → nodupB (Ag.roots ags) = true → (Ag.flat ags = true ∨ fl = true) → argMs ags μ = some ms →
    ∃ A : ASet, RepMs K mg B H ms vs A ∧ (∀ a, A a → S a ∨ T a) ∧ (∀ a, T a → A a) ∧
      ∀ (B' H' : Hp) (outs : List (Option M)) (So : ASet) (μ' : Env), Ex B B' → Ex B' H' → (∀ a, (S a ∨ T a) → ¬ A a → H' a = H a ∧ B' a = none) → OutRep K mg B' H' outs vs So → (∀ a, So a → S a → A a) → backAs ags outs μ = some μ' →
        ∃ S', Stt K mg π B' H' σ μ' S' ∧ ∀ a, S' a → (S a ∧ ¬ A a) ∨ So a
  | [], μ, S, T, vs, ms, s, h, d, _, _, e => by
    unfold RAs at h
    unfold argMs at e
    cases e
    refine ⟨fun _ => False, by unfold RepMs; exact ⟨h.1, fun _ z => z⟩, fun _ z => z.elim, fun a z => (h.2 a z).elim, fun B' H' outs So μ' ex sub keep ho dj e => ?_⟩
    have e : μ = μ' := by simpa [backAs] using e
    subst e
    exact ⟨S, s.congr ex sub fun a q => keep a (.inl q) fun z => z, fun a q => .inl ⟨q, fun z => z⟩⟩
  | .val m :: r, μ, S, T, vs, ms, s, h, d, nd, fo, e => by
    unfold RAs at h
    obtain ⟨v, r', T1, T2, rfl, h1, h2, h3, h4⟩ := h
    have e : (argMs r μ).map (m :: ·) = some ms := e
    cases q : argMs r μ with
    | none => rw [q] at e; cases e
    | some ms' =>
      rw [q] at e
      cases e
      obtain ⟨A, k1, k2, k3, k4⟩ := refs_ok (ags := r) s h2 (fun a z => d a ((h4 a).mpr (.inr z))) nd fo q
      have t1A : ∀ a, T1 a → ¬ A a := fun a z w => (k2 a w).elim (d a ((h4 a).mpr (.inl z))) (h3 a z)
      refine ⟨fun a => T1 a ∨ A a, by unfold RepMs; exact ⟨v, r', T1, A, rfl, h1, k1, t1A, fun _ => Iff.rfl⟩, fun a z => z.elim (fun z => .inr ((h4 a).mpr (.inl z))) fun z => (k2 a z).imp id fun z => (h4 a).mpr (.inr z),
        fun a z => ((h4 a).mp z).imp id (k3 a), fun B' H' outs So μ' ex sub keep ho dj e => ?_⟩
      have keep' : ∀ a, (S a ∨ T2 a) → ¬ A a → H' a = H a ∧ B' a = none := fun a z n => keep a (z.imp id fun z => (h4 a).mpr (.inr z)) fun w => w.elim (fun w => z.elim (fun z => d a ((h4 a).mpr (.inl w)) z) fun z => h3 a w z) n
      cases outs with
      | nil => simp [backAs] at e
      | cons o outs =>
        have e : backAs r outs μ = some μ' := e
        have go : ∀ So2 : ASet, OutRep K mg B' H' outs r' So2 → (∀ a, So2 a → So a) → ∃ S', Stt K mg π B' H' σ μ' S' ∧ ∀ a, S' a → (S a ∧ ¬ (T1 a ∨ A a)) ∨ So a := fun So2 ho2 hs => by
          obtain ⟨S', s', hS⟩ := k4 B' H' outs So2 μ' ex sub keep' ho2 (fun a z w => (dj a (hs a z) w).elim (fun z' => absurd w (d a ((h4 a).mpr (.inl z')))) id) e
          exact ⟨S', s', fun a z => (hS a z).imp (fun z => ⟨z.1, fun w => w.elim (fun w => d a ((h4 a).mpr (.inl w)) z.1) z.2⟩) (hs a)⟩
        cases o with
        | none => exact go So ho fun _ z => z
        | some m' =>
          obtain ⟨_, _, T4, _, _, ho2, _, ho4⟩ := ho
          exact go T4 ho2 fun a z => (ho4 a).mpr (.inr z)
  | .ref pl :: r, μ, S, T, vs, ms, s, h, d, nd, fo, e => by
    unfold RAs at h
    obtain ⟨v, r', rfl, hv, h2⟩ := h
    obtain ⟨nr, nd'⟩ := nodupB_not (i := pl.1) (r := Ag.roots r) nd
    have hpv : PlV H σ pl v := hv (fo.imp (fun z => by
      have z' : (pl.2.isEmpty && Ag.flat r) = true := z
      have z2 := ((Bool.and_eq_true _ _).mp z').1
      exact List.isEmpty_iff.mp z2) id)
    have fo' : Ag.flat r = true ∨ fl = true := fo.imp (fun z => ((Bool.and_eq_true _ _).mp (show (pl.2.isEmpty && Ag.flat r) = true from z)).2) id
    have e : (match atPl μ pl with | some m => (argMs r μ).map (m :: ·) | none => none) = some ms := e
    cases q1 : atPl μ pl with
    | none => rw [q1] at e; cases e
    | some m =>
      rw [q1] at e
      have e : (argMs r μ).map (m :: ·) = some ms := e
      cases q : argMs r μ with
      | none => rw [q] at e; cases e
      | some ms' =>
        rw [q] at e
        cases e
        -- the slot taken out
        have q1' := q1
        unfold atPl at q1'
        cases es : slot μ pl.1 with
        | none => rw [es] at q1'; cases q1'
        | some m0 =>
          rw [es] at q1'
          have q1' : m0.at pl.2 = some m := q1'
          obtain ⟨v0, Ts, S0, hv0, rs, s0, djs, hS⟩ := s.take es
          obtain ⟨v1, T1, r1, sub1, va, put1⟩ := rs.at pl.2 q1'
          obtain ⟨v0', e0, va'⟩ := hpv
          rw [hv0] at e0
          cases e0
          have ev : v1 = v := va.det va'
          subst ev
          obtain ⟨A, k1, k2, k3, k4⟩ := refs_ok (ags := r) s0 h2 (fun a z w => d a z ((hS a).mpr (.inl w))) nd' fo' (by rw [argMs_set nr]; exact q)
          have tS : ∀ a, T1 a → S a := fun a z => (hS a).mpr (.inr (sub1 a z))
          have t1A : ∀ a, T1 a → ¬ A a := fun a z w => (k2 a w).elim (djs a (sub1 a z)) fun w => d a w (tS a z)
          refine ⟨fun a => T1 a ∨ A a, by unfold RepMs; exact ⟨v1, r', T1, A, rfl, r1, k1, t1A, fun _ => Iff.rfl⟩, fun a z => z.elim (fun z => .inl (tS a z)) fun z => (k2 a z).imp (fun z => (hS a).mpr (.inl z)) id,
            fun a z => .inr (k3 a z), fun B' H' outs So μ' ex sub keep ho dj e => ?_⟩
          have keep' : ∀ a, (S0 a ∨ T a) → ¬ A a → H' a = H a ∧ B' a = none := fun a z n => keep a (z.imp (fun z => (hS a).mpr (.inl z)) id) fun w => w.elim (fun w => z.elim (fun z => djs a (sub1 a w) z) fun z => d a z (tS a w)) n
          cases outs with
          | nil => simp [backAs] at e
          | cons o outs =>
            cases o with
            | none => simp [backAs] at e
            | some m' =>
              obtain ⟨v2, U1, U2, hh, ho1, ho2, ho3, ho4⟩ := ho
              cases hh
              have e : backAs r outs (putPl μ pl m') = some μ' := e
              have ep : putPl μ pl m' = (μ.set pl.1 none).set pl.1 (some (m0.put pl.2 m')) := by unfold putPl; rw [es, List.set_set]
              rw [ep, backAs_set nr] at e
              cases eb : backAs r outs (μ.set pl.1 none) with
              | none => rw [eb] at e; cases e
              | some μ0 =>
                rw [eb] at e
                cases e
                obtain ⟨S', s', hS'⟩ := k4 B' H' outs U2 μ0 ex sub keep' ho2 (fun a z w => (dj a ((ho4 a).mpr (.inr z)) ((hS a).mpr (.inl w))).elim (fun z' => absurd w (djs a (sub1 a z'))) id) eb
                obtain ⟨Tn, p1, p2⟩ := put1 B' H' m' U1 ex (fun a z n => keep a (.inl ((hS a).mpr (.inr z))) fun w => w.elim n fun w => (k2 a w).elim (djs a z) fun w => d a w ((hS a).mpr (.inr z))) ho1
                  fun a z w => (dj a ((ho4 a).mpr (.inl z)) ((hS a).mpr (.inr w))).elim id fun z' => ((k2 a z').elim (fun q => absurd q (djs a w)) fun q => absurd ((hS a).mpr (.inr w)) (d a q))
                obtain ⟨S2, s2, hS2⟩ := s'.refill hv0 p1 fun a z w => by
                  rcases (p2 a).mp z with z | z
                  · rcases hS' a w with w | w
                    · exact djs a z.1 w.1
                    · have := dj a ((ho4 a).mpr (.inr w)) ((hS a).mpr (.inr z.1))
                      exact this.elim z.2 fun q => (k2 a q).elim (djs a z.1) fun q => d a q ((hS a).mpr (.inr z.1))
                  · rcases hS' a w with w | w
                    · have := dj a ((ho4 a).mpr (.inl z)) ((hS a).mpr (.inl w.1))
                      exact this.elim (fun q => djs a (sub1 a q) w.1) w.2
                    · exact ho3 a z w
                refine ⟨S2, s2, fun a z => ?_⟩
                rcases hS2 a z with z | z
                · rcases hS' a z with z | z
                  · exact .inl ⟨(hS a).mpr (.inl z.1), fun w => w.elim (fun w => djs a (sub1 a w) z.1) z.2⟩
                  · exact .inr ((ho4 a).mpr (.inr z))
                · rcases (p2 a).mp z with z | z
                  · exact .inl ⟨(hS a).mpr (.inr z.1), fun w => w.elim z.2 fun q => (k2 a q).elim (djs a z.1) fun q => d a q ((hS a).mpr (.inr z.1))⟩
                  · exact .inr ((ho4 a).mpr (.inl z))
end
end Mi
/-! Mi6: calls. -/
namespace Mi
open PySem L2
section
variable (K : PySem.W.Frag) (mg : Str → Option Value)
/-- what a function promises -/
def spF (cf : List M → CR) : Sp := fun vs H Q E => ∃ B A ms, Ex B H ∧ RepMs K mg B H ms vs A ∧ match cf ms with
  | .stuck => False
  | .err c outs => ∀ B' H' So, Ex B' H' → Step B H A B' H' So → OutRep K mg B' H' outs vs So → ∀ C, mg c = some (.ref C) → E (.ref C) none H'
  | .ok m outs => ∀ v B' H' So T, Ex B' H' → OutRep K mg B' H' outs vs So → RepM K mg B' H' m v T → (∀ a, T a → ¬ So a) → Step B H A B' H' (fun a => So a ∨ T a) → Q v H'
def tAs (C : Nat → List M → CR) (pin : List Nat) (as : As) (W : WX) : TA := fun σ H Q => ∃ π B μ S, PinOf π pin ∧ Stt K mg π B H σ μ S ∧ Post K mg as.vals (fun B H ags vs T => RAs K mg as.vals σ B H ags vs T) π B H S σ W Q (evalAs C pin as μ)
def tP (C : Nat → List M → CR) (pin : List Nat) (p : Path) : TE := fun σ H Q => ∃ π B μ S, PinOf π pin ∧ Stt K mg π B H σ μ S ∧ ∃ pl, evalP C pin p μ = some pl ∧ ∀ v B' H', PStep B H B' H' → PlV H' σ pl v → Q v H'
end
def MAs (b : Bd) (X : Cx) (x : List Expr) (as : As) : Prop := ∀ W, Takes X W → PA X x (tAs X.K X.mg b.C b.pin as W)
def MP (b : Bd) (X : Cx) (x : Expr) (p : Path) : Prop := PE X x (tP X.K X.mg b.C b.pin p)
theorem PlV.mono {H H' : Hp} {σ : L2.St} {pl : Pl} {v : V} (e : Ex H H') (h : PlV H σ pl v) : PlV H' σ pl v := by
  obtain ⟨v0, h1, h2⟩ := h
  exact ⟨v0, h1, h2.mono e⟩
section
variable {b : Bd} {X : Cx} {x : Expr} {ex : E} {xs : List Expr} {as : As} {p : Path} {pos : Pos}
theorem mas_nil : MAs b X [] .nil := fun W tk => PA.imp pa_nil fun σ H Q ⟨π, B, μ, S, hp, s, h⟩ => by
  unfold evalAs at h
  exact h [] B H S (fun _ => False) s (by unfold RAs; exact ⟨rfl, fun _ z => z⟩) (fun _ z => z.elim) ((Step.refl B H S).weak (fun _ z => z) fun _ z => z.elim id False.elim) fun _ => Ex.refl H
theorem RAs.fl {K : PySem.W.Frag} {mg : Str → Option Value} {fl fl' : Bool} {σ : L2.St} {B H : Hp} (k : fl' = true → fl = true) : ∀ {ags : List Ag} {vs : List V} {T : ASet}, RAs K mg fl σ B H ags vs T → RAs K mg fl' σ B H ags vs T
  | [], _, _, h => by unfold RAs at *; exact h
  | .val m :: r, _, _, h => by
    unfold RAs at *
    obtain ⟨v, r', T1, T2, h0, h1, h2, h3⟩ := h
    exact ⟨v, r', T1, T2, h0, h1, h2.fl k, h3⟩
  | .ref pl :: r, _, _, h => by
    unfold RAs at *
    obtain ⟨v, r', h0, h1, h2⟩ := h
    exact ⟨v, r', h0, fun q => h1 (q.imp id k), h2.fl k⟩
theorem mas_val (hx : ME b X x ex) (hr : MAs b X xs as) (hs : starEach (x :: xs) X.env = (false, eval x X.env) :: starEach xs X.env := by rfl) : MAs b X (x :: xs) (.val ex as) := fun W tk =>
  PA.imp (pa_cons (hx W tk) (hr W tk) hs) fun σ H Q ⟨π, B, μ, S, hp, s, h⟩ => by
    unfold evalAs at h
    have pr : (As.val ex as).vals = true → ex.pure = true ∧ as.vals = true := fun q => (Bool.and_eq_true _ _).mp q
    refine bindE hp s h (fun q => (pr q).1) fun m μ1 v B1 H1 S1 T s1 r1 d1 x1 h1 h1' _ => ?_
    refine ⟨π, B1, μ1, S1, hp, s1, ?_⟩
    cases q : evalAs b.C b.pin as μ1 with
    | stuck => rw [q] at h1; exact h1
    | err c μ' => rw [q] at h1; exact h1
    | ok ms μ2 =>
      rw [q] at h1'
      intro vs B2 H2 S2 U s2 r2 d2 x2 u2
      have ap : ∀ a, T a → ¬ (S2 a ∨ U a) ∧ B2 a = none ∧ H2 a = H1 a := fun a q => x2.apart (d1 a q) (r1.owned a q).1 (r1.owned a q).2
      refine h1' (v :: vs) B2 H2 S2 (fun a => T a ∨ U a) s2 ?_ (fun a z => z.elim (fun z w => (ap a z).1 (.inl w)) (d2 a)) ?_ ?_
      · unfold RAs
        exact ⟨v, vs, T, U, rfl, r1.congr (fun a o q => x2.ex a o q) fun a q => ⟨(ap a q).2.2, (ap a q).2.1⟩, r2.fl fun q => (pr q).2, fun a q z => (ap a q).1 (.inr z), fun _ => Iff.rfl⟩
      · exact (x2.frame (F := T) fun a q => ⟨d1 a q, (r1.owned a q).1⟩).weak (fun _ z => z) fun a z => z.elim (fun z => .inl (.inl z)) fun z => z.elim .inr fun z => .inl (.inr z)
      · exact fun q => u2 (pr q).2
theorem mas_ref (hx : MP b X x p) (hr : MAs b X xs as) (hs : starEach (x :: xs) X.env = (false, eval x X.env) :: starEach xs X.env := by rfl) : MAs b X (x :: xs) (.ref p as) := fun W tk =>
  PA.imp (pa_cons hx (hr W tk) hs) fun σ H Q ⟨π, B, μ, S, hp, s, h⟩ => by
    unfold evalAs at h
    cases q0 : evalP b.C b.pin p μ with
    | none => simp only [q0] at h; exact h.elim
    | some pl =>
      simp only [q0] at h
      refine ⟨π, B, μ, S, hp, s, pl, q0, fun v B1 H1 p1 hv => ?_⟩
      have h1 := h.mono (p1.step S) (fun _ z => z) fun _ => p1.ext
      refine ⟨π, B1, μ, S, hp, s.pure p1, ?_⟩
      cases q : evalAs b.C b.pin as μ with
      | stuck => rw [q] at h1; exact h1
      | err c μ' => rw [q] at h1; exact h1
      | ok ms μ2 =>
        rw [q] at h1
        intro vs B2 H2 S2 U s2 r2 d2 x2 u2
        refine h1 (v :: vs) B2 H2 S2 U s2 ?_ d2 x2 u2
        show RAs X.K X.mg _ σ B2 H2 (Ag.ref pl :: ms) _ _
        unfold RAs
        refine ⟨v, vs, rfl, fun q => ?_, r2⟩
        rcases q with q | q
        · obtain ⟨v0, e1, e2⟩ := hv
          rw [q] at e2
          exact ⟨v0, e1, by rw [q]; exact e2⟩
        · exact hv.mono (u2 q)
theorem mp_root {i : Nat} {n : Str} (hN : X.N[i]? = some n) (hv : Vis X.env.scope n) (hd : (n == ("__debug__" : Str)) = false := by decide) (hcd : (n == ("__classdict__" : Str)) = false := by decide) : MP b X (.Name n pos) (.root i) :=
  PE.imp (pe_var hN hv hd hcd) fun σ H Q ⟨π, B, μ, S, hp, s, pl, e, h⟩ => by
    unfold evalP at e
    cases q : slot μ i with
    | none => rw [q] at e; cases e
    | some m =>
      rw [q] at e
      cases e
      obtain ⟨v, T, e1, r, _⟩ := s.get q
      exact ⟨v, e1, h v B H (PStep.refl s.sub) ⟨v, e1, rfl⟩⟩
/-- behind the arguments: the callee, then back -/
theorem call_ok {cf : List M → CR} {W : WX} {σ : L2.St} {H : Hp} {Q : VK} {π : List (Nat × V)} {B : Hp} {μ : Env} {S T : ASet} {ags : List Ag} {vs : List V} {fl pu o : Bool} (s : Stt X.K X.mg π B H σ μ S) (r : RAs X.K X.mg fl σ B H ags vs T) (d : ∀ a, T a → ¬ S a)
    (hu : pu = true → o = false ∧ ∀ ms, argMs ags μ = some ms → ∃ ds, datsOf ms = some ds)
    (h : Post X.K X.mg pu (RM X.K X.mg) π B H (fun a => S a ∨ T a) σ W Q (if (nodupB (Ag.roots ags) && (Ag.flat ags || fl)) = true then
      match argMs ags μ with
      | some ms => callEnd o ags μ (cf ms)
      | none => .stuck
    else .stuck)) : spF X.K X.mg cf vs H Q (WE W σ) := by
  by_cases g : (nodupB (Ag.roots ags) && (Ag.flat ags || fl)) = true
  · rw [if_pos g] at h
    obtain ⟨g1, g2⟩ := (Bool.and_eq_true _ _).mp g
    cases e : argMs ags μ with
    | none => rw [e] at h; exact h.elim
    | some ms =>
      rw [e] at h
      dsimp only at h
      obtain ⟨A, k1, k2, k3, k4⟩ := refs_ok s r d g1 ((Bool.or_eq_true _ _).mp g2) e
      refine ⟨B, A, ms, s.sub, k1, ?_⟩
      have own : ∀ a, (S a ∨ T a) → H a ≠ none ∧ B a = none := fun a z => z.elim (s.owned a) (r.owned a)
      have st : ∀ {B' H' : Hp} {S' So T' : ASet}, Step B H A B' H' (fun a => So a ∨ T' a) → (∀ a, S' a → (S a ∧ ¬ A a) ∨ So a) → Step B H (fun a => S a ∨ T a) B' H' (fun a => S' a ∨ T' a) := fun {B' H' S' So T'} x hS' => by
        have y := x.frame (F := fun a => (S a ∨ T a) ∧ ¬ A a) fun a z => ⟨z.2, (own a z.1).1⟩
        refine y.weak (fun a z => z.elim (k2 a) fun z => z.1) fun a z => ?_
        rcases z with z | z
        · exact (hS' a z).elim (fun z => .inr ⟨.inl z.1, z.2⟩) fun z => .inl (.inl z)
        · exact .inl (.inr z)
      cases ec : cf ms with
      | stuck => rw [ec] at h; exact h.elim
      | err c outs =>
        rw [ec] at h
        intro B' H' So sub x ho C hC
        cases eb : backAs ags outs μ with
        | none => simp only [callEnd, eb] at h; exact h.elim
        | some μ' =>
          simp only [callEnd, eb] at h
          obtain ⟨S', s', hS'⟩ := k4 B' H' outs So μ' x.ex sub (fun a z n => let w := x.apart n (own a z).1 (own a z).2; ⟨w.2.2, w.2.1⟩) ho (fun a z w => (x.ow a z).elim id fun z => absurd z (own a (.inl w)).1) eb
          have y := st (T' := fun _ => False) (x.weak (fun _ z => z) fun a z => z.elim id False.elim) hS'
          exact h B' H' S' s' (y.weak (fun _ z => z) fun _ z => .inl z) C hC
      | ok m outs =>
        rw [ec] at h
        intro v B' H' So T' sub ho rm dj x
        cases eb : backAs ags outs μ with
        | none => simp only [callEnd, eb] at h; exact h.elim
        | some μ' =>
          simp only [callEnd, eb] at h
          obtain ⟨S', s', hS'⟩ := k4 B' H' outs So μ' x.ex sub (fun a z n => let w := x.apart n (own a z).1 (own a z).2; ⟨w.2.2, w.2.1⟩) ho (fun a z w => (x.ow a (.inl z)).elim id fun z => absurd z (own a (.inl w)).1) eb
          have dj' : ∀ a, T' a → ¬ S' a := fun a z w => by
            rcases hS' a w with w | w
            · exact (x.ow a (.inr z)).elim w.2 fun z => (own a (.inl w.1)).1 z
            · exact dj a z w
          have hpu : pu = true → Ex H H' := fun q => by
            obtain ⟨ds, hd⟩ := (hu q).2 ms e
            have nA := (datsOf_rep hd k1).2
            exact fun a u z => x.fr a u z (nA a)
          have y := st x hS'
          cases o with
          | true => exact h v B' H' S' T' s' rm dj' y hpu
          | false =>
            -- the answer is frozen
            have ow' := rm.owned
            have fe : Ex B' (frz B' H' T') := frz_ex fun a q => (ow' a q).2
            have r2 : Rep X.K X.mg (frz B' H' T') m.toD v := rm.freeze fe fun a q => frz_in q
            have s2 : Stt X.K X.mg π (frz B' H' T') H' σ μ' S' := s'.congr fe (frz_sub sub) fun a q => ⟨rfl, by rw [frz_out fun z => dj' a z q]; exact (s'.owned a q).2⟩
            refine h v (frz B' H' T') H' S' (fun _ => False) s2 (repM_dat.mpr ⟨r2, fun _ z => z⟩) (fun _ z => z.elim) ⟨y.ex.trans fe, y.fr, y.dom, fun a q => y.ow a (q.imp id False.elim), fun a q => ?_⟩ hpu
            by_cases z : T' a
            · exact .inr (y.ow a (.inr z))
            · rw [frz_out z] at q; exact y.fz a q
  · rw [if_neg g] at h; exact h.elim
end

/-! ### what has no effects gives data -/
mutual
theorem pureE {C : Nat → List M → CR} {pin : List Nat} : ∀ {e : E} {μ μ' : Env} {m : M}, e.pure = true → evalE C pin e μ = .ok m μ' → ∃ d, m = .dat d
  | .var i, μ, μ', m, _, h => by
    unfold evalE at h
    split at h
    · cases h; exact ⟨_, rfl⟩
    · cases h
  | .con d, μ, μ', m, _, h => by unfold evalE at h; cases h; exact ⟨_, rfl⟩
  | .op1 f a, μ, μ', m, _, h => by
    unfold evalE at h
    cases q : evalE C pin a μ with
    | stuck => rw [q] at h; cases h
    | err c μ1 => rw [q] at h; cases h
    | ok m1 μ1 =>
      rw [q] at h
      cases m1 with
      | dat d =>
        cases q2 : f d with
        | none => simp [onDat, outD, q2] at h
        | some d' => simp [onDat, outD, q2] at h; exact ⟨d', h.1.symm⟩
      | _ => cases h
  | .op2 f a b, μ, μ', m, _, h => by
    unfold evalE at h
    cases q : evalE C pin a μ with
    | stuck => rw [q] at h; cases h
    | err c μ1 => rw [q] at h; cases h
    | ok m1 μ1 =>
      rw [q] at h
      cases m1 with
      | dat d =>
        cases q2 : evalE C pin b μ1 with
        | stuck => simp [onDat, q2] at h
        | err c μ1 => simp [onDat, q2] at h
        | ok m2 μ2 =>
          cases m2 with
          | dat d2 =>
            cases q3 : f d d2 with
            | none => simp [onDat, outD, q2, q3] at h
            | some d' => simp [onDat, outD, q2, q3] at h; exact ⟨d', h.1.symm⟩
          | _ => simp [onDat, q2] at h
      | _ => cases h
  | .opN f as, μ, μ', m, _, h => by
    unfold evalE at h
    cases q : evalEs C pin as μ with
    | stuck => rw [q] at h; cases h
    | err c μ1 => rw [q] at h; cases h
    | ok ms μ1 =>
      rw [q] at h
      cases q2 : datsOf ms with
      | none => simp [q2] at h
      | some ds =>
        cases q3 : f ds with
        | none => simp [outD, q2, q3] at h
        | some d' => simp [outD, q2, q3] at h; exact ⟨d', h.1.symm⟩
  | .and a b, μ, μ', m, p, h => by
    have pb : b.pure = true := ((Bool.and_eq_true _ _).mp p).2
    unfold evalE at h
    cases q : evalE C pin a μ with
    | stuck => rw [q] at h; cases h
    | err c μ1 => rw [q] at h; cases h
    | ok m1 μ1 =>
      rw [q] at h
      cases m1 with
      | dat d =>
        cases d with
        | bl c =>
          cases c with
          | true => exact pureE pb h
          | false => simp [onDat] at h; exact ⟨_, h.1.symm⟩
        | _ => cases h
      | _ => cases h
  | .or a b, μ, μ', m, p, h => by
    have pb : b.pure = true := ((Bool.and_eq_true _ _).mp p).2
    unfold evalE at h
    cases q : evalE C pin a μ with
    | stuck => rw [q] at h; cases h
    | err c μ1 => rw [q] at h; cases h
    | ok m1 μ1 =>
      rw [q] at h
      cases m1 with
      | dat d =>
        cases d with
        | bl c =>
          cases c with
          | false => exact pureE pb h
          | true => simp [onDat] at h; exact ⟨_, h.1.symm⟩
        | _ => cases h
      | _ => cases h
  | .ite c a b, μ, μ', m, p, h => by
    have pb := (Bool.and_eq_true _ _).mp p
    have pa := (Bool.and_eq_true _ _).mp pb.1
    unfold evalE at h
    cases q : evalE C pin c μ with
    | stuck => rw [q] at h; cases h
    | err c μ1 => rw [q] at h; cases h
    | ok m1 μ1 =>
      rw [q] at h
      cases m1 with
      | dat d =>
        cases d with
        | bl c =>
          cases c with
          | false => exact pureE pb.2 h
          | true => exact pureE pa.2 h
        | _ => cases h
      | _ => cases h
  | .call o g as, μ, μ', m, p, h => by
    have po : o = false := by
      have := ((Bool.and_eq_true _ _).mp p).1
      simpa using this
    unfold evalE at h
    cases q : evalAs C pin as μ with
    | stuck => rw [q] at h; cases h
    | err c μ1 => rw [q] at h; cases h
    | ok ags μ1 =>
      rw [q] at h
      simp only [Out.bind] at h
      split at h
      · split at h
        · rename_i ms _
          cases q2 : C g ms with
          | stuck => rw [q2] at h; cases h
          | err c outs =>
            rw [q2] at h
            simp only [callEnd] at h
            split at h <;> cases h
          | ok m' outs =>
            rw [q2] at h
            simp only [callEnd] at h
            split at h
            · cases h
              rw [po]
              exact ⟨_, rfl⟩
            · cases h
        · cases h
      · cases h
  | .comp x own t f src c e, μ, μ', m, _, h => by
    unfold evalE at h
    split at h
    · cases q : evalEs C pin src μ with
      | stuck => rw [q] at h; cases h
      | err c μ1 => rw [q] at h; cases h
      | ok ms μ1 =>
        rw [q] at h
        simp only [Out.bind] at h
        split at h
        · split at h
          · split at h
            · cases h
            · cases h
            · split at h
              · cases h; exact ⟨_, rfl⟩
              · cases h
          · cases h
        · cases h
    · cases h
  | .pth p, μ, μ', m, _, h => by
    unfold evalE at h
    split at h
    · split at h
      · cases h; exact ⟨_, rfl⟩
      · cases h
    · cases h
  | .view e, μ, μ', m, _, h => by
    unfold evalE at h
    split at h
    · split at h
      · split at h
        · cases h; exact ⟨_, rfl⟩
        · cases h
      · cases h
    · cases h
  | .viewF e, μ, μ', m, _, h => by
    unfold evalE at h
    split at h
    · split at h
      · split at h
        · cases h; exact ⟨_, rfl⟩
        · cases h
      · cases h
    · cases h
end
theorem pureAs {C : Nat → List M → CR} {pin : List Nat} : ∀ {as : As} {μ μ' : Env} {ags : List Ag}, as.pure = true → evalAs C pin as μ = .ok ags μ' → ∀ μ2 ms, argMs ags μ2 = some ms → ∃ ds, datsOf ms = some ds
  | .nil, μ, μ', ags, _, h, μ2, ms, e => by
    unfold evalAs at h
    cases h
    unfold argMs at e
    cases e
    exact ⟨[], rfl⟩
  | .val a r, μ, μ', ags, p, h, μ2, ms, e => by
    have pp := (Bool.and_eq_true _ _).mp p
    unfold evalAs at h
    cases q : evalE C pin a μ with
    | stuck => rw [q] at h; cases h
    | err c μ1 => rw [q] at h; cases h
    | ok m μ1 =>
      rw [q] at h
      simp only [Out.bind] at h
      cases q2 : evalAs C pin r μ1 with
      | stuck => rw [q2] at h; cases h
      | err c μ1 => rw [q2] at h; cases h
      | ok ags' μ2' =>
        rw [q2] at h
        cases h
        have e : (argMs ags' μ2).map (m :: ·) = some ms := e
        cases q3 : argMs ags' μ2 with
        | none => rw [q3] at e; cases e
        | some ms' =>
          rw [q3] at e
          cases e
          obtain ⟨d, rfl⟩ := pureE pp.1 q
          obtain ⟨ds, hd⟩ := pureAs pp.2 q2 μ2 ms' q3
          exact ⟨d :: ds, by show (datsOf ms').map (d :: ·) = _; rw [hd]; rfl⟩
end Mi
/-! Mi7: calls, owned things, what is walked, comprehensions. -/
namespace Mi
open PySem L2
section
variable {b : Bd} {X : Cx} {x y : Expr} {ex ey e : E} {xs : List Expr} {as : As} {es : Es} {p : Path} {pos ppos : Pos} {n : Str}
theorem me_call {k g : Nat} {o : Bool} {f : Addr} {fd : FuncData} {ps : List Str} (G : FnOk X.prog X.w X.K X.mg X.base (L2.CX X.prog X.w) k f fd ps (spF X.K X.mg (b.C g))) (hr : Room k X.A) (hg : Gl X n) (hm : X.mg n = some (.ref f)) (hk : PySem.W.keepIn X.K (.ref f) = true) (hb : Binds X.K fd ps [])
    (ha : MAs b X (x :: xs) as) (hdb : (n == ("__debug__" : Str)) = false := by decide) (he : starEach (x :: xs) X.env = (false, eval x X.env) :: starEach xs X.env := by rfl) (hpl : (backTo pos (starEach xs X.env)).any (·.1) = false := by rfl) :
    ME b X (.Call (.Name n ppos) (x :: xs) [] pos) (.call o g as) := fun W tk =>
  PE.imp (pe_callS G hr hg hm hk hb (fun σ => passAt tk σ) (ha W tk) hdb he hpl) fun σ H Q ⟨π, B, μ, S, hp, s, h⟩ => by
    unfold evalE at h
    refine ⟨π, B, μ, S, hp, s, ?_⟩
    cases q : evalAs b.C b.pin as μ with
    | stuck => rw [q] at h; exact h
    | err c μ' => rw [q] at h; exact h
    | ok ags μ1 =>
      rw [q] at h
      intro vs B1 H1 S1 T s1 r1 d1 x1 u1
      have pr : (E.call o g as).pure = true → o = false ∧ as.pure = true := fun q => by
        have q1 := (Bool.and_eq_true _ _).mp q
        exact ⟨by simpa using q1.1, q1.2⟩
      exact call_ok s1 r1 d1 (fun q' => ⟨(pr q').1, fun ms e => pureAs (pr q').2 q μ1 ms e⟩) (h.mono x1 (fun _ z => z) fun q' => u1 (pureVals (pr q').2))
where pureVals : ∀ {as : As}, as.pure = true → as.vals = true
  | .nil, _ => rfl
  | .val e r, h => (Bool.and_eq_true _ _).mpr ⟨((Bool.and_eq_true _ _).mp h).1, pureVals ((Bool.and_eq_true _ _).mp h).2⟩

/-! ### new things -/
/-- frozen at once -/
theorem MF.me (h : MF b X x e) : ME b X x e := fun W tk => PE.imp (h W tk) fun σ H Q ⟨π, B, μ, S, hp, s, k⟩ => ⟨π, B, μ, S, hp, s, by
  cases q : evalE b.C b.pin e μ with
  | stuck => rw [q] at k; exact k
  | err c μ' => rw [q] at k; exact k
  | ok m μ' =>
    rw [q] at k
    cases m with
    | dat d =>
      intro p o B' H' S' s' x' u' hp' fr
      have ps := PStep.new s'.sub o hp'
      exact k (.ref p) _ _ S' (fun _ => False) (s'.pure ps) (repM_dat.mpr ⟨fr.rep ps.ex upd_same, fun _ z => z⟩) (fun _ z => z.elim) (x'.trans ((ps.step S').weak (fun _ z => z) fun _ z => z.elim id False.elim)) fun q => (u' q).trans ps.ext
    | _ => trivial⟩
theorem repMs_dats {K : PySem.W.Frag} {mg : Str → Option Value} {B H : Hp} : ∀ {ds : List D} {vs : List V}, RepL K mg B ds vs → RepMs K mg B H (ds.map .dat) vs fun _ => False
  | [], vs, h => by
    unfold RepL at h
    show RepMs K mg B H [] vs _
    unfold RepMs
    exact ⟨h, fun _ z => z⟩
  | d :: ds, vs, h => by
    unfold RepL at h
    obtain ⟨v, r, rfl, h1, h2⟩ := h
    show RepMs K mg B H (.dat d :: ds.map .dat) _ _
    unfold RepMs
    exact ⟨v, r, fun _ => False, fun _ => False, rfl, repM_dat.mpr ⟨h1, fun _ z => z⟩, repMs_dats h2, fun _ z => z.elim, fun _ => ⟨fun z => z.elim, fun z => z.elim id id⟩⟩
/-- a new object with what it holds; all else as it was -/
theorem Stt.new {K : PySem.W.Frag} {mg : Str → Option Value} {π : List (Nat × V)} {B H : Hp} {σ : L2.St} {μ : Env} {S : ASet} (s : Stt K mg π B H σ μ S) {p : Addr} {o : HO} (hp : H p = none) : Stt K mg π B (upd H p o) σ μ S :=
  s.congr (Ex.refl B) (s.sub.trans (Ex.new hp)) fun a q => ⟨upd_ne fun e => by rw [e] at q; exact (s.owned p q).1 hp, (s.owned a q).2⟩
theorem Step.new {B H : Hp} {S : ASet} {p : Addr} {o : HO} (hp : H p = none) : Step B H S B (upd H p o) fun a => S a ∨ a = p where
  ex := Ex.refl B
  fr := fun a u e _ => by rw [upd_ne (ne_of_none e hp)]; exact e
  dom := fun a e => (Ex.new hp).none e
  ow := fun a q => q.imp id fun e => by rw [e]; exact hp
  fz := fun a q => .inl q
/-- owned from the start -/
theorem me_own (h : MF b X x e) : ME b X x (.own e) := fun W tk => PE.imp (h W tk) fun σ H Q ⟨π, B, μ, S, hp, s, k⟩ => ⟨π, B, μ, S, hp, s, by
  unfold evalE at k
  cases q : evalE b.C b.pin e μ with
  | stuck => rw [q] at k; exact k
  | err c μ' => rw [q] at k; exact k
  | ok m μ' =>
    rw [q] at k
    cases m with
    | dat d =>
      intro p o B' H' S' s' x' u' hp' fr
      have bp : B' p = none := s'.sub.none hp'
      have nS : ∀ a, a = p → ¬ S' a := fun a e q => by rw [e] at q; exact (s'.owned p q).1 hp'
      have y : Step B H S B' (upd H' p o) fun a => S' a ∨ a = p := x'.trans (Step.new hp')
      rcases fr with ⟨ds, vs, rfl, rfl, r⟩ | ⟨ks, ds, vs, rfl, rfl, l, r⟩
      · refine k (.ref p) B' _ S' (fun a => a = p) (s'.new hp') ?_ nS y fun q => nomatch q
        show RepM X.K X.mg B' _ (.lst (ds.map .dat)) _ _
        unfold RepM
        exact ⟨p, vs, fun _ => False, rfl, upd_same, bp, repMs_dats r, fun z => z, fun a => ⟨.inl, fun z => z.elim id False.elim⟩⟩
      · refine k (.ref p) B' _ S' (fun a => a = p) (s'.new hp') ?_ nS y fun q => nomatch q
        show RepM X.K X.mg B' _ (.dct ks (ds.map .dat)) _ _
        unfold RepM
        exact ⟨p, vs, fun _ => False, rfl, ⟨upd_same, l⟩, bp, repMs_dats r, fun z => z, fun a => ⟨.inl, fun z => z.elim id False.elim⟩⟩
    | _ => trivial⟩
theorem twoF_imp {f : D → D → Option D} {r : R2} {W : WX} {σ : L2.St} {H : Hp} {Q : VK} (hf : Imp2F X.K X.mg f r) (h : b.tF X (.op2 f ex ey) W σ H Q) : tOp r (b.tE X ex W) (b.tE X ey W) σ H Q := by
  obtain ⟨π, B, μ, S, hp, s, h⟩ := h
  have pr : (E.op2 f ex ey).pure = true → ex.pure = true ∧ ey.pure = true := fun q => (Bool.and_eq_true _ _).mp q
  unfold evalE at h
  refine ⟨π, B, μ, S, hp, s, ?_⟩
  cases q : evalE b.C b.pin ex μ with
  | stuck => rw [q] at h; exact h
  | err c μ' => rw [q] at h; exact h
  | ok m1 μ1 =>
    rw [q] at h
    intro v B1 H1 S1 T1 s1 r1 d1 x1 u1
    cases m1 with
    | dat d1 =>
      refine ⟨π, B1, μ1, S1, hp, s1, ?_⟩
      have x1' : Step B H S B1 H1 S1 := x1.weak (fun _ z => z) fun _ z => .inl z
      dsimp only [Out.bind, onDat] at h
      cases q2 : evalE b.C b.pin ey μ1 with
      | stuck => rw [q2] at h; exact h
      | err c μ' =>
        rw [q2] at h
        exact fun B' H' S' s' x' C hC => h B' H' S' s' (x1'.trans x') C hC
      | ok m2 μ2 =>
        rw [q2] at h
        intro w B2 H2 S2 T2 s2 r2 d2 x2 u2
        cases m2 with
        | dat d2 =>
          dsimp only [Out.bind, onDat] at h
          cases q3 : f d1 d2 with
          | none => rw [q3] at h; exact h.elim
          | some d3 =>
            rw [q3] at h
            exact hf B2 H2 v w d1 d2 d3 Q s2.sub ((repM_dat.mp r1).1.mono x2.ex) (repM_dat.mp r2).1 q3 fun p o hp fr => h p o B2 H2 S2 s2 (x1'.trans (x2.weak (fun _ z => z) fun _ z => .inl z)) (fun q => (u1 (pr q).1).trans (u2 (pr q).2)) hp fr
        | _ => exact h.elim
    | _ => exact h.elim
theorem manyF_imp {fN : List D → Option D} {rN : List V → Hp → VK → Prop} {W : WX} {σ : L2.St} {H : Hp} {Q : VK} (hf : ImpNF X.K X.mg fN rN) (h : b.tF X (.opN fN es) W σ H Q) : b.tEs X es W σ H fun xs H1 => rN xs H1 Q := by
  obtain ⟨π, B, μ, S, hp, s, h⟩ := h
  unfold evalE at h
  refine ⟨π, B, μ, S, hp, s, ?_⟩
  cases q : evalEs b.C b.pin es μ with
  | stuck => rw [q] at h; exact h
  | err c μ' => rw [q] at h; exact h
  | ok ms μ1 =>
    rw [q] at h
    intro vs B1 H1 S1 T1 s1 r1 d1 x1 u1
    dsimp only [Out.bind] at h
    cases q2 : datsOf ms with
    | none => rw [q2] at h; exact h.elim
    | some ds =>
      rw [q2] at h
      dsimp only at h
      cases q3 : fN ds with
      | none => rw [q3] at h; exact h.elim
      | some d3 =>
        rw [q3] at h
        exact hf B1 H1 vs ds d3 Q s1.sub (datsOf_rep q2 r1).1 q3 fun p o hp fr => h p o B1 H1 S1 s1 (x1.weak (fun _ z => z) fun _ z => .inl z) u1 hp fr
theorem mf_lst (h : MEs b X xs es) : MF b X (.List xs pos) (.opN fLst es) := fun W tk => PE.imp (pe_lst (h W tk)) fun σ H Q q => manyF_imp impN_lst q
theorem mf_op {op : Operator} {f : D → D → Option D} {r : R2} (ho : OpR X (binaryOp op) r) (hf : Imp2F X.K X.mg f r) (hx : ME b X x ex) (hy : ME b X y ey) : MF b X (.BinOp x op y pos) (.op2 f ex ey) := fun W tk => PE.imp (pe_op ho (hx W tk) (hy W tk)) fun σ H Q h => twoF_imp hf h
theorem mf_ty {T : String} {fN : List D → Option D} {rN : List V → Hp → VK → Prop} (hc : CallR X (.type T) rN) (hf : ImpNF X.K X.mg fN rN) (hg : Gl X n) (hm : X.mg n = none) (hv : bootBuiltins n = some (.type T)) (ha : MEs b X (x :: xs) es) (hn : n ≠ "__name__" := by decide) (hdb : (n == ("__debug__" : Str)) = false := by decide)
    (he : starEach (x :: xs) X.env = (false, eval x X.env) :: starEach xs X.env := by rfl) (hpl : (backTo pos (starEach xs X.env)).any (·.1) = false := by rfl) : MF b X (.Call (.Name n ppos) (x :: xs) [] pos) (.opN fN es) := fun W tk =>
  PE.imp (pe_callTy hc hg hm hv (ha W tk) hn hdb he hpl) fun σ H Q q => manyF_imp hf q
theorem mf_bi {id : String} {fN : List D → Option D} {rN : List V → Hp → VK → Prop} (hc : CallR X (.builtin id) rN) (hf : ImpNF X.K X.mg fN rN) (hg : Gl X n) (hm : X.mg n = none) (hv : bootBuiltins n = some (.builtin id)) (ha : MEs b X (x :: xs) es) (hn : n ≠ "__name__" := by decide) (hdb : (n == ("__debug__" : Str)) = false := by decide)
    (he : starEach (x :: xs) X.env = (false, eval x X.env) :: starEach xs X.env := by rfl) (hpl : (backTo pos (starEach xs X.env)).any (·.1) = false := by rfl) : MF b X (.Call (.Name n ppos) (x :: xs) [] pos) (.opN fN es) := fun W tk =>
  PE.imp (pe_callB hc hg hm hv (ha W tk) hn hdb he hpl) fun σ H Q q => manyF_imp hf q
/-- {} -/
theorem mf_dct0 : MF b X (.Dict [] [] pos) (.con (.dct [] [])) := fun W tk => PE.imp pe_dnewK fun σ H Q ⟨π, B, μ, S, hp, s, h⟩ => by
  unfold evalE at h
  exact fun p hp' => h p _ B H S s (Step.refl B H S) (fun _ => Ex.refl H) hp' (.inr ⟨[], [], [], rfl, rfl, rfl, by unfold RepL; rfl⟩)
/-- a list of owned things -/
theorem me_ml (h : MEs b X xs es) : ME b X (.List xs pos) (.ml es) := fun W tk => PE.imp (pe_lst (h W tk)) fun σ H Q ⟨π, B, μ, S, hp, s, h⟩ => by
  unfold evalE at h
  refine ⟨π, B, μ, S, hp, s, ?_⟩
  cases q : evalEs b.C b.pin es μ with
  | stuck => rw [q] at h; exact h
  | err c μ' => rw [q] at h; exact h
  | ok ms μ1 =>
    rw [q] at h
    intro vs B1 H1 S1 T1 s1 r1 d1 x1 u1
    dsimp only [Out.bind] at h
    split at h
    · rename_i hl
      refine ⟨by rw [← repMs_len r1]; exact hl, fun p hp' => ?_⟩
      have nT : ¬ T1 p := fun z => (r1.owned p z).1 hp'
      refine h (.ref p) B1 _ S1 (fun a => a = p ∨ T1 a) (s1.new hp') ?_ (fun a z w => z.elim (fun e => by rw [e] at w; exact (s1.owned p w).1 hp') fun z => d1 a z w) ?_ fun q => nomatch q
      · show RepM X.K X.mg B1 _ (.lst ms) _ _
        unfold RepM
        exact ⟨p, vs, T1, rfl, upd_same, s1.sub.none hp', r1.congr (Ex.refl B1) fun a z => ⟨upd_ne fun e => by rw [e] at z; exact nT z, (r1.owned a z).2⟩, nT, fun a => Iff.rfl⟩
      · exact (x1.trans (Step.new hp')).weak (fun _ z => z) fun a z => z.elim (fun z => .inl (.inl z)) fun z => z.elim .inr fun z => .inl (.inr z)
    · exact h.elim
end

/-! ### what a loop walks -/
theorem PI.imp {X : Cx} {tg it : Expr} {w w' : TI} (h : PI X tg it w) (k : ∀ σ H R, w' σ H R → w σ H R) : PI X tg it w' := ⟨fun pins s σ H R I q => h.run pins s σ H R I (k σ H R q)⟩
theorem PI.or {X : Cx} {tg it : Expr} {w w' : TI} (h : PI X tg it w) (h' : PI X tg it w') : PI X tg it (fun σ H R => w σ H R ∨ w' σ H R) := ⟨fun pins s σ H R I q => q.elim (h.run pins s σ H R I) (h'.run pins s σ H R I)⟩
/-- J gives these, whatever goes on beside -/
def Walks (K : PySem.W.Frag) (mg : Str → Option Value) (B : Hp) (J : It) (ds : List D) : Prop := ∀ i B' H', Ex B B' → Ex B' H' →
  (∀ d, ds[i]? = some d → J.go i H' ∧ ∀ x H'', J.yld i H' x H'' → ∃ B'', PStep B' H' B'' H'' ∧ Rep K mg B'' d x) ∧ (ds[i]? = none → i ≤ ds.length → J.stop i H')
def tI (K : PySem.W.Frag) (mg : Str → Option Value) (C : Nat → List M → CR) (pin : List Nat) (f : List D → Option (List D)) (src : Es) (W : WX) : TI := fun σ H R => ∃ π B μ S, PinOf π pin ∧ Stt K mg π B H σ μ S ∧
  match evalEs C pin src μ with
  | .stuck => False
  | .err c μ' => ∀ B' H' S', Stt K mg π B' H' σ μ' S' → Step B H S B' H' S' → ∀ C, mg c = some (.ref C) → W (.ref C) none σ H'
  | .ok ms μ' => ∃ ds xs, datsOf ms = some ds ∧ f ds = some xs ∧ ∀ J B' H' S', Stt K mg π B' H' σ μ' S' → Step B H S B' H' S' → (src.pure = true → Ex H H') → Walks K mg B' J xs → R J H'
def MI (b : Bd) (X : Cx) (tg it : Expr) (f : List D → Option (List D)) (src : Es) : Prop := ∀ W, Takes X W → PI X tg it (tI X.K X.mg b.C b.pin f src W)
def fSeq : List D → Option (List D)
  | [.lst xs] => some xs
  | [.tup xs] => some xs
  | [.str s] => some (s.cps.toList.map fun c => .str ⟨#[c]⟩)
  | _ => none
section
variable {K : PySem.W.Frag} {mg : Str → Option Value} {B : Hp}
theorem repL_get : ∀ {ds : List D} {vs : List V} {i : Nat}, RepL K mg B ds vs → (∀ d, ds[i]? = some d → ∃ v, vs[i]? = some v ∧ Rep K mg B d v) ∧ (ds[i]? = none → vs[i]? = none)
  | [], vs, i, h => by
    unfold RepL at h
    subst h
    exact ⟨fun d e => by simp at e, fun _ => by simp⟩
  | d :: ds, vs, i, h => by
    unfold RepL at h
    obtain ⟨v, r, rfl, h1, h2⟩ := h
    cases i with
    | zero => exact ⟨fun d' e => ⟨v, rfl, by simp at e; subst e; exact h1⟩, fun e => by simp at e⟩
    | succ i =>
      have q := repL_get (i := i) h2
      exact ⟨fun d' e => by
        obtain ⟨w, e1, r1⟩ := q.1 d' (by simpa using e)
        exact ⟨w, by simpa using e1, r1⟩, fun e => by simpa using q.2 (by simpa using e)⟩
end
/-- what is read of one list stays one: two readings are one -/
def OneL (K : PySem.W.Frag) (H : Hp) (a : Addr) (vs : List V) : Prop := ∀ ys, SqL K H a ys → ys = vs
end Mi
/-! Mi8: what is walked; comprehensions. -/
namespace Mi
open PySem L2
section
variable {K : PySem.W.Frag} {mg : Str → Option Value} {B : Hp}
theorem walks_list {a : Addr} {vs : List V} {ds : List D} (h : SqL K B a vs) (r : RepL K mg B ds vs) : Walks K mg B (Itl K a) ds := fun i B' H' e1 e2 => by
  have q := (e1.trans e2).l h
  have g := repL_get (i := i) r
  refine ⟨fun d e => ?_, fun e hl => ⟨vs, q, ?_⟩⟩
  · obtain ⟨v, e3, r3⟩ := g.1 d e
    refine ⟨⟨vs, v, q, e3⟩, fun x H'' y => ?_⟩
    obtain ⟨rfl, y⟩ := y
    have e4 := y vs q
    rw [e3] at e4
    cases e4
    exact ⟨B', PStep.refl e2, r3.mono e1⟩
  · exact List.getElem?_eq_none_iff.mp (g.2 e)
theorem walks_tup {a : Addr} {vs : List V} {ds : List D} (h : SqT K B a vs) (r : RepL K mg B ds vs) : Walks K mg B (Itt K a) ds := fun i B' H' e1 e2 => by
  have q := (e1.trans e2).t h
  have g := repL_get (i := i) r
  refine ⟨fun d e => ?_, fun e hl => ⟨vs, q, ?_⟩⟩
  · obtain ⟨v, e3, r3⟩ := g.1 d e
    refine ⟨⟨vs, v, q, e3⟩, fun x H'' y => ?_⟩
    obtain ⟨rfl, y⟩ := y
    have e4 := y vs q
    rw [e3] at e4
    cases e4
    exact ⟨B', PStep.refl e2, r3.mono e1⟩
  · exact List.getElem?_eq_none_iff.mp (g.2 e)
theorem walks_range {lo : Int} {n : Nat} : Walks K mg B (Itr lo n) ((List.range n).map fun i => .int (lo + (i : Nat))) := fun i B' H' e1 e2 => by
  refine ⟨fun d e => ?_, fun e hl => ?_⟩
  · have hi : i < n := by
      have := (List.getElem?_eq_some_iff.mp e).1
      simpa using this
    refine ⟨hi, fun x H'' y => ?_⟩
    obtain ⟨rfl, rfl⟩ := y
    simp [hi] at e
    subst e
    exact ⟨B', PStep.refl e2, by unfold Rep; rfl⟩
  · have := List.getElem?_eq_none_iff.mp e
    show n ≤ i
    simpa using this
def enumD (ds : List D) : List D := (List.range ds.length).map fun i => .tup [.int (i : Nat), ds.getD i .non]
theorem enumD_get {ds : List D} {i : Nat} : (enumD ds)[i]? = (ds[i]?).map fun d => .tup [.int (i : Nat), d] := by
  unfold enumD
  by_cases h : i < ds.length
  · simp [h]
  · rw [List.getElem?_eq_none (by simpa using h), List.getElem?_eq_none (by simpa using h)]
    rfl
theorem walks_enum {a : Addr} {vs : List V} {ds : List D} (h : SqL K B a vs) (r : RepL K mg B ds vs) : Walks K mg B (Ite K a) (enumD ds) := fun i B' H' e1 e2 => by
  have q := (e1.trans e2).l h
  have g := repL_get (i := i) r
  refine ⟨fun d e => ?_, fun e hl => ⟨vs, q, ?_⟩⟩
  · rw [enumD_get] at e
    cases ed : ds[i]? with
    | none => rw [ed] at e; cases e
    | some d0 =>
      rw [ed] at e
      cases e
      obtain ⟨v, e3, r3⟩ := g.1 d0 ed
      refine ⟨⟨vs, v, q, e3⟩, fun x H'' y => ?_⟩
      obtain ⟨T, x', rfl, hT, rfl, y⟩ := y
      have e4 := y vs q
      rw [e3] at e4
      cases e4
      have ps := PStep.new e2 (.tup [.int (i : Nat), v]) hT
      refine ⟨_, ps, ?_⟩
      unfold Rep RepL RepL RepL
      refine ⟨T, _, rfl, .inl (.inl upd_same), _, _, rfl, by unfold Rep; rfl, _, _, rfl, r3.mono (e1.trans ps.ex), rfl⟩
  · have z : ds[i]? = none := by
      rw [enumD_get] at e
      cases ed : ds[i]? with
      | none => rfl
      | some d0 => rw [ed] at e; cases e
    exact List.getElem?_eq_none_iff.mp (g.2 z)
theorem walks_str {s : Str} : Walks K mg B (Its s) (s.cps.toList.map fun c => .str ⟨#[c]⟩) := fun i B' H' e1 e2 => by
  refine ⟨fun d e => ?_, fun e hl => ?_⟩
  · have hi : i < s.cps.size := by
      have := (List.getElem?_eq_some_iff.mp e).1
      simpa using this
    refine ⟨hi, fun x H'' y => ?_⟩
    obtain ⟨rfl, c, hc, rfl⟩ := y
    rw [List.getElem?_map] at e
    have hc' : s.cps.toList[i]? = some c := by simpa using hc
    rw [hc'] at e
    cases e
    exact ⟨B', PStep.refl e2, by unfold Rep; rfl⟩
  · have := List.getElem?_eq_none_iff.mp e
    show s.cps.size ≤ i
    simpa using this
def zipD (xs ys : List D) : List D := (xs.zip ys).map fun p => .tup [p.1, p.2]
theorem zipD_get {xs ys : List D} {i : Nat} : (zipD xs ys)[i]? = (xs[i]?).bind fun x => (ys[i]?).map fun y => .tup [x, y] := by
  unfold zipD
  rw [List.getElem?_map, List.zip, List.getElem?_zipWith]
  cases xs[i]? with
  | none => rfl
  | some x => cases ys[i]? <;> rfl
theorem walks_zip {a c : Addr} {vs ws : List V} {ds es : List D} (h : SqL K B a vs) (r : RepL K mg B ds vs) (h' : SqL K B c ws) (r' : RepL K mg B es ws) : Walks K mg B (Itz K a c) (zipD ds es) := fun i B' H' e1 e2 => by
  have q := (e1.trans e2).l h
  have q' := (e1.trans e2).l h'
  have g := repL_get (i := i) r
  have g' := repL_get (i := i) r'
  refine ⟨fun d e => ?_, fun e hl => ⟨vs, ws, q, q', ?_⟩⟩
  · rw [zipD_get] at e
    cases ed : ds[i]? with
    | none => rw [ed] at e; cases e
    | some d0 =>
      cases ee : es[i]? with
      | none => rw [ed, ee] at e; cases e
      | some d1 =>
        rw [ed, ee] at e
        cases e
        obtain ⟨v, e3, r3⟩ := g.1 d0 ed
        obtain ⟨w, e3', r3'⟩ := g'.1 d1 ee
        refine ⟨⟨vs, ws, v, w, q, q', e3, e3'⟩, fun x H'' y => ?_⟩
        obtain ⟨T, x', y', rfl, hT, rfl, y1, y2⟩ := y
        have e4 := y1 vs q
        rw [e3] at e4
        cases e4
        have e5 := y2 ws q'
        rw [e3'] at e5
        cases e5
        have ps := PStep.new e2 (.tup [v, w]) hT
        refine ⟨_, ps, ?_⟩
        unfold Rep RepL RepL RepL
        exact ⟨T, _, rfl, .inl (.inl upd_same), _, _, rfl, r3.mono (e1.trans ps.ex), _, _, rfl, r3'.mono (e1.trans ps.ex), rfl⟩
  · rw [zipD_get] at e
    cases ed : ds[i]? with
    | none => exact .inl (List.getElem?_eq_none_iff.mp (g.2 ed))
    | some d0 =>
      cases ee : es[i]? with
      | none => exact .inr (List.getElem?_eq_none_iff.mp (g'.2 ee))
      | some d1 => rw [ed, ee] at e; cases e
end
section
variable {b : Bd} {X : Cx} {x y tg : Expr} {e e' : E} {pos ppos : Pos} {es : Es}
/-- one operand of a loop -/
theorem iter1 {f : List D → Option (List D)} {W : WX} {σ : L2.St} {H : Hp} {R : It → Hp → Prop} {Q : V → Hp → Prop} (h : tI X.K X.mg b.C b.pin f (.cons e .nil) W σ H R)
    (k : ∀ (d : D) xs B1 H1 v, f [d] = some xs → Ex B1 H1 → Rep X.K X.mg B1 d v → (∀ J, Walks X.K X.mg B1 J xs → R J H1) → Q v H1) : b.tE X e W σ H Q := by
  obtain ⟨π, B, μ, S, hp, s, h⟩ := h
  refine ⟨π, B, μ, S, hp, s, ?_⟩
  simp only [evalEs] at h
  cases q : evalE b.C b.pin e μ with
  | stuck => rw [q] at h; exact h
  | err c μ' => rw [q] at h; exact h
  | ok m μ1 =>
    rw [q] at h
    dsimp only [Out.bind] at h
    obtain ⟨ds, xs, e1, e2, h⟩ := h
    cases m with
    | dat d =>
      have e3 : ds = [d] := by
        unfold datsOf datsOf at e1
        cases e1; rfl
      subst e3
      intro v B1 H1 S1 T s1 r1 d1 x1 u1
      exact k d xs B1 H1 v e2 s1.sub (repM_dat.mp r1).1 fun J w => h J B1 H1 S1 s1 (x1.weak (fun _ z => z) fun _ z => .inl z) (fun q => u1 ((Bool.and_eq_true _ _).mp q).1) w
    | _ => unfold datsOf at e1; cases e1
theorem mi_list (h : ME b X x e) : MI b X tg x fSeq (.cons e .nil) := fun W tk =>
  PI.imp (PI.or (pi_list (h W tk)) (PI.or (pi_tup (h W tk)) (pi_str (h W tk)))) fun σ H R k => by
    have k0 := k
    obtain ⟨π, B, μ, S, hp, s, k1⟩ := k0
    -- which it is
    have it : ∀ d μ', evalE b.C b.pin e μ = .ok (.dat d) μ' → (∃ xs, d = .lst xs) ∨ (∃ xs, d = .tup xs) ∨ ∃ z, d = .str z := fun d μ' q => by
      simp only [evalEs] at k1
      rw [q] at k1
      dsimp only [Out.bind] at k1
      obtain ⟨ds, xs, e1, e2, _⟩ := k1
      have e3 : ds = [d] := by
        unfold datsOf datsOf at e1
        cases e1; rfl
      subst e3
      cases d <;> first | exact .inl ⟨_, rfl⟩ | exact .inr (.inl ⟨_, rfl⟩) | exact .inr (.inr ⟨_, rfl⟩) | (exact absurd e2 (by unfold fSeq; intro q; cases q))
    cases q : evalE b.C b.pin e μ with
    | stuck => exact absurd k1 (by simp only [evalEs]; rw [q]; exact id)
    | err c μ' =>
      refine .inl ⟨π, B, μ, S, hp, s, ?_⟩
      rw [q]
      simp only [evalEs] at k1
      rw [q] at k1
      exact k1
    | ok m μ1 =>
      simp only [evalEs] at k1
      rw [q] at k1
      dsimp only [Out.bind] at k1
      obtain ⟨ds, xs, e1, e2, k1⟩ := k1
      cases m with
      | dat d =>
        have e3 : ds = [d] := by
          unfold datsOf datsOf at e1
          cases e1; rfl
        subst e3
        have fin : ∀ (B1 H1 : Hp) (S1 T : ASet), Stt X.K X.mg π B1 H1 σ μ1 S1 → (∀ z, T z → ¬ S1 z) → Step B H S B1 H1 (fun z => S1 z ∨ T z) → (e.pure = true → Ex H H1) → ∀ J, Walks X.K X.mg B1 J xs → R J H1 := fun B1 H1 S1 T s1 d1 x1 u1 J w =>
          k1 J B1 H1 S1 s1 (x1.weak (fun _ z => z) fun _ z => .inl z) (fun q => u1 ((Bool.and_eq_true _ _).mp q).1) w
        rcases it d μ1 q with ⟨zs, rfl⟩ | ⟨zs, rfl⟩ | ⟨z, rfl⟩
        · refine .inl ⟨π, B, μ, S, hp, s, ?_⟩
          rw [q]
          intro v B1 H1 S1 T s1 r1 d1 x1 u1
          have r2 := (repM_dat.mp r1).1
          unfold Rep at r2
          obtain ⟨a, vs, rfl, r3, r4⟩ := r2
          cases e2
          exact ⟨a, rfl, ⟨vs, s1.sub.l r3⟩, fin B1 H1 S1 T s1 d1 x1 u1 _ (walks_list r3 r4)⟩
        · refine .inr (.inl ⟨π, B, μ, S, hp, s, ?_⟩)
          rw [q]
          intro v B1 H1 S1 T s1 r1 d1 x1 u1
          have r2 := (repM_dat.mp r1).1
          unfold Rep at r2
          obtain ⟨a, vs, rfl, r3, r4⟩ := r2
          cases e2
          exact ⟨a, rfl, ⟨vs, s1.sub.t r3⟩, fin B1 H1 S1 T s1 d1 x1 u1 _ (walks_tup r3 r4)⟩
        · refine .inr (.inr ⟨π, B, μ, S, hp, s, ?_⟩)
          rw [q]
          intro v B1 H1 S1 T s1 r1 d1 x1 u1
          have r2 := (repM_dat.mp r1).1
          unfold Rep at r2
          subst r2
          cases e2
          exact ⟨z, rfl, fin B1 H1 S1 T s1 d1 x1 u1 _ walks_str⟩
      | _ => unfold datsOf at e1; cases e1
/-- the operands of a loop -/
theorem iterN {f : List D → Option (List D)} {W : WX} {σ : L2.St} {H : Hp} {R : It → Hp → Prop} {Q : List V → Hp → Prop} (h : tI X.K X.mg b.C b.pin f es W σ H R)
    (k : ∀ (ds : List D) xs B1 H1 vs, f ds = some xs → Ex B1 H1 → RepL X.K X.mg B1 ds vs → (∀ J, Walks X.K X.mg B1 J xs → R J H1) → Q vs H1) : b.tEs X es W σ H Q := by
  obtain ⟨π, B, μ, S, hp, s, h⟩ := h
  refine ⟨π, B, μ, S, hp, s, ?_⟩
  cases q : evalEs b.C b.pin es μ with
  | stuck => rw [q] at h; exact h
  | err c μ' => rw [q] at h; exact h
  | ok m μ1 =>
    rw [q] at h
    obtain ⟨ds, xs, e1, e2, h⟩ := h
    intro v B1 H1 S1 T s1 r1 d1 x1 u1
    exact k ds xs B1 H1 v e2 s1.sub (datsOf_rep e1 r1).1 fun J w => h J B1 H1 S1 s1 (x1.weak (fun _ z => z) fun _ z => .inl z) u1 w
def fRange1 : List D → Option (List D)
  | [.int j] => if -(2 ^ 62) ≤ j ∧ j < 2 ^ 62 then some ((List.range j.toNat).map fun i => .int (0 + (i : Nat))) else none
  | _ => none
def fRange2 : List D → Option (List D)
  | [.int i, .int j] => if (-(2 ^ 62) ≤ i ∧ i < 2 ^ 62) ∧ -(2 ^ 62) ≤ j ∧ j < 2 ^ 62 then some ((List.range (j - i).toNat).map fun k => .int (i + (k : Nat))) else none
  | _ => none
def fEnum : List D → Option (List D)
  | [.lst xs] => some (enumD xs)
  | _ => none
def fZip : List D → Option (List D)
  | [.lst xs, .lst ys] => some (zipD xs ys)
  | _ => none
theorem repL1 {K : PySem.W.Frag} {mg : Str → Option Value} {B : Hp} {d : D} {vs : List V} (h : RepL K mg B [d] vs) : ∃ v, vs = [v] ∧ Rep K mg B d v := by
  unfold RepL RepL at h
  obtain ⟨v, r, rfl, h1, rfl⟩ := h
  exact ⟨v, rfl, h1⟩
theorem repL2 {K : PySem.W.Frag} {mg : Str → Option Value} {B : Hp} {d d' : D} {vs : List V} (h : RepL K mg B [d, d'] vs) : ∃ v w, vs = [v, w] ∧ Rep K mg B d v ∧ Rep K mg B d' w := by
  unfold RepL at h
  obtain ⟨v, r, rfl, h1, h2⟩ := h
  obtain ⟨w, rfl, h3⟩ := repL1 h2
  exact ⟨v, w, rfl, h1, h3⟩
theorem rep_int {K : PySem.W.Frag} {mg : Str → Option Value} {B : Hp} {i : Int} {v : V} (h : Rep K mg B (.int i) v) : v = .int i := by unfold Rep at h; exact h
theorem rep_str {K : PySem.W.Frag} {mg : Str → Option Value} {B : Hp} {i : Str} {v : V} (h : Rep K mg B (.str i) v) : v = .str i := by unfold Rep at h; exact h
theorem rep_lst {K : PySem.W.Frag} {mg : Str → Option Value} {B : Hp} {xs : List D} {v : V} (h : Rep K mg B (.lst xs) v) : ∃ a vs, v = .ref a ∧ SqL K B a vs ∧ RepL K mg B xs vs := by unfold Rep at h; exact h
theorem rep_tup {K : PySem.W.Frag} {mg : Str → Option Value} {B : Hp} {xs : List D} {v : V} (h : Rep K mg B (.tup xs) v) : ∃ a vs, v = .ref a ∧ SqT K B a vs ∧ RepL K mg B xs vs := by unfold Rep at h; exact h
theorem mi_range1 (hg : Gl X "range") (hm : X.mg "range" = none) (h : MEs b X [x] es) (hs : starEach [x] X.env = [(false, eval x X.env)] := by rfl) : MI b X tg (.Call (.Name "range" ppos) [x] [] pos) fRange1 es := fun W tk =>
  PI.imp (pi_range1 hg hm (h W tk) hs) fun σ H R k => iterN k fun ds xs B1 H1 vs hf e1 r w => by
    unfold fRange1 at hf
    split at hf
    · split at hf
      · rename_i j hb
        cases hf
        obtain ⟨v, rfl, r1⟩ := repL1 r
        rw [rep_int r1]
        exact ⟨j, rfl, hb.1, hb.2, w _ walks_range⟩
      · cases hf
    · cases hf
theorem mi_range2 (hg : Gl X "range") (hm : X.mg "range" = none) (h : MEs b X [x, y] es) (hs : starEach [x, y] X.env = [(false, eval x X.env), (false, eval y X.env)] := by rfl) (hs2 : starEach [y] X.env = [(false, eval y X.env)] := by rfl) : MI b X tg (.Call (.Name "range" ppos) [x, y] [] pos) fRange2 es := fun W tk =>
  PI.imp (pi_range2 hg hm (h W tk) hs hs2) fun σ H R k => iterN k fun ds xs B1 H1 vs hf e1 r w => by
    unfold fRange2 at hf
    split at hf
    · split at hf
      · rename_i i j hb
        cases hf
        obtain ⟨v, u, rfl, r1, r2⟩ := repL2 r
        rw [rep_int r1, rep_int r2]
        exact ⟨i, j, rfl, ⟨hb.1.1, hb.1.2, hb.2.1, hb.2.2⟩, w _ walks_range⟩
      · cases hf
    · cases hf
theorem mi_enum {elts : List Expr} {kk : Nat} {tpos : Pos} (hg : Gl X "enumerate") (hm : X.mg "enumerate" = none) (h : MEs b X [x] es) (hs : starEach [x] X.env = [(false, eval x X.env)] := by rfl) : MI b X (.Tuple elts kk tpos) (.Call (.Name "enumerate" ppos) [x] [] pos) fEnum es := fun W tk =>
  PI.imp (pi_enum hg hm (h W tk) hs) fun σ H R k => iterN k fun ds xs B1 H1 vs hf e1 r w => by
    unfold fEnum at hf
    split at hf
    · cases hf
      obtain ⟨v, rfl, r1⟩ := repL1 r
      obtain ⟨a, us, rfl, r2, r3⟩ := rep_lst r1
      exact ⟨a, us, rfl, e1.l r2, w _ (walks_enum r2 r3)⟩
    · cases hf
theorem mi_zip {elts : List Expr} {kk : Nat} {tpos : Pos} (hg : Gl X "zip") (hm : X.mg "zip" = none) (h : MEs b X [x, y] es) (hs : starEach [x, y] X.env = (false, eval x X.env) :: starEach [y] X.env := by rfl) (hpl : (backTo pos (starEach [y] X.env)).any (·.1) = false := by rfl) : MI b X (.Tuple elts kk tpos) (.Call (.Name "zip" ppos) [x, y] [] pos) fZip es := fun W tk =>
  PI.imp (pi_zip hg hm (h W tk) hs hpl) fun σ H R k => iterN k fun ds xs B1 H1 vs hf e1 r w => by
    unfold fZip at hf
    split at hf
    · cases hf
      obtain ⟨v, u, rfl, r1, r2⟩ := repL2 r
      obtain ⟨a, us, rfl, r3, r4⟩ := rep_lst r1
      obtain ⟨c, ws, rfl, r5, r6⟩ := rep_lst r2
      exact ⟨a, c, us, ws, rfl, e1.l r3, e1.l r5, w _ (walks_zip r3 r4 r5 r6)⟩
    · cases hf
end

/-! ### targets -/
def tG (K : PySem.W.Frag) (mg : Str → Option Value) (pin : List Nat) (t : Tg) : TG := fun v σ H Q => ∃ π B μ S T m, PinOf π pin ∧ (∀ i ∈ t.slots, i ∉ pin) ∧ Stt K mg π B H σ μ S ∧ RepM K mg B H m v T ∧ (∀ a, T a → ¬ S a) ∧
  ∃ μ', setTg t m μ = some μ' ∧ ∀ σ' S', Stt K mg π B H σ' μ' S' → (∀ a, S' a → S a ∨ T a) → (∀ i, i ∉ t.slots → σ'[i]? = σ[i]?) → Q σ' H
def MG (b : Bd) (X : Cx) (tg : Expr) (t : Tg) : Prop := PG X tg (tG X.K X.mg b.pin t)
theorem PG.imp {X : Cx} {tg : Expr} {t t' : TG} (h : PG X tg t) (k : ∀ v σ H Q, t' v σ H Q → t v σ H Q) : PG X tg t' := ⟨fun pins s σ H v u Q I r q => h.run pins s σ H v u Q I r (k v σ H Q q)⟩
section
variable {b : Bd} {X : Cx} {x y tg : Expr} {e : E} {pos ppos : Pos} {es : Es} {n : Str}
theorem mg_name {i : Nat} (hN : X.N.Nodup) (hi : X.N[i]? = some n) (hx : Loc X.env.scope n) (hf : X.fn n = true ∨ X.env.scope.names.lookup n = some .local := by first | exact .inl rfl | exact .inr rfl | assumption) : MG b X (.Name n pos) (.one i) :=
  PG.imp (pg_name hN hi hx hf) fun v σ H Q ⟨π, B, μ, S, T, m, hp, np, s, r, d, μ', e, k⟩ => by
    have e : (if i < μ.length then some (μ.set i (some m)) else none) = some μ' := e
    split at e
    · rename_i hl
      cases e
      obtain ⟨S', s', hS⟩ := s.fill hl r d fun p hp' q => np i (by simp [Tg.slots]) (by rw [← q]; exact hp p hp')
      exact k _ S' s' hS fun j hj => List.getElem?_set_ne fun e => hj (by simp [Tg.slots, e])
    · cases e
/-- the slots of a written tuple's targets -/
def MGs (X : Cx) (es : List Expr) (is : List Nat) : Prop := ∃ t : TGs, PGs X es t ∧ ∀ vs (σ : L2.St) (H : Hp) (Q : L2.St → Hp → Prop), vs.length = is.length → Q ((is.zip vs).foldl (fun σ p => σ.set p.1 (some p.2)) σ) H → t vs σ H Q
theorem mgs_nil : MGs X [] [] := ⟨gNil, pgs_nil, fun vs σ H Q hl q => by
  have e : vs = [] := List.eq_nil_of_length_eq_zero hl
  subst e
  exact ⟨rfl, q⟩⟩
theorem mgs_cons {i : Nat} {is : List Nat} {xs : List Expr} (hN : X.N.Nodup) (hi : X.N[i]? = some n) (hx : Loc X.env.scope n) (hr : MGs X xs is) (hf : X.fn n = true ∨ X.env.scope.names.lookup n = some .local := by first | exact .inl rfl | exact .inr rfl | assumption)
    (hs : (assignEach (.Name n pos :: xs) X.env).map (·.2) = assign (.Name n pos) X.env :: (assignEach xs X.env).map (·.2) := by rfl) : MGs X (.Name n pos :: xs) (i :: is) := by
  obtain ⟨t, ht, k⟩ := hr
  refine ⟨gCons (gName i) t, pgs_cons (pg_name hN hi hx hf) ht hs, fun vs σ H Q hl q => ?_⟩
  cases vs with
  | nil => cases hl
  | cons v r => exact ⟨v, r, rfl, k r _ H Q (by simpa using hl) q⟩
theorem set_many {K : PySem.W.Frag} {mg : Str → Option Value} {pin : List Nat} {π : List (Nat × V)} {B H : Hp} (hp : PinOf π pin) : ∀ {is : List Nat} {ds : List D} {vs : List V} {σ : L2.St} {μ μ' : Env} {S : ASet}, (∀ i ∈ is, i ∉ pin) → Stt K mg π B H σ μ S → RepL K mg B ds vs → setMany is ds μ = some μ' →
    vs.length = is.length ∧ ∃ S', Stt K mg π B H ((is.zip vs).foldl (fun σ p => σ.set p.1 (some p.2)) σ) μ' S' ∧ (∀ a, S' a → S a) ∧ ∀ j, j ∉ is → ((is.zip vs).foldl (fun σ p => σ.set p.1 (some p.2)) σ)[j]? = σ[j]?
  | [], [], vs, σ, μ, μ', S, _, s, r, e => by
    unfold RepL at r
    subst r
    have e : μ = μ' := by simpa [setMany] using e
    subst e
    exact ⟨rfl, S, s, fun _ z => z, fun _ _ => rfl⟩
  | [], _ :: _, _, _, _, _, _, _, _, _, e => by simp [setMany] at e
  | _ :: _, [], _, _, _, _, _, _, _, _, e => by simp [setMany] at e
  | i :: is, d :: ds, vs, σ, μ, μ', S, np, s, r, e => by
    unfold RepL at r
    obtain ⟨v, r', rfl, r1, r2⟩ := r
    have e : (if i < μ.length then setMany is ds (μ.set i (some (.dat d))) else none) = some μ' := e
    split at e
    · rename_i hl
      obtain ⟨S1, s1, h1⟩ := s.fill (T := fun _ => False) hl (repM_dat.mpr ⟨r1, fun _ z => z⟩) (fun _ z => z.elim) fun p hp' q => np i List.mem_cons_self (by rw [← q]; exact hp p hp')
      obtain ⟨h2, S2, s2, h3, h4⟩ := set_many hp (fun j hj => np j (List.mem_cons_of_mem _ hj)) s1 r2 e
      refine ⟨by simp [h2], S2, s2, fun a z => (h1 a (h3 a z)).elim id False.elim, fun j hj => ?_⟩
      have hj' : j ≠ i ∧ j ∉ is := by simpa using hj
      show ((is.zip r').foldl (fun σ p => σ.set p.1 (some p.2)) (σ.set i (some v)))[j]? = _
      rw [h4 j hj'.2]
      exact List.getElem?_set_ne fun e => hj'.1 e.symm
    · cases e
theorem set_manyM {K : PySem.W.Frag} {mg : Str → Option Value} {pin : List Nat} {π : List (Nat × V)} {B H : Hp} (hp : PinOf π pin) : ∀ {is : List Nat} {ms : List M} {vs : List V} {σ : L2.St} {μ μ' : Env} {S T : ASet}, (∀ i ∈ is, i ∉ pin) → Stt K mg π B H σ μ S → RepMs K mg B H ms vs T → (∀ a, T a → ¬ S a) → setManyM is ms μ = some μ' →
    vs.length = is.length ∧ ∃ S', Stt K mg π B H ((is.zip vs).foldl (fun σ p => σ.set p.1 (some p.2)) σ) μ' S' ∧ (∀ a, S' a → S a ∨ T a) ∧ ∀ j, j ∉ is → ((is.zip vs).foldl (fun σ p => σ.set p.1 (some p.2)) σ)[j]? = σ[j]?
  | [], [], vs, σ, μ, μ', S, T, _, s, r, _, e => by
    unfold RepMs at r
    obtain ⟨rfl, _⟩ := r
    have e : μ = μ' := by simpa [setManyM] using e
    subst e
    exact ⟨rfl, S, s, fun _ z => .inl z, fun _ _ => rfl⟩
  | [], _ :: _, _, _, _, _, _, _, _, _, _, _, e => by simp [setManyM] at e
  | _ :: _, [], _, _, _, _, _, _, _, _, _, _, e => by simp [setManyM] at e
  | i :: is, m :: ms, vs, σ, μ, μ', S, T, np, s, r, dj, e => by
    unfold RepMs at r
    obtain ⟨v, r', T1, T2, rfl, r1, r2, d12, hT⟩ := r
    have e : (if i < μ.length then setManyM is ms (μ.set i (some m)) else none) = some μ' := e
    split at e
    · rename_i hl
      obtain ⟨S1, s1, h1⟩ := s.fill (T := T1) hl r1 (fun a z => dj a ((hT a).mpr (.inl z))) fun p hp' q => np i List.mem_cons_self (by rw [← q]; exact hp p hp')
      obtain ⟨h2, S2, s2, h3, h4⟩ := set_manyM hp (fun j hj => np j (List.mem_cons_of_mem _ hj)) s1 r2 (fun a z w => (h1 a w).elim (dj a ((hT a).mpr (.inr z))) fun w => d12 a w z) e
      refine ⟨by simp [h2], S2, s2, fun a z => (h3 a z).elim (fun w => (h1 a w).elim .inl fun w => .inr ((hT a).mpr (.inl w))) fun w => .inr ((hT a).mpr (.inr w)), fun j hj => ?_⟩
      have hj' : j ≠ i ∧ j ∉ is := by simpa using hj
      show ((is.zip r').foldl (fun σ p => σ.set p.1 (some p.2)) (σ.set i (some v)))[j]? = _
      rw [h4 j hj'.2]
      exact List.getElem?_set_ne fun e => hj'.1 e.symm
    · cases e
theorem mg_tup {xs : List Expr} {k : Nat} {is : List Nat} (hc : X.calm = true) (h : MGs X xs is) (hn : (assignEach xs X.env).length = is.length := by rfl) (hst : (assignEach xs X.env).findIdx? (·.1) = none := by rfl) : MG b X (.Tuple xs k pos) (.many is) := by
  obtain ⟨t, ht, kt⟩ := h
  refine PG.imp (pg_tup hc ht hn hst) fun v σ H Q ⟨π, B, μ, S, T, m, hp, np, s, r, d, μ', e, kk⟩ => ?_
  cases m with
  | dat dd =>
    cases dd with
    | tup ds =>
      have e : setMany is ds μ = some μ' := e
      obtain ⟨a, vs, rfl, r1, r2⟩ := rep_tup (repM_dat.mp r).1
      obtain ⟨hl, S', s', h1, h2⟩ := set_many hp np s r2 e
      exact ⟨a, vs, rfl, s.sub.t r1, hl, kt vs σ H Q hl (kk _ S' s' (fun a z => .inl (h1 a z)) h2)⟩
    | _ => cases e
  | tup ms =>
    have e : setManyM is ms μ = some μ' := e
    unfold RepM at r
    obtain ⟨a, vs, U, rfl, ho, hb, r1, hU, hT⟩ := r
    obtain ⟨hl, S', s', h1, h2⟩ := set_manyM hp np s r1 (fun b z => d b ((hT b).mpr (.inr z))) e
    exact ⟨a, vs, rfl, .inl (.inl ho), hl, kt vs σ H Q hl (kk _ S' s' (fun b z => (h1 b z).elim .inl fun z => .inr ((hT b).mpr (.inr z))) h2)⟩
  | _ => cases e
end
end Mi
/-! Mi9: comprehensions. -/
namespace Mi
open PySem L2
theorem wipe_in {σ : L2.St} {i : Nat} : ∀ {vs : List Nat}, i ∈ vs → i < σ.length → (wipe σ vs)[i]? = some none
  | v :: vs, h, hl => by
    unfold wipe
    by_cases e : v = i
    · subst e; exact List.getElem?_set_self (by rw [wipe_length]; exact hl)
    · rw [List.getElem?_set_ne e]
      exact wipe_in (by rcases List.mem_cons.mp h with q | q; exact absurd q.symm e; exact q) hl
theorem wipe_not {σ : L2.St} {i : Nat} : ∀ {vs : List Nat}, i ∉ vs → (wipe σ vs)[i]? = σ[i]?
  | [], _ => rfl
  | v :: vs, h => by
    unfold wipe
    have h' : i ≠ v ∧ i ∉ vs := by simpa using h
    rw [List.getElem?_set_ne (fun e => h'.1 e.symm)]
    exact wipe_not h'.2
theorem wipe_again {σ σ2 : L2.St} {vs : List Nat} (hl : σ2.length = σ.length) (h : ∀ i, i ∉ vs → σ2[i]? = (wipe σ vs)[i]?) : wipe σ2 vs = wipe σ vs := by
  apply List.ext_getElem?
  intro j
  by_cases e : j ∈ vs
  · by_cases q : j < σ.length
    · rw [wipe_in e q, wipe_in e (by rw [hl]; exact q)]
    · rw [List.getElem?_eq_none (by rw [wipe_length]; omega), List.getElem?_eq_none (by rw [wipe_length]; omega)]
  · rw [wipe_not e, h j e]
theorem slot_wipe {μ : Env} {i : Nat} : ∀ {vs : List Nat}, slot (wipeE vs μ) i = if i ∈ vs then none else slot μ i
  | [] => by simp [wipeE]
  | v :: vs => by
    show slot ((wipeE vs μ).set v none) i = _
    rw [slot_set_none, slot_wipe (vs := vs)]
    by_cases e : v = i
    · subst e; simp
    · have e' : i ≠ v := fun q => e q.symm
      simp [e, e']
theorem wipeE_len {μ : Env} : ∀ {vs : List Nat}, (wipeE vs μ).length = μ.length
  | [] => rfl
  | v :: vs => by
    show ((wipeE vs μ).set v none).length = _
    rw [List.length_set, wipeE_len]
section
variable {K : PySem.W.Frag} {mg : Str → Option Value} {π : List (Nat × V)} {B H : Hp} {σ σ' : L2.St} {μ μ' : Env} {S : ASet}
/-- fewer slots -/
theorem Stt.less (s : Stt K mg π B H σ μ S) (hl : σ'.length = σ.length) (hl' : μ'.length = μ.length) (h : ∀ i m, slot μ' i = some m → slot μ i = some m ∧ σ'[i]? = σ[i]?) (hp : ∀ p ∈ π, σ'[p.1]? = σ[p.1]?) : ∃ S', Stt K mg π B H σ' μ' S' ∧ ∀ a, S' a → S a := by
  obtain ⟨F, h1, h2, h3, h4⟩ := s.slots
  refine ⟨fun a => ∃ i, slot μ' i ≠ none ∧ F i a, ⟨s.sub, by rw [hl, hl']; exact s.len, ⟨fun i a => slot μ' i ≠ none ∧ F i a, fun i m e => ?_, fun i e a q => q.1 e, fun i j a n q z => h3 i j a n q.2 z.2, fun a => Iff.rfl⟩, fun p q => by rw [hp p q]; exact s.pins p q⟩, fun a ⟨i, _, q⟩ => (h4 a).mpr ⟨i, q⟩⟩
  obtain ⟨e1, e2⟩ := h i m e
  obtain ⟨v, e3, r⟩ := h1 i m e1
  exact ⟨v, by rw [e2]; exact e3, r.cast fun a => ⟨fun q => ⟨by rw [e]; simp, q⟩, fun q => q.2⟩⟩
end
def MTs (b : Bd) (X : Cx) (ifs : List Expr) (c : E) : Prop := ∀ W, Takes X W → PTs X ifs (b.tT X c W)
theorem PTs.imp {X : Cx} {ifs : List Expr} {t t' : TT} (h : PTs X ifs t) (k : ∀ σ H Q, t' σ H Q → t σ H Q) : PTs X ifs t' := ⟨fun pins s σ H Q I q => h.run pins s σ H Q I (k σ H Q q)⟩
theorem mts_nil {b : Bd} {X : Cx} : MTs b X [] (.con (.bl true)) := fun W tk => PTs.imp pts_nil fun σ H Q ⟨π, B, μ, S, hp, s, h⟩ => by
  unfold evalE at h
  obtain ⟨c, e, q⟩ := h.done (v := .bl true) s (PStep.refl s.sub) (by unfold Rep; rfl)
  cases e
  exact q
theorem mts_one {b : Bd} {X : Cx} {c : Expr} {e : E} (h : MT b X c e) : MTs b X [c] e := fun W tk => pts_one (h W tk)
theorem compLoop_len {own : List Nat} {t : Tg} {c e : Env → Out D} : ∀ {xs : List D} {acc : List D} {μ μ' : Env} {ys : List D}, compLoop own t c e xs acc μ = .ok ys μ' → acc.length ≤ ys.length
  | [], acc, μ, μ', ys, h => by unfold compLoop at h; cases h; exact Nat.le_refl _
  | d :: ds, acc, μ, μ', ys, h => by
    unfold compLoop at h
    split at h
    · cases h
    · rename_i μ1 _
      cases q : c μ1 with
      | stuck => rw [q] at h; cases h
      | err x y => rw [q] at h; cases h
      | ok bb μ2 =>
        rw [q] at h
        dsimp only [Out.bind] at h
        split at h
        · exact compLoop_len h
        · cases q2 : e μ2 with
          | stuck => rw [q2] at h; cases h
          | err x y => rw [q2] at h; cases h
          | ok y μ3 =>
            rw [q2] at h
            have := compLoop_len h
            rw [List.length_append, List.length_singleton] at this
            omega
        · cases h
theorem setMany_len : ∀ {is : List Nat} {ds : List D} {μ μ' : Env}, setMany is ds μ = some μ' → μ'.length = μ.length
  | [], [], μ, μ', h => by simp [setMany] at h; rw [h]
  | [], _ :: _, _, _, h => by simp [setMany] at h
  | _ :: _, [], _, _, h => by simp [setMany] at h
  | i :: is, d :: ds, μ, μ', h => by
    have h : (if i < μ.length then setMany is ds (μ.set i (some (.dat d))) else none) = some μ' := h
    split at h
    · rw [setMany_len h, List.length_set]
    · cases h
theorem setManyM_len : ∀ {is : List Nat} {ms : List M} {μ μ' : Env}, setManyM is ms μ = some μ' → μ'.length = μ.length
  | [], [], μ, μ', h => by simp [setManyM] at h; rw [h]
  | [], _ :: _, _, _, h => by simp [setManyM] at h
  | _ :: _, [], _, _, h => by simp [setManyM] at h
  | i :: is, m :: ms, μ, μ', h => by
    have h : (if i < μ.length then setManyM is ms (μ.set i (some m)) else none) = some μ' := h
    split at h
    · rw [setManyM_len h, List.length_set]
    · cases h
theorem setTg_len {t : Tg} {m : M} {μ μ' : Env} (h : setTg t m μ = some μ') : μ'.length = μ.length := by
  cases t with
  | one i =>
    have h : (if i < μ.length then some (μ.set i (some m)) else none) = some μ' := h
    split at h
    · cases h; rw [List.length_set]
    · cases h
  | many is =>
    cases m with
    | dat d =>
      cases d with
      | tup ds =>
        have h : setMany is ds μ = some μ' := h
        exact setMany_len h
      | _ => cases h
    | tup ms =>
      have h : setManyM is ms μ = some μ' := h
      exact setManyM_len h
    | _ => cases h
theorem repL_snoc {K : PySem.W.Frag} {mg : Str → Option Value} {B : Hp} {d : D} {v : V} : ∀ {ds : List D} {vs : List V}, RepL K mg B ds vs → Rep K mg B d v → RepL K mg B (ds ++ [d]) (vs ++ [v])
  | [], vs, h, r => by
    unfold RepL at h
    subst h
    show RepL K mg B [d] [v]
    unfold RepL RepL
    exact ⟨v, [], rfl, r, rfl⟩
  | d0 :: ds, vs, h, r => by
    unfold RepL at h
    obtain ⟨w, r', rfl, h1, h2⟩ := h
    show RepL K mg B (d0 :: (ds ++ [d])) (w :: (r' ++ [v]))
    unfold RepL
    exact ⟨w, r' ++ [v], rfl, h1, repL_snoc h2 r⟩
section
variable {b : Bd} {X : Cx} {elt tg iter : Expr} {ifs : List Expr} {scope : Scope} {own : List (Str × Nat)} {pos : Pos} {t : Tg} {f : List D → Option (List D)} {src : Es} {c e : E}
theorem comp_impG {W Wc : WX} {xx : Bool} {σ : L2.St} {H : Hp} {Q : VK} (hW : xx = true → Wc = fun c d _ H => W c d σ H) (h : b.tF X (.comp xx (own.map (·.2)) t f src c e) W σ H Q) :
    tLc (tI X.K X.mg b.C b.pin f src W) (tG X.K X.mg b.pin t) (b.tT X c Wc) (b.tE X e Wc) (own.map (·.2)) σ H Q := by
  obtain ⟨π, B, μ, S, hp, s, k⟩ := h
  generalize how : own.map (·.2) = ow at *
  unfold evalE at k
  split at k
  rotate_left
  · exact k.elim
  rename_i hg
  simp only [Bool.and_eq_true, decide_eq_true_eq] at hg
  have npin : ∀ i ∈ ow, i ∉ b.pin := fun i hi => by
    have := List.all_eq_true.mp hg.1 i hi
    simpa using this
  have tsub : ∀ i ∈ t.slots, i ∈ ow := fun i hi => by
    have := List.all_eq_true.mp hg.2 i hi
    simpa using this
  refine ⟨π, B, μ, S, hp, s, ?_⟩
  cases q : evalEs b.C b.pin src μ with
  | stuck => rw [q] at k; exact k
  | err x μ' => rw [q] at k; exact k
  | ok ms μ1 =>
    rw [q] at k
    dsimp only [Out.bind] at k
    cases q1 : datsOf ms with
    | none => rw [q1] at k; exact k.elim
    | some ds =>
      rw [q1] at k
      dsimp only at k
      cases q2 : f ds with
      | none => rw [q2] at k; exact k.elim
      | some xs =>
        rw [q2] at k
        dsimp only at k
        refine ⟨ds, xs, q1, q2, fun J B1 H1 S1 s1 x1 u1 wk D hD => ?_⟩
        generalize hO : compLoop ow t (fun μ => datOf (evalE b.C b.pin c μ)) (fun μ => datOf (evalE b.C b.pin e μ)) xs [] (wipeE ow μ1) = O at k
        have nst : O ≠ .stuck := fun z => by rw [z] at k; exact k.elim
        -- an error, told by W
        have out : ∀ x y, O = .err x y → xs.length ≤ sizeLine ∧ ∀ B' H' S', Stt X.K X.mg π B' H' σ (wipeE ow y) S' → Step B1 H1 S1 B' H' S' → ∀ C, X.mg x = some (.ref C) → ∀ σ', Wc (.ref C) none σ' H' := fun x y z => by
          rw [z] at k
          dsimp only [Out.lets] at k
          by_cases g : xx = true ∧ xs.length ≤ sizeLine
          · rw [if_pos g] at k
            refine ⟨g.2, fun B' H' S' s' x' C hC σ' => ?_⟩
            rw [hW g.1]
            exact k B' H' S' s' (x1.trans x') C hC
          · rw [if_neg g] at k
            exact k.elim
        have bnd : ∀ {acc : List Mi.D} {l : List Mi.D} {μi : Env} {d : Mi.D}, compLoop ow t (fun μ => datOf (evalE b.C b.pin c μ)) (fun μ => datOf (evalE b.C b.pin e μ)) l (acc ++ [d]) μi = O → acc.length < xs.length → acc.length < sizeLine := fun {acc l μi d} hl hlt => by
          cases O with
          | stuck => exact absurd rfl nst
          | err x y => exact Nat.lt_of_lt_of_le hlt (out x y rfl).1
          | ok ys μ2 =>
            have q := compLoop_len hl
            rw [List.length_append, List.length_singleton] at q
            have q2 : ys.length ≤ sizeLine := by
              dsimp only [Out.lets, Out.bind] at k
              split at k
              · rename_i w; exact w
              · exact k.elim
            omega
        · -- pins stay
          have npin' : ∀ p ∈ π, p.1 ∉ ow := fun p hp' z => npin p.1 z (hp p hp')
          have pinσ : ∀ p ∈ π, (wipe σ ow)[p.1]? = σ[p.1]? := fun p hp' => wipe_not fun z => npin p.1 z (hp p hp')
          obtain ⟨S2, s2, hS2⟩ := s1.less (σ' := wipe σ ow) (μ' := wipeE ow μ1) (wipe_length σ ow) wipeE_len (fun i m e => by
            rw [slot_wipe] at e
            split at e
            · cases e
            · rename_i n; exact ⟨e, wipe_not n⟩) pinσ
          refine ⟨fun i m H' => m = xs.length - i ∧ i ≤ xs.length ∧ ∃ acc μi Bi Si vs, Stt X.K X.mg π Bi H' (wipe σ ow) μi Si ∧ (∀ j ∈ ow, slot μi j = none) ∧ H' D = some (.lst vs) ∧ ¬ Si D ∧ Bi D = none ∧ RepL X.K X.mg Bi acc vs ∧
            Step B1 H1 S1 Bi H' (fun a => Si a ∨ a = D) ∧ ((E.comp xx ow t f src c e).pure = true → Ex H1 H') ∧
            compLoop ow t (fun μ => datOf (evalE b.C b.pin c μ)) (fun μ => datOf (evalE b.C b.pin e μ)) (xs.drop i) acc μi = O ∧ acc.length ≤ i, ⟨xs.length, by simp, Nat.zero_le _, [], _, B1, S2, [], s2.new hD, fun j hj => by rw [slot_wipe, if_pos hj], upd_same, fun z => (s2.owned D z).1 hD, s1.sub.none hD, by unfold RepL; rfl,
              (Step.new hD).weak (fun _ z => z) fun a z => z.imp (hS2 a) id, fun _ => Ex.new hD, by rw [List.drop_zero]; exact hO, Nat.le_refl _⟩, ?_⟩
          rintro i m H' ⟨rfl, hi, acc, μi, Bi, Si, vs, si, hno, hHD, hSD, hBD, hr, hst, hex, hlp, hai⟩
          by_cases hlt : i < xs.length
          · -- a turn
            have hd : xs[i]? = some xs[i] := by simp [hlt]
            have hdrop : xs.drop i = xs[i] :: xs.drop (i + 1) := List.drop_eq_getElem_cons hlt
            rw [hdrop] at hlp
            unfold compLoop at hlp
            cases qt : setTg t (.dat xs[i]) μi with
            | none => rw [qt] at hlp; exact absurd hlp.symm nst
            | some μt =>
              rw [qt] at hlp
              dsimp only at hlp
              obtain ⟨hgo, hyld⟩ := (wk i Bi H' hst.ex si.sub).1 _ hd
              refine .inr ⟨hgo, fun H3 => ∃ acc μi Bi Si vs, Stt X.K X.mg π Bi H3 (wipe σ ow) μi Si ∧ (∀ j ∈ ow, slot μi j = none) ∧ H3 D = some (.lst vs) ∧ ¬ Si D ∧ Bi D = none ∧ RepL X.K X.mg Bi acc vs ∧
                Step B1 H1 S1 Bi H3 (fun a => Si a ∨ a = D) ∧ ((E.comp xx ow t f src c e).pure = true → Ex H1 H3) ∧
                compLoop ow t (fun μ => datOf (evalE b.C b.pin c μ)) (fun μ => datOf (evalE b.C b.pin e μ)) (xs.drop (i + 1)) acc μi = O ∧ acc.length ≤ i + 1, fun H3 n3 => ⟨xs.length - (i + 1), by omega, rfl, hlt, n3⟩, fun x H'' y => ?_⟩
              obtain ⟨B'', ps, rx⟩ := hyld x H'' y
              have sx := si.pure ps
              refine ⟨π, B'', μi, Si, fun _ => False, .dat xs[i], hp, fun j hj => npin j (tsub j hj), sx, repM_dat.mpr ⟨rx, fun _ z => z⟩, fun _ z => z.elim, μt, qt, fun σ2 S3 s3 hS3 hσ => ⟨?_, ?_⟩⟩
              · refine wipe_again ?_ fun j hj => hσ j fun z => hj (tsub j z)
                have := s3.len
                have := si.len
                have e1 : μt.length = μi.length := setTg_len qt
                rw [wipe_length] at *
                omega
              -- what holds of D along the turn
              have hD1 : H'' D = some (.lst vs) := ps.ext _ _ hHD
              have hB1 : B'' D = none := by
                cases z : B'' D with
                | none => rfl
                | some u => exact absurd ((ps.fz D (by rw [z]; simp)).elim (fun w => w hBD) fun w => by rw [w] at hHD; cases hHD) id
              have hS1 : ¬ S3 D := fun z => (hS3 D z).elim hSD id
              have pc : (E.comp xx ow t f src c e).pure = true → c.pure = true ∧ e.pure = true := fun z => by
                have z1 := (Bool.and_eq_true _ _).mp z
                exact ⟨((Bool.and_eq_true _ _).mp z1.1).2, z1.2⟩
              have back : ∀ {Sn : ASet} {Bn Hn : Hp} {μn : Env}, Stt X.K X.mg π Bn Hn σ2 μn Sn → ∀ σ0 : L2.St, σ0.length = σ.length → (∀ j, j ∉ ow → σ0[j]? = σ[j]?) → ∃ S', Stt X.K X.mg π Bn Hn σ0 (wipeE ow μn) S' ∧ ∀ a, S' a → Sn a := fun {Sn Bn Hn μn} sn σ0 l0 h0 => by
                have el : σ0.length = σ2.length := by
                  have e1 := s3.len
                  have e2 : μt.length = μi.length := setTg_len qt
                  have e3 := si.len
                  rw [wipe_length] at e3
                  omega
                have ag : ∀ j, j ∉ ow → σ0[j]? = σ2[j]? := fun j n => by
                  rw [h0 j n, hσ j fun z => n (tsub j z), wipe_not n]
                refine sn.less el wipeE_len (fun j m ej => ?_) fun p hp' => ag p.1 (npin' p hp')
                rw [slot_wipe] at ej
                split at ej
                · cases ej
                · rename_i n
                  exact ⟨ej, ag j n⟩
              have wp : ∀ {Sn : ASet} {Bn Hn : Hp} {μn : Env}, Stt X.K X.mg π Bn Hn σ2 μn Sn → ∃ S', Stt X.K X.mg π Bn Hn (wipe σ ow) (wipeE ow μn) S' ∧ ∀ a, S' a → Sn a := fun {Sn Bn Hn μn} sn =>
                back sn _ (wipe_length σ ow) fun j n => wipe_not n
              have base : Step B1 H1 S1 B'' H'' (fun a => Si a ∨ a = D) := hst.trans (ps.step _)
              have base3 : Step B1 H1 S1 B'' H'' (fun a => S3 a ∨ a = D) := base.weak (fun _ z => z) fun a z => z.imp (fun z => (hS3 a z).elim id False.elim) id
              refine ⟨π, B'', μt, S3, hp, s3, ?_⟩
              cases qc : evalE b.C b.pin c μt with
              | stuck => rw [qc] at hlp; exact absurd hlp.symm nst
              | err x' y' =>
                rw [qc] at hlp
                intro B4 H4 S4 s4 x4 C hC
                obtain ⟨S5, s5, h5⟩ := back s4 σ rfl fun _ _ => rfl
                have x4' : Step B'' H'' (fun a => S3 a ∨ a = D) B4 H4 (fun a => S4 a) := x4.weak (fun _ z => .inl z) fun _ z => z
                exact (out x' y' hlp.symm).2 B4 H4 S5 s5 ((base3.trans x4').weak (fun _ z => z) h5) C hC σ2
              | ok mc μc =>
                rw [qc] at hlp
                cases mc with
                | dat dc =>
                  dsimp only [datOf, Out.bind] at hlp
                  intro v B4 H4 S4 T4 s4 r4 d4 x4 u4
                  have x4' : Step B'' H'' S3 B4 H4 S4 := x4.weak (fun _ z => z) fun _ z => .inl z
                  obtain ⟨hS4, hB4, hH4⟩ := x4'.apart hS1 (by rw [hD1]; simp) hB1
                  have base4 : Step B1 H1 S1 B4 H4 (fun a => S4 a ∨ a = D) := base3.trans (x4'.frame (F := fun a => a = D) fun a z => by subst z; exact ⟨hS1, by rw [hD1]; simp⟩)
                  split at hlp
                  · -- not kept
                    have ev := rep_bl (repM_dat.mp r4).1
                    refine ⟨false, ev, ?_⟩
                    refine Eq.mpr (if_neg Bool.false_ne_true) ?_
                    obtain ⟨S5, s5, h5⟩ := wp s4
                    exact ⟨acc, _, B4, S5, vs, s5, fun j hj => by rw [slot_wipe, if_pos hj], by rw [hH4]; exact hD1, fun z => hS4 (h5 D z), hB4, (hr.mono ps.ex).mono x4'.ex, base4.weak (fun _ z => z) fun a z => z.imp (h5 a) id, fun z => ((hex z).trans ps.ext).trans (u4 (pc z).1), hlp, Nat.le_succ_of_le hai⟩
                  · -- kept
                    have ev := rep_bl (repM_dat.mp r4).1
                    refine ⟨true, ev, ?_⟩
                    refine Eq.mpr (if_pos rfl) ?_
                    refine ⟨π, B4, μc, S4, hp, s4, ?_⟩
                    cases qe : evalE b.C b.pin e μc with
                    | stuck => rw [qe] at hlp; exact absurd hlp.symm nst
                    | err x' y' =>
                      rw [qe] at hlp
                      intro B5 H5 S5 s5 x5 C hC
                      obtain ⟨S6, s6, h6⟩ := back s5 σ rfl fun _ _ => rfl
                      have x5' : Step B4 H4 (fun a => S4 a ∨ a = D) B5 H5 (fun a => S5 a) := x5.weak (fun _ z => .inl z) fun _ z => z
                      exact (out x' y' hlp.symm).2 B5 H5 S6 s6 ((base4.trans x5').weak (fun _ z => z) h6) C hC σ2
                    | ok me μe =>
                      rw [qe] at hlp
                      cases me with
                      | dat de =>
                        dsimp only [datOf, Out.bind] at hlp
                        intro w B5 H5 S5 T5 s5 r5 d5 x5 u5
                        have x5' : Step B4 H4 S4 B5 H5 S5 := x5.weak (fun _ z => z) fun _ z => .inl z
                        have hD4 : H4 D = some (.lst vs) := by rw [hH4]; exact hD1
                        obtain ⟨hS5, hB5, hH5⟩ := x5'.apart hS4 (by rw [hD4]; simp) hB4
                        have hD5 : H5 D = some (.lst vs) := by rw [hH5]; exact hD4
                        have base5 : Step B1 H1 S1 B5 H5 (fun a => S5 a ∨ a = D) := base4.trans (x5'.frame (F := fun a => a = D) fun a z => by subst z; exact ⟨hS4, by rw [hD4]; simp⟩)
                        obtain ⟨S6, s6, h6⟩ := wp s5
                        have hl : vs.length = acc.length := (repL_len hr).symm
                        have hle := bnd hlp (by omega)
                        have hra : RepL X.K X.mg B5 acc vs := ((hr.mono ps.ex).mono x4'.ex).mono x5'.ex
                        refine ⟨vs, hD5, by omega, acc ++ [de], _, B5, S6, vs ++ [w], ?_, fun j hj => by rw [slot_wipe, if_pos hj], upd_same, fun z => hS5 (h6 D z), hB5, repL_snoc hra (repM_dat.mp r5).1, ?_, fun z => ?_, hlp, by rw [List.length_append, List.length_singleton]; omega⟩
                        · exact s6.congr (Ex.refl _) (fun a o z => by rw [upd_ne fun z' => by rw [z', hB5] at z; cases z]; exact s6.sub a o z) fun a z => ⟨upd_ne fun z' => hS5 (by rw [← z']; exact h6 a z), (s6.owned a z).2⟩
                        · have y : Step B1 H1 S1 B5 (upd H5 D (.lst (vs ++ [w]))) (fun a => S5 a ∨ a = D) := ⟨base5.ex, fun a u z n => by
                            rw [upd_ne fun z' => by subst z'; rw [hD] at z; cases z]
                            exact base5.fr a u z n, fun a z => by
                            by_cases z' : a = D
                            · subst z'; rw [upd_same] at z; cases z
                            · rw [upd_ne z'] at z; exact base5.dom a z, base5.ow, base5.fz⟩
                          exact y.weak (fun _ z => z) fun a z => z.imp (h6 a) id
                        · have y := (((hex z).trans ps.ext).trans (u4 (pc z).1)).trans (u5 (pc z).2)
                          exact fun a o z => by
                            rw [upd_ne fun z' => by subst z'; rw [hD] at z; cases z]
                            exact y a o z
                      | _ => exact absurd hlp.symm nst
                  · exact absurd hlp.symm nst
                | _ => exact absurd hlp.symm nst
          · -- the end
            have e1 : i = xs.length := by omega
            subst e1
            rw [List.drop_length] at hlp
            unfold compLoop at hlp
            subst hlp
            dsimp only [Out.lets, Out.bind] at k
            split at k
            rotate_left
            · exact k.elim
            refine .inl ⟨(wk xs.length Bi H' hst.ex si.sub).2 (by simp) (Nat.le_refl _), ?_⟩
            obtain ⟨S7, s7, h7⟩ := si.less (σ' := σ) (μ' := μi) (by rw [wipe_length]) rfl (fun j m ej => ⟨ej, (wipe_not fun z => by rw [hno j z] at ej; cases ej).symm⟩) fun p hp' => (pinσ p hp').symm
            -- the heap without the new list
            have hD' : ∀ {a : Addr}, a ≠ D → (fun a => if a = D then none else H' a : Hp) a = H' a := fun {a} n => if_neg n
            have e2 : upd (fun a => if a = D then none else H' a) D (.lst vs) = H' := by
              funext a
              by_cases z : a = D
              · subst z; rw [upd_same]; exact hHD.symm
              · rw [upd_ne z]; exact hD' z
            have k' := k D (.lst vs) Bi (fun a => if a = D then none else H' a) S7 ?_ ?_ ?_ (if_pos rfl) (.inl ⟨acc, vs, rfl, rfl, hr⟩)
            · rw [e2] at k'; exact k'
            · exact s7.congr (Ex.refl _) (fun a o z => by
                show (if a = D then none else H' a) = some o
                rw [if_neg fun z' => by rw [z', hBD] at z; cases z]
                exact s7.sub a o z) fun a z => ⟨hD' fun z' => hSD (by rw [← z']; exact h7 a z), (s7.owned a z).2⟩
            · have hHn : H D = none := x1.dom D hD
              have y := x1.trans hst
              exact ⟨y.ex, fun a u z n => by
                show (if a = D then none else H' a) = some u
                rw [if_neg fun z' => by rw [z', hHn] at z; cases z]
                exact y.fr a u z n, fun a z => by
                by_cases z' : a = D
                · rw [z']; exact hHn
                · have z : (if a = D then none else H' a) = none := z
                  rw [if_neg z'] at z; exact y.dom a z, fun a z => y.ow a (.inl (h7 a z)), y.fz⟩
            · intro z
              have pc : src.pure = true := by
                have z1 := (Bool.and_eq_true _ _).mp z
                exact ((Bool.and_eq_true _ _).mp z1.1).1
              have y := (u1 pc).trans (hex z)
              exact fun a o w => by
                show (if a = D then none else H' a) = some o
                rw [if_neg fun z' => by rw [z', x1.dom D hD] at w; cases w]
                exact y a o w
theorem comp_imp {W : WX} {σ : L2.St} {H : Hp} {Q : VK} (h : b.tF X (.comp false (own.map (·.2)) t f src c e) W σ H Q) :
    tLc (tI X.K X.mg b.C b.pin f src W) (tG X.K X.mg b.pin t) (b.tT X c fun _ _ _ _ => False) (b.tE X e fun _ _ _ _ => False) (own.map (·.2)) σ H Q := comp_impG (xx := false) (fun z => absurd z Bool.false_ne_true) h
theorem mf_comp (hc : X.calm = true) (hN : X.N.Nodup) (hi : MI b X tg iter f src) (ok : BlkOk X.N X.env.scope scope own)
    (hg : ∀ (s : Shared) (H : Hp) (C : Addr) (cl : List (Str × Addr)) (fp : List Addr), MG b (X.blk s H scope (compEnvC scope cl C X.env) fp) tg t)
    (ht : ∀ (s : Shared) (H : Hp) (C : Addr) (cl : List (Str × Addr)) (fp : List Addr), MTs b (X.blk s H scope (compEnvC scope cl C X.env) fp) ifs c)
    (he : ∀ (s : Shared) (H : Hp) (C : Addr) (cl : List (Str × Addr)) (fp : List Addr), ME b (X.blk s H scope (compEnvC scope cl C X.env) fp) elt e)
    (hs : ∀ x, foldedSetIterable iter X.env x = pure x := by intro _; rfl) : MF b X (.ListComp elt [⟨tg, iter, ifs, 0⟩] scope pos) (.comp false (own.map (·.2)) t f src c e) := fun W tk =>
  PE.imp (pe_lc (g := tG X.K X.mg b.pin t) hc hN (hi W tk) ok (fun s H C cl fp => hg s H C cl fp) (fun s H C cl fp => ht s H C cl fp _ takes0) (fun s H C cl fp => he s H C cl fp _ takes0) hs) fun σ H Q q => comp_imp q
end
end Mi
/-! Mi10: statements. -/
namespace Mi
open PySem L2
section
variable (K : PySem.W.Frag) (mg : Str → Option Value)
def PostS (π : List (Nat × V)) (B H : Hp) (S : ASet) (W : WX) (D : Ends) : Res → Prop
  | .stuck => False
  | .err c μ' => ∀ B' H' σ' S', Stt K mg π B' H' σ' μ' S' → Step B H S B' H' S' → ∀ C, mg c = some (.ref C) → W (.ref C) none σ' H'
  | .nx μ' => ∀ B' H' σ' S', Stt K mg π B' H' σ' μ' S' → Step B H S B' H' S' → D.nx σ' H'
  | .brk μ' => ∀ B' H' σ' S', Stt K mg π B' H' σ' μ' S' → Step B H S B' H' S' → D.bk σ' H'
  | .cont μ' => ∀ B' H' σ' S', Stt K mg π B' H' σ' μ' S' → Step B H S B' H' S' → D.ct σ' H'
  | .ret m μ' => ∀ v B' H' σ' S' T, Stt K mg π B' H' σ' μ' S' → RepM K mg B' H' m v T → (∀ x, T x → ¬ S' x) → Step B H S B' H' (fun x => S' x ∨ T x) → D.rt v H'
variable {K mg}
theorem PostS.mono {π : List (Nat × V)} {B H B1 H1 : Hp} {S S1 T : ASet} {W : WX} {D : Ends} {r : Res} (h : PostS K mg π B H S W D r) (x : Step B H S B1 H1 T) (hs : ∀ a, S1 a → T a) : PostS K mg π B1 H1 S1 W D r := by
  cases r with
  | stuck => exact h
  | err c μ' => exact fun B' H' σ' S' s y C hC => h B' H' σ' S' s (x.trans (y.weak hs fun _ q => q)) C hC
  | nx μ' => exact fun B' H' σ' S' s y => h B' H' σ' S' s (x.trans (y.weak hs fun _ q => q))
  | brk μ' => exact fun B' H' σ' S' s y => h B' H' σ' S' s (x.trans (y.weak hs fun _ q => q))
  | cont μ' => exact fun B' H' σ' S' s y => h B' H' σ' S' s (x.trans (y.weak hs fun _ q => q))
  | ret m μ' => exact fun v B' H' σ' S' T' s r d y => h v B' H' σ' S' T' s r d (x.trans (y.weak hs fun _ q => q))
end
noncomputable abbrev Bd.exS (b : Bd) (s : S) (μ : Env) : Res := execS b.sub b.C b.pin b.N s μ
noncomputable abbrev Bd.exSs (b : Bd) (s : Ss) (μ : Env) : Res := execSs b.sub b.C b.pin b.N s μ
def tS (b : Bd) (K : PySem.W.Frag) (mg : Str → Option Value) (s : S) (W : WX) : TS := fun D σ H => ∃ π B μ S, PinOf π b.pin ∧ Stt K mg π B H σ μ S ∧ PostS K mg π B H S W D (b.exS s μ)
def tSs (b : Bd) (K : PySem.W.Frag) (mg : Str → Option Value) (s : Ss) (W : WX) : TS := fun D σ H => ∃ π B μ S, PinOf π b.pin ∧ Stt K mg π B H σ μ S ∧ PostS K mg π B H S W D (b.exSs s μ)
def MS (b : Bd) (X : Cx) (st : Stmt) (s : S) : Prop := ∀ W, Takes X W → PS X st (tS b X.K X.mg s W)
def MSs (b : Bd) (X : Cx) (st : List Stmt) (s : Ss) : Prop := ∀ W, Takes X W → PSs X st (tSs b X.K X.mg s W)
theorem PS.imp {X : Cx} {st : Stmt} {t t' : TS} (h : PS X st t) (k : ∀ D σ H, t' D σ H → t D σ H) : PS X st t' := ⟨fun pins s σ H D I q => h.run pins s σ H D I (k D σ H q)⟩
theorem PSs.imp {X : Cx} {st : List Stmt} {t t' : TS} (h : PSs X st t) (k : ∀ D σ H, t' D σ H → t D σ H) : PSs X st t' := ⟨fun pins s σ H D I q => h.run pins s σ H D I (k D σ H q)⟩
section
variable {b : Bd} {X : Cx} {st : Stmt} {rest body sts els : List Stmt} {x c tg it : Expr} {e ec : E} {s s' : S} {ss bs as : Ss} {pos : Pos} {t : Tg} {n : Str}
theorem mss_nil : MSs b X [] .nil := fun W tk => PSs.imp pss_nil fun D σ H ⟨π, B, μ, S, hp, s, h⟩ => by
  have h : PostS X.K X.mg π B H S W D (execSs b.sub b.C b.pin b.N .nil μ) := h
  unfold execSs at h
  exact h B H σ S s (Step.refl B H S)
theorem mss_cons (h1 : MS b X st s) (h2 : MSs b X rest ss) : MSs b X (st :: rest) (.cons s ss) := fun W tk => PSs.imp (pss_cons (h1 W tk) (h2 W tk)) fun D σ H ⟨π, B, μ, S, hp, st, h⟩ => by
  have h : PostS X.K X.mg π B H S W D (execSs b.sub b.C b.pin b.N (.cons s ss) μ) := h
  unfold execSs at h
  refine ⟨π, B, μ, S, hp, st, ?_⟩
  show PostS X.K X.mg π B H S W _ (execS b.sub b.C b.pin b.N s μ)
  cases q : execS b.sub b.C b.pin b.N s μ with
  | stuck => rw [q] at h; exact h
  | err c μ' => rw [q] at h; exact h
  | brk μ' => rw [q] at h; exact h
  | cont μ' => rw [q] at h; exact h
  | ret m μ' => rw [q] at h; exact h
  | nx μ1 =>
    rw [q] at h
    exact fun B1 H1 σ1 S1 s1 x1 => ⟨π, B1, μ1, S1, hp, s1, h.mono x1 fun _ z => z⟩
/-- an expression ahead of more -/
theorem bindS {W : WX} {D : Ends} {σ : L2.St} {H : Hp} {π : List (Nat × V)} {B : Hp} {μ : Env} {S : ASet} {k : M → Env → Res} {Q : VK} (hp : PinOf π b.pin) (st : Stt X.K X.mg π B H σ μ S) (h : PostS X.K X.mg π B H S W D ((evalE b.C b.pin e μ).res k))
    (hk : ∀ m μ1 v B1 H1 S1 T, Stt X.K X.mg π B1 H1 σ μ1 S1 → RepM X.K X.mg B1 H1 m v T → (∀ x, T x → ¬ S1 x) → Step B H S B1 H1 (fun x => S1 x ∨ T x) → PostS X.K X.mg π B1 H1 S1 W D (k m μ1) → PostS X.K X.mg π B1 H1 (fun x => S1 x ∨ T x) W D (k m μ1) → Q v H1) : b.tE X e W σ H Q := by
  refine ⟨π, B, μ, S, hp, st, ?_⟩
  cases q : evalE b.C b.pin e μ with
  | stuck => rw [q] at h; exact h
  | err c μ' => rw [q] at h; exact fun B' H' S' => h B' H' σ S'
  | ok m μ1 =>
    rw [q] at h
    have h : PostS X.K X.mg π B H S W D (k m μ1) := h
    exact fun v B' H' S' T s' r d x u => hk m μ1 v B' H' S' T s' r d x (h.mono x fun _ z => .inl z) (h.mono x fun _ z => z)
theorem ms_expr (he : ME b X x e) (hs : swapsWith x none pos.line X.env = pure false := by rfl) : MS b X (.Expr x pos) (.expr e) := fun W tk => PS.imp (ps_expr (he W tk) hs) fun D σ H ⟨π, B, μ, S, hp, st, h⟩ => by
  have h : PostS X.K X.mg π B H S W D (execS b.sub b.C b.pin b.N (.expr e) μ) := h
  unfold execS at h
  exact bindS hp st h fun m μ1 v B1 H1 S1 T s1 r1 d1 x1 h1 _ => h1 B1 H1 σ S1 s1 (Step.refl _ _ _)
theorem ms_doc {y j pos pos'} : MS b X (.Expr (.Constant (.str y) j pos) pos') .pass := fun W tk => PS.imp ps_doc fun D σ H ⟨π, B, μ, S, hp, st, h⟩ => by
  have h : PostS X.K X.mg π B H S W D (execS b.sub b.C b.pin b.N .pass μ) := h
  unfold execS at h
  exact h B H σ S st (Step.refl _ _ _)
theorem ms_pass : MS b X (.Pass pos) .pass := fun W tk => PS.imp ps_pass fun D σ H ⟨π, B, μ, S, hp, st, h⟩ => by
  have h : PostS X.K X.mg π B H S W D (execS b.sub b.C b.pin b.N .pass μ) := h
  unfold execS at h
  exact h B H σ S st (Step.refl _ _ _)
theorem ms_break : MS b X (.Break pos) .brk := fun W tk => PS.imp ps_break fun D σ H ⟨π, B, μ, S, hp, st, h⟩ => by
  have h : PostS X.K X.mg π B H S W D (execS b.sub b.C b.pin b.N .brk μ) := h
  unfold execS at h
  exact h B H σ S st (Step.refl _ _ _)
theorem ms_continue : MS b X (.Continue pos) .cont := fun W tk => PS.imp ps_continue fun D σ H ⟨π, B, μ, S, hp, st, h⟩ => by
  have h : PostS X.K X.mg π B H S W D (execS b.sub b.C b.pin b.N .cont μ) := h
  unfold execS at h
  exact h B H σ S st (Step.refl _ _ _)
theorem ms_ret (he : ME b X x e) : MS b X (.Return (some x) pos) (.ret e) := fun W tk => PS.imp (ps_ret (he W tk)) fun D σ H ⟨π, B, μ, S, hp, st, h⟩ => by
  have h : PostS X.K X.mg π B H S W D (execS b.sub b.C b.pin b.N (.ret e) μ) := h
  unfold execS at h
  exact bindS hp st h fun m μ1 v B1 H1 S1 T s1 r1 d1 x1 _ h1 => h1 v B1 H1 σ S1 T s1 r1 d1 (Step.refl _ _ _)
theorem ms_retN : MS b X (.Return none pos) (.ret (.con .non)) := fun W tk => PS.imp ps_retN fun D σ H ⟨π, B, μ, S, hp, st, h⟩ => by
  have h : PostS X.K X.mg π B H S W D (execS b.sub b.C b.pin b.N (.ret (.con .non)) μ) := h
  unfold execS evalE at h
  exact h .non B H σ S (fun _ => False) st (repM_dat.mpr ⟨by unfold Rep; rfl, fun _ z => z⟩) (fun _ z => z.elim) ((Step.refl B H S).weak (fun _ z => z) fun _ z => z.elim id False.elim)
/-- target = value -/
theorem set_imp {W : WX} {D : Ends} {σ : L2.St} {H : Hp} (h : tS b X.K X.mg (.set t e) W D σ H) : tAsg (b.tE X e W) (tG X.K X.mg b.pin t) D σ H := by
  obtain ⟨π, B, μ, S, hp, st, h⟩ := h
  have h : PostS X.K X.mg π B H S W D (execS b.sub b.C b.pin b.N (.set t e) μ) := h
  unfold execS at h
  refine bindS hp st h fun m μ1 v B1 H1 S1 T s1 r1 d1 x1 _ h1 => ?_
  split at h1
  · rename_i g
    cases q : setTg t m μ1 with
    | none => rw [q] at h1; exact h1.elim
    | some μ2 =>
      rw [q] at h1
      refine ⟨π, B1, μ1, S1, T, m, hp, fun i hi => by have := List.all_eq_true.mp g i hi; simpa using this, s1, r1, d1, μ2, q, fun σ' S' s' hS' _ => ?_⟩
      exact h1 B1 H1 σ' S' s' ((Step.refl _ _ _).weak (fun _ z => z) fun a z => hS' a z)
  · exact h1.elim
theorem ms_asg (he : ME b X x e) (hg : MG b X tg t) (hs : swapsWithSole [tg] x pos.line X.env = pure false := by rfl) (hw : swappedStores [tg] x X.env = pure none := by rfl)
    (h1 : (assignEach [tg] X.env).map (·.2) = [assign tg X.env] := by rfl) : MS b X (.Assign [tg] x pos) (.set t e) := fun W tk => PS.imp (ps_asg (he W tk) hg hs hw h1) fun D σ H h => set_imp h
theorem ms_if (hc : MT b X c ec) (ha : MSs b X sts ss) (hb : MSs b X els bs) : MS b X (.If c sts els pos) (.ite ec ss bs) := fun W tk => PS.imp (ps_if (hc W tk) (ha W tk) (hb W tk)) fun D σ H ⟨π, B, μ, S, hp, st, h⟩ => by
  have h : PostS X.K X.mg π B H S W D (execS b.sub b.C b.pin b.N (.ite ec ss bs) μ) := h
  unfold execS at h
  refine bindS hp st h fun m μ1 v B1 H1 S1 T s1 r1 d1 x1 h1 _ => ?_
  split at h1
  · have ev := rep_bl (repM_dat.mp r1).1
    exact ⟨true, ev, ⟨π, B1, μ1, S1, hp, s1, h1⟩⟩
  · have ev := rep_bl (repM_dat.mp r1).1
    exact ⟨false, ev, ⟨π, B1, μ1, S1, hp, s1, h1⟩⟩
  · exact h1.elim
theorem ms_frz {i : Nat} (h : MS b X st s) : MS b X st (.frz i s) := fun W tk => PS.imp (h W tk) fun D σ H ⟨π, B, μ, S, hp, st, h⟩ => by
  have h : PostS X.K X.mg π B H S W D (execS b.sub b.C b.pin b.N (.frz i s) μ) := h
  unfold execS at h
  cases q : slot μ i with
  | none => rw [q] at h; exact h.elim
  | some m =>
    rw [q] at h
    obtain ⟨v, T, S', e1, r, s', dj, hS⟩ := st.take q
    have own := r.owned
    have fe : Ex B (frz B H T) := frz_ex fun a z => (own a z).2
    have s2 : Stt X.K X.mg π (frz B H T) H σ (μ.set i none) S' := s'.congr fe (frz_sub st.sub) fun a z => ⟨rfl, by rw [frz_out fun w => dj a w z]; exact (s'.owned a z).2⟩
    obtain ⟨S3, s3, h3⟩ := s2.refill (T := fun _ => False) e1 (repM_dat.mpr ⟨r.freeze fe fun a z => frz_in z, fun _ z => z⟩) fun _ z => z.elim
    rw [List.set_set] at s3
    refine ⟨π, _, _, S3, hp, s3, h.mono (T := S3) ⟨fe, fun a u z _ => z, fun a z => z, fun a z => .inl ((hS a).mpr (.inl ((h3 a z).elim id False.elim))), fun a z => ?_⟩ fun _ z => z⟩
    by_cases w : T a
    · exact .inr (.inl ((hS a).mpr (.inr w)))
    · rw [frz_out w] at z; exact .inl z
theorem ms_while (hp : ∀ W, Takes X W → PassesOwn (model X.prog X.w) X.A X.env X.xe) (hc : MT b X c ec) (hb : MSs b X body bs) : MS b X (.While c body [] pos) (.wh ec bs) := fun W tk => PS.imp (ps_while (hp W tk) (hc W tk) (hb W tk)) fun D σ H ⟨π, B, μ, S, hpi, st, h⟩ => by
  have h : PostS X.K X.mg π B H S W D (execS b.sub b.C b.pin b.N (.wh ec bs) μ) := h
  unfold execS at h
  refine ⟨fun m σ' H' => ∃ μi Bi Si, Stt X.K X.mg π Bi H' σ' μi Si ∧ PostS X.K X.mg π Bi H' Si W D (whLoop (evalE b.C b.pin ec) (execSs b.sub b.C b.pin b.N bs) m μi), ⟨b.N, μ, B, S, st, h⟩, ?_⟩
  rintro m σ1 H1 ⟨μi, Bi, Si, si, hi⟩
  cases m with
  | zero => unfold whLoop at hi; exact hi.elim
  | succ m =>
    unfold whLoop at hi
    refine bindS hpi si hi fun mm μ1 v B1 H2 S1 T s1 r1 d1 x1 h1 _ => ?_
    split at h1
    · have ev := rep_bl (repM_dat.mp r1).1
      exact ⟨false, ev, Eq.mpr (if_neg Bool.false_ne_true) (h1 B1 H2 σ1 S1 s1 (Step.refl _ _ _))⟩
    · have ev := rep_bl (repM_dat.mp r1).1
      refine ⟨true, ev, Eq.mpr (if_pos rfl) ⟨fun σ' H' => ∃ μi Bi Si, Stt X.K X.mg π Bi H' σ' μi Si ∧ PostS X.K X.mg π Bi H' Si W D (whLoop (evalE b.C b.pin ec) (execSs b.sub b.C b.pin b.N bs) m μi), fun σ' H' n => ⟨m, Nat.lt_succ_self _, n⟩, π, B1, μ1, S1, hpi, s1, ?_⟩⟩
      show PostS X.K X.mg π B1 H2 S1 W _ (execSs b.sub b.C b.pin b.N bs μ1)
      cases q : execSs b.sub b.C b.pin b.N bs μ1 with
      | stuck => rw [q] at h1; exact h1
      | err c μ' => rw [q] at h1; exact h1
      | ret m μ' => rw [q] at h1; exact h1
      | brk μ2 => rw [q] at h1; exact h1
      | nx μ2 =>
        rw [q] at h1
        exact fun B' H' σ' S' s y => ⟨μ2, B', S', s, h1.mono y fun _ z => z⟩
      | cont μ2 =>
        rw [q] at h1
        exact fun B' H' σ' S' s y => ⟨μ2, B', S', s, h1.mono y fun _ z => z⟩
    · exact h1.elim
theorem ms_for {f : List D → Option (List D)} {src : Es} (hp : ∀ W, Takes X W → PassesOwn (model X.prog X.w) X.A X.env X.xe) (hc : X.calm = true) (hi : MI b X tg it f src) (hg : MG b X tg t) (hb : MSs b X body bs)
    (hs : ∀ x, foldedSetIterable it X.env x = pure x := by intro _; rfl) : MS b X (.For tg it body [] pos) (.for_ t f src bs) := fun W tk => PS.imp (ps_for (hp W tk) hc (hi W tk) hg (hb W tk) hs) fun D σ H ⟨π, B, μ, S, hpi, st, h⟩ => by
  have h : PostS X.K X.mg π B H S W D (execS b.sub b.C b.pin b.N (.for_ t f src bs) μ) := h
  unfold execS at h
  split at h
  rotate_left
  · exact h.elim
  rename_i g
  have np : ∀ i ∈ t.slots, i ∉ b.pin := fun i hi => by have := List.all_eq_true.mp g i hi; simpa using this
  refine ⟨π, B, μ, S, hpi, st, ?_⟩
  cases q : evalEs b.C b.pin src μ with
  | stuck => rw [q] at h; exact h
  | err c μ' => rw [q] at h; exact fun B' H' S' => h B' H' σ S'
  | ok ms μ1 =>
    rw [q] at h
    dsimp only [Out.res] at h
    cases q1 : datsOf ms with
    | none => rw [q1] at h; exact h.elim
    | some ds =>
      rw [q1] at h
      dsimp only at h
      cases q2 : f ds with
      | none => rw [q2] at h; exact h.elim
      | some xs =>
        rw [q2] at h
        dsimp only at h
        refine ⟨ds, xs, q1, q2, fun J B1 H1 S1 s1 x1 u1 wk => ?_⟩
        refine ⟨fun i m σ' H' => m = xs.length - i ∧ i ≤ xs.length ∧ ∃ μi Bi Si, Stt X.K X.mg π Bi H' σ' μi Si ∧ Ex B1 Bi ∧ PostS X.K X.mg π Bi H' Si W D (forLoop t (execSs b.sub b.C b.pin b.N bs) (xs.drop i) μi),
          ⟨xs.length, by simp, Nat.zero_le _, μ1, B1, S1, s1, Ex.refl _, h.mono x1 fun _ z => z⟩, ?_⟩
        rintro i m σ2 H2 ⟨rfl, hle, μi, Bi, Si, si, ei, hl⟩
        by_cases hlt : i < xs.length
        · have hd : xs[i]? = some xs[i] := by simp [hlt]
          rw [List.drop_eq_getElem_cons hlt] at hl
          unfold forLoop at hl
          cases qt : setTg t (.dat xs[i]) μi with
          | none => rw [qt] at hl; exact hl.elim
          | some μt =>
            rw [qt] at hl
            dsimp only at hl
            obtain ⟨hgo, hyld⟩ := (wk i Bi H2 ei si.sub).1 _ hd
            refine .inr ⟨hgo, fun σ' H' => ∃ μi Bi Si, Stt X.K X.mg π Bi H' σ' μi Si ∧ Ex B1 Bi ∧ PostS X.K X.mg π Bi H' Si W D (forLoop t (execSs b.sub b.C b.pin b.N bs) (xs.drop (i + 1)) μi),
              fun σ' H' n => ⟨xs.length - (i + 1), by omega, rfl, hlt, n⟩, fun x H'' y => ?_⟩
            obtain ⟨B'', ps, rx⟩ := hyld x H'' y
            have sx := si.pure ps
            refine ⟨π, B'', μi, Si, fun _ => False, .dat xs[i], hpi, np, sx, repM_dat.mpr ⟨rx, fun _ z => z⟩, fun _ z => z.elim, μt, qt, fun σ3 S3 s3 hS3 _ => ?_⟩
            have hl3 := hl.mono (S1 := S3) ((ps.step Si).weak (T' := Si) (fun _ z => z) fun _ z => z) fun a z => (hS3 a z).elim id False.elim
            refine ⟨π, B'', μt, S3, hpi, s3, ?_⟩
            show PostS X.K X.mg π B'' H'' S3 W _ (execSs b.sub b.C b.pin b.N bs μt)
            cases qb : execSs b.sub b.C b.pin b.N bs μt with
            | stuck => rw [qb] at hl3; exact hl3
            | err c μ' => rw [qb] at hl3; exact hl3
            | ret m μ' => rw [qb] at hl3; exact hl3
            | brk μ2 => rw [qb] at hl3; exact hl3
            | nx μ2 =>
              rw [qb] at hl3
              exact fun B' H' σ' S' s y => ⟨μ2, B', S', s, (ei.trans ps.ex).trans y.ex, hl3.mono y fun _ z => z⟩
            | cont μ2 =>
              rw [qb] at hl3
              exact fun B' H' σ' S' s y => ⟨μ2, B', S', s, (ei.trans ps.ex).trans y.ex, hl3.mono y fun _ z => z⟩
        · have e1 : i = xs.length := by omega
          subst e1
          rw [List.drop_length] at hl
          unfold forLoop at hl
          exact .inl ⟨(wk xs.length Bi H2 ei si.sub).2 (by simp) (Nat.le_refl _), hl Bi H2 σ2 Si si (Step.refl _ _ _)⟩
/-- x op= e, x a name -/
theorem ms_aug {op : Operator} {f : D → D → Option D} {r : R2} {i : Nat} {ppos : Pos} (hN : X.N.Nodup) (hi : X.N[i]? = some n) (hx : Loc X.env.scope n) (he : ME b X x e) (ho : OpR X (inplaceOp op) r) (hf : Imp2 X.K X.mg f r)
    (hf' : X.fn n = true ∨ X.env.scope.names.lookup n = some .local := by first | exact .inl rfl | exact .inr rfl | assumption) : MS b X (.AugAssign (.Name n ppos) op x pos) (.set (.one i) (.op2 f (.var i) e)) := fun W tk => by
  exact PS.imp (ps_aug (ti := r) hN hi hx (he W tk) ho hf') fun D σ H ⟨π, B, μ, S, hp, st, h⟩ => by
    have h : PostS X.K X.mg π B H S W D (execS b.sub b.C b.pin b.N (.set (.one i) (.op2 f (.var i) e)) μ) := h
    have e0 : evalE b.C b.pin (.op2 f (.var i) e) μ = (evalE b.C b.pin (.var i) μ).bind (onDat fun x μ1 => (evalE b.C b.pin e μ1).bind (onDat fun y μ2 => outD (f x y) μ2)) := rfl
    have e1 : evalE b.C b.pin (.var i) μ = (match slot μ i with | some (.dat d) => .ok (.dat d) μ | _ => .stuck) := rfl
    unfold execS at h
    rw [e0, e1] at h
    cases q : slot μ i with
    | none => rw [q] at h; exact h.elim
    | some m =>
      rw [q] at h
      cases m with
      | dat d1 =>
        dsimp only [Out.bind, onDat] at h
        obtain ⟨v, e1, r1⟩ := st.getD q
        refine ⟨v, e1, π, B, μ, S, hp, st, ?_⟩
        cases q2 : evalE b.C b.pin e μ with
        | stuck => rw [q2] at h; exact h
        | err c μ' => rw [q2] at h; exact fun B' H' S' => h B' H' σ S'
        | ok m2 μ1 =>
          rw [q2] at h
          intro w B1 H1 S1 T s1 r2 d1' x1 u1
          cases m2 with
          | dat d2 =>
            dsimp only at h
            cases q3 : f d1 d2 with
            | none => rw [q3] at h; exact h.elim
            | some d3 =>
              rw [q3] at h
              dsimp only [outD, Out.res] at h
              refine hf B1 H1 v w d1 d2 d3 _ s1.sub (r1.mono x1.ex) (repM_dat.mp r2).1 q3 fun z B2 H2 ps rz => ?_
              split at h
              · rename_i g
                have s2 := s1.pure ps
                have e3 : (if i < μ1.length then some (μ1.set i (some (.dat d3))) else none) = setTg (.one i) (.dat d3) μ1 := rfl
                rw [← e3] at h
                split at h
                · rename_i μ2 h2
                  split at h2
                  · rename_i hl
                    cases h2
                    obtain ⟨S3, s3, h3⟩ := s2.fill (T := fun _ => False) hl (repM_dat.mpr ⟨rz, fun _ z => z⟩) (fun _ z => z.elim) fun p hp' e => by
                      have := List.all_eq_true.mp g i (by simp [Tg.slots])
                      have n : i ∉ b.pin := by simpa using this
                      exact n (by rw [← e]; exact hp p hp')
                    exact h B2 H2 _ S3 s3 ((x1.trans ((ps.step _).weak (T' := S1) (fun _ z => z) fun _ z => .inl z)).weak (fun _ z => z) fun a z => (h3 a z).elim id False.elim)
                  · cases h2
                · exact h.elim
              · exact h.elim
          | _ => exact h.elim
      | _ => exact h.elim
/-- raise C('..') -/
theorem ms_raise {cn : Str} {C : Addr} {y : Expr} (hc : X.calm = true) (hm : PMk X y fun _ H Q => Q (.ref C) none H) (hC : X.mg cn = some (.ref C)) : MS b X (.Raise (some y) none pos) (.raise cn) := fun W tk => PS.imp (ps_raise hc tk hm) fun D σ H ⟨π, B, μ, S, hp, st, h⟩ => by
  have h : PostS X.K X.mg π B H S W D (execS b.sub b.C b.pin b.N (.raise cn) μ) := h
  unfold execS at h
  exact h B H σ S st (Step.refl _ _ _) C hC
end

/-! ### a function -/
section
variable {P : Program} {w : World} {K : PySem.W.Frag} {mg : Str → Option Value} {base : Heap}
theorem start_get {N : List Str} {vs : List V} {i : Nat} : (L2.start N vs)[i]? = if i < vs.length then (vs[i]?).map some else if i < N.length then some none else none := by
  unfold L2.start
  by_cases h : i < vs.length
  · rw [if_pos h, List.getElem?_append_left (by simpa using h), List.getElem?_map]
  · rw [if_neg h, List.getElem?_append_right (by simpa using h), List.getElem?_replicate]
    simp only [List.length_map]
    by_cases h2 : i < N.length
    · rw [if_pos h2, if_pos (by omega)]
    · rw [if_neg h2, if_neg (by omega)]
theorem startE_slot {fn : Fn} {ms : List M} {i : Nat} : slot (startE fn ms) i = ms[i]? := by
  unfold slot startE
  by_cases h : i < ms.length
  · rw [List.getElem?_append_left (by simpa using h), List.getElem?_map]
    cases ms[i]? <;> rfl
  · rw [List.getElem?_append_right (by simpa using h), List.getElem?_replicate]
    rw [List.getElem?_eq_none (l := ms) (by omega)]
    split <;> rfl
/-- some owned things, each its own -/
theorem repMs_split {B H : Hp} : ∀ {ms : List M} {vs : List V} {A : ASet}, RepMs K mg B H ms vs A → ∃ F : Nat → ASet, (∀ i m, ms[i]? = some m → ∃ v, vs[i]? = some v ∧ RepM K mg B H m v (F i)) ∧ (∀ i, ms[i]? = none → ∀ a, ¬ F i a) ∧ (∀ i j a, i ≠ j → F i a → ¬ F j a) ∧ ∀ a, A a ↔ ∃ i, F i a
  | [], vs, A, h => by
    unfold RepMs at h
    exact ⟨fun _ _ => False, fun i m e => by simp at e, fun _ _ _ z => z, fun _ _ _ _ z => z.elim, fun a => ⟨fun z => (h.2 a z).elim, fun ⟨_, z⟩ => z.elim⟩⟩
  | m :: ms, vs, A, h => by
    unfold RepMs at h
    obtain ⟨v, r, T1, T2, rfl, h1, h2, h3, h4⟩ := h
    obtain ⟨F, k1, k2, k3, k4⟩ := repMs_split h2
    refine ⟨fun i => match i with | 0 => T1 | i + 1 => F i, fun i m' e => ?_, fun i e a z => ?_, fun i j a n z y => ?_, fun a => ?_⟩
    · cases i with
      | zero => simp at e; subst e; exact ⟨v, rfl, h1⟩
      | succ i =>
        obtain ⟨u, e1, r1⟩ := k1 i m' (by simpa using e)
        exact ⟨u, by simpa using e1, r1⟩
    · cases i with
      | zero => simp at e
      | succ i => exact k2 i (by simpa using e) a z
    · cases i with
      | zero =>
        cases j with
        | zero => exact n rfl
        | succ j => exact h3 a z ((k4 a).mpr ⟨j, y⟩)
      | succ i =>
        cases j with
        | zero => exact h3 a y ((k4 a).mpr ⟨i, z⟩)
        | succ j => exact k3 i j a (fun e => n (by rw [e])) z y
    · rw [h4, k4]
      refine ⟨fun z => z.elim (fun z => ⟨0, z⟩) fun ⟨i, z⟩ => ⟨i + 1, z⟩, fun ⟨i, z⟩ => ?_⟩
      cases i with
      | zero => exact .inl z
      | succ i => exact .inr ⟨i, z⟩
def pinsOf (vs : List V) (pin : List Nat) : List (Nat × V) := pin.filterMap fun i => (vs[i]?).map fun v => (i, v)
theorem stt_start {B H : Hp} {fn : Fn} {N : List Str} {ms : List M} {vs : List V} {A : ASet} (hB : Ex B H) (h : RepMs K mg B H ms vs A) (hn : N.length = fn.n) (hl : ms.length = fn.np) (hle : fn.np ≤ fn.n) : Stt K mg (pinsOf vs fn.pin) B H (L2.start N vs) (startE fn ms) A := by
  have hlv := repMs_len h
  obtain ⟨F, k1, k2, k3, k4⟩ := repMs_split h
  refine ⟨hB, ?_, ⟨F, fun i m e => ?_, fun i e a z => ?_, k3, k4⟩, fun p hp => ?_⟩
  · unfold L2.start startE
    simp only [List.length_append, List.length_map, List.length_replicate]
    omega
  · rw [startE_slot] at e
    obtain ⟨v, e1, r⟩ := k1 i m e
    refine ⟨v, ?_, r⟩
    have hi : i < vs.length := (List.getElem?_eq_some_iff.mp e1).1
    rw [start_get, if_pos hi, e1]
    rfl
  · rw [startE_slot] at e
    exact k2 i e a z
  · obtain ⟨i, hi, e⟩ := List.mem_filterMap.mp hp
    cases ev : vs[i]? with
    | none => rw [ev] at e; cases e
    | some v =>
      rw [ev] at e
      cases e
      have hi : i < vs.length := (List.getElem?_eq_some_iff.mp ev).1
      show (L2.start N vs)[i]? = _
      rw [start_get, if_pos hi, ev]
      rfl
/-- the parameters' objects at the end -/
theorem outs_rep {B H : Hp} {fn : Fn} {σ : L2.St} {μ : Env} {S : ASet} {vs : List V} (s : Stt K mg (pinsOf vs fn.pin) B H σ μ S) (hl : vs.length = fn.np) : ∃ So, OutRep K mg B H (outsOf fn μ) vs So ∧ ∀ a, So a → S a := by
  obtain ⟨F, h1, h2, h3, h4⟩ := s.slots
  have go : ∀ (n off : Nat) (ws : List V), ws.length = n → (∀ j, j < n → ws[j]? = vs[off + j]?) → ∃ So, OutRep K mg B H ((List.range' off n).map fun j => if fn.pin.contains j then slot μ j else none) ws So ∧ ∀ a, So a → ∃ j, off ≤ j ∧ F j a := by
    intro n
    induction n with
    | zero =>
      intro off ws hw _
      exact ⟨fun _ => False, fun _ z => z, fun _ z => z.elim⟩
    | succ n ih =>
      intro off ws hw hv
      cases ws with
      | nil => cases hw
      | cons v ws =>
        obtain ⟨So, k1, k2⟩ := ih (off + 1) ws (by simpa using hw) fun j hj => by
          have := hv (j + 1) (by omega)
          rw [List.getElem?_cons_succ] at this
          rw [this]
          congr 1
          omega
        have k2' : ∀ a, So a → ∃ j, off ≤ j ∧ F j a := fun a z => let ⟨j, e, w⟩ := k2 a z; ⟨j, by omega, w⟩
        rw [List.range'_succ, List.map_cons]
        by_cases hp : fn.pin.contains off = true
        · rw [if_pos hp]
          cases e : slot μ off with
          | none => exact ⟨So, k1, k2'⟩
          | some m =>
            obtain ⟨u, e1, r⟩ := h1 off m e
            have hv0 : vs[off]? = some v := by
              have := hv 0 (by omega)
              rw [List.getElem?_cons_zero] at this
              exact this.symm
            have hm : (off, v) ∈ pinsOf vs fn.pin := List.mem_filterMap.mpr ⟨off, by simpa using hp, by rw [hv0]; rfl⟩
            have e2 := s.pins _ hm
            rw [e1] at e2
            cases e2
            refine ⟨fun a => F off a ∨ So a, ⟨v, F off, So, rfl, r, k1, fun a z w => ?_, fun a => Iff.rfl⟩, fun a z => z.elim (fun z => ⟨off, Nat.le_refl _, z⟩) (k2' a)⟩
            obtain ⟨j, hj, y⟩ := k2 a w
            exact h3 off j a (by omega) z y
        · rw [if_neg hp]
          exact ⟨So, k1, k2'⟩
  obtain ⟨So, k1, k2⟩ := go fn.np 0 vs hl fun j _ => by rw [Nat.zero_add]
  refine ⟨So, ?_, fun a z => let ⟨j, _, w⟩ := k2 a z; (h4 a).mpr ⟨j, w⟩⟩
  have e : outsOf fn μ = (List.range' 0 fn.np).map fun j => if fn.pin.contains j then slot μ j else none := by
    unfold outsOf; rw [List.range_eq_range']
  rw [e]; exact k1
theorem execS_no {b : Bd} : True := trivial
open PyProof.Rows PySem.Spec in
/-- THE RULE: a def, by its body -/
theorem fn_ok {name qual : Str} {st : Stmt} {f : Addr} {fd : FuncData} {N ps : List Str} {k : Nat} {fn : Fn} {C : Nat → List M → CR} {sub : Str → Str → Bool} {NN : Nat} {cf : List M → CR} (F : Fun K name qual st f fd) (S : FnScope N ps (defScope st))
    (hcf : ∀ ms, cf ms = if ms.length = fn.np then fnEnd fn (execSs sub C fn.pin NN fn.body (startE fn ms)) else .stuck) (hn : N.length = fn.n) (hp : ps.length = fn.np) (hle : fn.np ≤ fn.n)
    (hb : ∀ (cdv : Value) (A : Around) (outer : List PySem.Env) (s : Shared) (H : Hp) (E : XK), Room k (A.deeper (envOfC qual (defScope st) s.heap.objs.size f cdv)) →
      MSs ⟨C, fn.pin, sub, NN⟩ (cxOf (L2.CX P w) P w K mg base N qual (defScope st) f cdv A outer s H E) (defBody st) fn.body) : FnOk P w K mg base (L2.CX P w) (k + 1) f fd ps (spF K mg cf) := by
  have len : ∀ {vs : List V} {H : Hp} {Q : VK} {E : XK} {B : Hp} {A : ASet} {ms : List M}, RepMs K mg B H ms vs A → (match cf ms with
      | .stuck => False
      | .err c outs => ∀ B' H' So, Ex B' H' → Step B H A B' H' So → OutRep K mg B' H' outs vs So → ∀ C, mg c = some (.ref C) → E (.ref C) none H'
      | .ok m outs => ∀ v B' H' So T, Ex B' H' → OutRep K mg B' H' outs vs So → RepM K mg B' H' m v T → (∀ a, T a → ¬ So a) → Step B H A B' H' (fun a => So a ∨ T a) → Q v H') → ms.length = fn.np := fun {vs H Q E B A ms} _ h => by
    rw [hcf ms] at h
    by_cases e : ms.length = fn.np
    · exact e
    · rw [if_neg e] at h; exact h.elim
  refine F.okX S (fun vs H Q E h => ?_) fun cdv A outer s H vs Q E hr h => ?_
  · obtain ⟨B, A, ms, _, h1, h2⟩ := h
    rw [← repMs_len h1, len h1 h2, hp]
  · obtain ⟨B, O, ms, hB, h1, h2⟩ := h
    have hl := len h1 h2
    have hlv : vs.length = fn.np := by rw [← repMs_len h1]; exact hl
    have tk : Takes (cxOf (L2.CX P w) P w K mg base N qual (defScope st) f cdv A outer s H E) (fun cls d _ H => E cls d H) := takes_of rfl rfl rfl rfl
    refine ⟨_, hb cdv A outer s H E hr _ tk, pinsOf vs fn.pin, B, startE fn ms, O, fun p hp' => ?_, stt_start hB h1 hn hl hle, ?_⟩
    · obtain ⟨i, hi, e⟩ := List.mem_filterMap.mp hp'
      cases ev : vs[i]? with
      | none => rw [ev] at e; cases e
      | some v => rw [ev] at e; cases e; exact hi
    · rw [hcf ms, if_pos hl] at h2
      show PostS K mg _ B H O _ _ (execSs sub C fn.pin NN fn.body (startE fn ms))
      cases q : execSs sub C fn.pin NN fn.body (startE fn ms) with
      | stuck => rw [q] at h2; exact h2
      | brk μ => rw [q] at h2; exact h2.elim
      | cont μ => rw [q] at h2; exact h2.elim
      | err c μ =>
        rw [q] at h2
        intro B' H' σ' S' s' x' Ca hC
        obtain ⟨So, k1, k2⟩ := outs_rep s' hlv
        exact h2 B' H' So s'.sub (x'.weak (fun _ z => z) k2) k1 Ca hC
      | nx μ =>
        rw [q] at h2
        intro B' H' σ' S' s' x'
        obtain ⟨So, k1, k2⟩ := outs_rep s' hlv
        exact h2 .non B' H' So (fun _ => False) s'.sub k1 (repM_dat.mpr ⟨by unfold Rep; rfl, fun _ z => z⟩) (fun _ z => z.elim) (x'.weak (fun _ z => z) fun a z => z.elim (k2 a) False.elim)
      | ret m μ =>
        rw [q] at h2
        intro v B' H' σ' S' T s' r d x'
        obtain ⟨So, k1, k2⟩ := outs_rep s' hlv
        exact h2 v B' H' So T s'.sub k1 r (fun a z w => d a z (k2 a w)) (x'.weak (fun _ z => z) fun a z => z.imp (k2 a) id)
/-- no call is left -/
theorem fn_none {f : Addr} {fd : FuncData} {ps : List Str} : FnOk P w K mg base (L2.CX P w) 0 f fd ps (spF K mg fun _ => .stuck) := by
  have no : ∀ vs H Q E, ¬ spF K mg (fun _ => .stuck) vs H Q E := fun vs H Q E h => by
    obtain ⟨_, _, _, _, _, h⟩ := h
    exact h
  exact ⟨fun vs H Q E h => absurd h (no vs H Q E), fun A outer s H args us vs Q E _ _ _ _ h => absurd h (no vs H Q E)⟩
end
end Mi
/-! Mi11: operations on data. -/
namespace Mi
open PySem L2
section
variable {K : PySem.W.Frag} {mg : Str → Option Value} {X : Cx}
theorem rep_non {B : Hp} {v : V} (h : Rep K mg B .non v) : v = .non := by unfold Rep at h; exact h
theorem rep_int' {B : Hp} {i : Int} : Rep K mg B (.int i) (.int i) := by unfold Rep; rfl
theorem rep_bl' {B : Hp} {i : Bool} : Rep K mg B (.bl i) (.bl i) := by unfold Rep; rfl
theorem rep_str' {B : Hp} {i : Str} : Rep K mg B (.str i) (.str i) := by unfold Rep; rfl
theorem repL_app {B : Hp} : ∀ {ds es : List D} {vs ws : List V}, RepL K mg B ds vs → RepL K mg B es ws → RepL K mg B (ds ++ es) (vs ++ ws)
  | [], _, vs, _, h, h' => by unfold RepL at h; subst h; exact h'
  | d :: ds, es, vs, ws, h, h' => by
    unfold RepL at h
    obtain ⟨v, r, rfl, h1, h2⟩ := h
    show RepL K mg B (d :: (ds ++ es)) (v :: (r ++ ws))
    unfold RepL
    exact ⟨v, r ++ ws, rfl, h1, repL_app h2 h'⟩
theorem repL_drop {B : Hp} : ∀ {n : Nat} {ds : List D} {vs : List V}, RepL K mg B ds vs → RepL K mg B (ds.drop n) (vs.drop n)
  | 0, _, _, h => h
  | n + 1, [], vs, h => by unfold RepL at h; subst h; unfold RepL; rfl
  | n + 1, d :: ds, vs, h => by
    unfold RepL at h
    obtain ⟨v, r, rfl, _, h2⟩ := h
    exact repL_drop (n := n) h2
theorem repL_take {B : Hp} : ∀ {n : Nat} {ds : List D} {vs : List V}, RepL K mg B ds vs → RepL K mg B (ds.take n) (vs.take n)
  | 0, _, _, h => by unfold RepL; rfl
  | n + 1, [], vs, h => by unfold RepL at h; subst h; unfold RepL; rfl
  | n + 1, d :: ds, vs, h => by
    unfold RepL at h
    obtain ⟨v, r, rfl, h1, h2⟩ := h
    show RepL K mg B (d :: ds.take n) (v :: r.take n)
    unfold RepL
    exact ⟨v, r.take n, rfl, h1, repL_take h2⟩
/-! ### lists that are read, put together -/
def rCatL (K : PySem.W.Frag) : R2 := fun x y H Q => ∃ l b xs zs, x = .ref l ∧ y = .ref b ∧ SqL K H l xs ∧ SqL K H b zs ∧ xs.length + zs.length ≤ sizeLine ∧ ∀ p, H p = none → Q (.ref p) (upd H p (.lst (xs ++ zs)))
open PyProof.Rows PySem.Spec in
theorem op_catL : OpR X (binaryOp .Add) (rCatL X.K) := by
  intro pins s σ H x y v u Q I rx ry h
  obtain ⟨l, b, xs, zs, rfl, rfl, hH, hB, hz, q⟩ := h
  cases rx
  cases ry
  obtain ⟨its, r, ⟨⟨cls, dd, data, sl⟩, n, ho, hc, hdd, hd⟩, _⟩ := I.list hH
  obtain ⟨its2, r2, ⟨⟨cls2, dd2, data2, sl2⟩, n2, ho2, hc2, hdd2, hd2⟩, _⟩ := I.list hB
  simp only at hc hd hc2 hd2
  subst hc hd hc2 hd2
  have hl := r.length
  have hl2 := r2.length
  refine concat_meets ⟨_, ho, rfl⟩ ⟨_, ho2, rfl⟩ noFill_list_add seq_list_add PySem.F.slot_list_add PySem.F.entry_list_add (PySem.F.args_list_add_2 _ _) (list_addW l b its.toArray its2.toArray n n2 dd dd2 sl sl2 (by simp only [List.size_toArray]; omega)) ⟨ho, ho2, ?_⟩
  have ea : its.toArray ++ its2.toArray = (its ++ its2).toArray := by simp
  rw [ea]
  exact ⟨.ref _, _, I.lnew (t' := s.toks) (r.append r2) (by rw [List.length_append]; omega), rfl, q _ I.fresh⟩

/-! ### arithmetic, texts, sequences -/
def fAdd : D → D → Option D
  | .int i, .int j => some (.int (i + j))
  | .str s, .str t => if s.length + t.length ≤ sizeLine then some (.str (s ++ t)) else none
  | .tup xs, .tup ys => if xs ≠ [] ∧ xs.length + ys.length ≤ sizeLine then some (.tup (xs ++ ys)) else none
  | _, _ => none
def rAdd (K : PySem.W.Frag) : R2 := fun x y H Q => (rI0 fun i j => .int (i + j)) x y H Q ∨ (∃ i j, x = .str i ∧ y = .str j ∧ i.length + j.length ≤ sizeLine ∧ Q (.str (i ++ j)) H) ∨ rCatT K x y H Q
theorem op_addD : OpR X (binaryOp .Add) (rAdd X.K) := op_add.or (op_add_str.or op_catT)
theorem imp_add : Imp2 K mg fAdd (rAdd K) := fun B H x y d1 d2 d3 Q e r1 r2 hf k => by
  unfold fAdd at hf
  split at hf
  · cases hf
    rw [rep_int r1, rep_int r2]
    exact .inl ⟨_, _, rfl, rfl, k _ B H (PStep.refl e) rep_int'⟩
  · split at hf
    · rename_i hl
      cases hf
      rw [rep_str r1, rep_str r2]
      exact .inr (.inl ⟨_, _, rfl, rfl, hl, k _ B H (PStep.refl e) rep_str'⟩)
    · cases hf
  · split at hf
    · rename_i hl
      cases hf
      obtain ⟨a, vs, rfl, h1, h2⟩ := rep_tup r1
      obtain ⟨c, ws, rfl, h3, h4⟩ := rep_tup r2
      have l1 := repL_len h2
      have l2 := repL_len h4
      refine .inr (.inr ⟨a, c, vs, ws, rfl, rfl, e.t h1, e.t h3, fun z => hl.1 (by subst z; exact List.eq_nil_of_length_eq_zero l1), by omega, fun z => ?_, fun _ p hp => ?_⟩)
      · subst z
        have z' := List.eq_nil_of_length_eq_zero l2
        subst z'
        refine k _ B H (PStep.refl e) ?_
        rw [List.append_nil]; exact r1
      · have ps := PStep.new e (.tup (vs ++ ws)) hp
        refine k _ _ _ ps ?_
        unfold Rep
        exact ⟨p, _, rfl, .inl (.inl upd_same), (repL_app h2 h4).mono ps.ex⟩
    · cases hf
  · cases hf
/-- lists: a new one -/
def fAddL : D → D → Option D
  | .lst xs, .lst ys => if xs.length + ys.length ≤ sizeLine then some (.lst (xs ++ ys)) else none
  | _, _ => none
theorem imp_addL : Imp2F K mg fAddL (rCatL K) := fun B H x y d1 d2 d3 Q e r1 r2 hf k => by
  unfold fAddL at hf
  split at hf
  · split at hf
    · rename_i hl
      cases hf
      obtain ⟨a, vs, rfl, h1, h2⟩ := rep_lst r1
      obtain ⟨c, ws, rfl, h3, h4⟩ := rep_lst r2
      have l1 := repL_len h2
      have l2 := repL_len h4
      exact ⟨a, c, vs, ws, rfl, rfl, e.l h1, e.l h3, by omega, fun p hp => k p _ hp (.inl ⟨_, _, rfl, rfl, repL_app h2 h4⟩)⟩
    · cases hf
  · cases hf
def fInt2 (g : Int → Int → Option D) : D → D → Option D
  | .int i, .int j => g i j
  | _, _ => none
def fSub : D → D → Option D := fInt2 fun i j => some (.int (i - j))
theorem imp_sub : Imp2 K mg fSub (rI0 fun i j => .int (i - j)) := fun B H x y d1 d2 d3 Q e r1 r2 hf k => by
  unfold fSub fInt2 at hf
  split at hf
  · cases hf
    rw [rep_int r1, rep_int r2]
    exact ⟨_, _, rfl, rfl, k _ B H (PStep.refl e) rep_int'⟩
  · cases hf
instance (i j : Int) : Decidable (CMul i j) := by unfold CMul; infer_instance
instance (i j : Int) : Decidable (CMulW i j) := by unfold CMulW; infer_instance
instance (i j : Int) : Decidable (CDivW i j) := by unfold CDivW; infer_instance
def fMul : D → D → Option D := fInt2 fun i j => if CMul i j ∨ CMulW i j then some (.int (i * j)) else none
def rMulA : R2 := fun x y H Q => (rI CMul fun i j => .int (i * j)) x y H Q ∨ (rI CMulW fun i j => .int (i * j)) x y H Q
theorem op_mulA : OpR X (binaryOp .Mult) rMulA := op_mul.or op_mulW
theorem imp_mul : Imp2 K mg fMul rMulA := fun B H x y d1 d2 d3 Q e r1 r2 hf k => by
  unfold fMul fInt2 at hf
  split at hf
  · dsimp only at hf
    split at hf
    · rename_i h
      cases hf
      rw [rep_int r1, rep_int r2]
      exact h.imp (fun h => ⟨_, _, rfl, rfl, h, k _ B H (PStep.refl e) rep_int'⟩) fun h => ⟨_, _, rfl, rfl, h, k _ B H (PStep.refl e) rep_int'⟩
    · cases hf
  · cases hf
/-- // by a great divisor -/
def fDivW : D → D → Option D := fInt2 fun i j => if CDivW i j then some (.int (i / j)) else none
theorem imp_divW : Imp2 K mg fDivW (rI CDivW fun i j => .int (i / j)) := fun B H x y d1 d2 d3 Q e r1 r2 hf k => by
  unfold fDivW fInt2 at hf
  split at hf
  · dsimp only at hf
    split at hf
    · rename_i h
      cases hf
      rw [rep_int r1, rep_int r2]
      exact ⟨_, _, rfl, rfl, h, k _ B H (PStep.refl e) rep_int'⟩
    · cases hf
  · cases hf
/-- // and % by a positive divisor -/
def fMod : D → D → Option D := fInt2 fun i j => if 0 < j then some (.int (i % j)) else none
theorem imp_mod : Imp2 K mg fMod (rI (fun _ j => 0 < j) fun i j => .int (i % j)) := fun B H x y d1 d2 d3 Q e r1 r2 hf k => by
  unfold fMod fInt2 at hf
  split at hf
  · dsimp only at hf
    split at hf
    · rename_i h
      cases hf
      rw [rep_int r1, rep_int r2]
      exact ⟨_, _, rfl, rfl, h, k _ B H (PStep.refl e) rep_int'⟩
    · cases hf
  · cases hf
instance (i j : Int) : Decidable (CDiv i j) := by unfold CDiv; infer_instance
def fDiv : D → D → Option D := fInt2 fun i j => if CDiv i j then some (.int (i / j)) else none
theorem imp_div : Imp2 K mg fDiv (rI CDiv fun i j => .int (i / j)) := fun B H x y d1 d2 d3 Q e r1 r2 hf k => by
  unfold fDiv fInt2 at hf
  split at hf
  · dsimp only at hf
    split at hf
    · rename_i h
      cases hf
      rw [rep_int r1, rep_int r2]
      exact ⟨_, _, rfl, rfl, h, k _ B H (PStep.refl e) rep_int'⟩
    · cases hf
  · cases hf
instance (i j : Int) : Decidable (CPow i j) := by unfold CPow; infer_instance
def fPow : D → D → Option D := fInt2 fun i j => if CPow i j then some (.int (i ^ j.toNat)) else none
theorem imp_pow : Imp2 K mg fPow (rI CPow fun i j => .int (i ^ j.toNat)) := fun B H x y d1 d2 d3 Q e r1 r2 hf k => by
  unfold fPow fInt2 at hf
  split at hf
  · dsimp only at hf
    split at hf
    · rename_i h
      cases hf
      rw [rep_int r1, rep_int r2]
      exact ⟨_, _, rfl, rfl, h, k _ B H (PStep.refl e) rep_int'⟩
    · cases hf
  · cases hf
def fNeg : D → Option D
  | .int i => some (.int (-i))
  | _ => none
theorem imp_neg : Imp1 K mg fNeg (rU fun i => .int (-i)) := fun B H x d1 d3 Q e r1 hf k => by
  unfold fNeg at hf
  split at hf
  · cases hf
    rw [rep_int r1]
    exact ⟨_, rfl, k _ B H (PStep.refl e) rep_int'⟩
  · cases hf
/-! ### comparisons -/
def fLt : D → D → Option D := fInt2 fun i j => some (.bl (decide (i < j)))
def fLe : D → D → Option D := fInt2 fun i j => some (.bl (decide (i ≤ j)))
def fGt : D → D → Option D := fInt2 fun i j => some (.bl (decide (j < i)))
def fGe : D → D → Option D := fInt2 fun i j => some (.bl (decide (j ≤ i)))
theorem imp_cmpI {p : Int → Int → Bool} : Imp2 K mg (fInt2 fun i j => some (.bl (p i j))) (rI0 fun i j => .bl (p i j)) := fun B H x y d1 d2 d3 Q e r1 r2 hf k => by
  unfold fInt2 at hf
  split at hf
  · cases hf
    rw [rep_int r1, rep_int r2]
    exact ⟨_, _, rfl, rfl, k _ B H (PStep.refl e) rep_bl'⟩
  · cases hf
theorem imp_lt : Imp2 K mg fLt (rI0 fun i j => .bl (decide (i < j))) := imp_cmpI
theorem imp_le : Imp2 K mg fLe (rI0 fun i j => .bl (decide (i ≤ j))) := imp_cmpI
theorem imp_gt : Imp2 K mg fGt (rI0 fun i j => .bl (decide (j < i))) := imp_cmpI
theorem imp_ge : Imp2 K mg fGe (rI0 fun i j => .bl (decide (j ≤ i))) := imp_cmpI
mutual
def D.py : D → PyData
  | .non => .none
  | .bl b => .bool b
  | .int i => .int i
  | .str s => .str s
  | .tup xs => .tuple (D.pys xs)
  | .lst xs => .list (D.pys xs)
  | .dct _ _ => .dict []
  | .ins _ _ _ => .dict []
  | .exc _ => .dict []
  | .adr _ => .dict []
def D.pys : List D → List PyData
  | [] => []
  | d :: r => d.py :: D.pys r
end
mutual
theorem rep_dp {B H : Hp} (e : Ex B H) : ∀ {d : D} {v : V}, d.py.canLay0 = true → Rep K mg B d v → Dp K H v d.py
  | .non, v, _, h => by rw [rep_non h]; unfold D.py; exact Dp.non
  | .bl b, v, _, h => by rw [rep_bl h]; unfold D.py; exact Dp.bl b
  | .int i, v, _, h => by rw [rep_int h]; unfold D.py; exact Dp.int i
  | .str i, v, _, h => by rw [rep_str h]; unfold D.py; exact Dp.str i
  | .tup xs, v, c, h => by
    obtain ⟨a, vs, rfl, h1, h2⟩ := rep_tup h
    unfold D.py at c ⊢
    unfold PyData.canLay0 at c
    exact Dp.tup (e.t h1) (repL_dp e c h2)
  | .lst xs, v, c, h => by
    obtain ⟨a, vs, rfl, h1, h2⟩ := rep_lst h
    unfold D.py at c ⊢
    unfold PyData.canLay0 at c
    exact Dp.lst (e.l h1) (repL_dp e c h2)
  | .dct _ _, v, c, _ => by unfold D.py PyData.canLay0 at c; cases c
  | .ins _ _ _, v, c, _ => by unfold D.py PyData.canLay0 at c; cases c
  | .exc _, v, c, _ => by unfold D.py PyData.canLay0 at c; cases c
  | .adr _, v, c, _ => by unfold D.py PyData.canLay0 at c; cases c
theorem repL_dp {B H : Hp} (e : Ex B H) : ∀ {ds : List D} {vs : List V}, PyData.canLayAll0 (D.pys ds) = true → RepL K mg B ds vs → DpAll K H vs (D.pys ds)
  | [], vs, _, h => by unfold RepL at h; subst h; unfold D.pys; exact DpAll.nil
  | d :: ds, vs, c, h => by
    unfold RepL at h
    obtain ⟨v, r, rfl, h1, h2⟩ := h
    unfold D.pys at c ⊢
    unfold PyData.canLayAll0 at c
    have cc := (Bool.and_eq_true _ _).mp c
    exact DpAll.cons (rep_dp e cc.1 h1) (repL_dp e cc.2 h2)
end
/-- scalars that == tells apart at once -/
def scalD : D → D → Option Bool
  | .int i, .int j => some (decide (i = j))
  | .str i, .str j => some (decide (i = j))
  | .bl i, .bl j => some (decide (i = j))
  | .non, .non => some true
  | .non, .int _ => some false
  | .int _, .non => some false
  | .non, .str _ => some false
  | .str _, .non => some false
  | _, _ => none
def eqD (d e : D) : Option Bool := match scalD d e with
  | some b => some b
  | none => if SeqAt.shaped d.py = true ∧ SeqAt.shaped e.py = true then some (PyData.eqv d.py e.py) else none
def fEq (d e : D) : Option D := (eqD d e).map .bl
def fNe (d e : D) : Option D := (eqD d e).map fun b => .bl !b
theorem scalD_ok {B : Hp} {d e : D} {x y : V} {b : Bool} (h : scalD d e = some b) (r1 : Rep K mg B d x) (r2 : Rep K mg B e y) : scal x y = true ∧ decide (x = y) = b := by
  unfold scalD at h
  split at h <;> first | (cases h; done) | skip
  · cases h; rw [rep_int r1, rep_int r2]; exact ⟨rfl, by simp⟩
  · cases h; rw [rep_str r1, rep_str r2]; exact ⟨rfl, by simp⟩
  · cases h; rw [rep_bl r1, rep_bl r2]; exact ⟨rfl, by simp⟩
  · cases h; rw [rep_non r1, rep_non r2]; exact ⟨rfl, by simp⟩
  · cases h; rw [rep_non r1, rep_int r2]; exact ⟨rfl, by simp⟩
  · cases h; rw [rep_int r1, rep_non r2]; exact ⟨rfl, by simp⟩
  · cases h; rw [rep_non r1, rep_str r2]; exact ⟨rfl, by simp⟩
  · cases h; rw [rep_str r1, rep_non r2]; exact ⟨rfl, by simp⟩
def rEqA (K : PySem.W.Frag) : R2 := fun x y H Q => rEq x y H Q ∨ rEqD K x y H Q
def rNeA (K : PySem.W.Frag) : R2 := fun x y H Q => rNe x y H Q ∨ rNeD K x y H Q
theorem op_eqA (hu : X.A.units + 64 < cLine) : OpR X (compareOp .Eq) (rEqA X.K) := op_eq.or (op_eqD hu)
theorem op_neA (hu : X.A.units + 64 < cLine) : OpR X (compareOp .NotEq) (rNeA X.K) := op_ne.or (op_neD hu)
theorem imp_eq : Imp2 K mg fEq (rEqA K) := fun B H x y d1 d2 d3 Q e r1 r2 hf k => by
  unfold fEq eqD at hf
  split at hf
  · rename_i b hb
    cases hf
    obtain ⟨h1, h2⟩ := scalD_ok hb r1 r2
    exact .inl ⟨h1, by rw [h2]; exact k _ B H (PStep.refl e) rep_bl'⟩
  · split at hf
    · rename_i hs
      cases hf
      exact .inr ⟨_, _, rep_dp e (SeqAt.canLay_of_shaped hs.1) r1, rep_dp e (SeqAt.canLay_of_shaped hs.2) r2, hs.1, hs.2, k _ B H (PStep.refl e) rep_bl'⟩
    · cases hf
theorem imp_ne : Imp2 K mg fNe (rNeA K) := fun B H x y d1 d2 d3 Q e r1 r2 hf k => by
  unfold fNe eqD at hf
  split at hf
  · rename_i b hb
    cases hf
    obtain ⟨h1, h2⟩ := scalD_ok hb r1 r2
    exact .inl ⟨h1, by rw [h2]; exact k _ B H (PStep.refl e) rep_bl'⟩
  · split at hf
    · rename_i hs
      cases hf
      exact .inr ⟨_, _, rep_dp e (SeqAt.canLay_of_shaped hs.1) r1, rep_dp e (SeqAt.canLay_of_shaped hs.2) r2, hs.1, hs.2, k _ B H (PStep.refl e) rep_bl'⟩
    · cases hf
/-- is None -/
def fIsN : D → D → Option D
  | .non, .non => some (.bl true)
  | _, .non => some (.bl false)
  | _, _ => none
def fIsNotN : D → D → Option D
  | .non, .non => some (.bl false)
  | _, .non => some (.bl true)
  | _, _ => none
theorem rep_ne_non {B : Hp} {d : D} {v : V} (h : Rep K mg B d v) (n : d ≠ .non) : v ≠ .non := by
  intro e
  subst e
  cases d with
  | non => exact n rfl
  | bl b' => have := rep_bl h; cases this
  | int _ => have := rep_int h; cases this
  | str _ => have := rep_str h; cases this
  | tup _ => obtain ⟨_, _, h, _⟩ := rep_tup h; cases h
  | lst _ => obtain ⟨_, _, h, _⟩ := rep_lst h; cases h
  | dct _ _ => unfold Rep at h; obtain ⟨_, _, h, _⟩ := h; cases h
  | ins _ _ _ => unfold Rep at h; obtain ⟨_, _, h, _⟩ := h; cases h
  | exc _ => unfold Rep at h; obtain ⟨_, h⟩ := h; cases h
  | adr _ => unfold Rep at h; cases h
theorem imp_isN : Imp2 K mg fIsN (fun x y H Q => y = .non ∧ Q (.bl (decide (x = .non))) H) := fun B H x y d1 d2 d3 Q e r1 r2 hf k => by
  unfold fIsN at hf
  split at hf
  · cases hf
    rw [rep_non r1, rep_non r2]
    exact ⟨rfl, k _ B H (PStep.refl e) rep_bl'⟩
  · rename_i n
    cases hf
    refine ⟨rep_non r2, ?_⟩
    rw [decide_eq_false (rep_ne_non r1 fun z => n z)]
    exact k _ B H (PStep.refl e) rep_bl'
  · cases hf
theorem imp_isNotN : Imp2 K mg fIsNotN (fun x y H Q => y = .non ∧ Q (.bl (!decide (x = .non))) H) := fun B H x y d1 d2 d3 Q e r1 r2 hf k => by
  unfold fIsNotN at hf
  split at hf
  · cases hf
    rw [rep_non r1, rep_non r2]
    exact ⟨rfl, k _ B H (PStep.refl e) rep_bl'⟩
  · rename_i n
    cases hf
    refine ⟨rep_non r2, ?_⟩
    rw [decide_eq_false (rep_ne_non r1 fun z => n z)]
    exact k _ B H (PStep.refl e) rep_bl'
  · cases hf
/-! ### in -/
def flatD : D → Bool
  | .non => true
  | .bl _ => true
  | .int _ => true
  | .str _ => true
  | _ => false
def D.v : D → V
  | .non => .non
  | .bl b => .bl b
  | .int i => .int i
  | .str s => .str s
  | _ => .non
theorem flat_v {B : Hp} {d : D} {v : V} (f : flatD d = true) (h : Rep K mg B d v) : v = d.v ∧ flatV d.v = true := by
  cases d with
  | non => exact ⟨rep_non h, rfl⟩
  | bl b => exact ⟨rep_bl h, rfl⟩
  | int b => exact ⟨rep_int h, rfl⟩
  | str b => exact ⟨rep_str h, rfl⟩
  | _ => cases f
theorem flat_vs {B : Hp} : ∀ {ds : List D} {vs : List V}, ds.all flatD = true → RepL K mg B ds vs → vs = ds.map D.v ∧ (ds.map D.v).all flatV = true
  | [], vs, _, h => by unfold RepL at h; subst h; exact ⟨rfl, rfl⟩
  | d :: ds, vs, f, h => by
    unfold RepL at h
    obtain ⟨v, r, rfl, h1, h2⟩ := h
    have ff := (Bool.and_eq_true _ _).mp (show (flatD d && ds.all flatD) = true from f)
    obtain ⟨e1, e2⟩ := flat_v ff.1 h1
    obtain ⟨e3, e4⟩ := flat_vs ff.2 h2
    subst e1 e3
    exact ⟨rfl, by show (flatV d.v && (ds.map D.v).all flatV) = true; rw [e2, e4]; rfl⟩
def inD (neg : Bool) : D → D → Option D
  | d, .tup xs => if flatD d = true ∧ xs.all flatD = true then some (.bl (if neg then !inV d.v (xs.map D.v) else inV d.v (xs.map D.v))) else none
  | d, .lst xs => if flatD d = true ∧ xs.all flatD = true then some (.bl (if neg then !inV d.v (xs.map D.v) else inV d.v (xs.map D.v))) else none
  | _, _ => none
theorem imp_in {neg : Bool} : Imp2 K mg (inD neg) (rIn K neg) := fun B H x y d1 d2 d3 Q e r1 r2 hf k => by
  unfold inD at hf
  split at hf
  · split at hf
    · rename_i h
      cases hf
      obtain ⟨a, vs, rfl, h1, h2⟩ := rep_tup r2
      obtain ⟨e1, e2⟩ := flat_v h.1 r1
      obtain ⟨e3, e4⟩ := flat_vs h.2 h2
      subst e1 e3
      exact ⟨a, _, rfl, .inr (e.t h1), e2, e4, k _ B H (PStep.refl e) rep_bl'⟩
    · cases hf
  · split at hf
    · rename_i h
      cases hf
      obtain ⟨a, vs, rfl, h1, h2⟩ := rep_lst r2
      obtain ⟨e1, e2⟩ := flat_v h.1 r1
      obtain ⟨e3, e4⟩ := flat_vs h.2 h2
      subst e1 e3
      exact ⟨a, _, rfl, .inl (e.l h1), e2, e4, k _ B H (PStep.refl e) rep_bl'⟩
    · cases hf
  · cases hf
/-! ### places of sequences -/
def fIx : D → D → Option D
  | .lst xs, .int i => atI xs i
  | .tup xs, .int i => atI xs i
  | .str s, .int i => if s.length ≤ sizeLine then (atI s.cps.toList i).map fun c => .str ⟨#[c]⟩ else none
  | _, _ => none
theorem atI_rep {B : Hp} {ds : List D} {vs : List V} {i : Int} {d : D} (h : RepL K mg B ds vs) (e : atI ds i = some d) : ∃ v, atI vs i = some v ∧ Rep K mg B d v := by
  unfold atI at e ⊢
  rw [repL_len h] at e
  cases q : ixN vs.length i with
  | none => rw [q] at e; cases e
  | some j =>
    rw [q] at e
    exact (repL_get h).1 d e
theorem imp_ix : Imp2 K mg fIx (rIx K) := fun B H x y d1 d2 d3 Q e r1 r2 hf k => by
  unfold fIx at hf
  split at hf
  · obtain ⟨a, vs, rfl, h1, h2⟩ := rep_lst r1
    rw [rep_int r2]
    obtain ⟨v, e1, r3⟩ := atI_rep h2 hf
    exact .inl ⟨a, vs, _, v, rfl, rfl, e.l h1, e1, k _ B H (PStep.refl e) r3⟩
  · obtain ⟨a, vs, rfl, h1, h2⟩ := rep_tup r1
    rw [rep_int r2]
    obtain ⟨v, e1, r3⟩ := atI_rep h2 hf
    exact .inr (.inl ⟨a, vs, _, v, rfl, rfl, e.t h1, e1, k _ B H (PStep.refl e) r3⟩)
  · split at hf
    · rename_i s i hl
      rw [rep_str r1, rep_int r2]
      cases q : atI s.cps.toList i with
      | none => rw [q] at hf; cases hf
      | some c =>
        rw [q] at hf
        cases hf
        exact .inr (.inr ⟨s, i, c, rfl, rfl, hl, q, k _ B H (PStep.refl e) rep_str'⟩)
    · cases hf
  · cases hf
def fLen : List D → Option D
  | [.lst xs] => some (.int xs.length)
  | [.tup xs] => some (.int xs.length)
  | [.str s] => if s.length ≤ sizeLine then some (.int s.length) else none
  | [.dct ks xs] => some (.int ks.length)
  | _ => none
def rLen (K : PySem.W.Frag) : List V → Hp → VK → Prop := fun xs H Q => (∃ p ys, xs = [.ref p] ∧ (SqL K H p ys ∨ SqT K H p ys) ∧ Q (.int ys.length) H) ∨ (∃ z, xs = [.str z] ∧ z.length ≤ sizeLine ∧ Q (.int z.length) H) ∨ ∃ d kvs, xs = [.ref d] ∧ Rd H d (.dK kvs) ∧ Q (.int kvs.length) H
theorem call_lenR : CallR X (.builtin "len") (fun xs H Q => ∃ d kvs, xs = [V.ref d] ∧ Rd H d (.dK kvs) ∧ Q (.int kvs.length) H) := fun pins s σ H xs us Q I r ⟨a, kvs, hx, ha, q⟩ => by
  subst hx
  obtain ⟨u0, hu, r0⟩ := vals1 r
  subst hu
  cases r0
  exact d_len I ha fun t s' I' => ⟨.int kvs.length, H, I', ⟨t, rfl⟩, q⟩
theorem call_lenA : CallR X (.builtin "len") (rLen X.K) := call_len_seq.or (call_len_str.or call_lenR)
theorem imp_len : ImpN K mg fLen (rLen K) := fun B H xs ds d3 Q e r hf k => by
  unfold fLen at hf
  split at hf
  · cases hf
    obtain ⟨v, rfl, r1⟩ := repL1 r
    obtain ⟨a, vs, rfl, h1, h2⟩ := rep_lst r1
    rw [repL_len h2] at k
    exact .inl ⟨a, vs, rfl, .inl (e.l h1), k _ B H (PStep.refl e) rep_int'⟩
  · cases hf
    obtain ⟨v, rfl, r1⟩ := repL1 r
    obtain ⟨a, vs, rfl, h1, h2⟩ := rep_tup r1
    rw [repL_len h2] at k
    exact .inl ⟨a, vs, rfl, .inr (e.t h1), k _ B H (PStep.refl e) rep_int'⟩
  · split at hf
    · rename_i hl
      cases hf
      obtain ⟨v, rfl, r1⟩ := repL1 r
      rw [rep_str r1]
      exact .inr (.inl ⟨_, rfl, hl, k _ B H (PStep.refl e) rep_int'⟩)
    · cases hf
  · cases hf
    obtain ⟨v, rfl, r1⟩ := repL1 r
    unfold Rep at r1
    obtain ⟨a, vs, rfl, h1, h2, h3⟩ := r1
    refine .inr (.inr ⟨a, _, rfl, e.r h1, ?_⟩)
    rw [List.length_zip, ← h2, Nat.min_self]
    exact k _ B H (PStep.refl e) rep_int'
  · cases hf
/-- list(..), tuple(..) of a list or a tuple -/
def fList : List D → Option D
  | [.lst xs] => some (.lst xs)
  | [.tup xs] => some (.lst xs)
  | _ => none
theorem impN_list : ImpNF K mg fList (fun xs H Q => ∃ p ys, xs = [.ref p] ∧ (SqL K H p ys ∨ SqT K H p ys) ∧ ∀ l, H l = none → Q (.ref l) (upd H l (.lst ys))) := fun B H xs ds d3 Q e r hf k => by
  unfold fList at hf
  split at hf
  · cases hf
    obtain ⟨v, rfl, r1⟩ := repL1 r
    obtain ⟨a, vs, rfl, h1, h2⟩ := rep_lst r1
    exact ⟨a, vs, rfl, .inl (e.l h1), fun l hl => k l _ hl (.inl ⟨_, _, rfl, rfl, h2⟩)⟩
  · cases hf
    obtain ⟨v, rfl, r1⟩ := repL1 r
    obtain ⟨a, vs, rfl, h1, h2⟩ := rep_tup r1
    exact ⟨a, vs, rfl, .inr (e.t h1), fun l hl => k l _ hl (.inl ⟨_, _, rfl, rfl, h2⟩)⟩
  · cases hf
def fTuple : List D → Option D
  | [.lst xs] => some (.tup xs)
  | [.tup xs] => some (.tup xs)
  | _ => none
theorem imp_tuple : ImpN K mg fTuple (fun xs H Q => ∃ p ys, xs = [.ref p] ∧ ((SqL K H p ys ∧ ∀ l, H l = none → Q (.ref l) (upd H l (.tup ys))) ∨ (SqT K H p ys ∧ Q (.ref p) H))) := fun B H xs ds d3 Q e r hf k => by
  unfold fTuple at hf
  split at hf
  · cases hf
    obtain ⟨v, rfl, r1⟩ := repL1 r
    obtain ⟨a, vs, rfl, h1, h2⟩ := rep_lst r1
    refine ⟨a, vs, rfl, .inl ⟨e.l h1, fun l hl => ?_⟩⟩
    have ps := PStep.new e (.tup vs) hl
    refine k _ _ _ ps ?_
    unfold Rep
    exact ⟨l, _, rfl, .inl (.inl upd_same), h2.mono ps.ex⟩
  · cases hf
    obtain ⟨v, rfl, r1⟩ := repL1 r
    have r1' := r1
    obtain ⟨a, vs, rfl, h1, h2⟩ := rep_tup r1
    exact ⟨a, vs, rfl, .inr ⟨e.t h1, k _ B H (PStep.refl e) r1'⟩⟩
  · cases hf
/-- sums, greatest, least of whole numbers -/
def intsD : List D → Option (List Int)
  | [] => some []
  | .int i :: r => (intsD r).map (i :: ·)
  | _ :: _ => none
theorem ints_rep {B : Hp} : ∀ {ds : List D} {vs : List V} {ns : List Int}, intsD ds = some ns → RepL K mg B ds vs → vs = ns.map V.int
  | [], vs, ns, e, h => by
    unfold RepL at h
    unfold intsD at e
    cases e
    exact h
  | d :: r, vs, ns, e, h => by
    unfold RepL at h
    obtain ⟨v, r', rfl, h1, h2⟩ := h
    cases d with
    | int i =>
      have e : (intsD r).map (i :: ·) = some ns := e
      cases q : intsD r with
      | none => rw [q] at e; cases e
      | some ns' =>
        rw [q] at e
        cases e
        rw [rep_int h1, ints_rep q h2]
        rfl
    | _ => cases e
def fSum : List D → Option D
  | [.lst xs] => (intsD xs).map fun ns => .int ns.sum
  | _ => none
theorem imp_sum : ImpN K mg fSum (rSum K) := fun B H xs ds d3 Q e r hf k => by
  unfold fSum at hf
  split at hf
  · rename_i ys
    cases q : intsD ys with
    | none => rw [q] at hf; cases hf
    | some ns =>
      rw [q] at hf
      cases hf
      obtain ⟨v, rfl, r1⟩ := repL1 r
      obtain ⟨a, vs, rfl, h1, h2⟩ := rep_lst r1
      exact ⟨a, ns, rfl, by rw [← ints_rep q h2]; exact e.l h1, k _ B H (PStep.refl e) rep_int'⟩
  · cases hf
/-- the greatest of some -/
def maxL : List Int → Option Int
  | [] => none
  | i :: r => some (r.foldl (fun a b => if b > a then b else a) i)
/-! ### slices -/
def optI : D → Option (Option Int)
  | .non => some none
  | .int i => some (some i)
  | _ => none
def cutD (xs : List D) (lo hi : Option Int) : List D := (xs.drop (HT.sIx xs.length 0 lo)).take (HT.sIx xs.length xs.length hi - HT.sIx xs.length 0 lo)
theorem cut_rep {B : Hp} {ds : List D} {vs : List V} {lo hi : Option Int} (h : RepL K mg B ds vs) : RepL K mg B (cutD ds lo hi) (cutV vs lo hi) := by
  unfold cutD cutV
  rw [repL_len h]
  exact repL_take (repL_drop h)
def wholeD (n : Nat) (lo hi : Option Int) : Bool := decide (HT.sIx n 0 lo = 0 ∧ HT.sIx n n hi = n)
def fSl : List D → Option D
  | [.str s, lo, hi] => (optI lo).bind fun l => (optI hi).bind fun h => if s.length ≤ sizeLine then some (.str (cutS s l h)) else none
  | [.tup xs, lo, hi] => (optI lo).bind fun l => (optI hi).bind fun h => if wholeD xs.length l h = false then some (.tup (cutD xs l h)) else none
  | _ => none
def fSlL : List D → Option D
  | [.lst xs, lo, hi] => (optI lo).bind fun l => (optI hi).bind fun h => some (.lst (cutD xs l h))
  | _ => none
def tO (K : PySem.W.Frag) (mg : Str → Option Value) (C : Nat → List M → CR) (pin : List Nat) (e : E) (W : WX) : TO := fun σ H Q => tE K mg C pin e W σ H fun v H1 => ∃ o, (v = .non ∧ o = none ∨ ∃ i, v = .int i ∧ o = some i) ∧ Q o H1
end
/-- a part of a slice is None or a number -/
def OptE (b : Bd) (X : Cx) (e : E) : Prop := ∀ W σ H (Q : VK), b.tE X e W σ H Q → b.tE X e W σ H fun v H' => (v = .non ∨ ∃ i, v = .int i) ∧ Q v H'
structure MO (b : Bd) (X : Cx) (x : Option Expr) (e : E) : Prop where
  run : ∀ W, Takes X W → PO X x (tO X.K X.mg b.C b.pin e W)
  opt : OptE b X e
section
variable {b : Bd} {X : Cx} {x y : Expr} {lo hi : Option Expr} {ex ey el eh : E} {pos ppos : Pos}
theorem PO.imp {X : Cx} {e : Option Expr} {t t' : TO} (h : PO X e t) (k : ∀ σ H Q, t' σ H Q → t σ H Q) : PO X e t' := ⟨fun pins s σ H Q I q => h.run pins s σ H Q I (k σ H Q q)⟩
theorem mo_none : MO b X none (.con .non) := by
  refine ⟨fun W tk => PO.imp po_none fun σ H Q ⟨π, B, μ, S, hp, s, h⟩ => ?_, fun W σ H Q ⟨π, B, μ, S, hp, s, h⟩ => ⟨π, B, μ, S, hp, s, ?_⟩⟩
  · unfold evalE at h
    obtain ⟨o, e, q⟩ := h.done (v := .non) s (PStep.refl s.sub) (by unfold Rep; rfl)
    rcases e with ⟨_, rfl⟩ | ⟨i, e, _⟩
    · exact q
    · cases e
  · unfold evalE at h ⊢
    exact fun v B' H' S' T s' r d x u => ⟨.inl (rep_non (repM_dat.mp r).1), h v B' H' S' T s' r d x u⟩
def fI : D → Option D
  | .int i => some (.int i)
  | _ => none
theorem mo_some (h : ME b X x ex) : MO b X (some x) (.op1 fI ex) := by
  refine ⟨fun W tk => PO.imp (po_some (h W tk)) fun σ H Q ⟨π, B, μ, S, hp, s, h⟩ => ?_, fun W σ H Q ⟨π, B, μ, S, hp, s, h⟩ => ⟨π, B, μ, S, hp, s, ?_⟩⟩
  · unfold evalE at h
    refine bindE hp s h (fun q => q) fun m μ1 v B1 H1 S1 T s1 r1 _ x1 h1 _ _ => ?_
    obtain ⟨d1, rfl, h1⟩ := onDat_dat h1
    obtain ⟨d3, hd, h3⟩ := outD_some h1
    unfold fI at hd
    split at hd
    · cases hd
      have e := rep_int (repM_dat.mp r1).1
      subst e
      obtain ⟨o, e, q⟩ := h3.done (v := .int _) s1 (PStep.refl s1.sub) rep_int'
      rcases e with ⟨e, _⟩ | ⟨i, e, rfl⟩
      · cases e
      · cases e; exact ⟨_, rfl, q⟩
    · cases hd
  · cases q : evalE b.C b.pin (.op1 fI ex) μ with
    | stuck => rw [q] at h; exact h
    | err c μ' => rw [q] at h; exact h
    | ok m μ1 =>
      rw [q] at h
      intro v B' H' S' T s' r d x u
      refine ⟨.inr ?_, h v B' H' S' T s' r d x u⟩
      unfold evalE at q
      cases q2 : evalE b.C b.pin ex μ with
      | stuck => rw [q2] at q; cases q
      | err c μ' => rw [q2] at q; cases q
      | ok m2 μ2 =>
        rw [q2] at q
        cases m2 with
        | dat d2 =>
          cases d2 with
          | int i =>
            cases q
            exact ⟨i, rep_int (repM_dat.mp r).1⟩
          | _ => cases q
        | _ => cases q
/-- what a slice asks -/
def ImpS (K : PySem.W.Frag) (mg : Str → Option Value) (f : List D → Option D) (r : V → Option Int → Option Int → Hp → VK → Prop) : Prop :=
  ∀ (B H : Hp) (x : V) (d dl dh d3 : D) (l h : Option Int) (Q : VK), Ex B H → Rep K mg B d x → optI dl = some l → optI dh = some h → f [d, dl, dh] = some d3 → (∀ v B' H', PStep B H B' H' → Rep K mg B' d3 v → Q v H') → r x l h H Q
def ImpSF (K : PySem.W.Frag) (mg : Str → Option Value) (f : List D → Option D) (r : V → Option Int → Option Int → Hp → VK → Prop) : Prop :=
  ∀ (B H : Hp) (x : V) (d dl dh d3 : D) (l h : Option Int) (Q : VK), Ex B H → Rep K mg B d x → optI dl = some l → optI dh = some h → f [d, dl, dh] = some d3 → (∀ p o, H p = none → Fresh K mg B d3 o → Q (.ref p) (upd H p o)) → r x l h H Q
theorem optI_rep {K : PySem.W.Frag} {mg : Str → Option Value} {B : Hp} {d : D} {v : V} {o : Option Int} (h : optI d = some o) (r : Rep K mg B d v) : v = .non ∧ o = none ∨ ∃ i, v = .int i ∧ o = some i := by
  unfold optI at h
  split at h
  · cases h; exact .inl ⟨rep_non r, rfl⟩
  · cases h; exact .inr ⟨_, rep_int r, rfl⟩
  · cases h
def fSlOk (f : List D → Option D) : Prop := ∀ d dl dh d3, f [d, dl, dh] = some d3 → (∃ l, optI dl = some l) ∧ ∃ h, optI dh = some h
theorem es_nil {C : Nat → List M → CR} {pin : List Nat} {K : PySem.W.Frag} {mg : Str → Option Value} {W : WX} {σ : L2.St} {H : Hp} {Q : List V → Hp → Prop} (h : tEs K mg C pin .nil W σ H Q) : Q [] H := by
  obtain ⟨π, B, μ, S, hp, s, h⟩ := h
  unfold evalEs at h
  exact h [] B H S (fun _ => False) s (by unfold RMs RepMs; exact ⟨rfl, fun _ z => z⟩) (fun _ z => z.elim) ((Step.refl B H S).weak (fun _ z => z) fun _ z => z.elim id False.elim) fun _ => Ex.refl H
theorem es_cons {C : Nat → List M → CR} {pin : List Nat} {K : PySem.W.Frag} {mg : Str → Option Value} {W : WX} {σ : L2.St} {H : Hp} {Q : List V → Hp → Prop} {e : E} {es : Es} (h : tEs K mg C pin (.cons e es) W σ H Q) :
    tE K mg C pin e W σ H fun v H1 => tEs K mg C pin es W σ H1 fun vs H2 => Q (v :: vs) H2 := by
  obtain ⟨π, B, μ, S, hp, s, h⟩ := h
  unfold evalEs at h
  refine bindE hp s h (fun q => ((Bool.and_eq_true _ _).mp q).1) fun m μ1 v B1 H1 S1 T s1 r1 d1 x1 h1 h1' _ => ?_
  refine ⟨π, B1, μ1, S1, hp, s1, ?_⟩
  cases q : evalEs C pin es μ1 with
  | stuck => rw [q] at h1; exact h1
  | err c μ' => rw [q] at h1; exact h1
  | ok ms μ2 =>
    rw [q] at h1'
    intro vs B2 H2 S2 U s2 r2 d2 x2 u2
    have ap : ∀ a, T a → ¬ (S2 a ∨ U a) ∧ B2 a = none ∧ H2 a = H1 a := fun a q => x2.apart (d1 a q) (r1.owned a q).1 (r1.owned a q).2
    refine h1' (v :: vs) B2 H2 S2 (fun a => T a ∨ U a) s2 ?_ (fun a z => z.elim (fun z w => (ap a z).1 (.inl w)) (d2 a)) ?_ ?_
    · unfold RMs RepMs
      exact ⟨v, vs, T, U, rfl, r1.congr (fun a o q => x2.ex a o q) fun a q => ⟨(ap a q).2.2, (ap a q).2.1⟩, r2, fun a q z => (ap a q).1 (.inr z), fun _ => Iff.rfl⟩
    · exact (x2.frame (F := T) fun a q => ⟨d1 a q, (r1.owned a q).1⟩).weak (fun _ z => z) fun a z => z.elim (fun z => .inl (.inl z)) fun z => z.elim .inr fun z => .inl (.inr z)
    · exact fun q => u2 ((Bool.and_eq_true _ _).mp q).2
theorem E_mono {C : Nat → List M → CR} {pin : List Nat} {K : PySem.W.Frag} {mg : Str → Option Value} {W : WX} {σ : L2.St} {H : Hp} {Q Q' : V → Hp → Prop} {e : E} (h : tE K mg C pin e W σ H Q) (k : ∀ v H', Q v H' → Q' v H') : tE K mg C pin e W σ H Q' := by
  obtain ⟨π, B, μ, S, hp, s, h⟩ := h
  refine ⟨π, B, μ, S, hp, s, ?_⟩
  cases q : evalE C pin e μ with
  | stuck => rw [q] at h; exact h
  | err c μ' => rw [q] at h; exact h
  | ok m μ1 =>
    rw [q] at h
    exact fun v B' H' S' T s r d x u => k v H' (h v B' H' S' T s r d x u)
/-- the operands as they stand, and what f tells of them -/
theorem many_raw {f : List D → Option D} {es : Es} {W : WX} {σ : L2.St} {H : Hp} {Q : VK} (h : b.tE X (.opN f es) W σ H Q) : b.tEs X es W σ H fun vs H1 => ∃ B ds d3, Ex B H1 ∧ RepL X.K X.mg B ds vs ∧ f ds = some d3 ∧ ∀ v B' H', PStep B H1 B' H' → Rep X.K X.mg B' d3 v → Q v H' := by
  obtain ⟨π, B, μ, S, hp, s, h⟩ := h
  unfold evalE at h
  refine bindEs hp s h (fun q => q) fun ms μ1 vs B1 H1 S1 T s1 r1 _ x1 h1 _ _ => ?_
  cases q : datsOf ms with
  | none => simp only [q] at h1; exact h1.elim
  | some ds =>
    simp only [q] at h1
    obtain ⟨d3, hd, h3⟩ := outD_some h1
    exact ⟨B1, ds, d3, s1.sub, (datsOf_rep q r1).1, hd, fun w B' H' p rw' => h3.done s1 p rw'⟩
theorem many_rawF {f : List D → Option D} {es : Es} {W : WX} {σ : L2.St} {H : Hp} {Q : VK} (h : b.tF X (.opN f es) W σ H Q) : b.tEs X es W σ H fun vs H1 => ∃ B ds d3, Ex B H1 ∧ RepL X.K X.mg B ds vs ∧ f ds = some d3 ∧ ∀ p o, H1 p = none → Fresh X.K X.mg B d3 o → Q (.ref p) (upd H1 p o) := by
  obtain ⟨π, B, μ, S, hp, s, h⟩ := h
  unfold evalE at h
  refine ⟨π, B, μ, S, hp, s, ?_⟩
  cases q : evalEs b.C b.pin es μ with
  | stuck => rw [q] at h; exact h
  | err c μ' => rw [q] at h; exact h
  | ok ms μ1 =>
    rw [q] at h
    intro vs B1 H1 S1 T1 s1 r1 d1 x1 u1
    dsimp only [Out.bind] at h
    cases q2 : datsOf ms with
    | none => rw [q2] at h; exact h.elim
    | some ds =>
      rw [q2] at h
      dsimp only at h
      cases q3 : f ds with
      | none => rw [q3] at h; exact h.elim
      | some d3 =>
        rw [q3] at h
        exact ⟨B1, ds, d3, s1.sub, (datsOf_rep q2 r1).1, q3, fun p o hp fr => h p o B1 H1 S1 s1 (x1.weak (fun _ z => z) fun _ z => .inl z) u1 hp fr⟩
theorem optI_v {K : PySem.W.Frag} {mg : Str → Option Value} {B : Hp} {d : D} {v : V} {o : Option Int} (h : optI d = some o) (r : Rep K mg B d v) : (v = .non → o = none) ∧ ∀ i, v = .int i → o = some i := by
  rcases optI_rep h r with ⟨rfl, rfl⟩ | ⟨i, rfl, rfl⟩
  · exact ⟨fun _ => rfl, fun i e => (nomatch e)⟩
  · exact ⟨fun e => (nomatch e), fun j e => by injection e with e; rw [e]⟩
theorem slice3 {W : WX} {σ : L2.St} {H : Hp} {Q : VK} {R : V → Option Int → Option Int → Hp → VK → Prop} {P : List V → Hp → Prop} (ol : OptE b X el) (oh : OptE b X eh) (h : b.tEs X (.cons ex (.cons el (.cons eh .nil))) W σ H P)
    (k : ∀ x y z l h H', P [x, y, z] H' → (y = .non ∧ l = none ∨ ∃ i, y = .int i ∧ l = some i) → (z = .non ∧ h = none ∨ ∃ i, z = .int i ∧ h = some i) → R x l h H' Q) :
    tSl R (b.tE X ex W) (tO X.K X.mg b.C b.pin el W) (tO X.K X.mg b.C b.pin eh W) σ H Q := by
  refine E_mono (es_cons h) fun x H1 h1 => E_mono (ol W σ H1 _ (es_cons h1)) fun y H2 ⟨hy, h2⟩ => ?_
  have e1 : ∃ l : Option Int, y = .non ∧ l = none ∨ ∃ i, y = .int i ∧ l = some i := by
    rcases hy with rfl | ⟨i, rfl⟩
    · exact ⟨none, .inl ⟨rfl, rfl⟩⟩
    · exact ⟨some i, .inr ⟨i, rfl, rfl⟩⟩
  obtain ⟨l, hl⟩ := e1
  refine ⟨l, hl, E_mono (oh W σ H2 _ (es_cons h2)) fun z H3 ⟨hz, h3⟩ => ?_⟩
  have e2 : ∃ l : Option Int, z = .non ∧ l = none ∨ ∃ i, z = .int i ∧ l = some i := by
    rcases hz with rfl | ⟨i, rfl⟩
    · exact ⟨none, .inl ⟨rfl, rfl⟩⟩
    · exact ⟨some i, .inr ⟨i, rfl, rfl⟩⟩
  obtain ⟨h, hh⟩ := e2
  exact ⟨h, hh, k x y z l h H3 (es_nil h3) hl hh⟩
theorem repL3 {K : PySem.W.Frag} {mg : Str → Option Value} {B : Hp} {ds : List D} {x y z : V} (h : RepL K mg B ds [x, y, z]) : ∃ d1 d2 d3, ds = [d1, d2, d3] ∧ Rep K mg B d1 x ∧ Rep K mg B d2 y ∧ Rep K mg B d3 z := by
  cases ds with
  | nil => unfold RepL at h; cases h
  | cons d1 ds =>
    unfold RepL at h
    obtain ⟨v, r, e, h1, h⟩ := h
    cases e
    cases ds with
    | nil => unfold RepL at h; cases h
    | cons d2 ds =>
      unfold RepL at h
      obtain ⟨v, r, e, h2, h⟩ := h
      cases e
      cases ds with
      | nil => unfold RepL at h; cases h
      | cons d3 ds =>
        unfold RepL at h
        obtain ⟨v, r, e, h3, h⟩ := h
        cases e
        cases ds with
        | nil => exact ⟨d1, d2, d3, rfl, h1, h2, h3⟩
        | cons _ _ => unfold RepL at h; obtain ⟨_, _, e, _⟩ := h; cases e
theorem opt_eq {y : V} {l : Option Int} {K : PySem.W.Frag} {mg : Str → Option Value} {B : Hp} {d : D} {o : Option Int} (h : y = .non ∧ l = none ∨ ∃ i, y = .int i ∧ l = some i) (e : optI d = some o) (r : Rep K mg B d y) : o = l := by
  have q := optI_v e r
  rcases h with ⟨rfl, rfl⟩ | ⟨i, rfl, rfl⟩
  · exact q.1 rfl
  · exact q.2 i rfl
/-- a slice of a text, of a tuple -/
theorem me_slice (hx : ME b X x ex) (hl : MO b X lo el) (hh : MO b X hi eh) : ME b X (.Subscript x (.Slice lo hi none ppos) pos) (.opN fSl (.cons ex (.cons el (.cons eh .nil)))) := fun W tk =>
  PE.imp (pe_slice (sl_tup.or sl_str) (hx W tk) (hl.run W tk) (hh.run W tk)) fun σ H Q h => slice3 hl.opt hh.opt (many_raw h) fun x y z l h H' ⟨B, ds, d3, e, r, hf, k⟩ hy hz => by
    obtain ⟨d1, d2, d4, rfl, r1, r2, r3⟩ := repL3 r
    unfold fSl at hf
    split at hf
    · rename_i s lo hi heq
      injection heq with q1 q2
      injection q2 with q2 q3
      injection q3 with q3 _
      subst q1 q2 q3
      cases o1 : optI d2 with
      | none => rw [o1] at hf; cases hf
      | some l1 =>
        cases o2 : optI d4 with
        | none => rw [o1, o2] at hf; cases hf
        | some l2 =>
          rw [o1, o2] at hf
          have e1 := opt_eq hy o1 r2
          have e2 := opt_eq hz o2 r3
          subst e1 e2
          have hf : (if s.length ≤ sizeLine then some (D.str (cutS s l1 l2)) else none) = some d3 := hf
          split at hf
          · rename_i hl
            cases hf
            exact .inr ⟨s, rep_str r1, hl, k _ B H' (PStep.refl e) rep_str'⟩
          · cases hf
    · rename_i xs lo hi heq
      injection heq with q1 q2
      injection q2 with q2 q3
      injection q3 with q3 _
      subst q1 q2 q3
      cases o1 : optI d2 with
      | none => rw [o1] at hf; cases hf
      | some l1 =>
        cases o2 : optI d4 with
        | none => rw [o1, o2] at hf; cases hf
        | some l2 =>
          rw [o1, o2] at hf
          have e1 := opt_eq hy o1 r2
          have e2 := opt_eq hz o2 r3
          subst e1 e2
          have hf : (if wholeD xs.length l1 l2 = false then some (D.tup (cutD xs l1 l2)) else none) = some d3 := hf
          split at hf
          · rename_i hw
            cases hf
            obtain ⟨a, vs, rfl, h1, h2⟩ := rep_tup r1
            refine .inl ⟨a, vs, rfl, e.t h1, fun w => ?_, fun p hp => ?_⟩
            · rw [← repL_len h2] at w
              have := of_decide_eq_false hw
              exact this w
            · have ps := PStep.new e (.tup (cutV vs l1 l2)) hp
              refine k _ _ _ ps ?_
              unfold Rep
              exact ⟨p, _, rfl, .inl (.inl upd_same), (cut_rep h2).mono ps.ex⟩
          · cases hf
    · cases hf
/-- a slice of a list: a new list -/
theorem mf_slice (hx : ME b X x ex) (hl : MO b X lo el) (hh : MO b X hi eh) : MF b X (.Subscript x (.Slice lo hi none ppos) pos) (.opN fSlL (.cons ex (.cons el (.cons eh .nil)))) := fun W tk =>
  PE.imp (pe_slice sl_list (hx W tk) (hl.run W tk) (hh.run W tk)) fun σ H Q h => slice3 hl.opt hh.opt (many_rawF h) fun x y z l h H' ⟨B, ds, d3, e, r, hf, k⟩ hy hz => by
    obtain ⟨d1, d2, d4, rfl, r1, r2, r3⟩ := repL3 r
    unfold fSlL at hf
    split at hf
    · rename_i xs lo hi heq
      injection heq with q1 q2
      injection q2 with q2 q3
      injection q3 with q3 _
      subst q1 q2 q3
      cases o1 : optI d2 with
      | none => rw [o1] at hf; cases hf
      | some l1 =>
        cases o2 : optI d4 with
        | none => rw [o1, o2] at hf; cases hf
        | some l2 =>
          rw [o1, o2] at hf
          have e1 := opt_eq hy o1 r2
          have e2 := opt_eq hz o2 r3
          subst e1 e2
          cases hf
          obtain ⟨a, vs, rfl, h1, h2⟩ := rep_lst r1
          exact ⟨a, vs, rfl, e.l h1, fun p hp => k p _ hp (.inl ⟨_, _, rfl, rfl, cut_rep h2⟩)⟩
    · cases hf
end
end Mi
/-! Mi12: views; things changed in place; dicts. -/
namespace Mi
open PySem L2
section
variable {K : PySem.W.Frag} {mg : Str → Option Value} {π : List (Nat × V)} {B H B' H' : Hp} {σ : L2.St} {μ : Env} {S S' : ASet}
theorem slot_view {i : Nat} : slot (viewE μ) i = (slot μ i).map fun m => .dat m.toD := by
  unfold slot viewE
  rw [List.getElem?_map]
  cases μ[i]? with
  | none => rfl
  | some o => cases o <;> rfl
/-- all that is owned seen as frozen -/
theorem Stt.view (s : Stt K mg π B H σ μ S) : Stt K mg π (frz B H S) H σ (viewE μ) fun _ => False := by
  have own := s.owned
  obtain ⟨F, h1, h2, h3, h4⟩ := s.slots
  have fe : Ex B (frz B H S) := frz_ex fun a q => (own a q).2
  refine ⟨frz_sub s.sub, by rw [s.len]; unfold viewE; rw [List.length_map], ⟨fun _ _ => False, fun i m e => ?_, fun _ _ _ z => z, fun _ _ _ _ z => z.elim, fun a => ⟨fun z => z.elim, fun ⟨_, z⟩ => z⟩⟩, s.pins⟩
  rw [slot_view] at e
  cases q : slot μ i with
  | none => rw [q] at e; cases e
  | some m0 =>
    rw [q] at e
    cases e
    obtain ⟨v, e1, r⟩ := h1 i m0 q
    exact ⟨v, e1, repM_dat.mpr ⟨r.freeze fe fun a z => frz_in ((h4 a).mpr ⟨i, z⟩), fun _ z => z⟩⟩
/-- the frozen grown by what is new -/
noncomputable def grow (B H B' : Hp) : Hp := fun a => match B a, H a with
  | some o, _ => some o
  | none, none => B' a
  | none, some _ => none
theorem grow_ex : Ex B (grow B H B') := fun a o e => by unfold grow; rw [e]
theorem Stt.grow (s : Stt K mg π B H σ μ S) (e : Ex H H') (e' : Ex B' H') : Stt K mg π (grow B H B') H' σ μ S := by
  refine s.congr grow_ex (fun a o q => ?_) fun a q => ?_
  · unfold Mi.grow at q
    cases eb : B a with
    | some u => rw [eb] at q; cases q; exact e a _ (s.sub a _ eb)
    | none =>
      rw [eb] at q
      cases eh : H a with
      | some u => rw [eh] at q; cases q
      | none => rw [eh] at q; exact e' a o q
  · obtain ⟨h1, h2⟩ := s.owned a q
    cases eh : H a with
    | none => exact absurd eh h1
    | some u =>
      refine ⟨e a u eh, ?_⟩
      unfold Mi.grow
      rw [h2, eh]
theorem Step.grow (e : Ex H H') : Step B H S (grow B H B') H' S where
  ex := grow_ex
  fr := fun a u q _ => e a u q
  dom := fun a q => e.none q
  ow := fun a q => .inl q
  fz := fun a q => by
    unfold Mi.grow at q
    cases eb : B a with
    | some u => exact .inl (by simp)
    | none =>
      rw [eb] at q
      cases eh : H a with
      | some u => rw [eh] at q; exact absurd rfl q
      | none => exact .inr (.inr rfl)
/-- what is hard needs no more than what is new -/
theorem noTupE_slot {μ : Env} {i : Nat} {m : M} (h : noTupE μ = true) (e : slot μ i = some m) : m.noTup = true := by
  unfold slot at e
  cases q : μ[i]? with
  | none => rw [q] at e; cases e
  | some o =>
    rw [q] at e
    cases o with
    | none => cases e
    | some m' =>
      cases e
      exact List.all_eq_true.mp h _ (List.mem_of_getElem? q)
theorem Rep.flat {B B' : Hp} {d : D} {v : V} (f : d.flat = true) (h : Rep K mg B d v) : Rep K mg B' d v := by
  cases d with
  | non => unfold Rep at *; exact h
  | bl _ => unfold Rep at *; exact h
  | int _ => unfold Rep at *; exact h
  | str _ => unfold Rep at *; exact h
  | _ => cases f
theorem RepL.flat {B B' : Hp} : ∀ {ds : List D} {vs : List V}, ds.all D.flat = true → RepL K mg B ds vs → RepL K mg B' ds vs
  | [], _, _, h => by unfold RepL at *; exact h
  | d :: ds, _, f, h => by
    unfold RepL at *
    obtain ⟨v, r, h1, h2, h3⟩ := h
    have f' := (Bool.and_eq_true _ _).mp (show (d.flat && ds.all D.flat) = true from f)
    exact ⟨v, r, h1, h2.flat f'.1, h3.flat f'.2⟩
theorem grow_tup (s : Stt K mg π B H σ μ S) (nt : noTupE μ = true) (x : Step (frz B H S) H (fun _ => False) B' H' S') {a : Addr} {vs : List V} (h : SqT K B' a vs) : SqT K (grow B H B') a vs := by
  have key : ∀ u : HO, (∀ v, u ≠ .lst v) → (∀ v, u ≠ .dK v) → (∀ x y z, u ≠ .ins x y z) → B' a = some u → Mi.grow B H B' a = some u := fun u n1 n2 n3 e => by
    have q := x.fz a (by rw [e]; simp)
    rcases q with q | q | q
    · by_cases w : S a
      · -- an owned thing is no tuple
        exfalso
        obtain ⟨F, h1, h2, h3, h4⟩ := s.slots
        obtain ⟨i, hi⟩ := (h4 a).mp w
        cases es : slot μ i with
        | none => exact h2 i es a hi
        | some m =>
          obtain ⟨v, _, r⟩ := h1 i m es
          have hB : B' a = H a := by
            have z := x.ex a
            rw [frz_in w] at z
            cases eh : H a with
            | none => exact absurd eh (s.owned a w).1
            | some o => rw [z o eh]
          rw [e] at hB
          exact own_kind r (noTupE_slot nt es) a hi u hB.symm n1 n2 n3
      · rw [frz_out w] at q
        cases eb : B a with
        | none => exact absurd eb q
        | some o =>
          have z := x.ex a o (by rw [frz_out w]; exact eb)
          rw [e] at z
          cases z
          exact grow_ex a u eb
    · exact q.elim
    · have hb : B a = none := s.sub.none q
      unfold Mi.grow
      rw [hb, q]
      exact e
  rcases h with (h | ⟨o, h⟩) | h
  · exact .inl (.inl (key _ (fun _ q => nomatch q) (fun _ q => nomatch q) (fun _ _ _ q => nomatch q) h))
  · exact .inl (.inr ⟨o, key _ (fun _ q => nomatch q) (fun _ q => nomatch q) (fun _ _ _ q => nomatch q) h⟩)
  · exact .inr h
where
  own_kind : ∀ {m : M} {v : V} {T : ASet}, RepM K mg B H m v T → m.noTup = true → ∀ a, T a → ∀ u, H a = some u → (∀ v, u ≠ .lst v) → (∀ v, u ≠ .dK v) → (∀ x y z, u ≠ .ins x y z) → False
    | .dat d, v, T, h, nt, a, ha, u, e, n1, n2, n3 => (repM_dat.mp h).2 a ha
    | .lst ms, v, T, h, nt, b, hb, u, e, n1, n2, n3 => by
      unfold RepM at h
      obtain ⟨a, vs, U, _, h2, h3, h4, _, h6⟩ := h
      rcases (h6 b).mp hb with rfl | q
      · have h2 : H b = some _ := h2
        rw [e] at h2; cases h2; exact n1 _ rfl
      · exact own_kinds h4 nt b q u e n1 n2 n3
    | .dct ks ms, v, T, h, nt, b, hb, u, e, n1, n2, n3 => by
      unfold RepM at h
      obtain ⟨a, vs, U, _, h2, h3, h4, _, h6⟩ := h
      rcases (h6 b).mp hb with rfl | q
      · have h2 := h2.1
        rw [e] at h2; cases h2; exact n2 _ rfl
      · exact own_kinds h4 nt b q u e n1 n2 n3
    | .ins c ks ms, v, T, h, nt, b, hb, u, e, n1, n2, n3 => by
      unfold RepM at h
      obtain ⟨a, vs, U, _, h2, h3, h4, _, h6⟩ := h
      rcases (h6 b).mp hb with rfl | q
      · obtain ⟨⟨C, dx, _, h2⟩, _⟩ := h2
        rw [e] at h2; cases h2; exact n3 _ _ _ rfl
      · exact own_kinds h4 nt b q u e n1 n2 n3
    | .tup _, _, _, _, nt, _, _, _, _, _, _, _ => nomatch nt
  own_kinds : ∀ {ms : List M} {vs : List V} {T : ASet}, RepMs K mg B H ms vs T → M.noTup.noTups ms = true → ∀ a, T a → ∀ u, H a = some u → (∀ v, u ≠ .lst v) → (∀ v, u ≠ .dK v) → (∀ x y z, u ≠ .ins x y z) → False
    | [], vs, T, h, _, a, ha, _, _, _, _, _ => by unfold RepMs at h; exact h.2 a ha
    | m :: ms, vs, T, h, nt, a, ha, u, e, n1, n2, n3 => by
      have nt' := (Bool.and_eq_true _ _).mp (show (m.noTup && M.noTup.noTups ms) = true from nt)
      unfold RepMs at h
      obtain ⟨v, r, T1, T2, _, h1, h2, _, h4⟩ := h
      rcases (h4 a).mp ha with q | q
      · exact own_kind h1 nt'.1 a q u e n1 n2 n3
      · exact own_kinds h2 nt'.2 a q u e n1 n2 n3
end
section
variable {b : Bd} {X : Cx} {x y : Expr} {ex ey e : E} {xs : List Expr} {es : Es} {p : Path} {pos apos ppos : Pos} {n : Str}
theorem view_imp {W : WX} {σ : L2.St} {H : Hp} {Q : VK} (k0 : b.tE X (.view e) W σ H Q) : b.tE X e W σ H Q := by
  obtain ⟨π, B, μ, S, hp, s, k⟩ := k0
  unfold evalE at k
  split at k
  rotate_left
  · exact k.elim
  rename_i hpu
  refine ⟨π, frz B H S, viewE μ, fun _ => False, hp, s.view, ?_⟩
  cases q : evalE b.C b.pin e (viewE μ) with
  | stuck => rw [q] at k; exact k
  | err c μ' => rw [q] at k; exact k.elim
  | ok m μ' =>
    rw [q] at k
    cases m with
    | dat d =>
      dsimp only at k
      split at k
      · rename_i hh
        intro v B' H' S' T s' r dj x' u'
        have e1 := u' hpu
        have x2 : Step (frz B H S) H (fun _ => False) B' H' S' := x'.weak (fun _ z => z) fun _ z => .inl z
        have hh' := (Bool.and_eq_true _ _).mp hh
        have r2 : Rep X.K X.mg (Mi.grow B H B') d v := ((Bool.or_eq_true _ _).mp hh'.2).elim (fun f => Rep.flat f (repM_dat.mp r).1) fun nt => Rep.hard (fun a vs z => grow_tup s nt x2 z) hh'.1 (repM_dat.mp r).1
        exact k v (Mi.grow B H B') H' S (fun _ => False) (s.grow e1 s'.sub) (repM_dat.mpr ⟨r2, fun _ z => z⟩) (fun _ z => z.elim)
          ((Step.grow e1).weak (fun _ z => z) fun _ z => z.elim id False.elim) fun _ => e1
      · exact k.elim
    | _ => exact k.elim
theorem me_view (h : ME b X x e) : ME b X x (.view e) := fun W tk => PE.imp (h W tk) fun σ H Q k => view_imp k
theorem mt_view (h : MT b X x e) : MT b X x (.view e) := fun W tk => PT.imp (h W tk) fun σ H Q k => view_imp k
/-- a new list whose members are hard -/
theorem me_viewF (h : MF b X x e) : ME b X x (.viewF e) := fun W tk => PE.imp (h W tk) fun σ H Q ⟨π, B, μ, S, hp, s, k⟩ => by
  unfold evalE at k
  split at k
  rotate_left
  · exact k.elim
  rename_i hpu
  refine ⟨π, frz B H S, viewE μ, fun _ => False, hp, s.view, ?_⟩
  cases q : evalE b.C b.pin e (viewE μ) with
  | stuck => rw [q] at k; exact k
  | err c μ' => rw [q] at k; exact k.elim
  | ok m μ' =>
    rw [q] at k
    cases m with
    | dat d =>
      cases d with
      | lst ds =>
        dsimp only at k
        split at k
        · rename_i hh
          intro pa o B' H' S' s' x' u' hpa fr
          have e1 := u' hpu
          rcases fr with ⟨ds', vs, e2, rfl, r⟩ | ⟨_, _, _, e2, _⟩
          · cases e2
            have hh' := (Bool.and_eq_true _ _).mp hh
            have r2 : RepL X.K X.mg (Mi.grow B H B') ds vs := ((Bool.or_eq_true _ _).mp hh'.2).elim (fun f => RepL.flat f r) fun nt => RepL.hard (fun a vs z => grow_tup s nt x' z) hh'.1 r
            have s2 := s.grow e1 s'.sub
            have ps := PStep.new s2.sub (.lst vs) hpa
            refine k (.ref pa) _ _ S (fun _ => False) (s2.pure ps) (repM_dat.mpr ⟨?_, fun _ z => z⟩) (fun _ z => z.elim) (((Step.grow e1).trans (ps.step S)).weak (fun _ z => z) fun _ z => z.elim id False.elim) fun _ => e1.trans ps.ext
            unfold Rep
            exact ⟨pa, vs, rfl, .inl (.inl upd_same), r2.mono ps.ex⟩
          · cases e2
        · exact k.elim
      | _ => exact k.elim
    | _ => exact k.elim
/-- data at a place -/
theorem me_pth (h : MP b X x p) : ME b X x (.pth p) := fun W tk => PE.imp h fun σ H Q ⟨π, B, μ, S, hp, s, k⟩ => by
  unfold evalE at k
  refine ⟨π, B, μ, S, hp, s, ?_⟩
  cases q : evalP b.C b.pin p μ with
  | none => rw [q] at k; exact k.elim
  | some pl =>
    rw [q] at k
    dsimp only at k
    refine ⟨pl, rfl, fun v B' H' ps hv => ?_⟩
    cases q2 : atPl μ pl with
    | none => rw [q2] at k; exact k.elim
    | some m =>
      rw [q2] at k
      cases m with
      | dat d =>
        have s1 := s.pure ps
        obtain ⟨v1, T1, r1, _, ⟨v0, e0, va⟩, _⟩ := s1.at q2
        obtain ⟨v0', e0', va'⟩ := hv
        rw [e0] at e0'
        cases e0'
        have ev := va.det va'
        subst ev
        exact (k.mono (S1 := S) (ps.step S) (fun _ z => z) fun _ => ps.ext).done s1 (PStep.refl s1.sub) (repM_dat.mp r1).1
      | _ => exact k.elim
/-! ### changed in place -/
/-- f tells what becomes of the object, and what the deed comes to -/
def MutOk (K : PySem.W.Frag) (mg : Str → Option Value) (f : M → List M → Option (M × M)) (r : List V → V → List V → Hp → VK → Prop) : Prop :=
  ∀ (B H : Hp) (m : M) (v : V) (T : ASet) (ws ms : List M) (us vs : List V) (U0 U : ASet) (m' d : M) (Q : VK), Ex B H → RepM K mg B H m v T → RepMs K mg B H ws us U0 → RepMs K mg B H ms vs U → (∀ a, T a → ¬ U a) → (∀ a, T a → ¬ U0 a) → (∀ a, U a → ¬ U0 a) → f m (ws ++ ms) = some (m', d) →
    (∀ w B' H' T' R, Step B H (fun a => T a ∨ U a ∨ U0 a) B' H' (fun a => T' a ∨ R a) → Ex B' H' → RepM K mg B' H' m' v T' → RepM K mg B' H' d w R → (∀ a, T' a → ¬ R a) → Q w H') → r us v vs H Q
/-- the deed at a place -/
theorem mut_ok {kd : Nat} {f : M → List M → Option (M × M)} {pre : Es} {r : List V → V → List V → Hp → VK → Prop} (hf : MutOk X.K X.mg f r) {W : WX} {σ : L2.St} {H : Hp} {Q : VK} (h : b.tE X (.mut kd f pre p es) W σ H Q) :
    b.tEs X pre W σ H fun us H0 => tP X.K X.mg b.C b.pin p σ H0 fun v H1 => (∃ B m T, m.kind = kd ∧ Ex B H1 ∧ RepM X.K X.mg B H1 m v T) ∧ b.tEs X es W σ H1 fun vs H2 => r us v vs H2 Q := by
  obtain ⟨π, B0, μ0, S0, hp, s0, h⟩ := h
  unfold evalE at h
  refine bindEs hp s0 h (fun q => nomatch q) fun ws μ us B H S T0 s r0 d0 x0 h h' _ => ?_
  refine ⟨π, B, μ, S, hp, s, ?_⟩
  cases q : evalP b.C b.pin p μ with
  | none => rw [q] at h; exact h.elim
  | some pl =>
    rw [q] at h h'
    dsimp only at h h'
    split at h
    rotate_left
    · exact h.elim
    rename_i hk
    rw [if_pos hk] at h'
    refine ⟨pl, rfl, fun v B1 H1 ps hv => ?_⟩
    have s1 := s.pure ps
    have h1 := h.mono (S1 := S) (ps.step S) (fun _ z => z) fun _ => ps.ext
    have h1' := h'.mono (S1 := fun a => S a ∨ T0 a) (ps.step _) (fun _ z => z) fun _ => ps.ext
    have r01 : RepMs X.K X.mg B1 H1 ws us T0 := by
      have y := ps.step S
      exact r0.congr ps.ex fun a z => let w := y.apart (d0 a z) (r0.owned a z).1 (r0.owned a z).2; ⟨w.2.2, w.2.1⟩
    constructor
    · cases q2 : atPl μ pl with
      | none => rw [q2] at hk; cases hk
      | some m =>
        rw [q2] at hk
        obtain ⟨v1, T1, r1, _, ⟨v0, e0, va⟩, _⟩ := s1.at q2
        obtain ⟨v0', e0', va'⟩ := hv
        rw [e0] at e0'
        cases e0'
        have ev := va.det va'
        subst ev
        exact ⟨B1, m, T1, by simpa using hk, s1.sub, r1⟩
    · refine ⟨π, B1, μ, S, hp, s1, ?_⟩
      cases q3 : evalEs b.C b.pin es μ with
      | stuck => rw [q3] at h1; exact h1
      | err c μ' => rw [q3] at h1; exact h1
      | ok ms μ1 =>
        rw [q3] at h1 h1'
        dsimp only [Out.bind] at h1 h1'
        split at h1
        rotate_left
        · exact h1.elim
        rename_i hpu
        rw [if_pos hpu] at h1'
        clear h1
        intro vs B2 H2 S2 U s2 r2 d2 x2 u2
        cases q4 : atPl μ1 pl with
        | none => rw [q4] at h1'; exact h1'.elim
        | some m =>
          rw [q4] at h1'
          dsimp only at h1'
          cases q5 : f m (ws ++ ms) with
          | none => rw [q5] at h1'; exact h1'.elim
          | some mm =>
            obtain ⟨m', d⟩ := mm
            rw [q5] at h1'
            dsimp only at h1'
            obtain ⟨v1, T1, r1, sub1, ⟨v0, e0, va⟩, put⟩ := s2.at q4
            have hv2 : PlV H2 σ pl v := by
              rcases (Bool.or_eq_true _ _).mp hpu with z | z
              · obtain ⟨v0', e0', va'⟩ := hv
                rw [List.isEmpty_iff.mp z] at va'
                exact ⟨v0', e0', by rw [List.isEmpty_iff.mp z]; exact va'⟩
              · exact hv.mono (u2 z)
            obtain ⟨v0', e0', va'⟩ := hv2
            rw [e0] at e0'
            cases e0'
            have ev := va.det va'
            subst ev
            have own := s2.owned
            have own0 := r01.owned
            have ap : ∀ a, T0 a → ¬ (S2 a ∨ U a) ∧ B2 a = none ∧ H2 a = H1 a := fun a z => x2.apart (d0 a z) (own0 a z).1 (own0 a z).2
            have r02 : RepMs X.K X.mg B2 H2 ws us T0 := r01.congr (fun a o z => x2.ex a o z) fun a z => ⟨(ap a z).2.2, (ap a z).2.1⟩
            refine hf B2 H2 m v1 T1 ws ms us vs T0 U m' d Q s2.sub r1 r02 r2 (fun a z w => d2 a w (sub1 a z)) (fun a z w => (ap a w).1 (.inl (sub1 a z))) (fun a z w => (ap a w).1 (.inr z)) q5 fun w B3 H3 T' R x3 e3 rm rd dj => ?_
            have nown : ∀ a, S2 a → ¬ T1 a → ¬ (T1 a ∨ U a ∨ T0 a) := fun a z n w => w.elim n fun w => w.elim (fun w => d2 a w z) fun w => (ap a w).1 (.inl z)
            obtain ⟨S3, s3, hS3⟩ := put B3 H3 m' T' x3.ex e3 (fun a z n => let y := x3.apart (nown a z n) (own a z).1 (own a z).2; ⟨y.2.2, y.2.1⟩) rm fun a z w => (x3.ow a (.inl z)).elim (fun y => y.elim id fun y => y.elim (fun y => absurd w (d2 a y)) fun y => absurd (.inl w) (ap a y).1) fun y => absurd y (own a w).1
            refine h1' w B3 H3 S3 R s3 rd (fun a z y => ?_) ?_ fun z => nomatch z
            · rcases hS3 a y with y | y
              · exact (x3.ow a (.inr z)).elim (fun w => nown a y.1 y.2 w) fun w => (own a y.1).1 w
              · exact dj a y z
            · have y := x3.frame (F := fun a => S2 a ∧ ¬ T1 a) fun a z => ⟨nown a z.1 z.2, (own a z.1).1⟩
              have x2' : Step B1 H1 (fun a => S a ∨ T0 a) B2 H2 (fun a => (S2 a ∨ U a) ∨ T0 a) := x2.frame (F := T0) fun a z => ⟨d0 a z, (own0 a z).1⟩
              have y2 := x2'.trans (y.weak (T := fun a => (S2 a ∨ U a) ∨ T0 a) (fun a z => z.elim (fun z => z.elim (fun z => .inl (.inl (sub1 a z))) fun z => z.elim (fun z => .inl (.inr z)) .inr) fun z => .inl (.inl z.1)) fun _ z => z)
              exact y2.weak (fun _ z => z) fun a z => z.elim (fun z => (hS3 a z).elim .inr fun z => .inl (.inl z)) fun z => .inl (.inr z)
theorem MutOk.nil {f : M → List M → Option (M × M)} {r : V → List V → Hp → VK → Prop} (hf : MutOk X.K X.mg f fun us v vs H Q => us = [] → r v vs H Q) {kd : Nat} {W : WX} {σ : L2.St} {H : Hp} {Q : VK} (h : b.tE X (.mut kd f .nil p es) W σ H Q) :
    tP X.K X.mg b.C b.pin p σ H fun v H1 => (∃ B m T, m.kind = kd ∧ Ex B H1 ∧ RepM X.K X.mg B H1 m v T) ∧ b.tEs X es W σ H1 fun vs H2 => r v vs H2 Q := by
  have q := es_nil (mut_ok hf h)
  obtain ⟨π, B, μ, S, hp, s, pl, e, k⟩ := q
  refine ⟨π, B, μ, S, hp, s, pl, e, fun v B' H' ps hv => ?_⟩
  obtain ⟨k1, π, B2, μ2, S2, hp2, s2, k2⟩ := k v B' H' ps hv
  refine ⟨k1, π, B2, μ2, S2, hp2, s2, ?_⟩
  cases q : evalEs b.C b.pin es μ2 with
  | stuck => rw [q] at k2; exact k2
  | err c μ' => rw [q] at k2; exact k2
  | ok ms μ1 =>
    rw [q] at k2
    exact fun vs B3 H3 S3 U s3 r3 d3 x3 u3 => k2 vs B3 H3 S3 U s3 r3 d3 x3 u3 rfl
/-- the built-in type of such an object -/
def tyKd : Nat → String → Bool
  | 0, T => T == "list"
  | 1, T => T == "dict"
  | _, _ => false
theorem ty_of {K : PySem.W.Frag} {mg : Str → Option Value} {B H : Hp} {m : M} {v : V} {A : ASet} {kd : Nat} {T : String} (hk : m.kind = kd) (ht : tyKd kd T = true) (r : RepM K mg B H m v A) : tyV K T v H := by
  cases m with
  | dat d => subst hk; exact absurd ht (by simp [M.kind, tyKd])
  | ins c ks xs => subst hk; exact absurd ht (by simp [M.kind, tyKd])
  | tup xs => subst hk; exact absurd ht (by simp [M.kind, tyKd])
  | lst ms =>
    subst hk
    unfold RepM at r
    obtain ⟨a, vs, U, rfl, h, _⟩ := r
    have e : T = "list" := by simpa [M.kind, tyKd] using ht
    exact .inl ⟨e, vs, .inl (.inl h)⟩
  | dct ks ms =>
    subst hk
    unfold RepM at r
    obtain ⟨a, vs, U, rfl, h, _⟩ := r
    have e : T = "dict" := by simpa [M.kind, tyKd] using ht
    exact .inr (.inr (.inl ⟨e, .inl ⟨_, h.1⟩⟩))
open PySem.Spec PyProof.Rows in
theorem me_bm {T id : String} {kd : Nat} {f : M → List M → Option (M × M)} {r : V → List V → Hp → VK → Prop} (pa : PlainAttrs T) (slot : Slot T n id) (hty : typeOf (.builtin id) = pure (.type "method_descriptor")) (hm : MtR X id r) (hk : tyKd kd T = true) (hf : MutOk X.K X.mg f fun us v vs H Q => us = [] → r v vs H Q)
    (hx : MP b X x p) (ha : MEs b X (y :: xs) es) (hbase : attributeBase x n X.env (eval x X.env) = eval x X.env := by rfl)
    (hfew : ((backTo pos (starEach (y :: xs) X.env)).all (fun x => !x.1) && (backToKw pos (keywordEach [] X.env)).all (fun x => x.1.isSome)
      && decide ((y :: xs).length + ([] : List Keyword).length + (if ([] : List Keyword).isEmpty then 0 else 1) < 30)) = true := by rfl)
    (hline : (apos.endLine == pos.line) = true := by rfl) (hs : starEach (y :: xs) X.env = (false, eval y X.env) :: starEach xs X.env := by rfl) (hplain : (backTo pos (starEach xs X.env)).any (·.1) = false := by rfl) :
    ME b X (.Call (.Attribute x n apos) (y :: xs) [] pos) (.mut kd f .nil p es) := fun W tk => PE.imp (pe_bm pa slot hty hm hx (ha W tk) hbase hfew hline hs hplain) fun σ H Q h => by
  obtain ⟨π, B, μ, S, hp, s, pl, e, k⟩ := MutOk.nil hf h
  refine ⟨π, B, μ, S, hp, s, pl, e, fun v B' H' ps hv => ?_⟩
  obtain ⟨⟨B1, m, T1, k1, k2, k3⟩, k4⟩ := k v B' H' ps hv
  exact ⟨ty_of k1 hk k3, k4⟩
open PySem.Spec PyProof.Rows in
theorem me_bm0 {T id : String} {kd : Nat} {f : M → List M → Option (M × M)} {r : V → List V → Hp → VK → Prop} (pa : PlainAttrs T) (slot : Slot T n id) (hty : typeOf (.builtin id) = pure (.type "method_descriptor")) (hm : MtR X id r) (hk : tyKd kd T = true) (hf : MutOk X.K X.mg f fun us v vs H Q => us = [] → r v vs H Q)
    (hx : MP b X x p) (hbase : attributeBase x n X.env (eval x X.env) = eval x X.env := by rfl) (hline : (apos.endLine == pos.line) = true := by rfl) :
    ME b X (.Call (.Attribute x n apos) [] [] pos) (.mut kd f .nil p .nil) := fun W tk => PE.imp (pe_bm0 pa slot hty hm hx hbase hline) fun σ H Q h => by
  obtain ⟨π, B, μ, S, hp, s, pl, e, k⟩ := MutOk.nil hf h
  refine ⟨π, B, μ, S, hp, s, pl, e, fun v B' H' ps hv => ?_⟩
  obtain ⟨⟨B1, m, T1, k1, k2, k3⟩, k4⟩ := k v B' H' ps hv
  exact ⟨ty_of k1 hk k3, es_nil k4⟩
/-! ### lists changed in place -/
def fAppend : M → List M → Option (M × M)
  | .lst ms, [m] => if ms.length < sizeLine then some (.lst (ms ++ [m]), .dat .non) else none
  | _, _ => none
theorem repMs_app {K : PySem.W.Frag} {mg : Str → Option Value} {B H : Hp} : ∀ {ms ns : List M} {vs ws : List V} {T U : ASet}, RepMs K mg B H ms vs T → RepMs K mg B H ns ws U → (∀ a, T a → ¬ U a) → RepMs K mg B H (ms ++ ns) (vs ++ ws) fun a => T a ∨ U a
  | [], ns, vs, ws, T, U, h, h', d => by
    unfold RepMs at h
    obtain ⟨rfl, n⟩ := h
    have e : (fun a => T a ∨ U a) = U := funext fun a => propext ⟨fun z => z.elim (fun z => absurd z (n a)) id, .inr⟩
    rw [e]; exact h'
  | m :: ms, ns, vs, ws, T, U, h, h', d => by
    unfold RepMs at h
    obtain ⟨v, r, T1, T2, rfl, h1, h2, h3, h4⟩ := h
    show RepMs K mg B H (m :: (ms ++ ns)) (v :: (r ++ ws)) _
    unfold RepMs
    refine ⟨v, r ++ ws, T1, fun a => T2 a ∨ U a, rfl, h1, repMs_app h2 h' fun a z => d a ((h4 a).mpr (.inr z)), fun a z w => w.elim (h3 a z) (d a ((h4 a).mpr (.inl z))), fun a => ?_⟩
    show (T a ∨ U a) ↔ _
    rw [h4]
    exact ⟨fun z => z.elim (fun z => z.elim .inl fun z => .inr (.inl z)) fun z => .inr (.inr z), fun z => z.elim (fun z => .inl (.inl z)) fun z => z.elim (fun z => .inl (.inr z)) .inr⟩
theorem repMs_one {K : PySem.W.Frag} {mg : Str → Option Value} {B H : Hp} {m : M} {vs : List V} {U : ASet} (h : RepMs K mg B H [m] vs U) : ∃ v, vs = [v] ∧ RepM K mg B H m v U := by
  unfold RepMs RepMs at h
  obtain ⟨v, r, T1, T2, rfl, h1, ⟨rfl, n⟩, _, h4⟩ := h
  exact ⟨v, rfl, h1.cast fun a => ⟨fun z => (h4 a).mpr (.inl z), fun z => ((h4 a).mp z).elim id fun z => absurd z (n a)⟩⟩
theorem repMs_nil {K : PySem.W.Frag} {mg : Str → Option Value} {B H : Hp} {us : List V} {U : ASet} {ws : List M} (h : RepMs K mg B H ws us U) (e : us = []) : ws = [] ∧ ∀ a, ¬ U a := by
  have hl := repMs_len h
  rw [e] at hl
  have hw : ws = [] := List.eq_nil_of_length_eq_zero hl
  subst hw
  unfold RepMs at h
  exact ⟨rfl, h.2⟩
/-- an object's content is changed: all else is as it was -/
theorem step_upd {B H : Hp} {A : ASet} {a : Addr} {o : HO} (ha : A a) : Step B H A B (upd H a o) A where
  ex := Ex.refl B
  fr := fun b u e n => by rw [upd_ne fun z => n (by rw [z]; exact ha)]; exact e
  dom := fun b e => by
    by_cases z : b = a
    · subst z; rw [upd_same] at e; cases e
    · rw [upd_ne z] at e; exact e
  ow := fun b q => .inl q
  fz := fun b q => .inl q
theorem mut_append {K : PySem.W.Frag} {mg : Str → Option Value} : MutOk K mg fAppend fun us v vs H Q => us = [] → rAppend v vs H Q := fun B H m v T ws ms us vs U0 U m' d Q e rm r0 r1 d1 d2 d3 hf k hu => by
  obtain ⟨rfl, n0⟩ := repMs_nil r0 hu
  rw [List.nil_append] at hf
  unfold fAppend at hf
  split at hf
  · rename_i xs y
    split at hf
    · rename_i hl
      cases hf
      unfold RepM at rm
      obtain ⟨a, zs, A, rfl, h2, h3, h4, h5, h6⟩ := rm
      obtain ⟨w, rfl, rw'⟩ := repMs_one r1
      have hlen := repMs_len h4
      have nU : ∀ b, U b → b ≠ a := fun b z w => d1 b ((h6 b).mpr (.inl w)) z
      have nA : ∀ b, A b → b ≠ a := fun b z w => h5 (by rw [← w]; exact z)
      refine ⟨a, zs, w, rfl, rfl, h2, by omega, ?_⟩
      refine k .non B (upd H a (.lst (zs ++ [w]))) (fun b => T b ∨ U b) (fun _ => False) ((step_upd (.inl ((h6 a).mpr (.inl rfl)))).weak (fun _ z => z) fun b z => z.elim (fun z => z.elim .inl fun z => .inr (.inl z)) False.elim) (fun b o z => ?_) ?_ (repM_dat.mpr ⟨by unfold Rep; rfl, fun _ z => z⟩) fun _ _ z => z
      · rw [upd_ne fun w => by rw [w, h3] at z; cases z]; exact e b o z
      · unfold RepM
        refine ⟨a, zs ++ [w], fun b => A b ∨ U b, rfl, upd_same, h3, ?_, fun z => z.elim h5 fun z => nU a z rfl, fun b => ?_⟩
        · refine (repMs_app h4 r1 fun b z w => d1 b ((h6 b).mpr (.inr z)) w).congr (Ex.refl B) fun b z => ⟨upd_ne (z.elim (nA b) (nU b)), z.elim (fun z => (h4.owned b z).2) fun z => (r1.owned b z).2⟩
        · show (T b ∨ U b) ↔ _
          rw [h6]
          exact ⟨fun z => z.elim (fun z => z.imp id .inl) fun z => .inr (.inr z), fun z => z.elim (fun z => .inl (.inl z)) fun z => z.elim (fun z => .inl (.inr z)) .inr⟩
    · cases hf
  · cases hf
end
end Mi
/-! Mi13: places within, fields, methods, new instances. -/
namespace Mi
open PySem L2
section
variable {K : PySem.W.Frag} {mg : Str → Option Value}
theorem vAt_snoc {H : Hp} : ∀ {p : List Nat} {v w z : V} {a : Addr} {o : HO} {j : Nat}, vAt H v p w → w = .ref a → H a = some o → (kidsO o)[j]? = some z → vAt H v (p ++ [j]) z
  | [], v, w, z, a, o, j, h, e, ho, hk => by
    have h : w = v := h
    subst h
    exact ⟨a, o, z, e, ho, hk, rfl⟩
  | i :: p, v, w, z, a, o, j, h, e, ho, hk => by
    obtain ⟨b, o', v', h1, h2, h3, h4⟩ := h
    exact ⟨b, o', v', h1, h2, h3, vAt_snoc h4 e ho hk⟩
theorem zip_lookup {n : Str} : ∀ {ks : List Str} {vs : List V} {j : Nat}, fldIx ks n = some j → ks.length = vs.length → ∃ v, vs[j]? = some v ∧ (ks.zip vs).lookup n = some v
  | [], vs, j, h, _ => by simp [fldIx] at h
  | k :: ks, [], j, h, l => by simp at l
  | k :: ks, v :: vs, j, h, l => by
    unfold fldIx at h
    rw [List.findIdx?_cons] at h
    by_cases e : k = n
    · simp [e] at h
      subst h
      refine ⟨v, rfl, ?_⟩
      show List.lookup n ((k, v) :: ks.zip vs) = _
      rw [List.lookup_cons]
      simp [e]
    · simp [e] at h
      obtain ⟨i, h1, rfl⟩ := h
      obtain ⟨w, e1, e2⟩ := zip_lookup (ks := ks) (vs := vs) (j := i) (n := n) (by unfold fldIx; exact h1) (by simpa using l)
      refine ⟨w, by simpa using e1, ?_⟩
      show List.lookup n ((k, v) :: ks.zip vs) = _
      rw [List.lookup_cons]
      have : (n == k) = false := by simpa using fun z => e z.symm
      rw [this]; exact e2
theorem zip_lookup_none {n : Str} : ∀ {ks : List Str} {vs : List V}, ks.contains n = false → (ks.zip vs).lookup n = none
  | [], vs, h => rfl
  | k :: ks, [], h => rfl
  | k :: ks, v :: vs, h => by
    have h' : ¬ n = k ∧ n ∉ ks := by simpa using h
    show List.lookup n ((k, v) :: ks.zip vs) = _
    rw [List.lookup_cons]
    have : (n == k) = false := by simpa using h'.1
    rw [this]
    exact zip_lookup_none (by simpa using h'.2)
end
section
variable {b : Bd} {X : Cx} {x y o : Expr} {ex ey e : E} {xs : List Expr} {as : As} {es : Es} {p : Path} {pos ppos apos : Pos} {n m : Str}
/-! ### a field of data -/
def fFld (c n : Str) : D → Option D
  | .ins c' ks xs => if c' = c then (fldIx ks n).bind fun j => xs[j]? else none
  | _ => none
theorem me_fld {c : Str} {C : Addr} (hm : X.mg c = some (.ref C)) (hc : Cls X.K C) (hn : NoAttr X.K C n) (hx : ME b X x ex) (hb : attributeBase x n X.env (eval x X.env) = eval x X.env := by rfl) : ME b X (.Attribute x n pos) (.op1 (fFld c n) ex) := fun W tk =>
  PE.imp (pe_fld (hx W tk) hb) fun σ H Q h => one_imp (ru := fun x H1 Q => ∃ a C dx fs v, x = .ref a ∧ H1 a = some (.ins C dx fs) ∧ Cls X.K C ∧ NoAttr X.K C n ∧ fs.lookup n = some v ∧ Q v H1) (fun B H v d1 d3 Q e r hf k => by
    unfold fFld at hf
    split at hf
    · rename_i c' ks ys
      split at hf
      · rename_i ec
        subst ec
        cases q : fldIx ks n with
        | none => rw [q] at hf; cases hf
        | some j =>
          rw [q] at hf
          have hf : ys[j]? = some d3 := hf
          unfold Rep at r
          obtain ⟨a, vs, rfl, ⟨C', dx, hC, ho⟩, hl, hr⟩ := r
          rw [hm] at hC
          cases hC
          obtain ⟨w, e1, e2⟩ := zip_lookup q hl
          obtain ⟨w', e3, e4⟩ := (repL_get hr).1 _ hf
          rw [e1] at e3
          cases e3
          exact ⟨a, C, dx, _, w, rfl, e a _ ho, hc, hn, e2, k w B H (PStep.refl e) e4⟩
      · cases hf
    · cases hf) h
/-! ### places -/
theorem at_snoc {m : M} {j : Nat} : ∀ {p : List Nat} {m0 : M}, m0.at p = some m → m0.at (p ++ [j]) = m.kids[j]?
  | [], m0, h => by
    have h : m0 = m := by simpa [M.at] using h
    subst h
    show (match m0.kids[j]? with | some k => k.at [] | none => none) = _
    cases m0.kids[j]? <;> simp [M.at]
  | i :: p, m0, h => by
    unfold M.at at h
    show (match m0.kids[i]? with | some k => k.at (p ++ [j]) | none => none) = _
    cases q : m0.kids[i]? with
    | none => rw [q] at h; cases h
    | some k => rw [q] at h; exact at_snoc h
theorem mp_fld {c : Str} {C : Addr} (hm : X.mg c = some (.ref C)) (hc : Cls X.K C) (hn : NoAttr X.K C n) (hx : MP b X x p) (hb : attributeBase x n X.env (eval x X.env) = eval x X.env := by rfl) : MP b X (.Attribute x n pos) (.fld p c n) :=
  PE.imp (pe_fld hx hb) fun σ H Q ⟨π, B, μ, S, hp, s, pl', e, k⟩ => by
    unfold evalP at e
    cases q0 : evalP b.C b.pin p μ with
    | none => simp only [q0] at e; cases e
    | some pl =>
      simp only [q0] at e
      refine ⟨π, B, μ, S, hp, s, pl, q0, fun v B1 H1 p1 hv => ?_⟩
      split at e
      · rename_i c' ks ys qa
        split at e
        · rename_i ec
          subst ec
          cases qf : fldIx ks n with
          | none => rw [qf] at e; cases e
          | some j =>
            rw [qf] at e
            cases e
            have s1 := s.pure p1
            obtain ⟨v1, T1, r1, _, ⟨v0, e0, va⟩, _⟩ := s1.at qa
            obtain ⟨v0', e0', va'⟩ := hv
            rw [e0] at e0'
            cases e0'
            have ev := va.det va'
            subst ev
            unfold RepM at r1
            obtain ⟨a, vs, U, rfl, ⟨⟨C', dx, hC, ho⟩, hl⟩, _⟩ := r1
            rw [hm] at hC
            cases hC
            obtain ⟨w, e1, e2⟩ := zip_lookup qf hl
            exact ⟨a, C, dx, _, w, rfl, ho, hc, hn, e2, k w B1 H1 p1 ⟨v0, e0, vAt_snoc va rfl ho (by show ((ks.zip vs).map (·.2))[j]? = _; rw [map_snd_zip hl]; exact e1)⟩⟩
        · cases e
      · cases e
/-- an index without effects -/
def tD (i : I) : TE := fun σ H Q => ∃ π B μ S d, PinOf π b.pin ∧ Stt X.K X.mg π B H σ μ S ∧ evalI i μ = some d ∧ ∀ v B' H', PStep B H B' H' → Rep X.K X.mg B' d v → Q v H'
def MD (b : Bd) (X : Cx) (x : Expr) (i : I) : Prop := PE X x (tD (b := b) (X := X) i)
theorem PStep.trans' {B H B1 H1 B2 H2 : Hp} (x : PStep B H B1 H1) (y : PStep B1 H1 B2 H2) : PStep B H B2 H2 :=
  ⟨x.ex.trans y.ex, y.sub, x.ext.trans y.ext, fun a q => (y.fz a q).elim (x.fz a) fun z => .inr (x.ext.none z)⟩
theorem md_var {i : Nat} (hN : X.N[i]? = some n) (hv : Vis X.env.scope n) (hd : (n == ("__debug__" : Str)) = false := by decide) (hcd : (n == ("__classdict__" : Str)) = false := by decide) : MD b X (.Name n pos) (.var i) :=
  PE.imp (pe_var hN hv hd hcd) fun σ H Q ⟨π, B, μ, S, d, hp, s, e, k⟩ => by
    unfold evalI at e
    split at e
    · rename_i d' hs
      cases e
      obtain ⟨v, e1, r⟩ := s.getD hs
      exact ⟨v, e1, k v B H (PStep.refl s.sub) r⟩
    · cases e
theorem md_int {i : Int} {j} : MD b X (.Constant (.int i) j pos) (.con (.int i)) := PE.imp pe_int fun σ H Q ⟨π, B, μ, S, d, hp, s, e, k⟩ => by
  unfold evalI at e
  cases e
  exact k _ B H (PStep.refl s.sub) (by unfold Rep; rfl)
theorem two_impD {f : D → D → Option D} {r : R2} {i j : I} {σ : L2.St} {H : Hp} {Q : VK} (hf : Imp2 X.K X.mg f r) (h : tD (b := b) (X := X) (.op2 f i j) σ H Q) : tOp r (tD (b := b) (X := X) i) (tD (b := b) (X := X) j) σ H Q := by
  obtain ⟨π, B, μ, S, d, hp, s, e, k⟩ := h
  unfold evalI at e
  cases q1 : evalI i μ with
  | none => rw [q1] at e; cases e
  | some d1 =>
    rw [q1] at e
    dsimp only [Option.bind] at e
    cases q2 : evalI j μ with
    | none => rw [q2] at e; cases e
    | some d2 =>
      rw [q2] at e
      have e : f d1 d2 = some d := e
      refine ⟨π, B, μ, S, d1, hp, s, q1, fun v B1 H1 p1 r1 => ?_⟩
      refine ⟨π, B1, μ, S, d2, hp, s.pure p1, q2, fun w B2 H2 p2 r2 => ?_⟩
      exact hf B2 H2 v w d1 d2 d Q p2.sub (r1.mono p2.ex) r2 e fun z B' H' p3 r3 => k z B' H' ((p1.trans' p2).trans' p3) r3
theorem md_op {op : Operator} {f : D → D → Option D} {r : R2} {i j : I} (ho : OpR X (binaryOp op) r) (hf : Imp2 X.K X.mg f r) (hx : MD b X x i) (hy : MD b X y j) : MD b X (.BinOp x op y pos) (.op2 f i j) := PE.imp (pe_op ho hx hy) fun σ H Q h => two_impD hf h
theorem md_ix {f : D → D → Option D} {r : R2} {i j : I} (ho : IxR X r) (hf : Imp2 X.K X.mg f r) (hx : MD b X x i) (hy : MD b X y j) (hs : PlainIx y) : MD b X (.Subscript x y pos) (.op2 f i j) := PE.imp (pe_ix ho hx hy hs) fun σ H Q h => two_impD hf h
theorem md_un {op : UnaryOp} {f : D → Option D} {ru : V → Hp → VK → Prop} {i : I} (ho : UnR X (unaryOp op) ru) (hf : Imp1 X.K X.mg f ru) (hx : MD b X x i) : MD b X (.UnaryOp op x pos) (.op1 f i) := PE.imp (pe_un ho hx) fun σ H Q h => by
  obtain ⟨π, B, μ, S, d, hp, s, e, k⟩ := h
  unfold evalI at e
  cases q1 : evalI i μ with
  | none => rw [q1] at e; cases e
  | some d1 =>
    rw [q1] at e
    have e : f d1 = some d := e
    refine ⟨π, B, μ, S, d1, hp, s, q1, fun v B1 H1 p1 r1 => ?_⟩
    exact hf B1 H1 v d1 d Q p1.sub r1 e fun z B' H' p3 r3 => k z B' H' (p1.trans' p3) r3
theorem mp_idx {i : I} (hx : MP b X x p) (hy : MD b X y i) (hs : PlainIx y) : MP b X (.Subscript x y pos) (.idx p i) :=
  PE.imp (pe_ix ix_seq hx hy hs) fun σ H Q ⟨π, B, μ, S, hp, s, pl', e, k⟩ => by
    unfold evalP at e
    cases q0 : evalP b.C b.pin p μ with
    | none => simp only [q0] at e; cases e
    | some pl =>
      simp only [q0] at e
      split at e
      · rename_i z qi
        split at e
        · rename_i ys qa
          cases qj : ixN ys.length z with
          | none => rw [qj] at e; cases e
          | some j =>
            rw [qj] at e
            cases e
            refine ⟨π, B, μ, S, hp, s, pl, q0, fun v B1 H1 p1 hv => ?_⟩
            refine ⟨π, B1, μ, S, _, hp, s.pure p1, qi, fun w B2 H2 p2 r2 => ?_⟩
            have ew := rep_int r2
            subst ew
            have s2 := (s.pure p1).pure p2
            obtain ⟨v1, T1, r1, _, ⟨v0, e0, va⟩, _⟩ := s2.at qa
            obtain ⟨v0', e0', va'⟩ := hv.mono p2.ext
            rw [e0] at e0'
            cases e0'
            have ev := va.det va'
            subst ev
            unfold RepM at r1
            obtain ⟨a, vs, U, rfl, ho, hB, hms, _⟩ := r1
            have hl := repMs_len hms
            have hj : j < vs.length := by rw [← hl]; exact (ixN_seq qj).2.1
            refine .inl ⟨a, vs, z, vs[j], rfl, rfl, .inl (.inl ho), ?_, k _ B2 H2 (p1.trans' p2) ⟨v0, e0, vAt_snoc va rfl ho (by show vs[j]? = some vs[j]; simp [hj])⟩⟩
            unfold atI
            rw [← hl, qj]
            show vs[j]? = some vs[j]
            simp [hj]
        · rename_i ys qa
          cases qj : ixN ys.length z with
          | none => rw [qj] at e; cases e
          | some j =>
            rw [qj] at e
            cases e
            refine ⟨π, B, μ, S, hp, s, pl, q0, fun v B1 H1 p1 hv => ?_⟩
            refine ⟨π, B1, μ, S, _, hp, s.pure p1, qi, fun w B2 H2 p2 r2 => ?_⟩
            have ew := rep_int r2
            subst ew
            have s2 := (s.pure p1).pure p2
            obtain ⟨v1, T1, r1, _, ⟨v0, e0, va⟩, _⟩ := s2.at qa
            obtain ⟨v0', e0', va'⟩ := hv.mono p2.ext
            rw [e0] at e0'
            cases e0'
            have ev := va.det va'
            subst ev
            unfold RepM at r1
            obtain ⟨a, vs, U, rfl, ho, hB, hms, _⟩ := r1
            have hl := repMs_len hms
            have hj : j < vs.length := by rw [← hl]; exact (ixN_seq qj).2.1
            refine .inr (.inl ⟨a, vs, z, vs[j], rfl, rfl, .inl (.inl ho), ?_, k _ B2 H2 (p1.trans' p2) ⟨v0, e0, vAt_snoc va rfl ho (by show vs[j]? = some vs[j]; simp [hj])⟩⟩)
            unfold atI
            rw [← hl, qj]
            show vs[j]? = some vs[j]
            simp [hj]
        · cases e
      · cases e
/-! ### methods -/
theorem pe_methW {CX : CXT} {k : Nat} {f C : Addr} {fd : FuncData} {ps : List Str} {sp : Sp} {E : L2.St → XK} {e : Expr} {ta : TE} {t : TA} {pl : Sem Bool} (he : PE X o ta) (c : Cls X.K C) (hm : Meth X.K C m f) (F : FnOk X.prog X.w X.K X.mg X.base CX k f fd ps sp) (hr : Room k X.A) (hb : Binds X.K fd ps []) (hx : ∀ σ, PassesAt CX X σ (E σ)) (ha : PA X (e :: xs) t)
    (hst : starEach (e :: xs) X.env = (false, eval e X.env) :: starEach xs X.env := by rfl) (hpl : (backTo pos (starEach xs X.env)).any (·.1) = false := by rfl)
    (ht : eval (.Call (.Attribute o m apos) (e :: xs) [] pos) X.env = (do
      let ov ← eval o X.env
      standAt apos.atName
      let (f, first) ← holding [ov] (getMethod ov m pl)
      callWith pos f first (backTo pos (starEach (e :: xs) X.env)) (backToKw pos (keywordEach [] X.env))) := by rfl) :
    PE X (.Call (.Attribute o m apos) (e :: xs) [] pos) (fun σ H Q => ta σ H fun x H1 => ∃ a dx fs, x = .ref a ∧ H1 a = some (.ins C dx fs) ∧ fs.lookup m = none ∧ t σ H1 fun vs H2 => sp (x :: vs) H2 Q (E σ)) := by
  refine ⟨fun pins s σ H Q I h => ?_⟩
  refine PySem.W.methodCall_KW (pl := pl) (thn (he.run pins s σ H _ I h) fun u s1 ⟨x, H1, I1, rx, a, dx, fs, ex, ea, l, q⟩ => ?_) ht
  subst ex
  obtain rfl : u = Value.ref a := rx
  refine getmeth_ok I1 ea c hm l ?_
  refine PySem.W.callWith_K (first := [.ref a]) (h₀ := X.base) I1.ok.mod.kin hm.kp (thn (ha.run pos pins s1 σ H1 _ I1 q) fun us s2 ⟨vs, H2, I2, r, q2⟩ => ⟨I2.kIn, ?_⟩) hst hpl
  exact run_fnS (us := .ref a :: us) (vs := .ref a :: vs) F hr hb (hx σ) I2 (.cons rfl r) q2
theorem pe_methW0 {CX : CXT} {k : Nat} {f C : Addr} {fd : FuncData} {ps : List Str} {sp : Sp} {E : L2.St → XK} {ta : TE} {pl : Sem Bool} (he : PE X o ta) (c : Cls X.K C) (hm : Meth X.K C m f) (F : FnOk X.prog X.w X.K X.mg X.base CX k f fd ps sp) (hr : Room k X.A) (hb : Binds X.K fd ps []) (hx : ∀ σ, PassesAt CX X σ (E σ))
    (ht : eval (.Call (.Attribute o m apos) [] [] pos) X.env = (do
      let ov ← eval o X.env
      standAt apos.atName
      let (f, first) ← holding [ov] (getMethod ov m pl)
      callWith pos f first (backTo pos (starEach [] X.env)) (backToKw pos (keywordEach [] X.env))) := by rfl) :
    PE X (.Call (.Attribute o m apos) [] [] pos) (fun σ H Q => ta σ H fun x H1 => ∃ a dx fs, x = .ref a ∧ H1 a = some (.ins C dx fs) ∧ fs.lookup m = none ∧ sp [x] H1 Q (E σ)) := by
  refine ⟨fun pins s σ H Q I h => ?_⟩
  refine PySem.W.methodCall_KW (pl := pl) (thn (he.run pins s σ H _ I h) fun u s1 ⟨x, H1, I1, rx, a, dx, fs, ex, ea, l, q⟩ => ?_) ht
  subst ex
  obtain rfl : u = Value.ref a := rx
  refine getmeth_ok I1 ea c hm l ?_
  exact PySem.W.callWith_K0 (first := [.ref a]) I1.kIn hm.kp (run_fnS (us := [.ref a]) (vs := [.ref a]) F hr hb (hx σ) I1 (.cons rfl .nil) q)
/-- the instance, then the arguments, then the callee -/
theorem meth_imp {c : Str} {C : Addr} {g : Nat} {oo : Bool} {W : WX} {σ : L2.St} {H : Hp} {Q : VK} (hm : X.mg c = some (.ref C)) (h : b.tE X (.meth oo c m g p as) W σ H Q) :
    tP X.K X.mg b.C b.pin p σ H fun x H1 => ∃ a dx fs, x = .ref a ∧ H1 a = some (.ins C dx fs) ∧ fs.lookup m = none ∧ tAs X.K X.mg b.C b.pin as W σ H1 fun vs H2 => spF X.K X.mg (b.C g) (x :: vs) H2 Q (WE W σ) := by
  obtain ⟨π, B, μ, S, hp, s, h⟩ := h
  unfold evalE at h
  cases q0 : evalP b.C b.pin p μ with
  | none => simp only [q0] at h; exact h.elim
  | some pl =>
    simp only [q0] at h
    refine ⟨π, B, μ, S, hp, s, pl, q0, fun v B1 H1 p1 hv => ?_⟩
    split at h
    rotate_left
    · exact h.elim
    rename_i hi
    have s1 := s.pure p1
    cases qa : atPl μ pl with
    | none => rw [qa] at hi; cases hi
    | some m0 =>
      rw [qa] at hi
      cases m0 with
      | ins c' ks ys =>
        have hi' : c' = c ∧ ks.contains m = false := by simpa [insOk] using hi
        obtain ⟨rfl, hk⟩ := hi'
        obtain ⟨v1, T1, r1, _, ⟨v0, e0, va⟩, _⟩ := s1.at qa
        obtain ⟨v0', e0', va'⟩ := id hv
        rw [e0] at e0'
        cases e0'
        have ev := va.det va'
        subst ev
        unfold RepM at r1
        obtain ⟨a, vs0, U, rfl, ⟨⟨C', dx, hC, ho⟩, hl⟩, _⟩ := r1
        rw [hm] at hC
        cases hC
        refine ⟨a, dx, _, rfl, ho, zip_lookup_none hk, π, B1, μ, S, hp, s1, ?_⟩
        have h1 := h.mono (S1 := S) (p1.step S) (fun _ z => z) fun z => nomatch z
        cases q : evalAs b.C b.pin as μ with
        | stuck => rw [q] at h1; exact h1
        | err c μ' => rw [q] at h1; exact h1
        | ok ags μ1 =>
          rw [q] at h1
          intro vs B2 H2 S2 T s2 r2 d2 x2 u2
          refine call_ok (fl := as.vals) (o := oo) (pu := false) s2 (ags := .ref pl :: ags) (vs := .ref a :: vs) (T := T) ?_ d2 (fun z => nomatch z) (h1.mono x2 (fun _ z => z) fun z => nomatch z)
          unfold RAs
          refine ⟨_, vs, rfl, fun z => ?_, r2⟩
          rcases z with z | z
          · obtain ⟨v0, e1, e2⟩ := hv
            rw [z] at e2
            exact ⟨v0, e1, by rw [z]; exact e2⟩
          · exact hv.mono (u2 z)
      | _ => cases hi
theorem me_meth {c : Str} {C : Addr} {k g : Nat} {oo : Bool} {f : Addr} {fd : FuncData} {ps : List Str} {pl : Sem Bool} (hC : X.mg c = some (.ref C)) (hc : Cls X.K C) (hm : Meth X.K C m f) (G : FnOk X.prog X.w X.K X.mg X.base (L2.CX X.prog X.w) k f fd ps (spF X.K X.mg (b.C g))) (hr : Room k X.A) (hb : Binds X.K fd ps [])
    (hx : MP b X o p) (ha : MAs b X (y :: xs) as)
    (hst : starEach (y :: xs) X.env = (false, eval y X.env) :: starEach xs X.env := by rfl) (hpl : (backTo pos (starEach xs X.env)).any (·.1) = false := by rfl)
    (ht : eval (.Call (.Attribute o m apos) (y :: xs) [] pos) X.env = (do
      let ov ← eval o X.env
      standAt apos.atName
      let (f, first) ← holding [ov] (getMethod ov m pl)
      callWith pos f first (backTo pos (starEach (y :: xs) X.env)) (backToKw pos (keywordEach [] X.env))) := by rfl) :
    ME b X (.Call (.Attribute o m apos) (y :: xs) [] pos) (.meth oo c m g p as) := fun W tk =>
  PE.imp (pe_methW hx hc hm G hr hb (fun σ => passAt tk σ) (ha W tk) hst hpl ht) fun σ H Q h => meth_imp hC h
theorem as_nil {W : WX} {σ : L2.St} {H : Hp} {Q : List V → Hp → Prop} (h : tAs X.K X.mg b.C b.pin .nil W σ H Q) : Q [] H := by
  obtain ⟨π, B, μ, S, hp, s, h⟩ := h
  unfold evalAs at h
  exact h [] B H S (fun _ => False) s (by unfold RAs; exact ⟨rfl, fun _ z => z⟩) (fun _ z => z.elim) ((Step.refl B H S).weak (fun _ z => z) fun _ z => z.elim id False.elim) fun _ => Ex.refl H
theorem me_meth0 {c : Str} {C : Addr} {k g : Nat} {oo : Bool} {f : Addr} {fd : FuncData} {ps : List Str} {pl : Sem Bool} (hC : X.mg c = some (.ref C)) (hc : Cls X.K C) (hm : Meth X.K C m f) (G : FnOk X.prog X.w X.K X.mg X.base (L2.CX X.prog X.w) k f fd ps (spF X.K X.mg (b.C g))) (hr : Room k X.A) (hb : Binds X.K fd ps [])
    (hx : MP b X o p)
    (ht : eval (.Call (.Attribute o m apos) [] [] pos) X.env = (do
      let ov ← eval o X.env
      standAt apos.atName
      let (f, first) ← holding [ov] (getMethod ov m pl)
      callWith pos f first (backTo pos (starEach [] X.env)) (backToKw pos (keywordEach [] X.env))) := by rfl) :
    ME b X (.Call (.Attribute o m apos) [] [] pos) (.meth oo c m g p .nil) := fun W tk =>
  PE.imp (pe_methW0 hx hc hm G hr hb (fun σ => passAt tk σ) ht) fun σ H Q h => by
    obtain ⟨π, B, μ, S, hp, s, pl, e, k⟩ := meth_imp hC h
    refine ⟨π, B, μ, S, hp, s, pl, e, fun v B' H' ps hv => ?_⟩
    obtain ⟨a, dx, fs, k1, k2, k3, k4⟩ := k v B' H' ps hv
    exact ⟨a, dx, fs, k1, k2, k3, as_nil k4⟩
/-! ### new instances -/
theorem RAs.ext {K : PySem.W.Frag} {mg : Str → Option Value} {fl : Bool} {σ : L2.St} {B1 H1 H2 : Hp} (ex2 : Ex H1 H2) : ∀ {ags : List Ag} {vs : List V} {T : ASet}, RAs K mg fl σ B1 H1 ags vs T → RAs K mg fl σ B1 H2 ags vs T
  | [], _, _, z => by unfold RAs at *; exact z
  | .val m :: ags, _, _, z => by
    unfold RAs at *
    obtain ⟨v, r', T1, T2, rfl, h1, h2, h3, h4⟩ := z
    have o1 := h1.owned
    refine ⟨v, r', T1, T2, rfl, h1.congr (Ex.refl _) fun a z => ⟨?_, (o1 a z).2⟩, h2.ext ex2, h3, h4⟩
    cases w : H1 a with
    | none => exact absurd w (o1 a z).1
    | some u => exact ex2 a u w
  | .ref pl :: ags, _, _, z => by
    unfold RAs at *
    obtain ⟨v, r', h0, h1, h2⟩ := z
    exact ⟨v, r', h0, fun z => (h1 z).mono ex2, h2.ext ex2⟩
theorem run_makeW {CX : CXT} {k : Nat} {f C : Addr} {fd : FuncData} {ps : List Str} {sp : Sp} {E : L2.St → XK} {pins : List (Addr × Obj)} {σ : L2.St} {H : Hp} {s : Shared} {Q : VK} {us : List Value} {vs : List V} (M : Mk X.K C f) (F : FnOk X.prog X.w X.K X.mg X.base CX k f fd ps sp) (hr : Room (k + 1) X.A) (hb : Binds X.K fd ps [])
    (hx : ∀ σ, PassesAt CX X σ (E σ)) (I : Inv X pins σ H s) (r : Vals vs us)
    (h : ∀ x dx, H x = none → H dx = none → dx ≠ x → sp (.ref x :: vs) (upd (upd H dx (.own x)) x (.ins C dx [])) (fun v H2 => v = .non ∧ Q (.ref x) H2) (E σ)) :
    wpAny (model X.prog X.w) X.A (call (.ref C) us) (EP X pins σ Q) X.xe s := by
  have hq := h (s.heap.objs.size + 1) s.heap.objs.size (I.hok.fresh (Nat.le_succ _)) (I.hok.fresh (Nat.le_refl _)) (Nat.ne_of_lt (Nat.lt_succ_self _))
  have I2 := Inv.made (C := C) I
  have r2 : Vals (V.ref (s.heap.objs.size + 1) :: vs) (Value.ref (s.heap.objs.size + 1) :: us) := .cons rfl r
  have hl : (Value.ref (s.heap.objs.size + 1) :: us ++ []).length = ps.length := by
    have e := r2.length
    rw [F.len _ _ _ _ hq] at e
    rw [List.append_nil]
    exact e.symm
  have bb := hb _ (Value.ref (s.heap.objs.size + 1) :: us) I2.kIn hl
  rw [List.append_nil] at bb
  refine wpAny_call (make_map (f := f) I.kIn M.makes M.init (beq_iff_eq.mp M.fn) (codeAny_mono (F.run _ X.stack _ _ ⟨Value.ref (s.heap.objs.size + 1) :: us, []⟩ (Value.ref (s.heap.objs.size + 1) :: us) _ _ (E σ) (hr.make C us [])
    (I2.env0.make C us []) bb r2 hq) fun r s' hq' => ?_))
  cases r with
  | error e => exact hx σ pins _ _ e s' I2 hq'
  | ok fl =>
    cases fl with
    | ret u =>
      obtain ⟨v, H', I3, rv, ev, q3⟩ := I2.after hq'
      subst ev
      exact ⟨rv, ⟨V.ref (s.heap.objs.size + 1), H', I3, rfl, q3⟩⟩
    | next => exact False.elim hq'
    | brk => exact False.elim hq'
    | cont => exact False.elim hq'
def tMakeW (C : Addr) (sp : Sp) (E : L2.St → XK) (t : TA) : TE := fun σ H Q => t σ H fun vs H1 => ∀ x dx, H1 x = none → H1 dx = none → dx ≠ x →
  sp (.ref x :: vs) (upd (upd H1 dx (.own x)) x (.ins C dx [])) (fun v H2 => v = .non ∧ Q (.ref x) H2) (E σ)
theorem pe_makeW {CX : CXT} {k : Nat} {f C : Addr} {fd : FuncData} {ps : List Str} {sp : Sp} {E : L2.St → XK} {e : Expr} {t : TA} (M : Mk X.K C f) (F : FnOk X.prog X.w X.K X.mg X.base CX k f fd ps sp) (hr : Room (k + 1) X.A) (hg : Gl X n) (hm : X.mg n = some (.ref C)) (hb : Binds X.K fd ps []) (hx : ∀ σ, PassesAt CX X σ (E σ))
    (ha : PA X (e :: xs) t) (hdb : (n == ("__debug__" : Str)) = false := by decide) (he : starEach (e :: xs) X.env = (false, eval e X.env) :: starEach xs X.env := by rfl) (hpl : (backTo pos (starEach xs X.env)).any (·.1) = false := by rfl) :
    PE X (.Call (.Name n ppos) (e :: xs) [] pos) (tMakeW C sp E t) := by
  refine ⟨fun pins s σ H Q I h => ?_⟩
  refine wpAny_Call_Name_kw (ld_glob I hg hm ?_ hdb)
  refine PySem.W.callWith_K (h₀ := X.base) I.ok.mod.kin M.kp (thn (ha.run pos pins s σ H _ I h) fun us s1 ⟨vs, H1, I1, r, q⟩ => ⟨I1.kIn, ?_⟩) he hpl
  exact run_makeW M F hr hb hx I1 r q
theorem pe_makeW0 {CX : CXT} {k : Nat} {f C : Addr} {fd : FuncData} {ps : List Str} {sp : Sp} {E : L2.St → XK} (M : Mk X.K C f) (F : FnOk X.prog X.w X.K X.mg X.base CX k f fd ps sp) (hr : Room (k + 1) X.A) (hg : Gl X n) (hm : X.mg n = some (.ref C)) (hb : Binds X.K fd ps []) (hx : ∀ σ, PassesAt CX X σ (E σ))
    (hdb : (n == ("__debug__" : Str)) = false := by decide) : PE X (.Call (.Name n ppos) [] [] pos) (tMakeW C sp E tNil) := by
  refine ⟨fun pins s σ H Q I h => ?_⟩
  refine wpAny_Call_Name_kw (ld_glob I hg hm ?_ hdb)
  exact PySem.W.callWith_K0 I.kIn M.kp (run_makeW (us := []) M F hr hb hx I .nil h)
theorem new_imp {c : Str} {C : Addr} {g : Nat} {W : WX} {σ : L2.St} {H : Hp} {Q : VK} (hm : X.mg c = some (.ref C)) (h : b.tE X (.new c g as) W σ H Q) : tMakeW C (spF X.K X.mg (b.C g)) (WE W) (tAs X.K X.mg b.C b.pin as W) σ H Q := by
  obtain ⟨π, B, μ, S, hp, s, h⟩ := h
  unfold evalE at h
  refine ⟨π, B, μ, S, hp, s, ?_⟩
  cases q : evalAs b.C b.pin as μ with
  | stuck => rw [q] at h; exact h
  | err c μ' => rw [q] at h; exact h
  | ok ags μ1 =>
    rw [q] at h
    intro vs B1 H1 S1 T s1 r1 d1 x1 u1 x dx hxn hdn hne
    have h := h.mono x1 (fun _ z => z) fun z => nomatch z
    dsimp only [Out.bind] at h
    split at h
    rotate_left
    · exact h.elim
    rename_i gg
    obtain ⟨g1, g2⟩ := (Bool.and_eq_true _ _).mp gg
    cases e : argMs ags μ1 with
    | none => rw [e] at h; exact h.elim
    | some ms =>
      rw [e] at h
      dsimp only at h
      -- the two new objects
      have hx2 : (upd H1 dx (.own x)) x = none := by rw [upd_ne (fun z => hne z.symm)]; exact hxn
      generalize hH2 : upd (upd H1 dx (.own x)) x (.ins C dx []) = H2
      have ex2 : Ex H1 H2 := by rw [← hH2]; exact (Ex.new hdn).trans (Ex.new hx2)
      have st2 : Step B1 H1 (fun a => S1 a ∨ T a) B1 H2 (fun a => (S1 a ∨ T a) ∨ a = x) := by
        rw [← hH2]
        have y1 : Step B1 H1 (fun a => S1 a ∨ T a) B1 (upd H1 dx (.own x)) (fun a => S1 a ∨ T a) := (Step.new hdn).weak (fun _ z => z) fun _ z => .inl z
        exact y1.trans (Step.new hx2)
      have s2 : Stt X.K X.mg π B1 H2 σ μ1 S1 := by rw [← hH2]; exact (s1.new hdn).new hx2
      have own1 : ∀ a, (S1 a ∨ T a) → H1 a ≠ none ∧ B1 a = none := fun a z => z.elim (s1.owned a) (r1.owned a)
      have r2 : RAs X.K X.mg as.vals σ B1 H2 ags vs T := by
        exact r1.ext ex2
      have xB : B1 x = none := s1.sub.none hxn
      have hx3 : H2 x = some (.ins C dx []) := by rw [← hH2]; exact upd_same
      have nx : ∀ a, (S1 a ∨ T a) → a ≠ x := fun a z w => (own1 a z).1 (by rw [w]; exact hxn)
      obtain ⟨A, k1, k2, k3, k4⟩ := refs_ok s2 r2 d1 g1 ((Bool.or_eq_true _ _).mp g2) e
      have rx : RepM X.K X.mg B1 H2 (.ins c [] []) (.ref x) fun a => a = x := by
        unfold RepM
        refine ⟨x, [], fun _ => False, rfl, ⟨⟨C, dx, hm, hx3⟩, rfl⟩, xB, by unfold RepMs; exact ⟨rfl, fun _ z => z⟩, fun z => z, fun a => ⟨.inl, fun z => z.elim id False.elim⟩⟩
      refine ⟨B1, fun a => a = x ∨ A a, .ins c [] [] :: ms, s2.sub, by unfold RepMs; exact ⟨_, vs, _, A, rfl, rx, k1, fun a z w => nx a (k2 a w) z, fun _ => Iff.rfl⟩, ?_⟩
      have own : ∀ a, (S1 a ∨ T a) → H2 a ≠ none ∧ B1 a = none := fun a z => ⟨by
        cases w : H1 a with
        | none => exact absurd w (own1 a z).1
        | some u => rw [ex2 a u w]; simp, (own1 a z).2⟩
      have ownx : H2 x ≠ none := by rw [hx3]; simp
      have fin : ∀ {B' H' : Hp} {S' So T' : ASet}, Step B1 H2 (fun a => a = x ∨ A a) B' H' (fun a => So a ∨ T' a) → (∀ a, S' a → (S1 a ∧ ¬ A a) ∨ So a) → Step B1 H1 (fun a => S1 a ∨ T a) B' H' (fun a => S' a ∨ T' a) := fun {B' H' S' So T'} y hS' => by
        have y1 := y.frame (F := fun a => (S1 a ∨ T a) ∧ ¬ A a) fun a z => ⟨fun w => w.elim (nx a z.1) z.2, (own a z.1).1⟩
        have y2 : Step B1 H2 (fun a => (S1 a ∨ T a) ∨ a = x) B' H' (fun a => (So a ∨ T' a) ∨ ((S1 a ∨ T a) ∧ ¬ A a)) := y1.weak (fun a z => z.elim (fun z => z.elim (fun z => .inr z) fun z => .inl (k2 a z)) fun z => .inl z.1) fun _ z => z
        refine (st2.trans y2).weak (fun _ z => z) fun a z => ?_
        rcases z with z | z
        · exact (hS' a z).elim (fun z => .inr ⟨.inl z.1, z.2⟩) fun z => .inl (.inl z)
        · exact .inl (.inr z)
      cases ec : b.C g (.ins c [] [] :: ms) with
      | stuck => rw [ec] at h; exact h.elim
      | err c' outs =>
        rw [ec] at h
        intro B' H' So sub y ho C' hC'
        cases outs with
        | nil => exact h.elim
        | cons o1 outs =>
          cases eb : backAs ags outs μ1 with
          | none => simp only [newEnd, eb] at h; exact h.elim
          | some μ' =>
            simp only [newEnd, eb] at h
            have ho2 : ∃ T2, OutRep X.K X.mg B' H' outs vs T2 ∧ ∀ a, T2 a → So a := by
              cases o1 with
              | none => exact ⟨So, ho, fun _ z => z⟩
              | some m1 =>
                obtain ⟨_, _, T4, _, _, ho2, _, ho4⟩ := ho
                exact ⟨T4, ho2, fun a z => (ho4 a).mpr (.inr z)⟩
            obtain ⟨T2, ho2, hT2⟩ := ho2
            obtain ⟨S', s', hS'⟩ := k4 B' H' outs T2 μ' y.ex sub (fun a z n => let w := y.apart (fun w => w.elim (nx a z) n) (own a z).1 (own a z).2; ⟨w.2.2, w.2.1⟩) ho2 (fun a z w => (y.ow a (hT2 a z)).elim (fun q => q.elim (fun q => absurd q (nx a (.inl w))) id) fun z => absurd z (own a (.inl w)).1) eb
            have y1 := fin (T' := fun _ => False) (So := So) (S' := S') (y.weak (fun _ z => z) fun a z => z.elim id False.elim) fun a z => (hS' a z).imp id (hT2 a)
            exact h B' H' S' s' (y1.weak (fun _ z => z) fun _ z => .inl z) C' hC'
      | ok m outs =>
        rw [ec] at h
        intro v B' H' So T' sub ho rm dj y
        cases outs with
        | nil => cases m with
          | dat d => cases d <;> exact h.elim
          | _ => exact h.elim
        | cons o1 outs =>
          cases o1 with
          | none => cases m with
            | dat d => cases d <;> exact h.elim
            | _ => exact h.elim
          | some m1 =>
            cases m with
            | dat d =>
              cases d with
              | non =>
                obtain ⟨v1, U1, U2, hh, ho1, ho2, ho3, ho4⟩ := ho
                cases hh
                refine ⟨rep_non (repM_dat.mp rm).1, ?_⟩
                cases eb : backAs ags outs μ1 with
                | none => simp only [newEnd, eb] at h; exact h.elim
                | some μ' =>
                  simp only [newEnd, eb] at h
                  obtain ⟨S', s', hS'⟩ := k4 B' H' outs U2 μ' y.ex sub (fun a z n => let w := y.apart (fun w => w.elim (nx a z) n) (own a z).1 (own a z).2; ⟨w.2.2, w.2.1⟩) ho2 (fun a z w => (y.ow a (.inl ((ho4 a).mpr (.inr z)))).elim (fun q => q.elim (fun q => absurd q (nx a (.inl w))) id) fun z => absurd z (own a (.inl w)).1) eb
                  have y1 := fin (T' := U1) (So := So) (S' := S') (y.weak (fun _ z => z) fun a z => z.elim .inl fun z => .inl ((ho4 a).mpr (.inl z))) fun a z => (hS' a z).imp id fun z => (ho4 a).mpr (.inr z)
                  refine h (.ref x) B' H' S' U1 s' ho1 (fun a z w => ?_) y1 fun z => nomatch z
                  rcases hS' a w with w | w
                  · rcases y.ow a (.inl ((ho4 a).mpr (.inl z))) with q | q
                    · exact q.elim (nx a (.inl w.1)) w.2
                    · exact (own a (.inl w.1)).1 q
                  · exact ho3 a z w
              | _ => exact h.elim
            | _ => exact h.elim
theorem me_new {C : Addr} {k g : Nat} {f : Addr} {fd : FuncData} {ps : List Str} (M : Mk X.K C f) (G : FnOk X.prog X.w X.K X.mg X.base (L2.CX X.prog X.w) k f fd ps (spF X.K X.mg (b.C g))) (hr : Room (k + 1) X.A) (hg : Gl X n) (hm : X.mg n = some (.ref C)) (hb : Binds X.K fd ps [])
    (ha : MAs b X (x :: xs) as) (hdb : (n == ("__debug__" : Str)) = false := by decide) (he : starEach (x :: xs) X.env = (false, eval x X.env) :: starEach xs X.env := by rfl) (hpl : (backTo pos (starEach xs X.env)).any (·.1) = false := by rfl) :
    ME b X (.Call (.Name n ppos) (x :: xs) [] pos) (.new n g as) := fun W tk => PE.imp (pe_makeW M G hr hg hm hb (fun σ => passAt tk σ) (ha W tk) hdb he hpl) fun σ H Q h => new_imp hm h
theorem me_new0 {C : Addr} {k g : Nat} {f : Addr} {fd : FuncData} {ps : List Str} (M : Mk X.K C f) (G : FnOk X.prog X.w X.K X.mg X.base (L2.CX X.prog X.w) k f fd ps (spF X.K X.mg (b.C g))) (hr : Room (k + 1) X.A) (hg : Gl X n) (hm : X.mg n = some (.ref C)) (hb : Binds X.K fd ps [])
    (hdb : (n == ("__debug__" : Str)) = false := by decide) :
    ME b X (.Call (.Name n ppos) [] [] pos) (.new n g .nil) := fun W tk => PE.imp (pe_makeW0 M G hr hg hm hb (fun σ => passAt tk σ) hdb) fun σ H Q h => as_nil (new_imp hm h)
end
end Mi
/-! Mi14: more operations; stores within. -/
namespace Mi
open PySem L2
section
variable {K : PySem.W.Frag} {mg : Str → Option Value}
/-! ### isinstance of built-in classes -/
def tyD : D → Option String
  | .non => some "NoneType"
  | .bl _ => some "bool"
  | .int _ => some "int"
  | .str _ => some "str"
  | .tup _ => some "tuple"
  | .lst _ => some "list"
  | .dct _ _ => some "dict"
  | _ => none
def isiT (t T : String) : Option Bool := if ["NoneType", "bool", "int", "str", "tuple", "list", "dict"].contains T = true ∧ ["NoneType", "bool", "int", "str", "tuple", "list", "dict"].contains t = true then some (t == T || (t == "bool" && T == "int")) else none
theorem isiT_ok {t T : String} {b : Bool} (h : isiT t T = some b) : kitB t T = some b := by
  unfold isiT at h
  split at h
  · rename_i hh
    obtain ⟨h1, h2⟩ := hh
    have m1 : T = "NoneType" ∨ T = "bool" ∨ T = "int" ∨ T = "str" ∨ T = "tuple" ∨ T = "list" ∨ T = "dict" := by simpa using h1
    have m2 : t = "NoneType" ∨ t = "bool" ∨ t = "int" ∨ t = "str" ∨ t = "tuple" ∨ t = "list" ∨ t = "dict" := by simpa using h2
    have e := Option.some.inj h
    subst e
    clear h h1 h2
    rcases m1 with rfl | rfl | rfl | rfl | rfl | rfl | rfl <;> rcases m2 with rfl | rfl | rfl | rfl | rfl | rfl | rfl <;> decide +kernel
  · cases h
theorem rep_ty {B H : Hp} (e : Ex B H) {d : D} {v : V} {t : String} (r : Rep K mg B d v) (h : tyD d = some t) : TyX K H v (.type t) := by
  cases d with
  | non => cases h; rw [rep_non r]; exact .base .non
  | bl b => cases h; rw [rep_bl r]; exact .base (.bl _)
  | int b => cases h; rw [rep_int r]; exact .base (.int _)
  | str b => cases h; rw [rep_str r]; exact .base (.str _)
  | tup xs =>
    cases h
    obtain ⟨a, vs, rfl, h1, _⟩ := rep_tup r
    rcases e.t h1 with (h | ⟨o, h⟩) | ⟨o, _, _, h, hc, _⟩
    · exact .base (.tup h)
    · exact .fTuple h
    · exact .kTuple h hc
  | lst xs =>
    cases h
    obtain ⟨a, vs, rfl, h1, _⟩ := rep_lst r
    rcases e.l h1 with (h | ⟨o, h⟩) | ⟨o, _, _, h, hc, _⟩
    · exact .base (.lst h)
    · exact .base (.frz h)
    · exact .kList h hc
  | dct ks xs =>
    cases h
    unfold Rep at r
    obtain ⟨a, vs, rfl, h1, _⟩ := r
    rcases e.r h1 with h | ⟨o, h⟩
    · exact .base (.dK h)
    · exact .fDict h
  | ins c ks xs => cases h
  | exc c => cases h
  | adr c => cases h
def fIsi (T : String) : D → Option D := fun d => match tyD d with
  | some t => (isiT t T).map .bl
  | none => none
end
section
variable {b : Bd} {X : Cx} {x y o : Expr} {ex ey e : E} {xs : List Expr} {as : As} {es : Es} {p : Path} {pos ppos apos : Pos} {n m : Str}
theorem me_isi {T : String} {nT : Str} {tpos : Pos} (hg : Gl X "isinstance") (hm : X.mg "isinstance" = none) (hgT : Gl X nT) (hmT : X.mg nT = none) (hvT : bootBuiltins nT = some (.type T)) (hx : ME b X x ex) (hnT : nT ≠ "__name__" := by decide) (hdT : (nT == ("__debug__" : Str)) = false := by decide)
    (hst1 : starEach [x, .Name nT tpos] X.env = (false, eval x X.env) :: starEach [.Name nT tpos] X.env := by rfl) (hst2 : starEach [.Name nT tpos] X.env = (false, eval (.Name nT tpos) X.env) :: starEach [] X.env := by rfl) (hpl : (backTo pos (starEach [.Name nT tpos] X.env)).any (·.1) = false := by rfl) :
    ME b X (.Call (.Name "isinstance" ppos) [x, .Name nT tpos] [] pos) (.op1 (fIsi T) ex) := fun W tk =>
  PE.imp (pe_callB call_isi hg hm PyProof.Rows.boot_isinstance (pa_cons (hx W tk) (pa_cons (pe_bltn hgT hmT hvT (v := .ty T) rfl hnT hdT) pa_nil hst2) hst1) (by decide) (by decide) hst1 hpl) fun σ H Q h => by
    have q := one_imp (X := X) (b := b) (ru := fun v H Q => rIsi X.K [v, .ty T] H Q) (fun B H v d1 d3 Q e r hf k => ?_) h
    · exact q
    · unfold fIsi at hf
      cases ht : tyD d1 with
      | none => rw [ht] at hf; cases hf
      | some t =>
        rw [ht] at hf
        dsimp only at hf
        cases hi : isiT t T with
        | none => rw [hi] at hf; cases hf
        | some bb =>
          rw [hi] at hf
          cases hf
          exact ⟨v, .ty T, .type t, .type T, bb, rfl, .ty T, rep_ty e r ht, kit_ty (isiT_ok hi), k _ B H (PStep.refl e) rep_bl'⟩
/-! ### max, min, abs, int -/
def fMax : List D → Option D
  | [.int i, .int j] => some (.int (if j > i then j else i))
  | _ => none
def fMin : List D → Option D
  | [.int i, .int j] => some (.int (if j < i then j else i))
  | _ => none
def fAbs : List D → Option D
  | [.int i] => some (.int (if i < 0 then -i else i))
  | _ => none
def fInt : List D → Option D
  | [.int i] => some (.int i)
  | [.bl k] => some (.int (if k then 1 else 0))
  | _ => none
theorem imp_max {K : PySem.W.Frag} {mg : Str → Option Value} : ImpN K mg fMax (fun xs H Q => ∃ i j, xs = [.int i, .int j] ∧ Q (.int (if j > i then j else i)) H) := fun B H xs ds d3 Q e r hf k => by
  unfold fMax at hf
  split at hf
  · cases hf
    obtain ⟨v, w, rfl, r1, r2⟩ := repL2 r
    rw [rep_int r1, rep_int r2]
    exact ⟨_, _, rfl, k _ B H (PStep.refl e) rep_int'⟩
  · cases hf
theorem imp_min {K : PySem.W.Frag} {mg : Str → Option Value} : ImpN K mg fMin (fun xs H Q => ∃ i j, xs = [.int i, .int j] ∧ Q (.int (if j < i then j else i)) H) := fun B H xs ds d3 Q e r hf k => by
  unfold fMin at hf
  split at hf
  · cases hf
    obtain ⟨v, w, rfl, r1, r2⟩ := repL2 r
    rw [rep_int r1, rep_int r2]
    exact ⟨_, _, rfl, k _ B H (PStep.refl e) rep_int'⟩
  · cases hf
theorem imp_abs {K : PySem.W.Frag} {mg : Str → Option Value} : ImpN K mg fAbs (fun xs H Q => ∃ i, xs = [.int i] ∧ Q (.int (if i < 0 then -i else i)) H) := fun B H xs ds d3 Q e r hf k => by
  unfold fAbs at hf
  split at hf
  · cases hf
    obtain ⟨v, rfl, r1⟩ := repL1 r
    rw [rep_int r1]
    exact ⟨_, rfl, k _ B H (PStep.refl e) rep_int'⟩
  · cases hf
theorem imp_int {K : PySem.W.Frag} {mg : Str → Option Value} : ImpN K mg fInt (fun xs H Q => (∃ i, xs = [.int i] ∧ Q (.int i) H) ∨ ∃ k, xs = [.bl k] ∧ Q (.int (if k then 1 else 0)) H) := fun B H xs ds d3 Q e r hf k => by
  unfold fInt at hf
  split at hf
  · cases hf
    obtain ⟨v, rfl, r1⟩ := repL1 r
    rw [rep_int r1]
    exact .inl ⟨_, rfl, k _ B H (PStep.refl e) rep_int'⟩
  · cases hf
    obtain ⟨v, rfl, r1⟩ := repL1 r
    rw [rep_bl r1]
    exact .inr ⟨_, rfl, k _ B H (PStep.refl e) rep_int'⟩
  · cases hf
/-! ### list(range(a, b)) -/
instance {a b : Int} : Decidable (RgOk a b) := by unfold RgOk; infer_instance
def rgD (a b : Int) : List D := (List.range (b - a).toNat).map fun i => .int (a + (i : Nat))
def fRgL : List D → Option D
  | [.int a, .int b] => if RgOk a b then some (.lst (rgD a b)) else none
  | _ => none
theorem rgD_rep {K : PySem.W.Frag} {mg : Str → Option Value} {B : Hp} {a b : Int} : RepL K mg B (rgD a b) (rgV a b) := by
  unfold rgD rgV
  generalize List.range (b - a).toNat = l
  induction l with
  | nil => unfold RepL; rfl
  | cons i r ih =>
    show RepL K mg B (.int (a + (i : Nat)) :: _) (.int (a + (i : Nat)) :: _)
    unfold RepL
    exact ⟨_, _, rfl, rep_int', ih⟩
theorem imp_rgL {K : PySem.W.Frag} {mg : Str → Option Value} : ImpNF K mg fRgL (fun xs H Q => ∃ i j, xs = [.int i, .int j] ∧ RgOk i j ∧ ∀ q, H q = none → Q (.ref q) (upd H q (.lst (rgV i j)))) := fun B H xs ds d3 Q e r hf k => by
  unfold fRgL at hf
  split at hf
  · split at hf
    · rename_i a c ok
      cases hf
      obtain ⟨v, w, rfl, r1, r2⟩ := repL2 r
      rw [rep_int r1, rep_int r2]
      exact ⟨_, _, rfl, ok, fun q hq => k q _ hq (.inl ⟨_, _, rfl, rfl, rgD_rep⟩)⟩
    · cases hf
  · cases hf
theorem mf_rgL {p2 pos2 : Pos} (hc : X.calm = true) (hgL : Gl X "list") (hmL : X.mg "list" = none) (hg : Gl X "range") (hm : X.mg "range" = none) (hx : ME b X x ex) (hy : ME b X y ey)
    (na : starEach [.Call (.Name "range" p2) [x, y] [] pos2] X.env = (false, eval (.Call (.Name "range" p2) [x, y] [] pos2) X.env) :: starEach [] X.env := by rfl)
    (n1 : starEach [x, y] X.env = (false, eval x X.env) :: starEach [y] X.env := by rfl) (n2 : starEach [y] X.env = (false, eval y X.env) :: starEach [] X.env := by rfl) (hp : (backTo pos2 (starEach [y] X.env)).any (·.1) = false := by rfl) :
    MF b X (.Call (.Name "list" ppos) [.Call (.Name "range" p2) [x, y] [] pos2] [] pos) (.opN fRgL (.cons ex (.cons ey .nil))) := fun W tk =>
  PE.imp (pe_listRg hc hgL hmL (prg_2 hg hm (hx W tk) (hy W tk) n1 n2 hp) na) fun σ H Q h => by
    have q := es_cons (manyF_imp imp_rgL h)
    obtain ⟨π, B, μ, S, hp, s, k⟩ := q
    refine ⟨π, B, μ, S, hp, s, ?_⟩
    cases q : evalE b.C b.pin ex μ with
    | stuck => rw [q] at k; exact k
    | err c μ' => rw [q] at k; exact k
    | ok m μ' =>
      rw [q] at k
      intro v B' H' S' T s' r' d' x' u'
      obtain ⟨π2, B2, μ2, S2, hp2, s2, k2⟩ := es_cons (k v B' H' S' T s' r' d' x' u')
      refine ⟨π2, B2, μ2, S2, hp2, s2, ?_⟩
      cases q2 : evalE b.C b.pin ey μ2 with
      | stuck => rw [q2] at k2; exact k2
      | err c μ' => rw [q2] at k2; exact k2
      | ok m μ' =>
        rw [q2] at k2
        intro v2 B3 H3 S3 T3 s3 r3 d3 x3 u3
        obtain ⟨i, j, e, ok, w⟩ := es_nil (k2 v2 B3 H3 S3 T3 s3 r3 d3 x3 u3)
        cases e
        exact ⟨i, j, rfl, rfl, ok, w⟩
/-! ### name = [..] -/
theorem tE_tF {W : WX} {σ : L2.St} {H : Hp} {Q : VK} (h : b.tE X e W σ H Q) : b.tF X e W σ H Q := by
  obtain ⟨π, B, μ, S, hp, s, k⟩ := h
  refine ⟨π, B, μ, S, hp, s, ?_⟩
  cases q : evalE b.C b.pin e μ with
  | stuck => rw [q] at k; exact k
  | err c μ' => rw [q] at k; exact k
  | ok m μ' =>
    rw [q] at k
    cases m with
    | dat d =>
      intro p o B' H' S' s' x' u' hp' fr
      have ps := PStep.new s'.sub o hp'
      exact k (.ref p) _ _ S' (fun _ => False) (s'.pure ps) (repM_dat.mpr ⟨fr.rep ps.ex upd_same, fun _ z => z⟩) (fun _ z => z.elim) (x'.trans ((ps.step S').weak (fun _ z => z) fun _ z => z.elim id False.elim)) fun q => (u' q).trans ps.ext
    | _ => trivial
/-- owned at once: the same as me_own's -/
theorem tE_own {W : WX} {σ : L2.St} {H : Hp} {Q : VK} (h : b.tE X (.own e) W σ H Q) : b.tF X e W σ H Q := by
  obtain ⟨π, B, μ, S, hp, s, k⟩ := h
  refine ⟨π, B, μ, S, hp, s, ?_⟩
  unfold evalE at k
  cases q : evalE b.C b.pin e μ with
  | stuck => rw [q] at k; exact k
  | err c μ' => rw [q] at k; exact k
  | ok m μ' =>
    rw [q] at k
    cases m with
    | dat d =>
      intro p o B' H' S' s' x' u' hp' fr
      have bp : B' p = none := s'.sub.none hp'
      have nS : ∀ a, a = p → ¬ S' a := fun a e q => by rw [e] at q; exact (s'.owned p q).1 hp'
      have y : Step B H S B' (upd H' p o) fun a => S' a ∨ a = p := x'.trans (Step.new hp')
      rcases fr with ⟨ds, vs, rfl, rfl, r⟩ | ⟨ks, ds, vs, rfl, rfl, l, r⟩
      · refine k (.ref p) B' _ S' (fun a => a = p) (s'.new hp') ?_ nS y fun q => nomatch q
        show RepM X.K X.mg B' _ (.lst (ds.map .dat)) _ _
        unfold RepM
        exact ⟨p, vs, fun _ => False, rfl, upd_same, bp, repMs_dats r, fun z => z, fun b => ⟨.inl, fun z => z.elim id False.elim⟩⟩
      · refine k (.ref p) B' _ S' (fun a => a = p) (s'.new hp') ?_ nS y fun q => nomatch q
        show RepM X.K X.mg B' _ (.dct ks (ds.map .dat)) _ _
        unfold RepM
        exact ⟨p, vs, fun _ => False, rfl, ⟨upd_same, l⟩, bp, repMs_dats r, fun z => z, fun b => ⟨.inl, fun z => z.elim id False.elim⟩⟩
    | _ => trivial
theorem tG_gName {i : Nat} {v : V} {σ : L2.St} {H : Hp} {Q : L2.St → Hp → Prop} (h : tG X.K X.mg b.pin (.one i) v σ H Q) : gName i v σ H Q := by
  obtain ⟨π, B, μ, S, T, m, hp, np, s, r, d, μ', e, k⟩ := h
  have e : (if i < μ.length then some (μ.set i (some m)) else none) = some μ' := e
  split at e
  · rename_i hl
    cases e
    obtain ⟨S', s', hS⟩ := s.fill hl r d fun p hp' q => np i (by simp [Tg.slots]) (by rw [← q]; exact hp p hp')
    exact k _ S' s' hS fun j hj => List.getElem?_set_ne fun e => hj (by simp [Tg.slots, e])
  · cases e
section
variable {elt tg iter : Expr} {ifs : List Expr} {scope : Scope} {own : List (Str × Nat)} {spos py : Pos} {t : Tg} {f : List D → Option (List D)} {src : Es} {c : E} {i : Nat} {yn : Str}
theorem tAsg_mono {te te' : TE} {g g' : TG} {D : Ends} {σ : L2.St} {H : Hp} (h : tAsg te g D σ H) (k : ∀ σ H Q Q', (∀ v H, Q v H → Q' v H) → te σ H Q → te' σ H Q') (kg : ∀ v σ H Q, g v σ H Q → g' v σ H Q) : tAsg te' g' D σ H :=
  k σ H _ _ (fun v H' q => kg v σ H' _ q) h
theorem ms_setLc (hc : X.calm = true) (hN : X.N.Nodup) (hy : X.N[i]? = some yn) (hyl : X.env.scope.names.lookup yn = some .local)
    (hsw : swapsWith (.ListComp elt [⟨tg, iter, ifs, 0⟩] scope pos) (some (.Name yn py)) spos.line X.env = pure true) (hi : MI b X tg iter f src) (ok : BlkOk X.N X.env.scope scope own)
    (hg : ∀ (s : Shared) (H : Hp) (C : Addr) (cl : List (Str × Addr)) (fp : List Addr), MG b (X.blk s H scope (compEnvC scope cl C X.env) fp) tg t)
    (ht : ∀ (s : Shared) (H : Hp) (C : Addr) (cl : List (Str × Addr)) (fp : List Addr), MTs b (X.blk s H scope (compEnvC scope cl C X.env) fp) ifs c)
    (he : ∀ (s : Shared) (H : Hp) (C : Addr) (cl : List (Str × Addr)) (fp : List Addr), ME b (X.blk s H scope (compEnvC scope cl C X.env) fp) elt e)
    (ow : Bool) (hs : ∀ x, foldedSetIterable iter X.env x = pure x := by intro _; rfl) :
    MS b X (.Assign [.Name yn py] (.ListComp elt [⟨tg, iter, ifs, 0⟩] scope pos) spos) (.set (.one i) (if ow = true then .own (.comp false (own.map (·.2)) t f src c e) else .comp false (own.map (·.2)) t f src c e)) := fun W tk =>
  PS.imp (ps_setLc (g := tG X.K X.mg b.pin t) hc hN hy hyl hsw (hi W tk) ok (fun s H C cl fp => hg s H C cl fp) (fun s H C cl fp => ht s H C cl fp _ takes0) (fun s H C cl fp => he s H C cl fp _ takes0) hs) fun D σ H h => by
    have h1 := set_imp h
    cases ow with
    | true =>
      have h2 : b.tE X (.own (.comp false (own.map (·.2)) t f src c e)) W σ H (fun x H1 => tG X.K X.mg b.pin (.one i) x σ H1 D.nx) := h1
      have h3 : b.tE X (.own (.comp false (own.map (·.2)) t f src c e)) W σ H (fun x H1 => gName i x σ H1 D.nx) := by
        obtain ⟨π, B, μ, S, hp, s, k⟩ := h2
        refine ⟨π, B, μ, S, hp, s, ?_⟩
        cases q : evalE b.C b.pin (.own (.comp false (own.map (·.2)) t f src c e)) μ with
        | stuck => rw [q] at k; exact k
        | err c μ' => rw [q] at k; exact k
        | ok m μ' => rw [q] at k; exact fun v B' H' S' T s' r' d' x' u' => tG_gName (k v B' H' S' T s' r' d' x' u')
      exact comp_imp (tE_own h3)
    | false =>
      have h2 : b.tE X (.comp false (own.map (·.2)) t f src c e) W σ H (fun x H1 => tG X.K X.mg b.pin (.one i) x σ H1 D.nx) := h1
      have h3 : b.tE X (.comp false (own.map (·.2)) t f src c e) W σ H (fun x H1 => gName i x σ H1 D.nx) := by
        obtain ⟨π, B, μ, S, hp, s, k⟩ := h2
        refine ⟨π, B, μ, S, hp, s, ?_⟩
        cases q : evalE b.C b.pin (.comp false (own.map (·.2)) t f src c e) μ with
        | stuck => rw [q] at k; exact k
        | err c μ' => rw [q] at k; exact k
        | ok m μ' => rw [q] at k; exact fun v B' H' S' T s' r' d' x' u' => tG_gName (k v B' H' S' T s' r' d' x' u')
      exact comp_imp (tE_tF h3)
end
/-! ### stores within -/
/-- an expression that is a statement, by what follows it -/
theorem expr_imp {W : WX} {D : Ends} {σ : L2.St} {H : Hp} (h : tS b X.K X.mg (.expr e) W D σ H) : b.tE X e W σ H fun _ H1 => D.nx σ H1 := by
  obtain ⟨π, B, μ, S, hp, st, h⟩ := h
  have h : PostS X.K X.mg π B H S W D (execS b.sub b.C b.pin b.N (.expr e) μ) := h
  unfold execS at h
  exact bindS hp st h fun m μ1 v B1 H1 S1 T s1 r1 d1 x1 h1 _ => h1 B1 H1 σ S1 s1 (Step.refl _ _ _)
theorem tE_mono {W : WX} {σ : L2.St} {H : Hp} {Q Q' : VK} (h : b.tE X e W σ H Q) (k : ∀ v H, Q v H → Q' v H) : b.tE X e W σ H Q' := by
  obtain ⟨π, B, μ, S, hp, s, h⟩ := h
  refine ⟨π, B, μ, S, hp, s, ?_⟩
  cases q : evalE b.C b.pin e μ with
  | stuck => rw [q] at h; exact h
  | err c μ' => rw [q] at h; exact h
  | ok m μ' => rw [q] at h; exact fun v B' H' S' T s' r' d' x' u' => k _ _ (h v B' H' S' T s' r' d' x' u')
theorem tP_mono {σ : L2.St} {H : Hp} {Q Q' : VK} (h : tP X.K X.mg b.C b.pin p σ H Q) (k : ∀ v H, Q v H → Q' v H) : tP X.K X.mg b.C b.pin p σ H Q' := by
  obtain ⟨π, B, μ, S, hp, s, pl, e, h⟩ := h
  exact ⟨π, B, μ, S, hp, s, pl, e, fun v B' H' ps hv => k _ _ (h v B' H' ps hv)⟩
theorem es_one {W : WX} {σ : L2.St} {H : Hp} {Q : List V → Hp → Prop} (h : b.tEs X (.cons e .nil) W σ H Q) : b.tE X e W σ H fun v H1 => Q [v] H1 :=
  tE_mono (es_cons h) fun v H1 q => es_nil q
/-- o.f = e -/
def setFld (n : Str) (m : M) : List Str → List M → List Str × List M
  | k :: ks, x :: xs => if k = n then (k :: ks, m :: xs) else let r := setFld n m ks xs; (k :: r.1, x :: r.2)
  | _, _ => ([n], [m])
def fSetFld (c n : Str) : M → List M → Option (M × M)
  | .ins c' ks xs, [m] => if c' = c ∧ ks.length < 1000 then let r := setFld n m ks xs; some (.ins c r.1 r.2, .dat .non) else none
  | _, _ => none
theorem setFld_ok {K : PySem.W.Frag} {mg : Str → Option Value} {B H : Hp} {n : Str} {m : M} {v : V} {U : ASet} (rm : RepM K mg B H m v U) : ∀ {ks : List Str} {xs : List M} {vs : List V} {A : ASet}, ks.length = vs.length → RepMs K mg B H xs vs A → (∀ a, U a → ¬ A a) →
    ∃ ws A', RepMs K mg B H (setFld n m ks xs).2 ws A' ∧ (setFld n m ks xs).1.length = ws.length ∧ putF n v (ks.zip vs) = (setFld n m ks xs).1.zip ws ∧ ∀ a, A' a → A a ∨ U a
  | [], xs, vs, A, l, h, d => by
    have e : vs = [] := List.eq_nil_of_length_eq_zero (by simpa using l.symm)
    subst e
    have hx : xs = [] := List.eq_nil_of_length_eq_zero (by have := repMs_len h; simpa using this)
    subst hx
    refine ⟨[v], U, ?_, rfl, rfl, fun a z => .inr z⟩
    show RepMs K mg B H [m] [v] U
    unfold RepMs RepMs
    exact ⟨v, [], U, fun _ => False, rfl, rm, ⟨rfl, fun _ z => z⟩, fun _ _ z => z, fun a => ⟨.inl, fun z => z.elim id False.elim⟩⟩
  | k :: ks, [], vs, A, l, h, d => by
    have := repMs_len h
    have e : vs = [] := List.eq_nil_of_length_eq_zero (by simpa using this.symm)
    subst e
    simp at l
  | k :: ks, x :: xs, vs, A, l, h, d => by
    unfold RepMs at h
    obtain ⟨w, r, T1, T2, rfl, h1, h2, h3, h4⟩ := h
    by_cases e : k = n
    · have e1 : setFld n m (k :: ks) (x :: xs) = (k :: ks, m :: xs) := by show (if k = n then _ else _) = _; rw [if_pos e]
      rw [e1]
      refine ⟨v :: r, fun a => U a ∨ T2 a, ?_, by simpa using l, ?_, fun a z => z.elim .inr fun z => .inl ((h4 a).mpr (.inr z))⟩
      · unfold RepMs
        exact ⟨v, r, U, T2, rfl, rm, h2, fun a z w => d a z ((h4 a).mpr (.inr w)), fun _ => Iff.rfl⟩
      · show (if k = n then (k, v) :: ks.zip r else (k, w) :: putF n v (ks.zip r)) = _
        rw [if_pos e]; rfl
    · have e1 : setFld n m (k :: ks) (x :: xs) = (k :: (setFld n m ks xs).1, x :: (setFld n m ks xs).2) := by show (if k = n then _ else _) = _; rw [if_neg e]
      rw [e1]
      obtain ⟨ws, A', k1, k2, k3, k4⟩ := setFld_ok (n := n) rm (by simpa using l) h2 fun a z w => d a z ((h4 a).mpr (.inr w))
      refine ⟨w :: ws, fun a => T1 a ∨ A' a, ?_, by simpa using k2, ?_, fun a z => z.elim (fun z => .inl ((h4 a).mpr (.inl z))) fun z => (k4 a z).imp (fun z => (h4 a).mpr (.inr z)) id⟩
      · unfold RepMs
        exact ⟨w, ws, T1, A', rfl, h1, k1, fun a z w => (k4 a w).elim (h3 a z) fun u => d a u ((h4 a).mpr (.inl z)), fun _ => Iff.rfl⟩
      · show (if k = n then _ else (k, w) :: putF n v (ks.zip r)) = _
        rw [if_neg e, k3]; rfl
theorem repMs_two {K : PySem.W.Frag} {mg : Str → Option Value} {B H : Hp} {ms : List M} {vs : List V} {U : ASet} {v : V} (h : RepMs K mg B H ms vs U) (e : vs = [v]) : ∃ m, ms = [m] ∧ RepM K mg B H m v U := by
  subst e
  have l := repMs_len h
  match ms, l with
  | [m], _ =>
    obtain ⟨w, e, r⟩ := repMs_one h
    cases e
    exact ⟨m, rfl, r⟩
theorem mut_setFld {K : PySem.W.Frag} {mg : Str → Option Value} {c : Str} {C : Addr} (hC : mg c = some (.ref C)) : MutOk K mg (fSetFld c n) fun us v vs H Q => ∀ y, us = [y] → vs = [] → ∃ a dx fs, v = .ref a ∧ H a = some (.ins C dx fs) ∧ fs.length < 1000 ∧ Q .non (upd H a (.ins C dx (putF n y fs))) := fun B H m v T ws ms us vs U0 U m' d Q e rm r0 r1 d1 d2 d3 hf k y hu hv => by
  obtain ⟨m1, rfl, ry⟩ := repMs_two r0 hu
  obtain ⟨rfl, n1⟩ := repMs_nil r1 hv
  unfold fSetFld at hf
  split at hf
  · rename_i c' ks xs m2 hws
    have em : m1 = m2 := by simpa using hws
    subst em
    split at hf
    · rename_i hh
      obtain ⟨rfl, hl⟩ := hh
      cases hf
      unfold RepM at rm
      obtain ⟨a, zs, A, rfl, ⟨⟨C', dx, hC', ho⟩, hkl⟩, hB, h4, h5, h6⟩ := rm
      rw [hC] at hC'
      cases hC'
      have nU : ∀ b, U0 b → b ≠ a := fun b z w => d2 b ((h6 b).mpr (.inl w)) z
      have nA : ∀ b, A b → b ≠ a := fun b z w => h5 (by rw [← w]; exact z)
      obtain ⟨us', A', k1, k2, k3, k4⟩ := setFld_ok (n := n) ry hkl h4 fun b z w => d2 b ((h6 b).mpr (.inr w)) z
      have own : ∀ b, A' b → b ≠ a ∧ B b = none := fun b z => (k4 b z).elim (fun z => ⟨nA b z, (h4.owned b z).2⟩) fun z => ⟨nU b z, (ry.owned b z).2⟩
      refine ⟨a, dx, _, rfl, ho, by rw [List.length_zip]; omega, ?_⟩
      rw [k3]
      refine k .non B _ (fun b => b = a ∨ A' b) (fun _ => False) ((step_upd (.inl ((h6 a).mpr (.inl rfl)))).weak (fun _ z => z) fun b z => ?_) (fun b o z => ?_) ?_ (repM_dat.mpr ⟨by unfold Rep; rfl, fun _ z => z⟩) fun _ _ z => z
      · rcases z with (z | z) | z
        · exact .inl ((h6 b).mpr (.inl z))
        · exact (k4 b z).elim (fun z => .inl ((h6 b).mpr (.inr z))) fun z => .inr (.inr z)
        · exact z.elim
      · rw [upd_ne fun w => by rw [w, hB] at z; cases z]; exact e b o z
      · unfold RepM
        exact ⟨a, us', A', rfl, ⟨⟨C, dx, hC, upd_same⟩, k2⟩, hB, k1.congr (Ex.refl B) fun b z => ⟨upd_ne (own b z).1, (own b z).2⟩, fun z => (own a z).1 rfl, fun b => Iff.rfl⟩
    · cases hf
  · cases hf
theorem ms_setFld {c : Str} {C : Addr} {pos' : Pos} (hC : X.mg c = some (.ref C)) (hc : Cls X.K C) (hn : NoAttr X.K C n) (ho : MP b X o p) (hv : ME b X x e) (hs : swapsWith x (some (.Attribute o n pos')) pos.line X.env = pure false := by rfl) :
    MS b X (.Assign [.Attribute o n pos'] x pos) (.expr (.mut 2 (fSetFld c n) (.cons e .nil) p .nil)) := fun W tk => PS.imp (ps_fld ho (hv W tk) hs) fun D σ H h => by
  have h1 := es_one (mut_ok (mut_setFld (n := n) hC) (expr_imp h))
  refine tE_mono h1 fun y H1 q => tP_mono q fun v H2 q2 => ?_
  obtain ⟨a, dx, fs, k1, k2, k3, k4⟩ := es_nil q2.2 y rfl rfl
  exact ⟨a, C, dx, fs, k1, k2, hc, hn, k3, k4⟩
/-- x[i] = e, x a list -/
def fSetIx : M → List M → Option (M × M)
  | .lst ms, [m, .dat (.int i)] => (ixN ms.length i).map fun j => (.lst (ms.set j m), .dat .non)
  | _, _ => none
theorem mut_setIx {K : PySem.W.Frag} {mg : Str → Option Value} : MutOk K mg fSetIx fun us v vs H Q => ∀ y z, us = [y] → vs = [z] → rSetL v z y H fun H' => Q .non H' := fun B H m v T ws ms us vs U0 U m' d Q e rm r0 r1 d1 d2 d3 hf k y z hu hv => by
  obtain ⟨m1, rfl, ry⟩ := repMs_two r0 hu
  obtain ⟨m2, rfl, rz⟩ := repMs_two r1 hv
  unfold fSetIx at hf
  split at hf
  · rename_i xs m3 i hws
    have em : m1 = m3 ∧ m2 = .dat (.int i) := by simpa using hws
    obtain ⟨rfl, rfl⟩ := em
    cases hj : ixN xs.length i with
    | none => rw [hj] at hf; cases hf
    | some j =>
      rw [hj] at hf
      cases hf
      have ez := rep_int (repM_dat.mp rz).1
      subst ez
      unfold RepM at rm
      obtain ⟨a, zs, A, rfl, ho, hB, h4, h5, h6⟩ := rm
      have hl := repMs_len h4
      have hjl : j < xs.length := (ixN_seq hj).2.1
      refine ⟨a, zs, i, j, rfl, rfl, ho, by rw [← hl]; exact hj, ?_⟩
      obtain ⟨w, Ti, k1, k2, k3, k4⟩ := h4.at (i := j) (m := xs[j]) (by simp [hjl])
      have nU : ∀ b, U0 b → b ≠ a := fun b z w => d2 b ((h6 b).mpr (.inl w)) z
      have nA : ∀ b, A b → b ≠ a := fun b z w => h5 (by rw [← w]; exact z)
      obtain ⟨Tn, q1, q2⟩ := k4 B (upd H a (.lst (zs.set j y))) m1 y U0 (Ex.refl B) (fun b z n => ⟨upd_ne (nA b z), (h4.owned b z).2⟩) (ry.congr (Ex.refl B) fun b z => ⟨upd_ne (nU b z), (ry.owned b z).2⟩) fun b z w => absurd z (d2 b ((h6 b).mpr (.inr w)))
      have own : ∀ b, Tn b → b ≠ a := fun b z => ((q2 b).mp z).elim (fun z => nA b z.1) (nU b)
      refine k .non B _ (fun b => b = a ∨ Tn b) (fun _ => False) ((step_upd (.inl ((h6 a).mpr (.inl rfl)))).weak (fun _ z => z) fun b z => ?_) (fun b o z => ?_) ?_ (repM_dat.mpr ⟨by unfold Rep; rfl, fun _ z => z⟩) fun _ _ z => z
      · rcases z with (z | z) | z
        · exact .inl ((h6 b).mpr (.inl z))
        · exact ((q2 b).mp z).elim (fun z => .inl ((h6 b).mpr (.inr z.1))) fun z => .inr (.inr z)
        · exact z.elim
      · rw [upd_ne fun w => by rw [w, hB] at z; cases z]; exact e b o z
      · unfold RepM
        exact ⟨a, zs.set j y, Tn, rfl, upd_same, hB, q1, fun z => own a z rfl, fun b => Iff.rfl⟩
  · cases hf
theorem ms_setIx {tpos : Pos} (ho : MP b X o p) (hi : ME b X y ey) (hv : ME b X x e) (hs : swapsWithSole [.Subscript o y tpos] x pos.line X.env = pure false := by rfl) (hw : swappedStores [.Subscript o y tpos] x X.env = pure none := by rfl)
    (h1 : (assignEach [.Subscript o y tpos] X.env).map (·.2) = [assign (.Subscript o y tpos) X.env] := by rfl)
    (ha : ∀ v, assign (.Subscript o y tpos) X.env v = (do
      let ov ← holding [v] (eval o X.env)
      let iv ← holding [v, ov] (eval y X.env)
      standAt tpos
      holding [v, ov, iv] (setItem ov iv v)
      release [v, ov, iv] []) := by intro _; rfl) :
    MS b X (.Assign [.Subscript o y tpos] x pos) (.expr (.mut 0 fSetIx (.cons e .nil) p (.cons ey .nil))) := fun W tk => PS.imp (ps_asg (hv W tk) (pg_sub ho (hi W tk) set_list ha) hs hw h1) fun D σ H h => by
  have h1 := es_one (mut_ok mut_setIx (expr_imp h))
  refine tE_mono h1 fun y H1 q => tP_mono q fun v H2 q2 => ?_
  exact tE_mono (es_one q2.2) fun z H3 q3 => q3 y z rfl rfl
/-- x.pop() -/
def fPop : M → List M → Option (M × M)
  | .lst ms, [] => (ms[ms.length - 1]?).map fun m => (.lst ms.dropLast, m)
  | _, _ => none
theorem repMs_last {K : PySem.W.Frag} {mg : Str → Option Value} {B H : Hp} : ∀ {ms : List M} {vs : List V} {T : ASet} {m : M}, RepMs K mg B H ms vs T → ms[ms.length - 1]? = some m → ∃ v T1 T2, vs[vs.length - 1]? = some v ∧ RepMs K mg B H ms.dropLast vs.dropLast T1 ∧ RepM K mg B H m v T2 ∧ (∀ a, T1 a → ¬ T2 a) ∧ ∀ a, T a ↔ T1 a ∨ T2 a
  | [], vs, T, m, h, e => by simp at e
  | [m0], vs, T, m, h, e => by
    have e' : m0 = m := by simpa using e
    subst e'
    obtain ⟨v, rfl, r⟩ := repMs_one h
    exact ⟨v, fun _ => False, T, rfl, by show RepMs K mg B H [] [] _; unfold RepMs; exact ⟨rfl, fun _ z => z⟩, r, fun _ z => z.elim, fun a => ⟨.inr, fun z => z.elim False.elim id⟩⟩
  | m0 :: m1 :: ms, vs, T, m, h, e => by
    have h' := h
    unfold RepMs at h'
    obtain ⟨v, r, T1, T2, rfl, h1, h2, h3, h4⟩ := h'
    have l := repMs_len h2
    obtain ⟨w, U1, U2, k1, k2, k3, k4, k5⟩ := repMs_last h2 (by simpa using e)
    match r, l with
    | w0 :: ws, _ =>
      refine ⟨w, fun a => T1 a ∨ U1 a, U2, by simpa using k1, ?_, k3, fun a z u => z.elim (fun z => h3 a z ((k5 a).mpr (.inr u))) fun z => k4 a z u, fun a => ?_⟩
      · show RepMs K mg B H (m0 :: (m1 :: ms).dropLast) (v :: (w0 :: ws).dropLast) _
        unfold RepMs
        exact ⟨v, _, T1, U1, rfl, h1, k2, fun a z u => h3 a z ((k5 a).mpr (.inl u)), fun _ => Iff.rfl⟩
      · rw [h4, k5]
        exact ⟨fun z => z.elim (fun z => .inl (.inl z)) fun z => z.elim (fun z => .inl (.inr z)) .inr, fun z => z.elim (fun z => z.elim .inl fun z => .inr (.inl z)) fun z => .inr (.inr z)⟩
theorem mut_pop {K : PySem.W.Frag} {mg : Str → Option Value} : MutOk K mg fPop fun us v vs H Q => us = [] → vs = [] → rPop v vs H Q := fun B H m v T ws ms us vs U0 U m' d Q e rm r0 r1 d1 d2 d3 hf k hu hv => by
  obtain ⟨rfl, n0⟩ := repMs_nil r0 hu
  obtain ⟨rfl, n1⟩ := repMs_nil r1 hv
  unfold fPop at hf
  split at hf
  · rename_i xs _
    cases q : xs[xs.length - 1]? with
    | none => rw [q] at hf; cases hf
    | some mm =>
      rw [q] at hf
      cases hf
      unfold RepM at rm
      obtain ⟨a, zs, A, rfl, ho, hB, h4, h5, h6⟩ := rm
      obtain ⟨w, T1, T2, k1, k2, k3, k4, k5⟩ := repMs_last h4 q
      have nA : ∀ b, A b → b ≠ a := fun b z w => h5 (by rw [← w]; exact z)
      have i1 : ∀ b, T1 b → A b := fun b z => (k5 b).mpr (.inl z)
      have i2 : ∀ b, T2 b → A b := fun b z => (k5 b).mpr (.inr z)
      refine ⟨a, zs, w, rfl, hv, ho, k1, ?_⟩
      refine k w B _ (fun b => b = a ∨ T1 b) T2 ((step_upd (.inl ((h6 a).mpr (.inl rfl)))).weak (fun _ z => z) fun b z => ?_) (fun b o z => ?_) ?_ (k3.congr (Ex.refl B) fun b z => ⟨upd_ne (nA b (i2 b z)), (h4.owned b (i2 b z)).2⟩) fun b z u => z.elim (fun z => nA b (i2 b u) z) fun z => k4 b z u
      · rcases z with (z | z) | z
        · exact .inl ((h6 b).mpr (.inl z))
        · exact .inl ((h6 b).mpr (.inr (i1 b z)))
        · exact .inl ((h6 b).mpr (.inr (i2 b z)))
      · rw [upd_ne fun w => by rw [w, hB] at z; cases z]; exact e b o z
      · unfold RepM
        exact ⟨a, zs.dropLast, T1, rfl, upd_same, hB, k2.congr (Ex.refl B) fun b z => ⟨upd_ne (nA b (i1 b z)), (h4.owned b (i1 b z)).2⟩, fun z => nA a (i1 a z) rfl, fun b => Iff.rfl⟩
  · cases hf
/-- x.extend(data list) -/
def fExtend : M → List M → Option (M × M)
  | .lst ms, [.dat (.lst ds)] => if ms.length + ds.length ≤ sizeLine then some (.lst (ms ++ ds.map .dat), .dat .non) else none
  | _, _ => none
end
end Mi
/-! Mi15: short words for printed derivations; a law's end. -/
namespace Mi
open PySem L2
section
variable {K : PySem.W.Frag} {mg : Str → Option Value}
def fAddX : D → D → Option D
  | .lst xs, .lst ys => fAddL (.lst xs) (.lst ys)
  | x, y => fAdd x y
def rAddX (K : PySem.W.Frag) : R2 := fun x y H Q => rAdd K x y H Q ∨ rCatL K x y H Q
theorem op_addX {X : Cx} : OpR X (binaryOp .Add) (rAddX X.K) := op_addD.or op_catL
theorem imp_addX : Imp2 K mg fAddX (rAddX K) := fun B H x y d1 d2 d3 Q e r1 r2 hf k => by
  unfold fAddX at hf
  split at hf
  · exact .inr (imp_addL.imp B H x y _ _ d3 Q e r1 r2 hf k)
  · exact .inl (imp_add B H x y _ _ d3 Q e r1 r2 hf k)
end
section
variable {b : Bd} {X : Cx} {x y : Expr} {ex ey e : E} {n : Str} {pos : Pos}
theorem mv (i : Nat) (hN : X.N[i]? = some n := by rfl) (hv : Vis X.env.scope n := by first | exact Or.inl rfl | exact Or.inr (Or.inl rfl) | exact Or.inr (Or.inr rfl)) (hd : (n == ("__debug__" : Str)) = false := by decide) (hcd : (n == ("__classdict__" : Str)) = false := by decide) : ME b X (.Name n pos) (.var i) := me_var hN hv hd hcd
theorem mm (i : Nat) (hN : X.N[i]? = some n := by rfl) (hv : Vis X.env.scope n := by first | exact Or.inl rfl | exact Or.inr (Or.inl rfl) | exact Or.inr (Or.inr rfl)) (hd : (n == ("__debug__" : Str)) = false := by decide) (hcd : (n == ("__classdict__" : Str)) = false := by decide) : ME b X (.Name n pos) (.mov i) := me_mov hN hv hd hcd
theorem mr (i : Nat) (hN : X.N[i]? = some n := by rfl) (hv : Vis X.env.scope n := by first | exact Or.inl rfl | exact Or.inr (Or.inl rfl) | exact Or.inr (Or.inr rfl)) (hd : (n == ("__debug__" : Str)) = false := by decide) (hcd : (n == ("__classdict__" : Str)) = false := by decide) : MP b X (.Name n pos) (.root i) := mp_root hN hv hd hcd
theorem dv (i : Nat) (hN : X.N[i]? = some n := by rfl) (hv : Vis X.env.scope n := by first | exact Or.inl rfl | exact Or.inr (Or.inl rfl) | exact Or.inr (Or.inr rfl)) (hd : (n == ("__debug__" : Str)) = false := by decide) (hcd : (n == ("__classdict__" : Str)) = false := by decide) : MD b X (.Name n pos) (.var i) := md_var hN hv hd hcd
theorem gn (i : Nat) (hN : X.N.Nodup) (hi : X.N[i]? = some n := by rfl) (hx : Loc X.env.scope n := by first | exact Or.inl rfl | exact Or.inr rfl) (hf : X.fn n = true ∨ X.env.scope.names.lookup n = some .local := by first | exact .inl rfl | exact .inr rfl) : MG b X (.Name n pos) (.one i) := mg_name hN hi hx hf
end
/-- what a law promises: True for a list of at most 63 ints -/
def spLaw (K : PySem.W.Frag) : Sp := fun vs H Q _ => ∃ (a : Addr) (ns : List Int), vs = [.ref a] ∧ SqL K H a (ns.map V.int) ∧ ns.length ≤ 63 ∧ ∀ H', Q (.bl true) H'
theorem repL_ints {K : PySem.W.Frag} {mg : Str → Option Value} {B : Hp} : ∀ ns : List Int, RepL K mg B (ns.map .int) (ns.map V.int)
  | [] => by unfold RepL; rfl
  | n :: r => by
    show RepL K mg B (.int n :: r.map .int) (.int n :: r.map V.int)
    unfold RepL
    exact ⟨_, _, rfl, rep_int', repL_ints r⟩
theorem law_end {P : Program} {w : World} {K : PySem.W.Frag} {mg : Str → Option Value} {base : Heap} {CX : CXT} {k : Nat} {f : Addr} {fd : FuncData} {ps : List Str} {cf : List M → CR} (F : FnOk P w K mg base CX k f fd ps (spF K mg cf))
    (h : ∀ ns : List Int, ns.length ≤ 63 → ∃ outs, cf [.dat (.lst (ns.map .int))] = .ok (.dat (.bl true)) outs) : FnOk P w K mg base CX k f fd ps (spLaw K) :=
  F.imp fun vs H Q E ⟨a, ns, e, hS, hl, q⟩ => by
    subst e
    obtain ⟨outs, ho⟩ := h ns hl
    refine ⟨H, fun _ => False, [.dat (.lst (ns.map .int))], Ex.refl H, ?_, ?_⟩
    · unfold RepMs RepMs
      refine ⟨.ref a, [], fun _ => False, fun _ => False, rfl, repM_dat.mpr ⟨?_, fun _ z => z⟩, ⟨rfl, fun _ z => z⟩, fun _ z => z.elim, fun _ => ⟨fun z => z.elim, fun z => z.elim id id⟩⟩
      unfold Rep
      exact ⟨a, _, rfl, hS, repL_ints ns⟩
    · rw [ho]
      intro v B' H' So T _ _ r _ _
      rw [rep_bl (repM_dat.mp r).1]
      exact q H'
/-! ### small things -/
abbrev bigN : Nat := 1000000
theorem cx_none {P : Program} (w : World) (H : Hp) (s : Shared) (e : Value) (s' : Shared) (h : L2.CX P w [] H s (fun _ _ _ => False) e s') : False := by
  obtain ⟨_, _, _, _, _, _, _, _, _, _, _, _, z⟩ := h
  exact z
theorem fn_stuck {P : Program} {w : World} {K : PySem.W.Frag} {mg : Str → Option Value} {base : Heap} {k : Nat} {f : Addr} {fd : FuncData} {ps : List Str} {cf : List M → CR} (hcf : ∀ ms, cf ms = .stuck) : FnOk P w K mg base (L2.CX P w) k f fd ps (spF K mg cf) := by
  have no : ∀ vs H Q E, ¬ spF K mg cf vs H Q E := fun vs H Q E h => by
    obtain ⟨_, _, ms, _, _, h⟩ := h
    rw [hcf ms] at h
    exact h
  exact ⟨fun vs H Q E h => absurd h (no vs H Q E), fun A outer s H args us vs Q E _ _ _ _ h => absurd h (no vs H Q E)⟩
theorem bt_len : bootBuiltins "len" = some (.builtin "len") := by decide +kernel
theorem bt_sum : bootBuiltins "sum" = some (.builtin "sum") := by decide +kernel
theorem bt_max : bootBuiltins "max" = some (.builtin "max") := by decide +kernel
theorem bt_min : bootBuiltins "min" = some (.builtin "min") := by decide +kernel
theorem bt_abs : bootBuiltins "abs" = some (.builtin "abs") := by decide +kernel
theorem bt_list : bootBuiltins "list" = some (.type "list") := by decide +kernel
theorem bt_tuple : bootBuiltins "tuple" = some (.type "tuple") := by decide +kernel
theorem bt_dict : bootBuiltins "dict" = some (.type "dict") := by decide +kernel
theorem bt_int : bootBuiltins "int" = some (.type "int") := by decide +kernel
theorem bt_str : bootBuiltins "str" = some (.type "str") := by decide +kernel
theorem bt_bool : bootBuiltins "bool" = some (.type "bool") := by decide +kernel
section
variable {K : PySem.W.Frag} {mg : Str → Option Value}
def fAddI : D → D → Option D := fInt2 fun i j => some (.int (i + j))
theorem imp_addI : Imp2 K mg fAddI (rI0 fun i j => .int (i + j)) := fun B H x y d1 d2 d3 Q e r1 r2 hf k => by
  unfold fAddI fInt2 at hf
  split at hf
  · cases hf
    rw [rep_int r1, rep_int r2]
    exact ⟨_, _, rfl, rfl, k _ B H (PStep.refl e) rep_int'⟩
  · cases hf
end
end Mi
/-! Mi16: what operations come to on such data: for the plain law. -/
namespace Mi
open PySem L2
theorem fSub_i (i j : Int) : fSub (.int i) (.int j) = some (.int (i - j)) := rfl
theorem fAddI_i (i j : Int) : fAddI (.int i) (.int j) = some (.int (i + j)) := rfl
theorem fAddX_i (i j : Int) : fAddX (.int i) (.int j) = some (.int (i + j)) := rfl
theorem fLt_i (i j : Int) : fLt (.int i) (.int j) = some (.bl (decide (i < j))) := rfl
theorem fLe_i (i j : Int) : fLe (.int i) (.int j) = some (.bl (decide (i ≤ j))) := rfl
theorem fGt_i (i j : Int) : fGt (.int i) (.int j) = some (.bl (decide (j < i))) := rfl
theorem fGe_i (i j : Int) : fGe (.int i) (.int j) = some (.bl (decide (j ≤ i))) := rfl
theorem fEq_i (i j : Int) : fEq (.int i) (.int j) = some (.bl (decide (i = j))) := rfl
theorem fEq_s (i j : Str) : fEq (.str i) (.str j) = some (.bl (decide (i = j))) := rfl
theorem fEq_b (i j : Bool) : fEq (.bl i) (.bl j) = some (.bl (decide (i = j))) := rfl
theorem fNe_i (i j : Int) : fNe (.int i) (.int j) = some (.bl (!decide (i = j))) := rfl
theorem fNe_s (i j : Str) : fNe (.str i) (.str j) = some (.bl (!decide (i = j))) := rfl
theorem fNe_b (i j : Bool) : fNe (.bl i) (.bl j) = some (.bl (!decide (i = j))) := rfl
theorem fNot_b (i : Bool) : fNot (.bl i) = some (.bl (!i)) := rfl
theorem fNeg_i (i : Int) : fNeg (.int i) = some (.int (-i)) := rfl
theorem fIx_l (xs : List D) (i : Int) : fIx (.lst xs) (.int i) = atI xs i := rfl
theorem fIx_t (xs : List D) (i : Int) : fIx (.tup xs) (.int i) = atI xs i := rfl
theorem fLen_l (xs : List D) : fLen [.lst xs] = some (.int xs.length) := rfl
theorem fLen_t (xs : List D) : fLen [.tup xs] = some (.int xs.length) := rfl
theorem fMax_i (i j : Int) : fMax [.int i, .int j] = some (.int (if j > i then j else i)) := rfl
theorem fMin_i (i j : Int) : fMin [.int i, .int j] = some (.int (if j < i then j else i)) := rfl
theorem fMul_r {i j : Int} (h1 : -(2 ^ 64) < j) (h2 : j < 2 ^ 64) : fMul (.int i) (.int j) = some (.int (i * j)) := by
  show (if CMul i j ∨ CMulW i j then some (D.int (i * j)) else none) = _
  rw [if_pos (.inl (.inr ⟨h1, h2⟩))]
theorem fMul_l {i j : Int} (h1 : -(2 ^ 64) < i) (h2 : i < 2 ^ 64) : fMul (.int i) (.int j) = some (.int (i * j)) := by
  show (if CMul i j ∨ CMulW i j then some (D.int (i * j)) else none) = _
  rw [if_pos (.inl (.inl ⟨h1, h2⟩))]
theorem fMod_p {i j : Int} (h1 : 0 < j) : fMod (.int i) (.int j) = some (.int (i % j)) := by
  show (if 0 < j then some (D.int (i % j)) else none) = _
  rw [if_pos h1]
theorem log2_64 {j : Int} (h0 : 0 < j) (h : j < 2 ^ 64) : j.natAbs.log2 < 9000 := by
  have h2 : j.natAbs < 2 ^ 64 := by omega
  have h3 : j.natAbs ≠ 0 := by omega
  have := (Nat.log2_lt h3).mpr h2
  omega
theorem fDivW_p {i j : Int} (h1 : 0 < j) (h2 : j < 2 ^ 64) : fDivW (.int i) (.int j) = some (.int (i / j)) := by
  show (if CDivW i j then some (D.int (i / j)) else none) = _
  rw [if_pos ⟨h1, log2_64 h1 h2⟩]
theorem fIsi_int_i (i : Int) : fIsi "int" (.int i) = some (.bl true) := rfl
theorem fIsi_bool_i (i : Int) : fIsi "bool" (.int i) = some (.bl false) := rfl
theorem fIsi_bool_b (i : Bool) : fIsi "bool" (.bl i) = some (.bl true) := rfl
/-- what a loop does, kept by each turn -/
theorem forLoop_inv {t : Tg} {b : Env → Res} (Pv : Nat → Env → Prop) : ∀ {ds : List D} {i : Nat} {μ : Env}, Pv i μ → (∀ j d μ, ds[j]? = some d → Pv (i + j) μ → ∃ μ1 μ2, setTg t (.dat d) μ = some μ1 ∧ (b μ1 = .nx μ2 ∨ b μ1 = .cont μ2) ∧ Pv (i + j + 1) μ2) → ∃ μ', forLoop t b ds μ = .nx μ' ∧ Pv (i + ds.length) μ'
  | [], i, μ, h, _ => ⟨μ, rfl, h⟩
  | d :: ds, i, μ, h, k => by
    obtain ⟨μ1, μ2, e1, e2, e3⟩ := k 0 d μ rfl h
    obtain ⟨μ', r1, r2⟩ := forLoop_inv (ds := ds) (i := i + 1) (μ := μ2) Pv e3 fun j d' μ' hd hp => by
      have := k (j + 1) d' μ' (by simpa using hd) (by rw [show i + (j + 1) = i + 1 + j by omega]; exact hp)
      rw [show i + (j + 1) + 1 = i + 1 + j + 1 by omega] at this
      exact this
    refine ⟨μ', ?_, by rw [show i + (d :: ds).length = i + 1 + ds.length by simp; omega]; exact r2⟩
    unfold forLoop
    rw [e1]
    rcases e2 with e2 | e2 <;> (dsimp only; rw [e2]; exact r1)
theorem whLoop_t {c : Env → Out M} {b : Env → Res} {n : Nat} {μ μ1 μ2 : Env} (h : c μ = .ok (.dat (.bl true)) μ1) (h2 : b μ1 = .nx μ2) : whLoop c b (n + 1) μ = whLoop c b n μ2 := by
  show ((c μ).res _) = _
  rw [h]
  dsimp only [Out.res]
  rw [h2]
theorem whLoop_f {c : Env → Out M} {b : Env → Res} {n : Nat} {μ μ1 : Env} (h : c μ = .ok (.dat (.bl false)) μ1) : whLoop c b (n + 1) μ = .nx μ1 := by
  show ((c μ).res _) = _
  rw [h]
  rfl
theorem ixN_n {n j : Nat} (hj : j < n) : ixN n (j : Int) = some j := by
  unfold ixN
  rw [if_pos (Int.natCast_nonneg j), if_pos (by omega)]
  rfl
theorem fMax_n (a b : Nat) : fMax [.int (a : Int), .int (b : Int)] = some (.int ((max a b : Nat) : Int)) := by
  rw [fMax_i]
  by_cases e : (b : Int) > a
  · rw [if_pos e]; congr 2; omega
  · rw [if_neg e]; congr 2; omega
theorem fMin_n (a b : Nat) : fMin [.int (a : Int), .int (b : Int)] = some (.int ((min a b : Nat) : Int)) := by
  rw [fMin_i]
  by_cases e : (b : Int) < a
  · rw [if_pos e]; congr 2; omega
  · rw [if_neg e]; congr 2; omega
theorem fRange1_n {n : Nat} (h : (n : Int) < 2 ^ 62) : fRange1 [.int (n : Int)] = some ((List.range n).map fun i => .int (0 + (i : Nat))) := by
  unfold fRange1
  dsimp only
  rw [if_pos ⟨by omega, h⟩, Int.toNat_natCast]
theorem rg1 : List.range 1 = [0] := rfl
theorem rg2 : List.range 2 = [0, 1] := rfl
theorem rg3 : List.range 3 = [0, 1, 2] := rfl
theorem rg4 : List.range 4 = [0, 1, 2, 3] := rfl
theorem rg5 : List.range 5 = [0, 1, 2, 3, 4] := rfl
section
variable {sub : Str → Str → Bool} {C : Nat → List M → Mi.CR} {pin : List Nat} {N : Nat} {st : S} {r : Ss} {μ μ1 : Mi.Env} {m : M}
theorem ex_nx (h : execS sub C pin N st μ = .nx μ1) : execSs sub C pin N (.cons st r) μ = execSs sub C pin N r μ1 := by
  show (match execS sub C pin N st μ with | .nx μ1 => execSs sub C pin N r μ1 | q => q) = _
  rw [h]
theorem ex_for {t : Tg} {f : List D → Option (List D)} {src : Es} {b : Ss} {ms : List M} {ds xs : List D} {R : Mi.Res} (hp : (t.slots.all fun i => !pin.contains i) = true) (h1 : evalEs C pin src μ = .ok ms μ1) (h2 : datsOf ms = some ds) (h3 : f ds = some xs) (h4 : forLoop t (execSs sub C pin N b) xs μ1 = R) : execS sub C pin N (.for_ t f src b) μ = R := by
  show (if (t.slots.all fun i => !pin.contains i) = true then _ else _) = _
  rw [if_pos hp, h1]
  dsimp only [Out.res]
  rw [h2]
  dsimp only
  rw [h3]
  exact h4
theorem ex_wh {c : E} {b : Ss} {R : Mi.Res} (h : whLoop (evalE C pin c) (execSs sub C pin N b) N μ = R) : execS sub C pin N (.wh c b) μ = R := h
theorem ex_ret (h : execS sub C pin N st μ = .ret m μ1) : execSs sub C pin N (.cons st r) μ = .ret m μ1 := by
  show (match execS sub C pin N st μ with | .nx μ1 => execSs sub C pin N r μ1 | q => q) = _
  rw [h]
end
end Mi
local macro_rules
  | `(tactic| simp! [$ls,*]) => `(tactic| simp (decide := true) [Mi.execSs, Mi.execS, Mi.evalE, Mi.evalAs, Mi.evalEs, Mi.evalP, Mi.evalI, Mi.slot, Mi.insOk, Mi.atPl, Mi.M.at, Mi.M.kids, Mi.M.kind, Mi.nodupB, Mi.Ag.roots, Mi.Ag.flat, Mi.As.vals, Mi.E.pure, Mi.Es.pure, Mi.As.pure, Mi.Path.pure, Mi.argMs, Mi.callEnd, Mi.backAs, Mi.putPl, Mi.M.put, Mi.M.setKid, Mi.M.toD, Mi.viewE, Mi.D.hard, Mi.D.hard.hards, Mi.datsOf, Mi.onDat, Mi.outD, Mi.fSub_i, Mi.fAddI_i, Mi.fAddX_i, Mi.fLt_i, Mi.fLe_i, Mi.fGt_i, Mi.fGe_i, Mi.fEq_i, Mi.fEq_s, Mi.fEq_b, Mi.fNe_i, Mi.fNe_s, Mi.fNe_b, Mi.fNot_b, Mi.fNeg_i, Mi.fIx_l, Mi.fIx_t, Mi.fLen_l, Mi.fLen_t, Mi.fIsi_int_i, Mi.fIsi_bool_i, Mi.fIsi_bool_b, Mi.setTg, Mi.Tg.slots, Mi.setMany, Mi.setManyM, Mi.fldIx, Mi.toOwned, Mi.datOf, $ls,*])
local macro_rules
  | `(tactic| dsimp! [$ls,*]) => `(tactic| refine (Mi.ex_nx (by first | (simp! [$ls,*]; done) | (simp! [$ls,*]; rfl))).trans ?_)
local macro_rules
  | `(tactic| simp_all! [$ls,*]) => `(tactic| refine Mi.ex_ret (by first | (simp! [$ls,*]; done) | (simp! [$ls,*]; rfl)))
/-! Mi17: dicts. -/
namespace Mi
open PySem L2
def keyD : D → Option Key
  | .int i => some (.inl i)
  | .str s => some (.inr s)
  | _ => none
def keyToD : Key → D
  | .inl i => .int i
  | .inr s => .str s
section
variable {K : PySem.W.Frag} {mg : Str → Option Value}
theorem key_rep {B : Hp} {d : D} {v : V} {k : Key} (h : keyD d = some k) (r : Rep K mg B d v) : v = kV k := by
  cases d with
  | int i => cases h; exact rep_int r
  | str s => cases h; exact rep_str r
  | _ => cases h
theorem key_rep' {B : Hp} (k : Key) : Rep K mg B (keyToD k) (kV k) := by
  cases k with
  | inl i => exact rep_int'
  | inr s => exact rep_str'
theorem rep_dct {B : Hp} {ks : List Key} {xs : List D} {v : V} (h : Rep K mg B (.dct ks xs) v) : ∃ a vs, v = .ref a ∧ Rd B a (.dK (ks.zip vs)) ∧ ks.length = vs.length ∧ RepL K mg B xs vs := by unfold Rep at h; exact h
theorem zip_valV {k : Key} : ∀ {ks : List Key} {vs : List V} {j : Nat}, keyIx ks k = some j → ks.length = vs.length → ∃ v, vs[j]? = some v ∧ valV (ks.zip vs) k = some v
  | [], vs, j, h, _ => by simp [keyIx] at h
  | k0 :: ks, [], j, h, l => by simp at l
  | k0 :: ks, v :: vs, j, h, l => by
    unfold keyIx at h
    rw [List.findIdx?_cons] at h
    by_cases e : k0 = k
    · simp [e] at h
      subst h
      exact ⟨v, rfl, valV_pos e⟩
    · simp [e] at h
      obtain ⟨i, h1, rfl⟩ := h
      obtain ⟨w, e1, e2⟩ := zip_valV (ks := ks) (vs := vs) (j := i) (k := k) (by unfold keyIx; exact h1) (by simpa using l)
      exact ⟨w, by simpa using e1, (valV_neg (p := (k0, v)) e).trans e2⟩
/-- d[k] -/
def fIxD : D → D → Option D
  | .dct ks xs, d => (keyD d).bind fun k => (keyIx ks k).bind fun j => xs[j]?
  | _, _ => none
theorem imp_ixD : Imp2 K mg fIxD (fun x y H Q => ∃ a v, x = .ref a ∧ DGet H a y (some v) ∧ Q v H) := fun B H x y d1 d2 d3 Q e r1 r2 hf k => by
  cases d1 with
  | dct ks xs =>
    have hf : ((keyD d2).bind fun k => (keyIx ks k).bind fun j => xs[j]?) = some d3 := hf
    cases hk : keyD d2 with
    | none => rw [hk] at hf; cases hf
    | some kk =>
      rw [hk] at hf
      dsimp only [Option.bind] at hf
      cases hj : keyIx ks kk with
      | none => rw [hj] at hf; cases hf
      | some j =>
        rw [hj] at hf
        have hf : xs[j]? = some d3 := hf
        obtain ⟨a, vs, rfl, h1, h2, h3⟩ := rep_dct r1
        obtain ⟨v, e1, e2⟩ := zip_valV hj h2
        obtain ⟨v', e3, e4⟩ := (repL_get h3).1 _ hf
        rw [e1] at e3
        cases e3
        exact ⟨a, v, rfl, .inl ⟨_, kk, e.r h1, key_rep hk r2, e2.symm⟩, k v B H (PStep.refl e) e4⟩
  | _ => cases hf
/-- extend by an owned list -/
def fExtM : M → List M → Option (M × M)
  | .lst xs, [.lst ys] => if xs.length + ys.length ≤ sizeLine then some (.lst (xs ++ ys), .dat .non) else none
  | _, _ => none
theorem mut_extend : MutOk K mg fExtM fun us v vs H Q => us = [] → rExtend v vs H Q := fun B H m v T ws ms us vs U0 U m' d Q e rm r0 r1 d1 d2 d3 hf k hu => by
  obtain ⟨rfl, n0⟩ := repMs_nil r0 hu
  rw [List.nil_append] at hf
  unfold fExtM at hf
  split at hf
  · rename_i xs ys
    split at hf
    · rename_i hl
      cases hf
      unfold RepM at rm
      obtain ⟨a, zs, A, rfl, h2, h3, h4, h5, h6⟩ := rm
      obtain ⟨w, rfl, rw'⟩ := repMs_one r1
      unfold RepM at rw'
      obtain ⟨c, ws, C, rfl, g2, g3, g4, g5, g6⟩ := rw'
      have l1 := repMs_len h4
      have l2 := repMs_len g4
      have nc : c ≠ a := fun z => d1 c ((h6 c).mpr (.inl z)) ((g6 c).mpr (.inl rfl))
      have nC : ∀ b, C b → b ≠ a := fun b z w => d1 b ((h6 b).mpr (.inl w)) ((g6 b).mpr (.inr z))
      have nA : ∀ b, A b → b ≠ a := fun b z w => h5 (by rw [← w]; exact z)
      refine ⟨a, c, zs, ws, rfl, rfl, h2, g2, by omega, ?_⟩
      refine k .non B (upd H a (.lst (zs ++ ws))) (fun b => T b ∨ C b) (fun _ => False) ((step_upd (.inl ((h6 a).mpr (.inl rfl)))).weak (fun _ z => z) fun b z => z.elim (fun z => z.elim .inl fun z => .inr (.inl ((g6 b).mpr (.inr z)))) False.elim) (fun b o z => ?_) ?_ (repM_dat.mpr ⟨by unfold Rep; rfl, fun _ z => z⟩) fun _ _ z => z
      · rw [upd_ne fun w => by rw [w, h3] at z; cases z]; exact e b o z
      · unfold RepM
        refine ⟨a, zs ++ ws, fun b => A b ∨ C b, rfl, upd_same, h3, ?_, fun z => z.elim h5 fun z => nC a z rfl, fun b => ?_⟩
        · refine (repMs_app h4 g4 fun b z w => d1 b ((h6 b).mpr (.inr z)) ((g6 b).mpr (.inr w))).congr (Ex.refl B) fun b z => ⟨upd_ne (z.elim (nA b) (nC b)), z.elim (fun z => (h4.owned b z).2) fun z => (g4.owned b z).2⟩
        · show (T b ∨ C b) ↔ _
          rw [h6]
          exact ⟨fun z => z.elim (fun z => z.imp id .inl) fun z => .inr (.inr z), fun z => z.elim (fun z => .inl (.inl z)) fun z => z.elim (fun z => .inl (.inr z)) .inr⟩
    · cases hf
  · cases hf
/-! ### d[k] = e -/
def hasK : List Key → Key → Bool
  | [], _ => false
  | k0 :: ks, k => decide (k0 = k) || hasK ks k
theorem hasK_cons {k k0 : Key} {ks : List Key} : hasK (k0 :: ks) k = (decide (k0 = k) || hasK ks k) := rfl
def putMs (k : Key) (m : M) : List Key → List M → Option (List M)
  | k0 :: ks, x :: xs => if k0 = k then (if hasK ks k = true then none else some (m :: xs)) else (putMs k m ks xs).map (x :: ·)
  | _, _ => none
def fPutD : M → List M → Option (M × M)
  | .dct ks xs, [m, .dat d] => (keyD d).bind fun k => if xs.length < sizeLine then (if hasK ks k = true then (putMs k m ks xs).map fun ys => (.dct ks ys, .dat .non) else some (.dct (ks ++ [k]) (xs ++ [m]), .dat .non)) else none
  | _, _ => none
theorem any_zip {k : Key} : ∀ {ks : List Key} {vs : List V}, ks.length = vs.length → ((ks.zip vs).any fun kv => decide (kv.1 = k)) = hasK ks k
  | [], [], _ => rfl
  | k0 :: ks, v :: vs, l => by
    have ih := any_zip (k := k) (ks := ks) (vs := vs) (by simpa using l)
    show (decide (k0 = k) || ((ks.zip vs).any fun kv => decide (kv.1 = k))) = _
    rw [ih, hasK_cons]
theorem map_none {k : Key} {y : V} : ∀ {ks : List Key} {vs : List V}, hasK ks k = false → (ks.zip vs).map (fun kv => if kv.1 = k then (kv.1, y) else kv) = ks.zip vs
  | [], _, _ => rfl
  | _ :: _, [], _ => rfl
  | k0 :: ks, v :: vs, h => by
    rw [hasK_cons, Bool.or_eq_false_iff] at h
    show (if k0 = k then (k0, y) else (k0, v)) :: (ks.zip vs).map _ = _
    rw [if_neg (of_decide_eq_false h.1), map_none h.2]
    rfl
theorem putMs_ok {B H : Hp} {k : Key} {m : M} {v : V} {U : ASet} (rm : RepM K mg B H m v U) : ∀ {ks : List Key} {xs ys : List M} {vs : List V} {A : ASet}, ks.length = vs.length → RepMs K mg B H xs vs A → (∀ a, U a → ¬ A a) → putMs k m ks xs = some ys →
    ∃ ws A', RepMs K mg B H ys ws A' ∧ ks.length = ws.length ∧ (ks.zip vs).map (fun kv => if kv.1 = k then (kv.1, v) else kv) = ks.zip ws ∧ ∀ a, A' a → A a ∨ U a
  | [], _, _, _, _, _, _, _, e => by simp [putMs] at e
  | _ :: _, [], _, _, _, _, _, _, e => by simp [putMs] at e
  | k0 :: ks, x :: xs, ys, vs, A, l, h, d, e => by
    unfold RepMs at h
    obtain ⟨w, r, T1, T2, rfl, h1, h2, h3, h4⟩ := h
    unfold putMs at e
    by_cases c : k0 = k
    · rw [if_pos c] at e
      split at e
      · cases e
      · rename_i hc
        cases e
        refine ⟨v :: r, fun a => U a ∨ T2 a, ?_, by simpa using l, ?_, fun a z => z.elim .inr fun z => .inl ((h4 a).mpr (.inr z))⟩
        · unfold RepMs
          exact ⟨v, r, U, T2, rfl, rm, h2, fun a z w => d a z ((h4 a).mpr (.inr w)), fun _ => Iff.rfl⟩
        · show (if k0 = k then (k0, v) else (k0, w)) :: (ks.zip r).map _ = _
          rw [if_pos c, map_none (by simpa using hc)]
          rfl
    · rw [if_neg c] at e
      cases q : putMs k m ks xs with
      | none => rw [q] at e; cases e
      | some ys' =>
        rw [q] at e
        cases e
        obtain ⟨ws, A', k1, k2, k3, k4⟩ := putMs_ok rm (by simpa using l) h2 (fun a z w => d a z ((h4 a).mpr (.inr w))) q
        refine ⟨w :: ws, fun a => T1 a ∨ A' a, ?_, by simpa using k2, ?_, fun a z => z.elim (fun z => .inl ((h4 a).mpr (.inl z))) fun z => (k4 a z).imp (fun z => (h4 a).mpr (.inr z)) id⟩
        · unfold RepMs
          exact ⟨w, ws, T1, A', rfl, h1, k1, fun a z w => (k4 a w).elim (h3 a z) fun u => d a u ((h4 a).mpr (.inl z)), fun _ => Iff.rfl⟩
        · show (if k0 = k then (k0, v) else (k0, w)) :: (ks.zip r).map _ = _
          rw [if_neg c, k3]
          rfl
theorem mut_putD : MutOk K mg fPutD fun us v vs H Q => ∀ y z, us = [y] → vs = [z] → ∃ a H', v = .ref a ∧ DPut H a z y H' ∧ Q .non H' := fun B H m v T ws ms us vs U0 U m' d Q e rm r0 r1 d1 d2 d3 hf k y z hu hv => by
  obtain ⟨m1, rfl, ry⟩ := repMs_two r0 hu
  obtain ⟨m2, rfl, rz⟩ := repMs_two r1 hv
  unfold fPutD at hf
  split at hf
  · rename_i ks xs m3 dd hws
    have em : m1 = m3 ∧ m2 = .dat dd := by simpa using hws
    obtain ⟨rfl, rfl⟩ := em
    cases hk : keyD dd with
    | none => rw [hk] at hf; cases hf
    | some kk =>
      rw [hk] at hf
      dsimp only [Option.bind] at hf
      split at hf
      rotate_left
      · cases hf
      rename_i hsz
      have ez := key_rep hk (repM_dat.mp rz).1
      subst ez
      unfold RepM at rm
      obtain ⟨a, zs, A, rfl, ⟨ho, hkl⟩, hB, h4, h5, h6⟩ := rm
      have hl := repMs_len h4
      have nU : ∀ b, U0 b → b ≠ a := fun b z w => d2 b ((h6 b).mpr (.inl w)) z
      have nA : ∀ b, A b → b ≠ a := fun b z w => h5 (by rw [← w]; exact z)
      have dA : ∀ b, U0 b → ¬ A b := fun b z w => d2 b ((h6 b).mpr (.inr w)) z
      have fin : ∀ (ks' : List Key) (ys : List M) (ws : List V) (A' : ASet), RepMs K mg B H ys ws A' → ks'.length = ws.length → (∀ b, A' b → A b ∨ U0 b) → Q .non (upd H a (.dK (ks'.zip ws))) ∨ (M.dct ks' ys ≠ m') ∨ d ≠ .dat .non := fun ks' ys ws A' k1 k2 k4 => by
        by_cases c : M.dct ks' ys = m' ∧ d = .dat .non
        · obtain ⟨rfl, rfl⟩ := c
          have own : ∀ b, A' b → b ≠ a ∧ B b = none := fun b z => (k4 b z).elim (fun z => ⟨nA b z, (h4.owned b z).2⟩) fun z => ⟨nU b z, (ry.owned b z).2⟩
          refine .inl (k .non B _ (fun b => b = a ∨ A' b) (fun _ => False) ((step_upd (.inl ((h6 a).mpr (.inl rfl)))).weak (fun _ z => z) fun b z => ?_) (fun b o z => ?_) ?_ (repM_dat.mpr ⟨by unfold Rep; rfl, fun _ z => z⟩) fun _ _ z => z)
          · rcases z with (z | z) | z
            · exact .inl ((h6 b).mpr (.inl z))
            · exact (k4 b z).elim (fun z => .inl ((h6 b).mpr (.inr z))) fun z => .inr (.inr z)
            · exact z.elim
          · rw [upd_ne fun w => by rw [w, hB] at z; cases z]; exact e b o z
          · unfold RepM
            exact ⟨a, ws, A', rfl, ⟨upd_same, k2⟩, hB, k1.congr (Ex.refl B) fun b z => ⟨upd_ne (own b z).1, (own b z).2⟩, fun z => (own a z).1 rfl, fun b => Iff.rfl⟩
        · exact .inr (Classical.not_and_iff_not_or_not.mp c)
      have hput : DPut H a (kV kk) y (upd H a (.dK (putK (ks.zip zs) kk y))) := .k ho (by rw [List.length_zip]; omega)
      split at hf
      · rename_i hc
        cases hp : putMs kk m1 ks xs with
        | none => rw [hp] at hf; cases hf
        | some ys =>
          rw [hp] at hf
          cases hf
          obtain ⟨ws, A', k1, k2, k3, k4⟩ := putMs_ok ry hkl h4 dA hp
          have ep : putK (ks.zip zs) kk y = ks.zip ws := by unfold putK; rw [if_pos (by rw [any_zip hkl]; exact hc), k3]
          rw [ep] at hput
          refine ⟨a, _, rfl, hput, ?_⟩
          exact (fin ks ys ws A' k1 k2 k4).elim id fun z => z.elim (fun z => absurd rfl z) fun z => absurd rfl z
      · rename_i hc
        cases hf
        have ep : putK (ks.zip zs) kk y = (ks ++ [kk]).zip (zs ++ [y]) := by
          unfold putK
          rw [if_neg (by rw [any_zip hkl]; exact hc), List.zip_append hkl]
          rfl
        rw [ep] at hput
        refine ⟨a, _, rfl, hput, ?_⟩
        have k1 := repMs_app h4 r0 fun b z w => dA b w z
        rw [hu] at k1
        exact (fin (ks ++ [kk]) (xs ++ [m1]) (zs ++ [y]) (fun b => A b ∨ U0 b) k1 (by simp; omega) (fun b z => z)).elim id fun z => z.elim (fun z => absurd rfl z) fun z => absurd rfl z
  · cases hf
end
section
variable {b : Bd} {X : Cx} {x y o : Expr} {ex ey e : E} {p : Path} {pos ppos apos : Pos} {n m : Str}
theorem me_ixD (hu : X.A.units + 1 < cLine) (hx : ME b X x ex) (hy : ME b X y ey) (hs : NoSl y) : ME b X (.Subscript x y pos) (.op2 fIxD ex ey) := fun W tk => PE.imp (pe_dget hu (hx W tk) (hy W tk) hs) fun σ H Q h => two_imp imp_ixD h
theorem ms_putD {tpos : Pos} (hu : X.A.units + 1 < cLine) (ho : MP b X o p) (hi : ME b X y ey) (hv : ME b X x e) (hs : swapsWith x (some (.Subscript o y tpos)) pos.line X.env = pure false := by rfl) :
    MS b X (.Assign [.Subscript o y tpos] x pos) (.expr (.mut 1 fPutD (.cons e .nil) p (.cons ey .nil))) := fun W tk => PS.imp (ps_dput hu ho (hi W tk) (hv W tk) hs) fun D σ H h => by
  have h1 := es_one (mut_ok mut_putD (expr_imp h))
  refine tE_mono h1 fun y H1 q => tP_mono q fun v H2 q2 => ?_
  exact tE_mono (es_one q2.2) fun z H3 q3 => q3 y z rfl rfl
end
end Mi
/-! Mi18: a comprehension over a dict that is data. -/
namespace Mi
open PySem L2
section
variable {K : PySem.W.Frag} {mg : Str → Option Value}
theorem lock_sw {B : Hp} {d : Addr} {o : Obj} {kvs : List (Key × V)} (h : B d = some (.dK kvs)) : Sw K B (upd B d (.frz o (.dK kvs))) where
  l := fun {a xs} z => by
    have ne : ∀ u, B a = some u → (∀ k, u ≠ .dK k) → upd B d (.frz o (.dK kvs)) a = some u := fun u e n => by
      rw [upd_ne fun w => by rw [w, h] at e; cases e; exact n _ rfl]; exact e
    rcases z with (z | ⟨p, z⟩) | z
    · exact .inl (.inl (ne _ z fun _ w => nomatch w))
    · exact .inl (.inr ⟨p, ne _ z fun _ w => nomatch w⟩)
    · exact .inr z
  t := fun {a xs} z => by
    have ne : ∀ u, B a = some u → (∀ k, u ≠ .dK k) → upd B d (.frz o (.dK kvs)) a = some u := fun u e n => by
      rw [upd_ne fun w => by rw [w, h] at e; cases e; exact n _ rfl]; exact e
    rcases z with (z | ⟨p, z⟩) | z
    · exact .inl (.inl (ne _ z fun _ w => nomatch w))
    · exact .inl (.inr ⟨p, ne _ z fun _ w => nomatch w⟩)
    · exact .inr z
  d := fun {a k} z => by
    by_cases w : a = d
    · subst w
      rcases z with z | ⟨p, z⟩
      · rw [h] at z; cases z; exact .inr ⟨o, upd_same⟩
      · rw [h] at z; cases z
    · exact z.imp (fun z => by rw [upd_ne w]; exact z) fun ⟨p, z⟩ => ⟨p, by rw [upd_ne w]; exact z⟩
  i := fun {a C dx fs} z => by
    rw [upd_ne fun w => by rw [w, h] at z; cases z]; exact z
theorem unlock_sw {B : Hp} {d : Addr} {o : Obj} {kvs : List (Key × V)} (h : B d = some (.frz o (.dK kvs))) : Sw K B (upd B d (.dK kvs)) where
  l := fun {a xs} z => by
    have ne : ∀ u, B a = some u → (∀ p k, u ≠ .frz p (.dK k)) → upd B d (.dK kvs) a = some u := fun u e n => by
      rw [upd_ne fun w => by rw [w, h] at e; cases e; exact n _ _ rfl]; exact e
    rcases z with (z | ⟨p, z⟩) | z
    · exact .inl (.inl (ne _ z fun _ _ w => nomatch w))
    · exact .inl (.inr ⟨p, ne _ z fun _ _ w => nomatch w⟩)
    · exact .inr z
  t := fun {a xs} z => by
    have ne : ∀ u, B a = some u → (∀ p k, u ≠ .frz p (.dK k)) → upd B d (.dK kvs) a = some u := fun u e n => by
      rw [upd_ne fun w => by rw [w, h] at e; cases e; exact n _ _ rfl]; exact e
    rcases z with (z | ⟨p, z⟩) | z
    · exact .inl (.inl (ne _ z fun _ _ w => nomatch w))
    · exact .inl (.inr ⟨p, ne _ z fun _ _ w => nomatch w⟩)
    · exact .inr z
  d := fun {a k} z => by
    by_cases w : a = d
    · subst w
      rcases z with z | ⟨p, z⟩
      · rw [h] at z; cases z
      · rw [h] at z; cases z; exact .inl upd_same
    · exact z.imp (fun z => by rw [upd_ne w]; exact z) fun ⟨p, z⟩ => ⟨p, by rw [upd_ne w]; exact z⟩
  i := fun {a C dx fs} z => by
    rw [upd_ne fun w => by rw [w, h] at z; cases z]; exact z
theorem Stt.sw {π : List (Nat × V)} {B H B' H' : Hp} {σ : L2.St} {μ : Env} {S : ASet} (s : Stt K mg π B H σ μ S) (e : Sw K B B') (sub : Ex B' H') (k : ∀ a, S a → H' a = H a ∧ B' a = none) : Stt K mg π B' H' σ μ S := by
  obtain ⟨F, h1, h2, h3, h4⟩ := s.slots
  refine ⟨sub, s.len, ⟨F, fun i m e' => ?_, h2, h3, h4⟩, s.pins⟩
  obtain ⟨v, e1, r⟩ := h1 i m e'
  exact ⟨v, e1, r.sw e fun a ha => k a ((h4 a).mpr ⟨i, ha⟩)⟩
theorem ex_upd {H H' : Hp} {d : Addr} {u : HO} (e : Ex H H') : Ex (upd H d u) (upd H' d u) := fun a o z => by
  by_cases w : a = d
  · subst w; rw [upd_same] at z ⊢; exact z
  · rw [upd_ne w] at z ⊢; exact e a o z
theorem upd_back {H : Hp} {d : Addr} {u : HO} (h : H d = some u) (v : HO) : upd (upd H d v) d u = H := by
  funext a
  by_cases w : a = d
  · subst w; rw [upd_same]; exact h.symm
  · rw [upd_ne w, upd_ne w]
theorem upd_comm {H : Hp} {d p : Addr} {u o : HO} (n : p ≠ d) : upd (upd H p o) d u = upd (upd H d u) p o := by
  funext a
  by_cases w : a = d
  · subst w; rw [upd_same, upd_ne fun z => n z.symm, upd_same]
  · rw [upd_ne w]
    by_cases w2 : a = p
    · subst w2; rw [upd_same, upd_same]
    · rw [upd_ne w2, upd_ne w2, upd_ne w]
end
section
variable {b : Bd} {X : Cx} {e : E}
/-- the same, the dict locked -/
theorem lock_tF {W : WX} {σ : L2.St} {H : Hp} {Q : VK} {π : List (Nat × V)} {B : Hp} {μ : Env} {S : ASet} {d : Addr} {kvs : List (Key × V)} {od : Obj} (hp : PinOf π b.pin) (s : Stt X.K X.mg π B H σ μ S) (hB : B d = some (.dK kvs)) (ne : ∀ c μ', evalE b.C b.pin e μ ≠ .err c μ')
    (k : PostF X.K X.mg e.pure π B H S σ W Q (evalE b.C b.pin e μ)) : b.tF X e W σ (upd H d (.frz od (.dK kvs))) fun v H' => H' d = some (.frz od (.dK kvs)) ∧ Q v (upd H' d (.dK kvs)) := by
  have hH := s.sub d _ hB
  have nS : ∀ a, S a → a ≠ d := fun a z w => by have := (s.owned a z).2; rw [w, hB] at this; cases this
  have s1 : Stt X.K X.mg π (upd B d (.frz od (.dK kvs))) (upd H d (.frz od (.dK kvs))) σ μ S := s.sw (lock_sw hB) (ex_upd s.sub) fun a z => ⟨upd_ne (nS a z), by rw [upd_ne (nS a z)]; exact (s.owned a z).2⟩
  refine ⟨π, _, μ, S, hp, s1, ?_⟩
  cases q : evalE b.C b.pin e μ with
  | stuck => rw [q] at k; exact k
  | err c μ' => exact absurd q (ne c μ')
  | ok m μ' =>
    rw [q] at k
    cases m with
    | dat dd =>
      intro p o B' H' S' s' x' u' hp' fr
      have hB' : B' d = some (.frz od (.dK kvs)) := x'.ex d _ upd_same
      have hH' := s'.sub d _ hB'
      have npd : p ≠ d := fun w => by rw [w, hH'] at hp'; cases hp'
      have nS' : ∀ a, S' a → a ≠ d := fun a z w => by have := (s'.owned a z).2; rw [w, hB'] at this; cases this
      have s2 : Stt X.K X.mg π (upd B' d (.dK kvs)) (upd H' d (.dK kvs)) σ μ' S' := s'.sw (unlock_sw hB') (ex_upd s'.sub) fun a z => ⟨upd_ne (nS' a z), by rw [upd_ne (nS' a z)]; exact (s'.owned a z).2⟩
      have exU : ∀ {F G : Hp}, F d = some (.dK kvs) → Ex (upd F d (.frz od (.dK kvs))) G → Ex F (upd G d (.dK kvs)) := fun {F G} hF e a u z => by
        by_cases w : a = d
        · subst w; rw [hF] at z; rw [upd_same]; exact z
        · rw [upd_ne w]; exact e a u (by rw [upd_ne w]; exact z)
      have x2 : Step B H S (upd B' d (.dK kvs)) (upd H' d (.dK kvs)) S' := by
        refine ⟨exU hB x'.ex, fun a u z n => ?_, fun a z => ?_, fun a z => ?_, fun a z => ?_⟩
        · by_cases w : a = d
          · subst w; rw [hH] at z; rw [upd_same]; exact z
          · rw [upd_ne w]; exact x'.fr a u (by rw [upd_ne w]; exact z) n
        · by_cases w : a = d
          · subst w; rw [upd_same] at z; cases z
          · rw [upd_ne w] at z
            have := x'.dom a z
            rwa [upd_ne w] at this
        · rcases x'.ow a z with z2 | z2
          · exact .inl z2
          · rw [upd_ne (nS' a z)] at z2; exact .inr z2
        · by_cases w : a = d
          · subst w; exact .inl (by rw [hB]; simp)
          · rw [upd_ne w] at z
            rcases x'.fz a z with z2 | z2 | z2
            · rw [upd_ne w] at z2; exact .inl z2
            · exact .inr (.inl z2)
            · rw [upd_ne w] at z2; exact .inr (.inr z2)
      refine ⟨by rw [upd_ne fun z => npd z.symm]; exact hH', ?_⟩
      rw [upd_comm npd]
      refine k p o _ _ S' s2 x2 (fun z => exU hH (u' z)) (by rw [upd_ne npd]; exact hp') ?_
      rcases fr with ⟨ds, vs, e1, e2, r⟩ | ⟨ks, ds, vs, e1, e2, l, r⟩
      · exact .inl ⟨ds, vs, e1, e2, r.sw (unlock_sw hB')⟩
      · exact .inr ⟨ks, ds, vs, e1, e2, l, r.sw (unlock_sw hB')⟩
    | _ => trivial
def fKeys : List D → Option (List D)
  | [.dct ks _] => some (ks.map keyToD)
  | _ => none
variable {elt tg : Expr} {ifs : List Expr} {scope : Scope} {own : List (Str × Nat)} {pos spos py npos : Pos} {t : Tg} {c ee : E} {i j : Nat} {yn nn : Str}
def wiK (b : Bd) (X : Cx) (j : Nat) (W : WX) : TI := fun σ H R => tI X.K X.mg b.C b.pin fKeys (.cons (.var j) .nil) W σ H R ∧ ∃ d o kvs, σ[j]? = some (some (.ref d)) ∧ H d = some (.frz o (.dK kvs))
theorem pi_keysK {W : WX} (hNj : X.N[j]? = some nn) (hvj : Vis X.env.scope nn) (hd : (nn == ("__debug__" : Str)) = false) (hcd : (nn == ("__classdict__" : Str)) = false) : PI X tg (.Name nn npos) (wiK b X j W) :=
  PI.imp (pi_keys (pe_var hNj hvj hd hcd)) fun σ H R ⟨⟨π, B, μ, S, hp, s, k⟩, d, o, kvs, e1, e2⟩ => by
    refine ⟨.ref d, e1, d, o, rfl, .inl ⟨kvs, e2, ?_⟩⟩
    cases q : slot μ j with
    | none => simp [evalEs, evalE, q] at k
    | some m =>
      cases m with
      | dat dd =>
        simp only [evalEs, evalE, q, Out.bind] at k
        obtain ⟨ds, xs, h1, h2, k⟩ := k
        have e3 : ds = [dd] := by unfold datsOf datsOf at h1; cases h1; rfl
        subst e3
        cases dd with
        | dct ks ys =>
          cases h2
          refine k _ B H S s (Step.refl B H S) (fun _ => Ex.refl H) ?_
          obtain ⟨v, ev, r⟩ := s.getD q
          rw [e1] at ev
          cases ev
          obtain ⟨a, vs, ea, hr, hl, _⟩ := rep_dct r
          cases ea
          have ek : B d = some (.frz o (.dK kvs)) ∧ kvs = ks.zip vs := by
            rcases hr with hr | ⟨o', hr⟩
            · have := s.sub d _ hr; rw [e2] at this; cases this
            · have := s.sub d _ hr; rw [e2] at this; cases this; exact ⟨hr, rfl⟩
          obtain ⟨eB, rfl⟩ := ek
          intro n B' H' x1 x2
          have hd' := x2 d _ (x1 d _ eB)
          have lz : (ks.zip vs).length = ks.length := by rw [List.length_zip]; omega
          refine ⟨fun dk hk => ?_, fun hk hle => ⟨hd', ?_⟩⟩
          · have hn : n < ks.length := by
              have := (List.getElem?_eq_some_iff.mp hk).1
              simpa using this
            refine ⟨⟨hd', by omega⟩, fun x H'' y => ?_⟩
            obtain ⟨eH, k0, v0, hz, ex⟩ := y
            subst eH ex
            refine ⟨B', PStep.refl x2, ?_⟩
            have e5 : ks[n]? = some k0 := by
              rw [List.getElem?_zip_eq_some] at hz
              exact hz.1
            rw [List.getElem?_map, e5] at hk
            cases hk
            exact key_rep' k0
          · have : ks.length ≤ n := by
              have := List.getElem?_eq_none_iff.mp hk
              simpa using this
            omega
        | _ => cases h2
      | _ => simp [evalEs, evalE, q] at k
theorem comp_var {C : Nat → List M → Mi.CR} {pin own : List Nat} {μ : Env} (h : evalE C pin (.comp false own t fKeys (.cons (.var j) .nil) c ee) μ ≠ .stuck) : (∃ ks xs, slot μ j = some (.dat (.dct ks xs))) ∧ ∀ x y, evalE C pin (.comp false own t fKeys (.cons (.var j) .nil) c ee) μ ≠ .err x y := by
  unfold evalE at h ⊢
  split at h
  rotate_left
  · exact absurd rfl h
  rename_i g
  simp only [if_pos g]
  cases q : slot μ j with
  | none => simp [evalEs, evalE, q] at h
  | some m =>
    cases m with
    | dat dd =>
      cases dd with
      | dct ks xs =>
        refine ⟨⟨ks, xs, rfl⟩, fun x y z => ?_⟩
        simp only [evalEs, evalE, q, Out.bind, datsOf, Option.map, fKeys] at z
        split at z
        · cases z
        · rename_i hz
          revert hz
          generalize compLoop own t _ _ _ _ _ = O
          intro hz
          cases O with
          | stuck => cases hz
          | err c μ => unfold Out.lets at hz; dsimp only at hz; rw [if_neg fun z => Bool.false_ne_true z.1] at hz; cases hz
          | ok a μ => cases hz
        · split at z <;> cases z
      | _ => simp [evalEs, evalE, q, datsOf, fKeys] at h
    | _ => simp [evalEs, evalE, q] at h
theorem PS.or {st : Stmt} {t t' : TS} (h : PS X st t) (h' : PS X st t') : PS X st fun D σ H => t D σ H ∨ t' D σ H := ⟨fun pins s σ H D I q => q.elim (h.run pins s σ H D I) (h'.run pins s σ H D I)⟩
/-- name = [.. for .. in a dict's name] -/
theorem ms_setLcK (hc : X.calm = true) (hN : X.N.Nodup) (hy : X.N[i]? = some yn) (hyl : X.env.scope.names.lookup yn = some .local)
    (hsw : swapsWith (.ListComp elt [⟨tg, .Name nn npos, ifs, 0⟩] scope pos) (some (.Name yn py)) spos.line X.env = pure true) (hNj : X.N[j]? = some nn) (hvj : Vis X.env.scope nn) (ok : BlkOk X.N X.env.scope scope own)
    (hg : ∀ (s : Shared) (H : Hp) (C : Addr) (cl : List (Str × Addr)) (fp : List Addr), MG b (X.blk s H scope (compEnvC scope cl C X.env) fp) tg t)
    (ht : ∀ (s : Shared) (H : Hp) (C : Addr) (cl : List (Str × Addr)) (fp : List Addr), MTs b (X.blk s H scope (compEnvC scope cl C X.env) fp) ifs c)
    (he : ∀ (s : Shared) (H : Hp) (C : Addr) (cl : List (Str × Addr)) (fp : List Addr), ME b (X.blk s H scope (compEnvC scope cl C X.env) fp) elt ee)
    (hs : ∀ x, foldedSetIterable (.Name nn npos) X.env x = pure x := by intro _; rfl) (hd : (nn == ("__debug__" : Str)) = false := by decide) (hcd : (nn == ("__classdict__" : Str)) = false := by decide) :
    MS b X (.Assign [.Name yn py] (.ListComp elt [⟨tg, .Name nn npos, ifs, 0⟩] scope pos) spos) (.set (.one i) (.comp false (own.map (·.2)) t fKeys (.cons (.var j) .nil) c ee)) := fun W tk => by
  have core := ps_setLc (py := py) (spos := spos) (g := tG X.K X.mg b.pin t) (tt := b.tT X c fun _ _ _ _ => False) (te := b.tE X ee fun _ _ _ _ => False) hc hN hy hyl hsw (pi_keysK (b := b) (W := W) (npos := npos) (tg := tg) hNj hvj hd hcd) ok (fun s H C cl fp => hg s H C cl fp) (fun s H C cl fp => ht s H C cl fp _ takes0) (fun s H C cl fp => he s H C cl fp _ takes0) hs
  refine PS.imp (PS.or (ps_lock core) core) fun D σ H h => ?_
  have h1 : b.tE X (.comp false (own.map (·.2)) t fKeys (.cons (.var j) .nil) c ee) W σ H (fun x H1 => tG X.K X.mg b.pin (.one i) x σ H1 D.nx) := set_imp h
  have h2 : b.tE X (.comp false (own.map (·.2)) t fKeys (.cons (.var j) .nil) c ee) W σ H (fun x H1 => gName i x σ H1 D.nx) := tE_mono h1 fun v H q => tG_gName q
  obtain ⟨π, B, μ, S, hp, s, k⟩ := tE_tF h2
  have nst : evalE b.C b.pin (.comp false (own.map (·.2)) t fKeys (.cons (.var j) .nil) c ee) μ ≠ .stuck := fun z => by rw [z] at k; exact k
  obtain ⟨⟨ks, xs, hsl⟩, nerr⟩ := comp_var nst
  obtain ⟨v, ev, r⟩ := s.getD hsl
  obtain ⟨a, vs, rfl, hr, hl, _⟩ := rep_dct r
  rcases hr with hr | ⟨o, hr⟩
  · refine .inl ⟨a, _, s.sub a _ hr, trivial, fun od => ?_⟩
    have q := comp_imp (lock_tF (od := od) hp s hr nerr k)
    exact ⟨q, a, od, _, ev, upd_same⟩
  · refine .inr ?_
    have q := comp_imp ⟨π, B, μ, S, hp, s, k⟩
    exact ⟨q, a, o, _, ev, s.sub a _ hr⟩
end
theorem mut_pop0 {K : PySem.W.Frag} {mg : Str → Option Value} : MutOk K mg fPop fun us v vs H Q => us = [] → rPop v vs H Q := fun B H m v T ws ms us vs U0 U m' d Q e rm r0 r1 d1 d2 d3 hf k hu => by
  have hv : vs = [] := by
    obtain ⟨rfl, _⟩ := repMs_nil r0 hu
    have l := repMs_len r1
    have hm : ms = [] := by
      cases ms with
      | nil => rfl
      | cons m1 r => cases m <;> cases hf
    rw [hm] at l
    exact List.eq_nil_of_length_eq_zero l.symm
  exact mut_pop B H m v T ws ms us vs U0 U m' d Q e rm r0 r1 d1 d2 d3 hf k hu hv
/-! ### for the plain law -/
theorem call_ret {sub : Str → Str → Bool} {tab : Nat → Option Fn} {N k g : Nat} {fn : Fn} {ms : List M} {m : M} {μ' : Mi.Env} (h : tab g = some fn) (hl : ms.length = fn.np) (e : execSs sub (callF sub tab N k) fn.pin N fn.body (startE fn ms) = .ret m μ') : callF sub tab N (k + 1) g ms = .ok m (outsOf fn μ') := by
  show (match tab g with | some fn => if ms.length = fn.np then fnEnd fn (execSs sub (callF sub tab N k) fn.pin N fn.body (startE fn ms)) else .stuck | none => .stuck) = _
  rw [h]
  dsimp only
  rw [if_pos hl, e]
  rfl
theorem atI_mem {α : Type} {xs : List α} {i : Int} (h0 : 0 ≤ i) (h : i < (xs.length : Nat)) : ∃ d, d ∈ xs ∧ atI xs i = some d := by
  obtain ⟨j, rfl⟩ : ∃ j : Nat, i = j := ⟨i.toNat, (Int.toNat_of_nonneg h0).symm⟩
  have hj : j < xs.length := by omega
  exact ⟨xs[j], List.getElem_mem hj, atI_nat (by simp [hj])⟩
theorem fAddX_l {xs ys : List D} (h : xs.length + ys.length ≤ sizeLine) : fAddX (.lst xs) (.lst ys) = some (.lst (xs ++ ys)) := by
  show fAddL (.lst xs) (.lst ys) = _
  unfold fAddL
  dsimp only
  rw [if_pos h]
theorem fTup_n {xs : List D} (h : xs.length ≤ 1000) : fTup xs = some (.tup xs) := by
  unfold fTup
  rw [if_pos (Nat.le_trans h (by decide))]
theorem fLst_n {xs : List D} (h : xs.length ≤ 1000) : fLst xs = some (.lst xs) := by
  unfold fLst
  rw [if_pos (Nat.le_trans h (by decide))]
theorem le_line {n : Nat} (h : n ≤ 1000000) : n ≤ sizeLine := Nat.le_trans h (by decide)
end Mi
/-! Mi19: comprehensions in the plain law. -/
namespace Mi
open PySem L2
theorem comp_keep {own : List Nat} {t : Tg} {c e : Mi.Env → Out D} {d x : D} {ds acc : List D} {μ μ1 μ2 μ3 : Mi.Env} (h1 : setTg t (.dat d) μ = some μ1) (h2 : c μ1 = .ok (.bl true) μ2) (h3 : e μ2 = .ok x μ3) : compLoop own t c e (d :: ds) acc μ = compLoop own t c e ds (acc ++ [x]) (wipeE own μ3) := by
  show (match setTg t (.dat d) μ with | none => Out.stuck | some μ1 => _) = _
  rw [h1]
  dsimp only
  rw [h2]
  dsimp only [Out.bind]
  rw [h3]
theorem comp_skip {own : List Nat} {t : Tg} {c e : Mi.Env → Out D} {d : D} {ds acc : List D} {μ μ1 μ2 : Mi.Env} (h1 : setTg t (.dat d) μ = some μ1) (h2 : c μ1 = .ok (.bl false) μ2) : compLoop own t c e (d :: ds) acc μ = compLoop own t c e ds acc (wipeE own μ2) := by
  show (match setTg t (.dat d) μ with | none => Out.stuck | some μ1 => _) = _
  rw [h1]
  dsimp only
  rw [h2]
  rfl
section
variable {sub : Str → Str → Bool} {C : Nat → List M → Mi.CR} {pin : List Nat} {N : Nat} {μ μ1 μ2 : Mi.Env}
theorem ev_comp {own : List Nat} {t : Tg} {f : List D → Option (List D)} {src : Es} {c e : E} {ms : List M} {ds xs ys : List D} (g : ((own.all fun i => !pin.contains i) = true && (t.slots.all fun i => own.contains i) = true) = true) (h1 : evalEs C pin src μ = .ok ms μ1) (h2 : datsOf ms = some ds) (h3 : f ds = some xs)
    (h4 : compLoop own t (fun μ => datOf (evalE C pin c μ)) (fun μ => datOf (evalE C pin e μ)) xs [] (wipeE own μ1) = .ok ys μ2) (h5 : ys.length ≤ sizeLine) : evalE C pin (.comp false own t f src c e) μ = .ok (.dat (.lst ys)) μ2 := by
  show (if ((own.all fun i => !pin.contains i) = true && (t.slots.all fun i => own.contains i) = true) = true then _ else _) = _
  rw [if_pos g, h1]
  dsimp only [Out.bind]
  rw [h2]
  dsimp only
  rw [h3]
  dsimp only
  rw [h4]
  dsimp only [Out.lets]
  rw [if_pos h5]
theorem ret_sum {CE : E} {xs : List D} {n a : Int} (h : evalE C pin CE μ = .ok (.dat (.lst xs)) μ1) (hs : fSum [.lst xs] = some (.int n)) : execS sub C pin N (.ret (.op2 fAddX (.con (.int a)) (.opN fSum (.cons CE .nil)))) μ = .ret (.dat (.int (a + n))) μ1 := by
  have e2 : evalEs C pin (.cons CE .nil) μ = .ok [.dat (.lst xs)] μ1 := by
    show ((evalE C pin CE μ).bind _) = _
    rw [h]
    rfl
  have e1 : evalE C pin (.opN fSum (.cons CE .nil)) μ = .ok (.dat (.int n)) μ1 := by
    show ((evalEs C pin (.cons CE .nil) μ).bind _) = _
    rw [e2]
    show outD (fSum [.lst xs]) μ1 = _
    rw [hs]
    rfl
  have e0 : evalE C pin (.op2 fAddX (.con (.int a)) (.opN fSum (.cons CE .nil))) μ = .ok (.dat (.int (a + n))) μ1 := by
    show ((evalE C pin (.opN fSum (.cons CE .nil)) μ).bind _) = _
    rw [e1]
    rfl
  show ((evalE C pin (.op2 fAddX (.con (.int a)) (.opN fSum (.cons CE .nil))) μ).res _) = _
  rw [e0]
  rfl
theorem set_ok {i : Nat} {e : E} {m : M} (hp : pin.contains i = false) (h : evalE C pin e μ = .ok m μ1) (hl : i < μ1.length) : execS sub C pin N (.set (.one i) e) μ = .nx (μ1.set i (some m)) := by
  show ((evalE C pin e μ).res _) = _
  rw [h]
  show (if _ then _ else _) = _
  rw [if_pos (by show ((!pin.contains i) && true) = true; rw [hp]; rfl)]
  show (match (if i < μ1.length then some (μ1.set i (some m)) else none) with | some μ2 => Mi.Res.nx μ2 | none => .stuck) = _
  rw [if_pos hl]
end
theorem atI_0 {α : Type} (x : α) (xs : List α) : atI (x :: xs) 0 = some x := by
  have := atI_nat (xs := x :: xs) (j := 0) (v := x) rfl
  simpa using this
theorem atI_1 {α : Type} (x y : α) (xs : List α) : atI (x :: y :: xs) 1 = some y := by
  have := atI_nat (xs := x :: y :: xs) (j := 1) (v := y) rfl
  simpa using this
theorem atI_2 {α : Type} (x y z : α) (xs : List α) : atI (x :: y :: z :: xs) 2 = some z := by
  have := atI_nat (xs := x :: y :: z :: xs) (j := 2) (v := z) rfl
  simpa using this
theorem intsD_map : ∀ ns : List Int, intsD (ns.map .int) = some ns
  | [] => rfl
  | n :: r => by
    show (intsD (r.map .int)).map (n :: ·) = _
    rw [intsD_map r]
    rfl
theorem fSum_l (ns : List Int) : fSum [.lst (ns.map .int)] = some (.int ns.sum) := by
  show (intsD (ns.map .int)).map (fun ns => D.int ns.sum) = _
  rw [intsD_map]
  rfl
theorem toDs_dats (ds : List D) : M.toDs (ds.map .dat) = ds := by
  induction ds with
  | nil => rfl
  | cons d r ih =>
    show M.toD (.dat d) :: M.toDs (r.map .dat) = _
    rw [ih]; rfl
end Mi
/-! Mi22: comprehensions whose element may raise. -/
namespace Mi
open PySem L2
section
variable {b : Bd} {X : Cx} {elt tg iter : Expr} {ifs : List Expr} {scope : Scope} {own : List (Str × Nat)} {pos spos py : Pos} {t : Tg} {f : List D → Option (List D)} {src : Es} {c e : E} {i : Nat} {yn : Str}
/-- the parts of such a block -/
structure MBlk (b : Bd) (X : Cx) (tg : Expr) (ifs : List Expr) (elt : Expr) (scope : Scope) (t : Tg) (c e : E) : Prop where
  g : ∀ (s : Shared) (H : Hp) (C : Addr) (cl : List (Str × Addr)) (fp : List Addr) (W : WX), MG b (blkX X s H scope (compEnvC scope cl C X.env) fp W) tg t
  t : ∀ (s : Shared) (H : Hp) (C : Addr) (cl : List (Str × Addr)) (fp : List Addr) (W : WX), MTs b (blkX X s H scope (compEnvC scope cl C X.env) fp W) ifs c
  e : ∀ (s : Shared) (H : Hp) (C : Addr) (cl : List (Str × Addr)) (fp : List Addr) (W : WX), ME b (blkX X s H scope (compEnvC scope cl C X.env) fp W) elt e
theorem MBlk.x (h : MBlk b X tg ifs elt scope t c e) : BlkX X tg ifs elt scope (tG X.K X.mg b.pin t) (fun W => b.tT X c W) (fun W => b.tE X e W) :=
  ⟨fun s H C cl fp W => h.g s H C cl fp W, fun s H C cl fp W => h.t s H C cl fp W W takes_blk, fun s H C cl fp W => h.e s H C cl fp W W takes_blk⟩
theorem mf_compX (hst : X.stack = X.env :: X.outer) (hfr : X.env.frame = some X.env.locals) (hc : X.calm = true) (hN : X.N.Nodup) (hi : MI b X tg iter f src) (ok : BlkOk X.N X.env.scope scope own) (bk : MBlk b X tg ifs elt scope t c e)
    (hs : ∀ x, foldedSetIterable iter X.env x = pure x := by intro _; rfl) : MF b X (.ListComp elt [⟨tg, iter, ifs, 0⟩] scope pos) (.comp true (own.map (·.2)) t f src c e) := fun W tk =>
  PE.imp (pe_lcX (g := tG X.K X.mg b.pin t) hst hfr tk hc hN (hi W tk) ok bk.x hs) fun σ H Q q => comp_impG (xx := true) (Wc := wOut W σ) (fun _ => rfl) q
theorem ms_setLcX (hst : X.stack = X.env :: X.outer) (hfr : X.env.frame = some X.env.locals) (hc : X.calm = true) (hN : X.N.Nodup) (hy : X.N[i]? = some yn) (hyl : X.env.scope.names.lookup yn = some .local)
    (hsw : swapsWith (.ListComp elt [⟨tg, iter, ifs, 0⟩] scope pos) (some (.Name yn py)) spos.line X.env = pure true) (hi : MI b X tg iter f src) (ok : BlkOk X.N X.env.scope scope own) (bk : MBlk b X tg ifs elt scope t c e)
    (ow : Bool) (hs : ∀ x, foldedSetIterable iter X.env x = pure x := by intro _; rfl) :
    MS b X (.Assign [.Name yn py] (.ListComp elt [⟨tg, iter, ifs, 0⟩] scope pos) spos) (.set (.one i) (if ow = true then .own (.comp true (own.map (·.2)) t f src c e) else .comp true (own.map (·.2)) t f src c e)) := fun W tk =>
  PS.imp (ps_setLcX (g := tG X.K X.mg b.pin t) (tt := fun W => b.tT X c W) (te := fun W => b.tE X e W) hst hfr tk hc hN hy hyl hsw (hi W tk) ok bk.x hs) fun D σ H h => by
    have h1 := set_imp h
    cases ow with
    | true =>
      have h2 : b.tE X (.own (.comp true (own.map (·.2)) t f src c e)) W σ H (fun x H1 => tG X.K X.mg b.pin (.one i) x σ H1 D.nx) := h1
      exact comp_impG (xx := true) (Wc := wOut W σ) (fun _ => rfl) (tE_own (tE_mono h2 fun v H q => tG_gName q))
    | false =>
      have h2 : b.tE X (.comp true (own.map (·.2)) t f src c e) W σ H (fun x H1 => tG X.K X.mg b.pin (.one i) x σ H1 D.nx) := h1
      exact comp_impG (xx := true) (Wc := wOut W σ) (fun _ => rfl) (tE_tF (tE_mono h2 fun v H q => tG_gName q))
end
end Mi
/-! Mi23: o.f op= a number; a call with defaults; a copy of a dict; numbers of the module. -/
namespace Mi
open PySem L2
def fAugFld (c n : Str) (f : Int → Int → Int) (j : Int) : M → List M → Option (M × M)
  | .ins c' ks xs, [] => if c' = c ∧ ks.length < 1000 then
      match (fldIx ks n).bind (xs[·]?) with
      | some (.dat (.int a)) => let r := setFld n (.dat (.int (f a j))) ks xs; some (.ins c r.1 r.2, .dat .non)
      | _ => none
    else none
  | _, _ => none
def rAugI (f : Int → Int → Int) : V → V → Hp → VK → Prop := fun x y H Q => ∃ i j, x = .int i ∧ y = .int j ∧ Q (.int (f i j)) H
section
variable {b : Bd} {X : Cx} {x y o : Expr} {e ex : E} {xs : List Expr} {as : As} {p : Path} {pos ppos : Pos} {n : Str}
theorem mut_augFld {K : PySem.W.Frag} {mg : Str → Option Value} {c : Str} {C : Addr} {f : Int → Int → Int} {j : Int} (hC : mg c = some (.ref C)) :
    MutOk K mg (fAugFld c n f j) fun us v vs H Q => us = [] → vs = [] → ∃ a dx fs i, v = .ref a ∧ H a = some (.ins C dx fs) ∧ fs.lookup n = some (.int i) ∧ fs.length < 1000 ∧ Q .non (upd H a (.ins C dx (putF n (.int (f i j)) fs))) := fun B H m v T ws ms us vs U0 U m' d Q e rm r0 r1 d1 d2 d3 hf k hu hv => by
  obtain ⟨rfl, n0⟩ := repMs_nil r0 hu
  obtain ⟨rfl, n1⟩ := repMs_nil r1 hv
  unfold fAugFld at hf
  split at hf
  · rename_i c' ks xs _
    split at hf
    · rename_i hh
      obtain ⟨rfl, hl⟩ := hh
      split at hf
      · rename_i i hi
        cases hf
        unfold RepM at rm
        obtain ⟨a, zs, A, rfl, ⟨⟨C', dx, hC', ho⟩, hkl⟩, hB, h4, h5, h6⟩ := rm
        rw [hC] at hC'
        cases hC'
        cases q : fldIx ks n with
        | none => rw [q] at hi; cases hi
        | some t =>
          rw [q] at hi
          have hi : xs[t]? = some (.dat (.int i)) := hi
          obtain ⟨w, Ti, k1, k2, _, _⟩ := h4.at hi
          obtain ⟨w', e1, e2⟩ := zip_lookup q hkl
          rw [k1] at e1
          cases e1
          have ew := rep_int (repM_dat.mp k2).1
          subst ew
          have nA : ∀ b, A b → b ≠ a := fun b z w => h5 (by rw [← w]; exact z)
          have ry : RepM K mg B H (.dat (.int (f i j))) (.int (f i j)) (fun _ => False) := repM_dat.mpr ⟨by unfold Rep; rfl, fun _ z => z⟩
          obtain ⟨us', A', k1, k2, k3, k4⟩ := setFld_ok (n := n) ry hkl h4 fun b z w => z
          have own : ∀ b, A' b → b ≠ a ∧ B b = none := fun b z => (k4 b z).elim (fun z => ⟨nA b z, (h4.owned b z).2⟩) fun z => z.elim
          refine ⟨a, dx, _, i, rfl, ho, e2, by rw [List.length_zip]; omega, ?_⟩
          rw [k3]
          refine k .non B _ (fun b => b = a ∨ A' b) (fun _ => False) ((step_upd (.inl ((h6 a).mpr (.inl rfl)))).weak (fun _ z => z) fun b z => ?_) (fun b o z => ?_) ?_ (repM_dat.mpr ⟨by unfold Rep; rfl, fun _ z => z⟩) fun _ _ z => z
          · rcases z with (z | z) | z
            · exact .inl ((h6 b).mpr (.inl z))
            · exact (k4 b z).elim (fun z => .inl ((h6 b).mpr (.inr z))) fun z => z.elim
            · exact z.elim
          · rw [upd_ne fun w => by rw [w, hB] at z; cases z]; exact e b o z
          · unfold RepM
            exact ⟨a, us', A', rfl, ⟨⟨C, dx, hC, upd_same⟩, k2⟩, hB, k1.congr (Ex.refl B) fun b z => ⟨upd_ne (own b z).1, (own b z).2⟩, fun z => (own a z).1 rfl, fun b => Iff.rfl⟩
      · cases hf
    · cases hf
  · cases hf
/-- o.f op= a number -/
theorem ms_fldaug {c : Str} {C : Addr} {op : Operator} {f : Int → Int → Int} {j : Int} {jj : Nat} {jp tpos : Pos} (hC : X.mg c = some (.ref C)) (hc : Cls X.K C) (hn : NoAttr X.K C n) (hop : InOp X op (rAugI f)) (ho : MP b X o p) :
    MS b X (.AugAssign (.Attribute o n tpos) op (.Constant (.int j) jj jp) pos) (.expr (.mut 2 (fAugFld c n f j) .nil p .nil)) := fun W tk => PS.imp (ps_fldaug ho (pe_int (i := j)) hop) fun D σ H h => by
  have h1 := es_nil (mut_ok (mut_augFld (n := n) (f := f) (j := j) hC) (expr_imp h))
  refine tP_mono h1 fun v H2 q2 => ?_
  obtain ⟨a, dx, fs, i, k1, k2, k3, k4, k5⟩ := es_nil q2.2 rfl rfl
  exact ⟨a, C, dx, fs, .int i, k1, k2, hc, hn, k3, i, j, rfl, rfl, dx, fs, k2, k4, k5⟩
/-- a number of the module -/
theorem me_globI {i : Int} (hg : Gl X n) (hm : ∃ t, X.mg n = some (.int i t)) (hd : (n == ("__debug__" : Str)) = false := by decide) : ME b X (.Name n pos) (.con (.int i)) := by
  obtain ⟨t, hm⟩ := hm
  exact me_glob (v := .int i) hg hm ⟨t, rfl⟩ (fun B => by unfold Rep; rfl) hd
/-! ### a copy of a dict -/
def fDictC : List D → Option D
  | [.dct ks xs] => some (.dct ks xs)
  | _ => none
theorem impN_dictC {K : PySem.W.Frag} {mg : Str → Option Value} : ImpNF K mg fDictC fun xs H Q => ∃ (a : Addr) (kvs : List (Key × V)), xs = [.ref a] ∧ Rd H a (.dK kvs) ∧ ∀ p, H p = none → Q (.ref p) (upd H p (.dK kvs)) := fun B H xs ds d3 Q e r hf k => by
  unfold fDictC at hf
  split at hf
  · rename_i ks ys
    cases hf
    obtain ⟨v, rfl, r1⟩ := repL1 r
    obtain ⟨a, vs, rfl, hr, hl, h4⟩ := rep_dct r1
    exact ⟨a, _, rfl, e.r hr, fun p hp => k p _ hp (.inr ⟨ks, ys, vs, rfl, rfl, hl, h4⟩)⟩
  · cases hf
end
end Mi
/-! Mi24: defs with defaults. -/
namespace Mi
open PySem L2
section
variable {P : Program} {w : World} {K : PySem.W.Frag} {mg : Str → Option Value} {base : Heap}
open PyProof.Rows PySem.Spec in
/-- a def by its body -/
def OkX (P : Program) (w : World) (K : PySem.W.Frag) (mg : Str → Option Value) (base : Heap) (qual : Str) (st : Stmt) (f : Addr) (fd : FuncData) : Prop :=
  ∀ {N ps : List Str} {k : Nat} {sp : Sp}, FnScope N ps (defScope st) → (∀ vs H Q E, sp vs H Q E → vs.length = ps.length) →
    (∀ (cdv : Value) (A : Around) (outer : List PySem.Env) (s : Shared) (H : Hp) (vs : List V) (Q : VK) (E : XK), Room k (A.deeper (envOfC qual (defScope st) s.heap.objs.size f cdv)) → sp vs H Q E →
      ∃ t, PSs (cxOf (L2.CX P w) P w K mg base N qual (defScope st) f cdv A outer s H E) (defBody st) t ∧ t { nx := fun _ H' => Q .non H', rt := Q } (L2.start N vs) H) → FnOk P w K mg base (L2.CX P w) (k + 1) f fd ps sp
theorem okx_of {x qual : Str} {st : Stmt} {f : Addr} {fd : FuncData} (F : Fun K x qual st f fd) : OkX P w K mg base qual st f fd := fun S len hb => F.okX S len hb
theorem okx_ofD {x qual : Str} {st : Stmt} {f : Addr} {fd : FuncData} {dvs : List V} {kws : List (Str × V)} (F : FunD K x qual (defArgs st) (defBody st) (defScope st) dvs kws f fd) : OkX P w K mg base qual st f fd := fun S len hb => F.ok S len hb
open PyProof.Rows PySem.Spec in
/-- THE RULE: a def, by its body -/
theorem fn_okX {qual : Str} {st : Stmt} {f : Addr} {fd : FuncData} {N ps : List Str} {k : Nat} {fn : Fn} {C : Nat → List M → CR} {sub : Str → Str → Bool} {NN : Nat} {cf : List M → CR} (F : OkX P w K mg base qual st f fd) (S : FnScope N ps (defScope st))
    (hcf : ∀ ms, cf ms = if ms.length = fn.np then fnEnd fn (execSs sub C fn.pin NN fn.body (startE fn ms)) else .stuck) (hn : N.length = fn.n) (hp : ps.length = fn.np) (hle : fn.np ≤ fn.n)
    (hb : ∀ (cdv : Value) (A : Around) (outer : List PySem.Env) (s : Shared) (H : Hp) (E : XK), Room k (A.deeper (envOfC qual (defScope st) s.heap.objs.size f cdv)) →
      MSs ⟨C, fn.pin, sub, NN⟩ (cxOf (L2.CX P w) P w K mg base N qual (defScope st) f cdv A outer s H E) (defBody st) fn.body) : FnOk P w K mg base (L2.CX P w) (k + 1) f fd ps (spF K mg cf) := by
  have len : ∀ {vs : List V} {H : Hp} {Q : VK} {E : XK} {B : Hp} {A : ASet} {ms : List M}, RepMs K mg B H ms vs A → (match cf ms with
      | .stuck => False
      | .err c outs => ∀ B' H' So, Ex B' H' → Step B H A B' H' So → OutRep K mg B' H' outs vs So → ∀ C, mg c = some (.ref C) → E (.ref C) none H'
      | .ok m outs => ∀ v B' H' So T, Ex B' H' → OutRep K mg B' H' outs vs So → RepM K mg B' H' m v T → (∀ a, T a → ¬ So a) → Step B H A B' H' (fun a => So a ∨ T a) → Q v H') → ms.length = fn.np := fun {vs H Q E B A ms} _ h => by
    rw [hcf ms] at h
    by_cases e : ms.length = fn.np
    · exact e
    · rw [if_neg e] at h; exact h.elim
  refine F S (fun vs H Q E h => ?_) fun cdv A outer s H vs Q E hr h => ?_
  · obtain ⟨B, A, ms, _, h1, h2⟩ := h
    rw [← repMs_len h1, len h1 h2, hp]
  · obtain ⟨B, O, ms, hB, h1, h2⟩ := h
    have hl := len h1 h2
    have hlv : vs.length = fn.np := by rw [← repMs_len h1]; exact hl
    have tk : Takes (cxOf (L2.CX P w) P w K mg base N qual (defScope st) f cdv A outer s H E) (fun cls d _ H => E cls d H) := takes_of rfl rfl rfl rfl
    refine ⟨_, hb cdv A outer s H E hr _ tk, pinsOf vs fn.pin, B, startE fn ms, O, fun p hp' => ?_, stt_start hB h1 hn hl hle, ?_⟩
    · obtain ⟨i, hi, e⟩ := List.mem_filterMap.mp hp'
      cases ev : vs[i]? with
      | none => rw [ev] at e; cases e
      | some v => rw [ev] at e; cases e; exact hi
    · rw [hcf ms, if_pos hl] at h2
      show PostS K mg _ B H O _ _ (execSs sub C fn.pin NN fn.body (startE fn ms))
      cases q : execSs sub C fn.pin NN fn.body (startE fn ms) with
      | stuck => rw [q] at h2; exact h2
      | brk μ => rw [q] at h2; exact h2.elim
      | cont μ => rw [q] at h2; exact h2.elim
      | err c μ =>
        rw [q] at h2
        intro B' H' σ' S' s' x' Ca hC
        obtain ⟨So, k1, k2⟩ := outs_rep s' hlv
        exact h2 B' H' So s'.sub (x'.weak (fun _ z => z) k2) k1 Ca hC
      | nx μ =>
        rw [q] at h2
        intro B' H' σ' S' s' x'
        obtain ⟨So, k1, k2⟩ := outs_rep s' hlv
        exact h2 .non B' H' So (fun _ => False) s'.sub k1 (repM_dat.mpr ⟨by unfold Rep; rfl, fun _ z => z⟩) (fun _ z => z.elim) (x'.weak (fun _ z => z) fun a z => z.elim (k2 a) False.elim)
      | ret m μ =>
        rw [q] at h2
        intro v B' H' σ' S' T s' r d x'
        obtain ⟨So, k1, k2⟩ := outs_rep s' hlv
        exact h2 v B' H' So T s'.sub k1 r (fun a z w => d a z (k2 a w)) (x'.weak (fun _ z => z) fun a z => z.imp (k2 a) id)

/-! ### arguments that are left out -/
def consAs : List D → As
  | [] => .nil
  | d :: r => .val (.con d) (consAs r)
def As.app : As → As → As
  | .nil, t => t
  | .val e r, t => .val e (As.app r t)
  | .ref p r, t => .ref p (As.app r t)
theorem evalAs_cons {C : Nat → List M → CR} {pin : List Nat} {μ : Env} : ∀ {ds : List D}, evalAs C pin (consAs ds) μ = .ok (ds.map fun d => .val (.dat d)) μ
  | [] => rfl
  | d :: r => by
    show (((Out.ok (M.dat d) μ : Out M)).bind fun m μ1 => (evalAs C pin (consAs r) μ1).bind fun ags μ2 => .ok (.val m :: ags) μ2) = _
    dsimp only [Out.bind]
    rw [evalAs_cons (ds := r)]
    rfl
theorem evalAs_app {C : Nat → List M → CR} {pin : List Nat} {ds : List D} : ∀ {as : As} {μ : Env}, evalAs C pin (as.app (consAs ds)) μ = (evalAs C pin as μ).bind fun ags μ1 => .ok (ags ++ ds.map fun d => .val (.dat d)) μ1
  | .nil, μ => evalAs_cons
  | .val e r, μ => by
    show ((evalE C pin e μ).bind fun m μ1 => (evalAs C pin (r.app (consAs ds)) μ1).bind fun ags μ2 => .ok (.val m :: ags) μ2) = ((evalE C pin e μ).bind fun m μ1 => (evalAs C pin r μ1).bind fun ags μ2 => .ok (.val m :: ags) μ2).bind _
    cases q : evalE C pin e μ with
    | stuck => rfl
    | err c μ1 => rfl
    | ok m μ1 =>
      dsimp only [Out.bind]
      rw [evalAs_app (as := r)]
      cases evalAs C pin r μ1 <;> rfl
  | .ref p r, μ => by
    show (match evalP C pin p μ with | some pl => (evalAs C pin (r.app (consAs ds)) μ).bind fun ags μ2 => .ok (.ref pl :: ags) μ2 | none => .stuck) = Out.bind (match evalP C pin p μ with | some pl => (evalAs C pin r μ).bind fun ags μ2 => .ok (.ref pl :: ags) μ2 | none => .stuck) _
    cases q : evalP C pin p μ with
    | none => rfl
    | some pl =>
      dsimp only
      rw [evalAs_app (as := r)]
      cases evalAs C pin r μ <;> rfl
theorem vals_cons : ∀ {ds : List D}, (consAs ds).vals = true
  | [] => rfl
  | d :: r => by
    show ((E.con d).pure && (consAs r).vals) = true
    rw [vals_cons (ds := r)]
    rfl
theorem vals_app {ds : List D} : ∀ {as : As}, (as.app (consAs ds)).vals = as.vals
  | .nil => vals_cons
  | .val e r => by
    show (e.pure && (r.app (consAs ds)).vals) = (e.pure && r.vals)
    rw [vals_app (as := r)]
  | .ref p r => vals_app (as := r)
theorem ras_cons {fl : Bool} {σ : L2.St} {B H : Hp} : ∀ {ds : List D} {vs : List V}, RepL K mg B ds vs → RAs K mg fl σ B H (ds.map fun d => .val (.dat d)) vs fun _ => False
  | [], vs, h => by
    unfold RepL at h
    show RAs K mg fl σ B H [] vs _
    unfold RAs
    exact ⟨h, fun _ z => z⟩
  | d :: ds, vs, h => by
    unfold RepL at h
    obtain ⟨v, r, rfl, h1, h2⟩ := h
    show RAs K mg fl σ B H (.val (.dat d) :: ds.map fun d => .val (.dat d)) _ _
    unfold RAs
    exact ⟨v, r, fun _ => False, fun _ => False, rfl, repM_dat.mpr ⟨h1, fun _ z => z⟩, ras_cons h2, fun _ z => z.elim, fun _ => ⟨fun z => z.elim, fun z => z.elim id id⟩⟩
theorem ras_app {fl : Bool} {σ : L2.St} {B H : Hp} {ds : List D} {dvs : List V} (hd : RepL K mg B ds dvs) : ∀ {ags : List Ag} {vs : List V} {T : ASet}, RAs K mg fl σ B H ags vs T → RAs K mg fl σ B H (ags ++ ds.map fun d => .val (.dat d)) (vs ++ dvs) T
  | [], vs, T, h => by
    unfold RAs at h
    obtain ⟨rfl, n⟩ := h
    have e : T = fun _ => False := funext fun a => propext ⟨n a, False.elim⟩
    rw [e]
    exact ras_cons hd
  | .val m :: r, vs, T, h => by
    unfold RAs at h
    obtain ⟨v, r', T1, T2, rfl, h1, h2, h3, h4⟩ := h
    show RAs K mg fl σ B H (.val m :: (r ++ ds.map fun d => .val (.dat d))) (v :: (r' ++ dvs)) T
    unfold RAs
    exact ⟨v, _, T1, T2, rfl, h1, ras_app hd h2, h3, h4⟩
  | .ref pl :: r, vs, T, h => by
    unfold RAs at h
    obtain ⟨v, r', rfl, h1, h2⟩ := h
    show RAs K mg fl σ B H (.ref pl :: (r ++ ds.map fun d => .val (.dat d))) (v :: (r' ++ dvs)) T
    unfold RAs
    exact ⟨v, _, rfl, h1, ras_app hd h2⟩
theorem tAs_app {C : Nat → List M → CR} {pin : List Nat} {as : As} {W : WX} {σ : L2.St} {H : Hp} {Q : List V → Hp → Prop} {ds : List D} {dvs : List V} (hd : ∀ B, RepL K mg B ds dvs) (h : tAs K mg C pin (as.app (consAs ds)) W σ H Q) : tAs K mg C pin as W σ H fun vs H1 => Q (vs ++ dvs) H1 := by
  obtain ⟨π, B, μ, S, hp, s, h⟩ := h
  refine ⟨π, B, μ, S, hp, s, ?_⟩
  rw [evalAs_app, vals_app] at h
  cases q : evalAs C pin as μ with
  | stuck => rw [q] at h; exact h
  | err c μ' => rw [q] at h; exact h
  | ok ags μ1 =>
    rw [q] at h
    exact fun vs B1 H1 S1 T s1 r1 d1 x1 u1 => h (vs ++ dvs) B1 H1 S1 T s1 (ras_app (hd B1) r1) d1 x1 u1
end
section
variable {b : Bd} {X : Cx} {x : Expr} {xs : List Expr} {as : As} {pos ppos : Pos} {n : Str}
theorem me_callD {k g : Nat} {o : Bool} {f : Addr} {fd : FuncData} {ps : List Str} {dds : List D} {dvs : List V} (G : FnOk X.prog X.w X.K X.mg X.base (L2.CX X.prog X.w) k f fd ps (spF X.K X.mg (b.C g))) (hr : Room k X.A) (hg : Gl X n) (hm : X.mg n = some (.ref f)) (hk : PySem.W.keepIn X.K (.ref f) = true)
    (hb : ∃ ds, Vals dvs ds ∧ Binds X.K fd ps ds) (hrp : ∀ B, RepL X.K X.mg B dds dvs)
    (ha : MAs b X (x :: xs) as) (hdb : (n == ("__debug__" : Str)) = false := by decide) (he : starEach (x :: xs) X.env = (false, eval x X.env) :: starEach xs X.env := by rfl) (hpl : (backTo pos (starEach xs X.env)).any (·.1) = false := by rfl) :
    ME b X (.Call (.Name n ppos) (x :: xs) [] pos) (.call o g (as.app (consAs dds))) := fun W tk => by
  obtain ⟨ds, hv, hb⟩ := hb
  exact PE.imp (pe_callSD G hr hg hm hk hb hv (fun σ => passAt tk σ) (ha W tk) hdb he hpl) fun σ H Q ⟨π, B, μ, S, hp, s, h⟩ => by
    have h1 : tAs X.K X.mg b.C b.pin (as.app (consAs dds)) W σ H fun vs H1 => spF X.K X.mg (b.C g) vs H1 Q (WE W σ) := by
      unfold evalE at h
      refine ⟨π, B, μ, S, hp, s, ?_⟩
      cases q : evalAs b.C b.pin (as.app (consAs dds)) μ with
      | stuck => rw [q] at h; exact h
      | err c μ' => rw [q] at h; exact h
      | ok ags μ1 =>
        rw [q] at h
        intro vs B1 H1 S1 T s1 r1 d1 x1 u1
        have pr : (E.call o g (as.app (consAs dds))).pure = true → o = false ∧ (as.app (consAs dds)).pure = true := fun q => by
          have q1 := (Bool.and_eq_true _ _).mp q
          exact ⟨by simpa using q1.1, q1.2⟩
        exact call_ok s1 r1 d1 (fun q' => ⟨(pr q').1, fun ms e => pureAs (pr q').2 q μ1 ms e⟩) (h.mono x1 (fun _ z => z) fun q' => u1 (me_call.pureVals (pr q').2))
    exact tAs_app hrp h1
theorem vals_i {i : Int} {t : Nat} : Vals [V.int i] [Value.int i t] := .cons ⟨t, rfl⟩ .nil
theorem repL_i {K : PySem.W.Frag} {mg : Str → Option Value} {i : Int} : ∀ B, RepL K mg B [.int i] [.int i] := fun B => by
  unfold RepL RepL Rep
  exact ⟨_, _, rfl, rfl, rfl⟩
end
end Mi
/-! Mi25: try; raise of an own class; isinstance of what was caught. -/
namespace Mi
open PySem L2
/-- what the classes of errors are to one another; a class is known where it is under itself -/
structure SubOk (K : PySem.W.Frag) (mg : Str → Option Value) (sub : Str → Str → Bool) : Prop where
  exm : ∀ c c' C C', sub c c = true → sub c' c' = true → mg c = some (.ref C) → mg c' = some (.ref C') → PySem.W.exmOne K (.ref C) (.ref C') = some (sub c c')
def tNo : WX := fun _ _ _ _ => False
inductive MHs (b : Bd) (X : Cx) : List ExceptHandler → Hs → Prop
  | nil : MHs b X [] .nil
  | cons {x : Str} {C : Addr} {b₀ : Stmt} {suite : List Stmt} {np pos' : Pos} {hds : List ExceptHandler} {bs : Ss} {hs : Hs} (hc : Names X x (.ref C)) (hm : X.mg x = some (.ref C)) (hx : b.sub x x = true)
      (hsu : ∀ (a : Addr) (pn : List (Addr × Obj)), MSs b (X.suite a pn) (b₀ :: suite) bs) (r : MHs b X hds hs) : MHs b X (.ExceptHandler (some (.Name x np)) none (b₀ :: suite) pos' :: hds) (.cons x none bs hs)
section
variable {b : Bd} {X : Cx} {body : List Stmt} {h₀ : ExceptHandler} {hds : List ExceptHandler} {bs : Ss} {hs : Hs} {pos : Pos}
theorem noErr_post {K : PySem.W.Frag} {mg : Str → Option Value} {π : List (Nat × V)} {B H : Hp} {S : ASet} {W : WX} {D : Ends} {r : Res} (h : PostS K mg π B H S W D r.noErr) : PostS K mg π B H S tNo D r := by
  cases r with
  | err c μ => exact h.elim
  | _ => exact h
theorem hs_ok (SO : SubOk X.K X.mg b.sub) : ∀ {hds : List ExceptHandler} {hs : Hs}, MHs b X hds hs → ∃ l, HdsOk X hds l ∧ ∀ (W : WX) (D : Ends) (c : Str) (μ : Env) (π : List (Nat × V)) (B H : Hp) (σ : L2.St) (S : ASet) (C : Addr), X.mg c = some (.ref C) → PinOf π b.pin → Stt X.K X.mg π B H σ μ S →
    PostS X.K X.mg π B H S W D (execHs b.sub b.C b.pin b.N hs c μ) → wMany X.K W D l (.ref C) none σ H := by
  intro hds hs h
  induction h with
  | nil =>
    refine ⟨[], .nil, fun W D c μ π B H σ S C hC hp s h => ?_⟩
    unfold execHs at h
    exact h B H σ S s (Step.refl _ _ _) C hC
  | @cons x Cx b₀ suite np pos' hds bs hs hc hm hx hsu r ih =>
    obtain ⟨l, hl, ih⟩ := ih
    refine ⟨(.ref Cx, fun a cls d => tSs b X.K X.mg bs tNo) :: l, .cons hc (fun a oe cls d pn _ _ => hsu a ((a, oe) :: pn) tNo takes0) hl, fun W D c μ π B H σ S C hC hp s h => ?_⟩
    unfold execHs at h
    by_cases k : b.sub c c = true
    · rw [if_pos k] at h
      refine ⟨b.sub c x, SO.exm c x C Cx k hx hC hm, fun e a na => ?_, fun e => ?_⟩
      · rw [if_pos e] at h
        exact ⟨π, B, μ, S, hp, s, noErr_post h⟩
      · rw [if_neg (by rw [e]; exact Bool.false_ne_true)] at h
        exact ih W D c μ π B H σ S C hC hp s h
    · rw [if_neg k] at h
      exact h.elim
theorem try_imp {W W' : WX} {D : Ends} {σ : L2.St} {H : Hp} (h : tS b X.K X.mg (.try_ bs hs) W D σ H)
    (k : ∀ c μ π B H σ S C, X.mg c = some (.ref C) → PinOf π b.pin → Stt X.K X.mg π B H σ μ S → PostS X.K X.mg π B H S W D (execHs b.sub b.C b.pin b.N hs c μ) → W' (.ref C) none σ H) : tSs b X.K X.mg bs W' D σ H := by
  obtain ⟨π, B, μ, S, hp, s, h⟩ := h
  refine ⟨π, B, μ, S, hp, s, ?_⟩
  have h : PostS X.K X.mg π B H S W D (match execSs b.sub b.C b.pin b.N bs μ with | .err c μ1 => execHs b.sub b.C b.pin b.N hs c μ1 | r => r) := h
  show PostS X.K X.mg π B H S W' D (execSs b.sub b.C b.pin b.N bs μ)
  cases q : execSs b.sub b.C b.pin b.N bs μ with
  | stuck => rw [q] at h; exact h
  | nx μ' => rw [q] at h; exact h
  | brk μ' => rw [q] at h; exact h
  | cont μ' => rw [q] at h; exact h
  | ret m μ' => rw [q] at h; exact h
  | err c μ' =>
    rw [q] at h
    exact fun B' H' σ' S' s' x' C hC => k c μ' π B' H' σ' S' C hC hp s' (h.mono x' fun _ z => z)
theorem ms_try (hst : X.stack = X.env :: X.outer) (hfr : X.env.frame = some X.env.locals) (SO : SubOk X.K X.mg b.sub) (hb : ∀ (pn : List (Addr × Obj)) (xe : Value → Shared → Prop), PassesOwn (model X.prog X.w) X.A X.env xe → MSs b (X.tr pn xe) body bs) (hh : MHs b X (h₀ :: hds) hs) :
    MS b X (.Try body (h₀ :: hds) [] [] pos) (.try_ bs hs) := fun W tk => by
  obtain ⟨l, hl, hw⟩ := hs_ok SO hh
  exact PS.imp (ps_try_many hst hfr tk (fun W' pn xe tk' hps => hb pn xe hps W' tk') hl) fun D σ H h =>
    try_imp h fun c μ π B H σ S C hC hp s q => hw W D c μ π B H σ S C hC hp s q
/-- an own class of errors -/
structure XCls (K : PySem.W.Frag) (C : Addr) : Prop where
  q : PySem.W.excIn K C [.type "ValueError", .type "Exception", .type "BaseException", .type "object"] "ValueError.__new__" = true
  k : PySem.W.keepIn K (.ref C) = true
  h1 : PySem.W.subIn K (.ref C) (.type "BaseException") = some true
  h2 : PySem.W.typeIn K (.ref C) = some (.type "type")
/-- raise C('..') -/
theorem ms_raiseC {x m : Str} {C : Addr} {j : Nat} {p p2 cpos : Pos} (hc : X.calm = true) (T : XCls X.K C) (gC : X.mg x = some (.ref C)) (hg : Gl X x) (hdb : (x == ("__debug__" : Str)) = false := by decide) :
    MS b X (.Raise (some (.Call (.Name x p) [.Constant (.str m) j p2] [] cpos)) none pos) (.raise x) :=
  ms_raise hc (pmk_own PySem.F.excBase_ValueError T.q gC T.k (raises_own T.h1 T.h2) hg hdb) gC
/-! ### except C as e: y = [isinstance(e, D), ..] -/
/-- what isinstance says of an error -/
structure IslOk (K : PySem.W.Frag) (mg : Str → Option Value) (sub : Str → Str → Bool) : Prop where
  ex : ∀ c C, sub c c = true → mg c = some (.ref C) → ExcC K C
  kit : ∀ c c' C C', sub c c = true → sub c' c' = true → mg c = some (.ref C) → mg c' = some (.ref C') → PySem.W.kitOne K (.ref C) (.ref C') = some (sub c c')
/-- isinstance(e, D), .. -/
inductive IslEs (b : Bd) (X : Cx) (e : Str) : List Expr → List Str → Prop
  | nil : IslEs b X e [] []
  | cons {T : Str} {C : Addr} {p1 p2 p3 p4 : Pos} {els : List Expr} {Ts : List Str} (gT : Gl X T) (mT : X.mg T = some (.ref C)) (kT : b.sub T T = true) (dT : (T == ("__debug__" : Str)) = false) (r : IslEs b X e els Ts) :
      IslEs b X e (.Call (.Name "isinstance" p1) [.Name e p2, .Name T p3] [] p4 :: els) (T :: Ts)
theorem isl_pa {e : Str} {j : Nat} {c : Str} {D a : Addr} {oe : Obj} {pn : List (Addr × Obj)} (IO : IslOk X.K X.mg b.sub) (kc : b.sub c c = true) (hD : X.mg c = some (.ref D)) (hz : Zc (.ref D) none oe) (hf : ∃ vs, oe.data = .fields vs)
    (hN : X.N[j]? = some e) (hv : Vis X.env.scope e) (hd : (e == ("__debug__" : Str)) = false) (hcd : (e == ("__classdict__" : Str)) = false) (hgi : Gl X "isinstance") (hmi : X.mg "isinstance" = none) :
    ∀ {els : List Expr} {Ts : List Str}, IslEs b X e els Ts → PA (X.suite a ((a, oe) :: pn)) els (fun σ H Q => σ[j]? = some (some (.ref a)) ∧ Q (Ts.map fun T => V.bl (b.sub c T)) H) := by
  intro els Ts h
  induction h with
  | nil => exact PA.imp (X := X.suite a ((a, oe) :: pn)) pa_nil fun σ H Q q => q.2
  | @cons T C p1 p2 p3 p4 els Ts gT mT kT dT r ih =>
    have hI : CallR (X.suite a ((a, oe) :: pn)) (.builtin "isinstance") (rIsE X.K D a) := call_isE (X := X) (IO.ex c D kc hD) hz hf
    have v : PE (X.suite a ((a, oe) :: pn)) (.Name e p2) (tVar j) := pe_var (X := X.suite a ((a, oe) :: pn)) hN hv hd hcd
    have g : PE (X.suite a ((a, oe) :: pn)) (.Name T p3) (tC (.ref C)) := pe_glob (X := X.suite a ((a, oe) :: pn)) (v := .ref C) gT mT rfl dT
    have arg : PA (X.suite a ((a, oe) :: pn)) [.Name e p2, .Name T p3] (tCons (tVar j) (tCons (tC (.ref C)) tNil)) := pa_cons v (pa_cons g pa_nil)
    have call := pe_callB (X := X.suite a ((a, oe) :: pn)) (pos := p4) (p := p1) hI hgi hmi (by rfl) arg
    refine PA.imp (X := X.suite a ((a, oe) :: pn)) (pa_cons call ih) fun σ H Q q => ?_
    obtain ⟨e1, q⟩ := q
    exact ⟨_, e1, .ref C, .ref C, b.sub c T, rfl, fun u hu => hu, IO.kit c T D C kc kT hD mT, e1, q⟩
/-- what the suite wishes -/
def tIsl (K : PySem.W.Frag) (mg : Str → Option Value) (sub : Str → Str → Bool) (i j : Nat) (Ts : List Str) (a : Addr) (cls : Value) (d : Option Addr) : TS := fun D σ H => ∃ c C, cls = .ref C ∧ d = none ∧ mg c = some (.ref C) ∧ sub c c = true ∧ σ[j]? = some (some (.ref a)) ∧ Ts.length ≤ sizeLine ∧
  ∀ p, H p = none → D.nx (σ.set i (some (.ref p))) (upd H p (.lst (Ts.map fun T => V.bl (sub c T))))
theorem ms_try_isl {x e yn : Str} {C : Addr} {i j : Nat} {els : List Expr} {Ts : List Str} {np yp lp sp pos' : Pos} (hst : X.stack = X.env :: X.outer) (hfr : X.env.frame = some X.env.locals) (SO : SubOk X.K X.mg b.sub) (IO : IslOk X.K X.mg b.sub) (hN : X.N.Nodup) (hj : X.N[j]? = some e) (hi : X.N[i]? = some yn)
    (hle : X.env.kindOf e = some .local) (hv : Vis X.env.scope e) (hly : Loc X.env.scope yn) (hfy : X.fn yn = true ∨ X.env.scope.names.lookup yn = some .local) (hc : Names X x (.ref C)) (hm : X.mg x = some (.ref C)) (hx : b.sub x x = true) (hgi : Gl X "isinstance") (hmi : X.mg "isinstance" = none) (hTs : Ts.length ≤ sizeLine)
    (hb : ∀ (pn : List (Addr × Obj)) (xe : Value → Shared → Prop), PassesOwn (model X.prog X.w) X.A X.env xe → MSs b (X.tr pn xe) body bs) (hel : IslEs b X e els Ts)
    (hd : (e == ("__debug__" : Str)) = false := by decide) (hcd : (e == ("__classdict__" : Str)) = false := by decide)
    (hs : ∀ Y : Cx, Y.env = X.env → swapsWithSole [.Name yn yp] (.List els lp) sp.line Y.env = pure false := by intro _ _; rfl) (hw : ∀ Y : Cx, Y.env = X.env → swappedStores [.Name yn yp] (.List els lp) Y.env = pure none := by intro _ _; rfl) :
    MS b X (.Try body [.ExceptHandler (some (.Name x np)) (some e) [.Assign [.Name yn yp] (.List els lp) sp] pos'] [] [] pos) (.try_ bs (.cons x (some j) (.cons (.isl i j Ts) .nil) .nil)) := fun W tk => by
  refine PS.imp (ps_try_as (tb := fun W' => tSs b X.K X.mg bs W') (ts := tIsl X.K X.mg b.sub i j Ts) (i := j) hst hfr hN hj hle hc tk (fun W' pn xe tk' hps => hb pn xe hps W' tk') fun a oe cls d pn hz hf => ?_) fun D σ H h => ?_
  · refine ⟨fun pins s σ H D I h => ?_⟩
    obtain ⟨c, Cc, rfl, rfl, hC, kc, e1, hl, hn⟩ := h
    have pa := isl_pa (a := a) (oe := oe) (pn := pn) IO kc hC hz hf hj hv hd hcd hgi hmi hel
    have asg : PS (X.suite a ((a, oe) :: pn)) (.Assign [.Name yn yp] (.List els lp) sp) (tAsg (tLst fun σ H Q => σ[j]? = some (some (.ref a)) ∧ Q (Ts.map fun T => V.bl (b.sub c T)) H) (gName i)) :=
      ps_asg (X := X.suite a ((a, oe) :: pn)) (pe_lst pa) (pg_name hN hi hly hfy) (hs (X.suite a ((a, oe) :: pn)) rfl) (hw (X.suite a ((a, oe) :: pn)) rfl)
    exact (pss_cons asg pss_nil).run pins s σ H D I ⟨e1, by rw [List.length_map]; exact hl, hn⟩
  · refine try_imp h fun c μ π B H σ S Cc hC hp s q => ?_
    unfold execHs at q
    by_cases kc : b.sub c c = true
    · rw [if_pos kc] at q
      refine ⟨b.sub c x, SO.exm c x Cc C kc hx hC hm, fun z a na => ?_, fun z => ?_⟩
      · rw [if_pos z] at q
        dsimp only at q
        split at q
        rotate_left
        · exact q.elim
        rename_i gj
        have hjl : j < σ.length := by rw [s.len]; exact gj.1
        have npj : ∀ p ∈ π, p.1 ≠ j := fun p hp' z => by
          have := hp p hp'
          rw [z] at this
          have w := gj.2
          simp [this] at w
        obtain ⟨S1, s1, h1⟩ := s.fill (T := fun _ => False) gj.1 (m := .dat (.exc c)) (v := .ref a) (repM_dat.mpr ⟨by unfold Rep; exact ⟨a, rfl⟩, fun _ z => z⟩) (fun _ z => z.elim) npj
        have ex : execSs b.sub b.C b.pin b.N (.cons (.isl i j Ts) .nil) (μ.set j (some (.dat (.exc c)))) = match (if i < (μ.set j (some (.dat (.exc c)))).length ∧ b.pin.contains i = false then Res.nx ((μ.set j (some (.dat (.exc c)))).set i (some (.dat (.lst (Ts.map fun T => .bl (b.sub c T)))))) else .stuck) with
            | .nx μ1 => Res.nx μ1
            | r => r := by
          show (match execS b.sub b.C b.pin b.N (.isl i j Ts) (μ.set j (some (.dat (.exc c)))) with | .nx μ1 => execSs b.sub b.C b.pin b.N .nil μ1 | q => q) = _
          have e0 : execS b.sub b.C b.pin b.N (.isl i j Ts) (μ.set j (some (.dat (.exc c)))) = if i < (μ.set j (some (.dat (.exc c)))).length ∧ b.pin.contains i = false then Res.nx ((μ.set j (some (.dat (.exc c)))).set i (some (.dat (.lst (Ts.map fun T => .bl (b.sub c T)))))) else .stuck := by
            unfold execS
            rw [slot_set_same gj.1]
          rw [e0]
          rfl
        rw [ex] at q
        by_cases gi : i < (μ.set j (some (.dat (.exc c)))).length ∧ b.pin.contains i = false
        · rw [if_pos gi] at q
          have q : PostS X.K X.mg π B H S W D (.nx (((μ.set j (some (.dat (.exc c)))).set i (some (.dat (.lst (Ts.map fun T => .bl (b.sub c T)))))).set j none)) := q
          have npi : ∀ p ∈ π, p.1 ≠ i := fun p hp' z => by
            have := hp p hp'
            rw [z] at this
            have w := gi.2
            simp [this] at w
          refine ⟨c, Cc, rfl, rfl, hC, kc, by rw [List.getElem?_set_self hjl], hTs, fun p hp' => ?_⟩
          have ps := PStep.new s1.sub (.lst (Ts.map fun T => V.bl (b.sub c T))) hp'
          have s2 := s1.pure ps
          have rl : ∀ (B' : Hp) (Us : List Str), RepL X.K X.mg B' (Us.map fun T => Mi.D.bl (b.sub c T)) (Us.map fun T => V.bl (b.sub c T)) := fun B' Us => by
            induction Us with
            | nil => show RepL X.K X.mg B' [] []; unfold RepL; rfl
            | cons U Us ih =>
              show RepL X.K X.mg B' (Mi.D.bl (b.sub c U) :: Us.map fun T => Mi.D.bl (b.sub c T)) (V.bl (b.sub c U) :: Us.map fun T => V.bl (b.sub c T))
              unfold RepL
              exact ⟨_, _, rfl, by unfold Rep; rfl, ih⟩
          obtain ⟨S3, s3, h3⟩ := s2.fill (T := fun _ => False) gi.1 (m := .dat (.lst (Ts.map fun T => .bl (b.sub c T)))) (v := .ref p) (repM_dat.mpr ⟨by unfold Rep; exact ⟨p, _, rfl, .inl (.inl upd_same), rl _ _⟩, fun _ z => z⟩) (fun _ z => z.elim) npi
          obtain ⟨S4, s4, h4⟩ := s3.less (σ' := ((σ.set j (some (.ref a))).set i (some (.ref p))).set j none) (μ' := ((μ.set j (some (.dat (.exc c)))).set i (some (.dat (.lst (Ts.map fun T => .bl (b.sub c T)))))).set j none) (by rw [List.length_set]) (by rw [List.length_set]) (fun k m ek => by
            rw [slot_set_none] at ek
            split at ek
            · cases ek
            · rename_i nk
              exact ⟨ek, List.getElem?_set_ne nk⟩) fun p' hp' => List.getElem?_set_ne fun z => npj p' hp' z.symm
          exact q _ _ _ S4 s4 ((ps.step S).weak (T' := S4) (fun _ z => z) fun w z => (h1 w ((h3 w (h4 w z)).elim id False.elim)).elim id False.elim)
        · rw [if_neg gi] at q
          exact q.elim
      · rw [if_neg (by rw [z]; exact Bool.false_ne_true)] at q
        unfold execHs at q
        exact q B H σ S s (Step.refl _ _ _) Cc hC
    · rw [if_neg kc] at q
      exact q.elim
end
/-! ### a table of classes -/
def subOf (N : List Str) (R : List (Str × Str)) (c d : Str) : Bool := N.contains c && N.contains d && (c == d || R.contains (c, d))
theorem subOf_mem {N : List Str} {R : List (Str × Str)} {c : Str} (h : subOf N R c c = true) : c ∈ N := by
  unfold subOf at h
  have h1 := ((Bool.and_eq_true _ _).mp ((Bool.and_eq_true _ _).mp h).1).1
  simpa using h1
section
variable {K : PySem.W.Frag} {mg : Str → Option Value} {N : List Str} {R : List (Str × Str)}
theorem so_mk (h : ∀ c ∈ N, ∀ d ∈ N, ∀ C D, mg c = some (.ref C) → mg d = some (.ref D) → PySem.W.exmOne K (.ref C) (.ref D) = some (subOf N R c d)) : SubOk K mg (subOf N R) :=
  ⟨fun c d C D hc hd mc md => h c (subOf_mem hc) d (subOf_mem hd) C D mc md⟩
theorem so_e {c d : Str} {C D C0 D0 : Addr} {b b' : Bool} (h1 : mg c = some (.ref C0)) (h2 : mg d = some (.ref D0)) (h : PySem.W.exmOne K (.ref C0) (.ref D0) = some b) (hb : b = b') (mc : mg c = some (.ref C)) (md : mg d = some (.ref D)) : PySem.W.exmOne K (.ref C) (.ref D) = some b' := by
  rw [h1] at mc
  rw [h2] at md
  cases mc
  cases md
  rw [h, hb]
theorem so_k {c d : Str} {C D C0 D0 : Addr} {b b' : Bool} (h1 : mg c = some (.ref C0)) (h2 : mg d = some (.ref D0)) (h : PySem.W.kitOne K (.ref C0) (.ref D0) = some b) (hb : b = b') (mc : mg c = some (.ref C)) (md : mg d = some (.ref D)) : PySem.W.kitOne K (.ref C) (.ref D) = some b' := by
  rw [h1] at mc
  rw [h2] at md
  cases mc
  cases md
  rw [h, hb]
theorem io_one {c : Str} {C C0 : Addr} (h1 : mg c = some (.ref C0)) (h : ExcC K C0) (mc : mg c = some (.ref C)) : ExcC K C := by
  rw [h1] at mc
  cases mc
  exact h
theorem io_mk (h0 : ∀ c ∈ N, ∀ C, mg c = some (.ref C) → ExcC K C) (h : ∀ c ∈ N, ∀ d ∈ N, ∀ C D, mg c = some (.ref C) → mg d = some (.ref D) → PySem.W.kitOne K (.ref C) (.ref D) = some (subOf N R c d)) : IslOk K mg (subOf N R) :=
  ⟨fun c C hc mc => h0 c (subOf_mem hc) C mc, fun c d C D hc hd mc md => h c (subOf_mem hc) d (subOf_mem hd) C D mc md⟩
end
end Mi
/-! Mi26: the place of a text in a list; the greatest of a list; new lists of what is owned; what is not done. -/
namespace Mi
open PySem L2
def strsD : List D → Option (List Str)
  | [] => some []
  | .str s :: r => (strsD r).map (s :: ·)
  | _ :: _ => none
theorem strs_rep {K : PySem.W.Frag} {mg : Str → Option Value} {B : Hp} : ∀ {ds : List D} {vs : List V} {ss : List Str}, strsD ds = some ss → RepL K mg B ds vs → vs = ss.map V.str
  | [], vs, ss, e, h => by
    unfold strsD at e
    cases e
    unfold RepL at h
    exact h
  | .str s :: ds, vs, ss, e, h => by
    unfold strsD at e
    cases q : strsD ds with
    | none => rw [q] at e; cases e
    | some ss' =>
      rw [q] at e
      cases e
      unfold RepL at h
      obtain ⟨v, r, rfl, h1, h2⟩ := h
      rw [rep_str h1, strs_rep q h2]
      rfl
  | .non :: _, _, _, e, _ => by unfold strsD at e; cases e
  | .bl _ :: _, _, _, e, _ => by unfold strsD at e; cases e
  | .int _ :: _, _, _, e, _ => by unfold strsD at e; cases e
  | .tup _ :: _, _, _, e, _ => by unfold strsD at e; cases e
  | .lst _ :: _, _, _, e, _ => by unfold strsD at e; cases e
  | .dct _ _ :: _, _, _, e, _ => by unfold strsD at e; cases e
  | .ins _ _ _ :: _, _, _, e, _ => by unfold strsD at e; cases e
  | .exc _ :: _, _, _, e, _ => by unfold strsD at e; cases e
  | .adr _ :: _, _, _, e, _ => by unfold strsD at e; cases e
def idxS (w : Str) : List Str → Option Nat
  | [] => none
  | s :: r => if s == w then some 0 else (idxS w r).map (· + 1)
theorem idxS_ok {w : Str} : ∀ {ss : List Str} {j : Nat}, idxS w ss = some j → (∃ z, ss[j]? = some z ∧ (z == w) = true) ∧ ∀ m z, m < j → ss[m]? = some z → (z == w) = false
  | [], j, e => by cases e
  | s :: r, j, e => by
    unfold idxS at e
    cases k : (s == w) with
    | true =>
      rw [if_pos k] at e
      cases e
      exact ⟨⟨s, rfl, k⟩, fun m z hm => absurd hm (Nat.not_lt_zero m)⟩
    | false =>
      rw [if_neg (by rw [k]; exact Bool.false_ne_true)] at e
      cases q : idxS w r with
      | none => rw [q] at e; cases e
      | some i =>
        rw [q] at e
        cases e
        obtain ⟨⟨z, h1, h2⟩, h3⟩ := idxS_ok q
        refine ⟨⟨z, by simpa using h1, h2⟩, fun m z' hm hz => ?_⟩
        cases m with
        | zero => simp at hz; subst hz; exact k
        | succ m => exact h3 m z' (Nat.lt_of_succ_lt_succ hm) (by simpa using hz)
def fIndexS : D → D → Option D
  | .lst xs, .str w => (strsD xs).bind fun ss => (idxS w ss).map fun j => .int (j : Nat)
  | _, _ => none
theorem imp_indexS {K : PySem.W.Frag} {mg : Str → Option Value} : Imp2 K mg fIndexS fun x y H Q => tyV K "list" x H ∧ rIndex K x [y] H Q := fun B H x y d1 d2 d3 Q e r1 r2 hf k => by
  unfold fIndexS at hf
  split at hf
  · rename_i xs w
    cases q : strsD xs with
    | none => rw [q] at hf; cases hf
    | some ss =>
      rw [q] at hf
      have hf : (idxS w ss).map (fun j => D.int (j : Nat)) = some d3 := hf
      cases q2 : idxS w ss with
      | none => rw [q2] at hf; cases hf
      | some j =>
        rw [q2] at hf
        cases hf
        obtain ⟨a, vs, rfl, h1, h2⟩ := rep_lst r1
        have ev := strs_rep q h2
        subst ev
        have ew := rep_str r2
        subst ew
        obtain ⟨⟨z, z1, z2⟩, z3⟩ := idxS_ok q2
        have sl := e.l h1
        refine ⟨.inl ⟨rfl, _, sl⟩, a, _, .str w, j, .str z, rfl, rfl, sl, rfl, ?_, by rw [List.getElem?_map, z1]; rfl, z2, fun m z' hm hz => ?_, k _ B H (PStep.refl e) rep_int'⟩
        · simp [flatV]
        · rw [List.getElem?_map] at hz
          cases hs : ss[m]? with
          | none => rw [hs] at hz; cases hz
          | some u =>
            rw [hs] at hz
            cases hz
            exact z3 m u hm hs
  · cases hf
section
variable {b : Bd} {X : Cx} {x y : Expr} {e ex ey : E} {xs : List Expr} {pos apos : Pos} {st : Stmt}
def fLs : D → Option D
  | .lst xs => some (.lst xs)
  | _ => none
theorem me_index (hx : ME b X x ex) (hy : ME b X y ey) (hbase : attributeBase x "index" X.env (eval x X.env) = eval x X.env := by rfl)
    (hfew : ((backTo pos (starEach [y] X.env)).all (fun x => !x.1) && (backToKw pos (keywordEach [] X.env)).all (fun x => x.1.isSome)
      && decide (([y] : List Expr).length + ([] : List Keyword).length + (if ([] : List Keyword).isEmpty then 0 else 1) < 30)) = true := by rfl)
    (hline : (apos.endLine == pos.line) = true := by rfl) (hs : starEach [y] X.env = (false, eval y X.env) :: starEach [] X.env := by rfl) (hplain : (backTo pos (starEach [] X.env)).any (·.1) = false := by rfl) :
    ME b X (.Call (.Attribute x "index" apos) [y] [] pos) (.op2 fIndexS (.op1 fLs ex) ey) := fun W tk =>
  PE.imp (pe_bm (T := "list") PySem.F.plainAttrs_list PySem.F.slot_list_index PySem.F.type_list_index mt_index (hx W tk) (pa_cons (hy W tk) pa_nil hs) hbase hfew hline hs hplain) fun σ H Q ⟨π, B, μ, S, hp, s, h⟩ => by
    have e0 : evalE b.C b.pin (.op2 fIndexS (.op1 fLs ex) ey) μ = (evalE b.C b.pin ex μ).bind (fun m μ0 => (onDat (fun d μ1 => outD (fLs d) μ1) m μ0).bind (onDat fun x μ1 => (evalE b.C b.pin ey μ1).bind (onDat fun y μ2 => outD (fIndexS x y) μ2))) := by
      show ((evalE b.C b.pin ex μ).bind (onDat fun d μ1 => outD (fLs d) μ1)).bind (onDat fun x μ1 => (evalE b.C b.pin ey μ1).bind (onDat fun y μ2 => outD (fIndexS x y) μ2)) = _
      cases evalE b.C b.pin ex μ <;> rfl
    rw [e0] at h
    have pr : (E.op2 fIndexS (.op1 fLs ex) ey).pure = true → ex.pure = true ∧ ey.pure = true := fun q => (Bool.and_eq_true _ _).mp q
    refine bindE hp s h (fun q => (pr q).1) fun m μ1 v B1 H1 S1 T s1 r1 _ x1 h1 h1' _ => ?_
    cases m with
    | dat d1 =>
      cases d1 with
      | lst xs =>
        have rd := (repM_dat.mp r1).1
        obtain ⟨a, vs, rfl, z, _⟩ := rep_lst rd
        refine ⟨.inl ⟨rfl, vs, s1.sub.l z⟩, ?_⟩
        have h1 : Post X.K X.mg (E.op2 fIndexS (.op1 fLs ex) ey).pure (RM X.K X.mg) π B1 H1 S1 σ W Q ((evalE b.C b.pin ey μ1).bind (onDat fun y μ2 => outD (fIndexS (.lst xs) y) μ2)) := h1
        refine bindE hp s1 h1 (fun q => (pr q).2) fun m2 μ2 v2 B2 H2 S2 T2 s2 r2 _ x2 h2 _ _ => ?_
        obtain ⟨d2, rfl, h2⟩ := onDat_dat h2
        obtain ⟨d3, hd, h3⟩ := outD_some h2
        exact (imp_indexS B2 H2 _ v2 (.lst xs) d2 d3 Q s2.sub (rd.mono x2.ex) (repM_dat.mp r2).1 hd fun w B' H' p rw' => h3.done s2 p rw').2
      | _ => exact h1.elim
    | _ => exact h1.elim
/-- not done here -/
theorem ms_stuck : MS b X st (.expr (.opN (fun _ => none) .nil)) := fun W tk => ⟨fun pins s σ H D I ⟨π, B, μ, S, hp, st, h⟩ => False.elim h⟩
/-! ### a new list of what is owned -/
theorem mf_viewF (h : MF b X x e) : MF b X x (.viewF e) := fun W tk => PE.imp (h W tk) fun σ H Q ⟨π, B, μ, S, hp, s, k⟩ => by
  unfold evalE at k
  split at k
  rotate_left
  · exact k.elim
  rename_i hpu
  refine ⟨π, frz B H S, viewE μ, fun _ => False, hp, s.view, ?_⟩
  cases q : evalE b.C b.pin e (viewE μ) with
  | stuck => rw [q] at k; exact k
  | err c μ' => rw [q] at k; exact k.elim
  | ok m μ' =>
    rw [q] at k
    cases m with
    | dat d =>
      cases d with
      | lst ds =>
        dsimp only at k
        split at k
        · rename_i hh
          intro pa o B' H' S' s' x' u' hpa fr
          have e1 := u' hpu
          rcases fr with ⟨ds', vs, e2, rfl, r⟩ | ⟨_, _, _, e2, _⟩
          · cases e2
            have hh' := (Bool.and_eq_true _ _).mp hh
            have r2 : RepL X.K X.mg (Mi.grow B H B') ds vs := ((Bool.or_eq_true _ _).mp hh'.2).elim (fun f => RepL.flat f r) fun nt => RepL.hard (fun a vs z => grow_tup s nt x' z) hh'.1 r
            have s2 := s.grow e1 s'.sub
            exact k pa (.lst vs) _ _ S s2 (Step.grow e1) (fun _ => e1) hpa (.inl ⟨ds, vs, rfl, rfl, r2⟩)
          · cases e2
        · exact k.elim
      | _ => exact k.elim
    | _ => exact k.elim
/-! ### the greatest of a list -/
def fMaxL : List D → Option D
  | [.lst xs] => (intsD xs).bind fun ns => (maxL ns).map .int
  | _ => none
theorem fold_max : ∀ (r : List Int) (i : Int), (r.foldl (fun a b => if b > a then b else a) i) ∈ i :: r ∧ ∀ y ∈ i :: r, y ≤ r.foldl (fun a b => if b > a then b else a) i
  | [], i => ⟨by simp, fun y hy => by simp at hy; subst hy; exact Int.le_refl _⟩
  | b :: r, i => by
    obtain ⟨h1, h2⟩ := fold_max r (if b > i then b else i)
    show List.foldl _ (if b > i then b else i) r ∈ _ ∧ ∀ y ∈ i :: b :: r, y ≤ List.foldl _ (if b > i then b else i) r
    generalize List.foldl (fun a b => if b > a then b else a) (if b > i then b else i) r = m at *
    by_cases k : b > i
    · rw [if_pos k] at h1 h2
      refine ⟨List.mem_cons_of_mem _ h1, fun y hy => ?_⟩
      rcases List.mem_cons.mp hy with rfl | hy
      · exact Int.le_trans (Int.le_of_lt k) (h2 b (List.mem_cons_self ..))
      · exact h2 y hy
    · rw [if_neg k] at h1 h2
      refine ⟨(List.mem_cons.mp h1).elim (fun z => by rw [z]; exact List.mem_cons_self ..) fun z => List.mem_cons_of_mem _ (List.mem_cons_of_mem _ z), fun y hy => ?_⟩
      rcases List.mem_cons.mp hy with rfl | hy
      · exact h2 y (List.mem_cons_self ..)
      · rcases List.mem_cons.mp hy with rfl | hy
        · exact Int.le_trans (Int.not_lt.mp k) (h2 i (List.mem_cons_self ..))
        · exact h2 y (List.mem_cons_of_mem _ hy)
theorem imp_maxL {K : PySem.W.Frag} {mg : Str → Option Value} : ImpN K mg fMaxL (rMax K) := fun B H xs ds d3 Q e r hf k => by
  unfold fMaxL at hf
  split at hf
  · rename_i ys
    cases q : intsD ys with
    | none => rw [q] at hf; cases hf
    | some ns =>
      rw [q] at hf
      have hf : (maxL ns).map D.int = some d3 := hf
      cases ns with
      | nil => cases hf
      | cons i r0 =>
        cases hf
        obtain ⟨v, rfl, r1⟩ := repL1 r
        obtain ⟨a, vs, rfl, h1, h2⟩ := rep_lst r1
        obtain ⟨m1, m2⟩ := fold_max r0 i
        refine ⟨a, i :: r0, rfl, by rw [← ints_rep q h2]; exact e.l h1, Nat.succ_pos _, fun m hm hl => ?_⟩
        have em : m = r0.foldl (fun a b => if b > a then b else a) i := Int.le_antisymm (m2 m hm) (hl _ m1)
        rw [em]
        exact k _ B H (PStep.refl e) rep_int'
  · cases hf
end
end Mi
/-! Mi27: range(a, b, -1); a tuple of owned things. -/
namespace Mi
open PySem L2
section
variable {K : PySem.W.Frag} {mg : Str → Option Value} {B : Hp}
theorem walks_rangeC {lo c : Int} {n : Nat} : Walks K mg B (Itc lo c n) ((List.range n).map fun i => .int (lo + (i : Nat) * c)) := fun i B' H' e1 e2 => by
  refine ⟨fun d e => ?_, fun e hl => ?_⟩
  · have hi : i < n := by
      have := (List.getElem?_eq_some_iff.mp e).1
      simpa using this
    refine ⟨hi, fun x H'' y => ?_⟩
    obtain ⟨rfl, rfl⟩ := y
    simp [hi] at e
    subst e
    exact ⟨B', PStep.refl e2, by unfold Rep; rfl⟩
  · have := List.getElem?_eq_none_iff.mp e
    show n ≤ i
    simpa using this
end
def fRangeD : List D → Option (List D)
  | [.int i, .int j, .int c] => if c = -1 ∧ (-(2 ^ 62) ≤ i ∧ i < 2 ^ 62) ∧ -(2 ^ 62) ≤ j ∧ j < 2 ^ 62 then some ((List.range (i - j).toNat).map fun k => .int (i + (k : Nat) * -1)) else none
  | _ => none
theorem repL3r {K : PySem.W.Frag} {mg : Str → Option Value} {B : Hp} {d d' d2 : D} {vs : List V} (h : RepL K mg B [d, d', d2] vs) : ∃ v w u, vs = [v, w, u] ∧ Rep K mg B d v ∧ Rep K mg B d' w ∧ Rep K mg B d2 u := by
  unfold RepL at h
  obtain ⟨v, r, rfl, h1, h2⟩ := h
  obtain ⟨w, u, rfl, h3, h4⟩ := repL2 h2
  exact ⟨v, w, u, rfl, h1, h3, h4⟩
section
variable {b : Bd} {X : Cx} {x y z tg : Expr} {es : Es} {xs : List Expr} {pos ppos : Pos}
theorem mi_rangeD (hg : Gl X "range") (hm : X.mg "range" = none) (h : MEs b X [x, y, z] es) (hs : starEach [x, y, z] X.env = (false, eval x X.env) :: starEach [y, z] X.env := by rfl) (hpl : (backTo pos (starEach [y, z] X.env)).any (·.1) = false := by rfl) : MI b X tg (.Call (.Name "range" ppos) [x, y, z] [] pos) fRangeD es := fun W tk =>
  PI.imp (pi_range3 hg hm (h W tk) hs hpl) fun σ H R k => iterN k fun ds xs B1 H1 vs hf e1 r w => by
    unfold fRangeD at hf
    split at hf
    · split at hf
      · rename_i i j c hb
        cases hf
        obtain ⟨rfl, ⟨h1, h2⟩, h3, h4⟩ := hb
        obtain ⟨v, u, t, rfl, r1, r2, r3⟩ := repL3r r
        rw [rep_int r1, rep_int r2, rep_int r3]
        exact ⟨i, j, -1, _, rfl, RgC.neg h1 h2 h3 h4, w _ walks_rangeC⟩
      · cases hf
    · cases hf
/-- a tuple of owned things -/
theorem me_mt {n : Nat} (h : MEs b X xs es) : ME b X (.Tuple xs n pos) (.mt es) := fun W tk => PE.imp (pe_tup (h W tk)) fun σ H Q ⟨π, B, μ, S, hp, s, h⟩ => by
  unfold evalE at h
  refine ⟨π, B, μ, S, hp, s, ?_⟩
  cases q : evalEs b.C b.pin es μ with
  | stuck => rw [q] at h; exact h
  | err c μ' => rw [q] at h; exact h
  | ok ms μ1 =>
    rw [q] at h
    intro vs B1 H1 S1 T1 s1 r1 d1 x1 u1
    dsimp only [Out.bind] at h
    split at h
    · rename_i hl
      refine ⟨by rw [← repMs_len r1]; exact hl, fun p hp' => ?_⟩
      have nT : ¬ T1 p := fun z => (r1.owned p z).1 hp'
      refine h (.ref p) B1 _ S1 (fun a => a = p ∨ T1 a) (s1.new hp') ?_ (fun a z w => z.elim (fun e => by rw [e] at w; exact (s1.owned p w).1 hp') fun z => d1 a z w) ?_ fun q => nomatch q
      · show RepM X.K X.mg B1 _ (.tup ms) _ _
        unfold RepM
        exact ⟨p, vs, T1, rfl, upd_same, s1.sub.none hp', r1.congr (Ex.refl B1) fun a z => ⟨upd_ne fun e => by rw [e] at z; exact nT z, (r1.owned a z).2⟩, nT, fun a => Iff.rfl⟩
      · exact (x1.trans (Step.new hp')).weak (fun _ z => z) fun a z => z.elim (fun z => .inl (.inl z)) fun z => z.elim .inr fun z => .inl (.inr z)
    · exact h.elim
end
end Mi
/-! Mi28: data that can be compared; what is equal to itself. -/
namespace Mi
open PySem L2
def Lay (n : Nat) (d : D) : Prop := d.py.canLay0 = true ∧ d.py.depth ≤ n
theorem lay_all {n : Nat} : ∀ {xs : List D}, (∀ d ∈ xs, Lay n d) → PyData.canLayAll0 (D.pys xs) = true ∧ PyData.depthAll (D.pys xs) ≤ n
  | [], _ => by unfold D.pys; exact ⟨by unfold PyData.canLayAll0; rfl, by unfold PyData.depthAll; omega⟩
  | d :: r, h => by
    obtain ⟨h1, h2⟩ := lay_all (n := n) (xs := r) fun e he => h e (List.mem_cons_of_mem _ he)
    obtain ⟨g1, g2⟩ := h d List.mem_cons_self
    unfold D.pys
    refine ⟨by unfold PyData.canLayAll0; rw [g1, h1]; rfl, ?_⟩
    unfold PyData.depthAll
    omega
theorem Lay.tup {n : Nat} {xs : List D} (h : ∀ d ∈ xs, Lay n d) : Lay (n + 1) (.tup xs) := by
  obtain ⟨h1, h2⟩ := lay_all h
  refine ⟨?_, ?_⟩
  · unfold D.py PyData.canLay0; exact h1
  · unfold D.py PyData.depth; omega
theorem Lay.lst {n : Nat} {xs : List D} (h : ∀ d ∈ xs, Lay n d) : Lay (n + 1) (.lst xs) := by
  obtain ⟨h1, h2⟩ := lay_all h
  refine ⟨?_, ?_⟩
  · unfold D.py PyData.canLay0; exact h1
  · unfold D.py PyData.depth; omega
theorem Lay.str {n : Nat} {s : Str} (h : PyData.strOk s = true) : Lay n (.str s) := ⟨by unfold D.py PyData.canLay0; exact h, by unfold D.py PyData.depth; omega⟩
theorem Lay.int {n : Nat} {i : Int} : Lay n (.int i) := ⟨by unfold D.py PyData.canLay0; rfl, by unfold D.py PyData.depth; omega⟩
theorem Lay.bl {n : Nat} {i : Bool} : Lay n (.bl i) := ⟨by unfold D.py PyData.canLay0; rfl, by unfold D.py PyData.depth; omega⟩
theorem Lay.non {n : Nat} : Lay n .non := ⟨by unfold D.py PyData.canLay0; rfl, by unfold D.py PyData.depth; omega⟩
theorem Lay.ints {n : Nat} (ns : List Int) : Lay (n + 1) (.lst (ns.map .int)) := Lay.lst fun d hd => by
  obtain ⟨i, _, rfl⟩ := List.mem_map.mp hd
  exact Lay.int
theorem Lay.up {n m : Nat} {d : D} (h : Lay n d) (l : n ≤ m) : Lay m d := ⟨h.1, Nat.le_trans h.2 l⟩
theorem Lay.two {n : Nat} {a b : D} (h1 : Lay n a) (h2 : Lay n b) : Lay (n + 1) (.tup [a, b]) := Lay.tup fun d hd => by
  simp only [List.mem_cons, List.not_mem_nil, or_false] at hd
  rcases hd with rfl | rfl
  · exact h1
  · exact h2
theorem Lay.shaped {n : Nat} {d : D} (h : Lay n d) (l : n ≤ 64) : SeqAt.shaped d.py = true := by
  unfold SeqAt.shaped
  rw [h.1]
  simp only [Bool.true_and, decide_eq_true_eq]
  exact Nat.le_trans h.2 l
mutual
theorem eqv_self : ∀ {d : D}, d.py.canLay0 = true → PyData.eqv d.py d.py = true
  | .non, _ => by unfold D.py PyData.eqv; rfl
  | .bl b, _ => by unfold D.py PyData.eqv; simp
  | .int i, _ => by unfold D.py PyData.eqv; simp
  | .str s, _ => by unfold D.py PyData.eqv; simp
  | .tup xs, h => by
    unfold D.py at h ⊢
    unfold PyData.canLay0 at h
    unfold PyData.eqv
    exact eqv_selfs h
  | .lst xs, h => by
    unfold D.py at h ⊢
    unfold PyData.canLay0 at h
    unfold PyData.eqv
    exact eqv_selfs h
  | .dct _ _, h => by unfold D.py PyData.canLay0 at h; cases h
  | .ins _ _ _, h => by unfold D.py PyData.canLay0 at h; cases h
  | .exc _, h => by unfold D.py PyData.canLay0 at h; cases h
  | .adr _, h => by unfold D.py PyData.canLay0 at h; cases h
theorem eqv_selfs : ∀ {ds : List D}, PyData.canLayAll0 (D.pys ds) = true → PyData.eqvAll (D.pys ds) (D.pys ds) = true
  | [], _ => by unfold D.pys PyData.eqvAll; rfl
  | d :: r, h => by
    unfold D.pys at h ⊢
    unfold PyData.canLayAll0 at h
    have hh := (Bool.and_eq_true _ _).mp h
    unfold PyData.eqvAll
    rw [eqv_self hh.1, eqv_selfs hh.2]
    rfl
end
theorem eqD_self {n : Nat} {d : D} (h : Lay n d) (l : n ≤ 64) : eqD d d = some true := by
  unfold eqD
  cases q : scalD d d with
  | some b =>
    dsimp only
    cases d <;> simp [scalD] at q <;> first | (rw [← q]) | (cases q; rfl) | skip
  | none =>
    dsimp only
    rw [if_pos ⟨h.shaped l, h.shaped l⟩, eqv_self h.1]
theorem fEq_self {n : Nat} {d : D} (h : Lay n d) (l : n ≤ 64) : fEq d d = some (.bl true) := by
  unfold fEq
  rw [eqD_self h l]
  rfl
theorem fNe_self {n : Nat} {d : D} (h : Lay n d) (l : n ≤ 64) : fNe d d = some (.bl false) := by
  unfold fNe
  rw [eqD_self h l]
  rfl
end Mi
/-! Mi29: xs[::-1]. -/
namespace Mi
open PySem L2 PyProof.Rows
def fRevL : List D → Option D
  | [.lst xs] => some (.lst xs.reverse)
  | _ => none
theorem repL_rev {K : PySem.W.Frag} {mg : Str → Option Value} {B : Hp} : ∀ {ds : List D} {vs : List V}, RepL K mg B ds vs → RepL K mg B ds.reverse vs.reverse
  | [], vs, h => by
    unfold RepL at h
    subst h
    unfold RepL
    rfl
  | d :: ds, vs, h => by
    unfold RepL at h
    obtain ⟨v, vs', rfl, h1, h2⟩ := h
    rw [List.reverse_cons, List.reverse_cons]
    refine repL_app (repL_rev h2) ?_
    unfold RepL
    exact ⟨v, [], rfl, h1, by unfold RepL; rfl⟩
section
variable {b : Bd} {X : Cx} {x : Expr} {ex : E} {k : Nat} {p1 p2 p3 pos : Pos}
/-- a list the other way round: a new list -/
theorem mf_rev (hx : ME b X x ex) : MF b X (.Subscript x (.Slice none none (some (.UnaryOp .USub (.Constant (.int 1) k p1) p2)) p3) pos) (.opN fRevL (.cons ex .nil)) := fun W tk =>
  PE.imp (pe_revL (hx W tk)) fun σ H Q h => E_mono (es_cons (many_rawF h)) fun v H1 h1 => by
    obtain ⟨B, ds, d3, e, r, hf, k⟩ := es_nil h1
    unfold fRevL at hf
    split at hf
    · rename_i xs
      cases hf
      unfold RepL at r
      obtain ⟨v', vs', e0, h1, h2⟩ := r
      injection e0 with e0 e1
      subst e0
      obtain ⟨a, vs, rfl, h1, h2⟩ := rep_lst h1
      exact ⟨a, vs, rfl, e.l h1, fun p hp => k p _ hp (.inl ⟨_, _, rfl, rfl, repL_rev h2⟩)⟩
    · cases hf
end
end Mi
/-! Mi30: more of the plain law: ranges, loops that may return. -/
namespace Mi
open PySem L2
theorem fRange1_len (n : Nat) (h : n ≤ 100000) : fRange1 [.int (n : Int)] = some ((List.range n).map fun i => .int (0 + (i : Nat))) := fRange1_n (by omega)
theorem range_get {n j : Nat} {d : D} (h : ((List.range n).map fun i => D.int (0 + (i : Nat)))[j]? = some d) : j < n ∧ d = .int (j : Nat) := by
  rw [List.getElem?_map] at h
  cases q : (List.range n)[j]? with
  | none => rw [q] at h; cases h
  | some i =>
    rw [q] at h
    have hj : j < n := by
      have := (List.getElem?_eq_some_iff.mp q).1
      simpa using this
    have e : i = j := by
      rw [List.getElem?_range hj] at q
      cases q
      rfl
    subst e
    cases h
    exact ⟨hj, by simp⟩
theorem fRangeD_n {a b : Int} (h1 : -100000 ≤ a) (h2 : a ≤ 100000) (h3 : -100000 ≤ b) (h4 : b ≤ 100000) : fRangeD [.int a, .int b, .int (-1)] = some ((List.range (a - b).toNat).map fun k => .int (a + (k : Nat) * -1)) := by
  show (if (-1 : Int) = -1 ∧ (-(2 ^ 62) ≤ a ∧ a < 2 ^ 62) ∧ -(2 ^ 62) ≤ b ∧ b < 2 ^ 62 then _ else none) = _
  rw [if_pos ⟨rfl, ⟨by omega, by omega⟩, by omega, by omega⟩]
theorem rangeD_get {a : Int} {n j : Nat} {d : D} (h : ((List.range n).map fun k => D.int (a + (k : Nat) * -1))[j]? = some d) : j < n ∧ d = .int (a - j) := by
  rw [List.getElem?_map] at h
  cases q : (List.range n)[j]? with
  | none => rw [q] at h; cases h
  | some i =>
    rw [q] at h
    have hj : j < n := by
      have := (List.getElem?_eq_some_iff.mp q).1
      simpa using this
    have e : i = j := by
      rw [List.getElem?_range hj] at q
      cases q
      rfl
    subst e
    cases h
    exact ⟨hj, by show D.int (a + (i : Int) * -1) = _; rw [show a + (i : Int) * -1 = a - i by omega]⟩
/-- a loop whose turns may return: by a state and a step -/
def foldX {α : Type} (g : Nat → α → Except M α) : Nat → Nat → α → Except M α
  | _, 0, a => .ok a
  | i, n + 1, a => match g i a with
    | .ok a1 => foldX g (i + 1) n a1
    | .error m => .error m
theorem forLoop_ex {α : Type} {t : Tg} {b : Mi.Env → Mi.Res} {S : α → Mi.Env → Prop} {g : Nat → α → Except M α} : ∀ {ds : List D} {i : Nat} {a : α} {μ : Mi.Env}, S a μ →
    (∀ j d a μ, ds[j]? = some d → S a μ → ∃ μ1, setTg t (.dat d) μ = some μ1 ∧ match g (i + j) a with
      | .ok a1 => ∃ μ2, b μ1 = .nx μ2 ∧ S a1 μ2
      | .error m => ∃ μ2, b μ1 = .ret m μ2) →
    match foldX g i ds.length a with
      | .ok a1 => ∃ μ2, forLoop t b ds μ = .nx μ2 ∧ S a1 μ2
      | .error m => ∃ μ2, forLoop t b ds μ = .ret m μ2
  | [], i, a, μ, h, _ => ⟨μ, rfl, h⟩
  | d :: ds, i, a, μ, h, k => by
    obtain ⟨μ1, e1, e2⟩ := k 0 d a μ rfl h
    rw [Nat.add_zero] at e2
    have k' : ∀ j d' a μ, ds[j]? = some d' → S a μ → ∃ μ1, setTg t (.dat d') μ = some μ1 ∧ match g (i + 1 + j) a with
      | .ok a1 => ∃ μ2, b μ1 = .nx μ2 ∧ S a1 μ2
      | .error m => ∃ μ2, b μ1 = .ret m μ2 := fun j d' a μ hd hs => by
        have := k (j + 1) d' a μ (by simpa using hd) hs
        rw [show i + (j + 1) = i + 1 + j by omega] at this
        exact this
    show (match (match g i a with | .ok a1 => foldX g (i + 1) ds.length a1 | .error m => .error m) with
      | .ok a1 => ∃ μ2, forLoop t b (d :: ds) μ = .nx μ2 ∧ S a1 μ2
      | .error m => ∃ μ2, forLoop t b (d :: ds) μ = .ret m μ2)
    cases q : g i a with
    | error m =>
      rw [q] at e2
      obtain ⟨μ2, e2⟩ := e2
      refine ⟨μ2, ?_⟩
      unfold forLoop
      rw [e1]
      dsimp only
      rw [e2]
    | ok a1 =>
      rw [q] at e2
      obtain ⟨μ2, e2, s2⟩ := e2
      have ih := forLoop_ex (i := i + 1) s2 k'
      dsimp only
      have un : forLoop t b (d :: ds) μ = forLoop t b ds μ2 := by
        rw [forLoop.eq_2, e1]
        dsimp only
        rw [e2]
      rw [un]
      exact ih
theorem cutD_map {α : Type} (f : α → D) (xs : List α) (lo hi : Option Int) : cutD (xs.map f) lo hi = ((xs.drop (HT.sIx xs.length 0 lo)).take (HT.sIx xs.length xs.length hi - HT.sIx xs.length 0 lo)).map f := by
  unfold cutD
  rw [List.length_map, ← List.map_drop, ← List.map_take]
theorem sl_upto (xs : List D) (hi : Int) (n : Nat) (h0 : hi = n) : ∃ ys, fSlL [.lst xs, .non, .int hi] = some (.lst ys) ∧ ys = xs.take n := by
  subst h0
  have h1 : HT.sIx xs.length xs.length (some (n : Int)) = min n xs.length := by
    simp [HT.sIx]
    intro h
    omega
  have h2 : HT.sIx xs.length 0 none = 0 := by simp [HT.sIx]
  refine ⟨_, rfl, ?_⟩
  unfold cutD
  rw [h1, h2, List.drop_zero, Nat.sub_zero, ← List.take_eq_take_min]
theorem flat_b {b : Bool} : (D.bl b).flat = true := rfl
theorem ts2 {a b : M} : M.toDs [a, b] = [a.toD, b.toD] := rfl
end Mi
/-! Mi31: a module's tuple of texts. -/
namespace Mi
open PySem L2 PyProof.Rows
def TupS (K : PySem.W.Frag) (p : Addr) (ss : List Str) : Prop :=
  ∃ (o : Obj) (its : Array Value) (n : Nat), K.lookup p = some o ∧ o.cls = .type "tuple" ∧ o.data = .seq its n ∧ its.size ≤ sizeLine ∧ Vals (ss.map V.str) its.toList
theorem repL_strs {K : PySem.W.Frag} {mg : Str → Option Value} {B : Hp} : ∀ ss : List Str, RepL K mg B (ss.map D.str) (ss.map V.str)
  | [] => by unfold RepL; rfl
  | s :: r => by
    show RepL K mg B (D.str s :: r.map D.str) (V.str s :: r.map V.str)
    unfold RepL
    exact ⟨_, _, rfl, by unfold Rep; rfl, repL_strs r⟩
section
variable {b : Bd} {X : Cx} {n : Str} {pos : Pos}
theorem me_globT {ss : List Str} (hg : Gl X n) (hm : ∃ p, X.mg n = some (.ref p) ∧ TupS X.K p ss) (hd : (n == ("__debug__" : Str)) = false := by decide) : ME b X (.Name n pos) (.con (.tup (ss.map .str))) := by
  obtain ⟨p, hm, o, its, k, h1, h2, h3, h4, h5⟩ := hm
  exact me_glob (v := .ref p) hg hm rfl (fun B => by
    unfold Rep
    exact ⟨p, ss.map V.str, rfl, .inr ⟨o, its, k, h1, h2, h3, h4, h5⟩, repL_strs ss⟩) hd
end
/-! ### all, any of bools -/
def blsD : List D → Option (List Bool)
  | [] => some []
  | .bl b :: r => (blsD r).map (b :: ·)
  | _ => none
def fAll : List D → Option D
  | [.lst xs] => (blsD xs).map fun bs => .bl (bs.all id)
  | _ => none
def fAny : List D → Option D
  | [.lst xs] => (blsD xs).map fun bs => .bl (bs.any id)
  | _ => none
theorem bt_all : bootBuiltins "all" = some (.builtin "all") := by decide +kernel
theorem bt_any : bootBuiltins "any" = some (.builtin "any") := by decide +kernel
section
variable {K : PySem.W.Frag} {mg : Str → Option Value}
theorem bls_rep {B : Hp} : ∀ {ds : List D} {bs : List Bool} {vs : List V}, blsD ds = some bs → RepL K mg B ds vs → vs = bs.map V.bl
  | [], bs, vs, h, r => by
    cases h
    unfold RepL at r
    exact r
  | .bl b :: ds, bs, vs, h, r => by
    unfold blsD at h
    cases q : blsD ds with
    | none => rw [q] at h; cases h
    | some cs =>
      rw [q] at h
      cases h
      unfold RepL at r
      obtain ⟨v, vs', rfl, r1, r2⟩ := r
      rw [rep_bl r1, bls_rep q r2]
      rfl
  | .non :: _, _, _, h, _ => by cases h
  | .int _ :: _, _, _, h, _ => by cases h
  | .str _ :: _, _, _, h, _ => by cases h
  | .tup _ :: _, _, _, h, _ => by cases h
  | .lst _ :: _, _, _, h, _ => by cases h
  | .dct _ _ :: _, _, _, h, _ => by cases h
  | .ins _ _ _ :: _, _, _, h, _ => by cases h
  | .exc _ :: _, _, _, h, _ => by cases h
  | .adr _ :: _, _, _, h, _ => by cases h
theorem imp_all : ImpN K mg fAll (rAll K) := fun B H xs ds d3 Q e r hf k => by
  unfold fAll at hf
  split at hf
  · rename_i ys
    cases q : blsD ys with
    | none => rw [q] at hf; cases hf
    | some bs =>
      rw [q] at hf
      cases hf
      obtain ⟨v, rfl, r1⟩ := repL1 r
      obtain ⟨a, vs, rfl, h1, h2⟩ := rep_lst r1
      exact ⟨a, bs, rfl, by rw [← bls_rep q h2]; exact e.l h1, k _ B H (PStep.refl e) (by unfold Rep; rfl)⟩
  · cases hf
theorem imp_any : ImpN K mg fAny (rAny K) := fun B H xs ds d3 Q e r hf k => by
  unfold fAny at hf
  split at hf
  · rename_i ys
    cases q : blsD ys with
    | none => rw [q] at hf; cases hf
    | some bs =>
      rw [q] at hf
      cases hf
      obtain ⟨v, rfl, r1⟩ := repL1 r
      obtain ⟨a, vs, rfl, h1, h2⟩ := rep_lst r1
      exact ⟨a, bs, rfl, by rw [← bls_rep q h2]; exact e.l h1, k _ B H (PStep.refl e) (by unfold Rep; rfl)⟩
  · cases hf
end
end Mi
/-! Mi32: zip of a tuple and a list; of two tuples. -/
namespace MiZ
open PySem PySem.Spec PyProof.Rows L2
open PySem.Sem (wp)
section
variable {prog : Program} {w : World} {A : Around} {E : Value → Shared → Prop} {s : Shared}
/-- what the two iterators stand at -/
structure At (h : Heap) (i1 i2 l1 l2 : Addr) (k1 k2 : Nat) (xs ys : Array Value) : Prop where
  a : h.IsTupleIter i1 l1 k1
  b : h.IsListIter i2 l2 k2
  x : h.IsTuple l1 xs
  y : h.IsList l2 ys
theorem At.but {h h' : Heap} {i1 i2 l1 l2 c : Addr} {k1 k2 : Nat} {xs ys : Array Value} (t : At h i1 i2 l1 l2 k1 k2 xs ys) (e : Heap.ExtBut c h h') (n1 : i1 ≠ c) (n2 : i2 ≠ c) (n3 : l1 ≠ c) (n4 : l2 ≠ c) : At h' i1 i2 l1 l2 k1 k2 xs ys :=
  ⟨t.a.extBut e n1, t.b.extBut e n2, t.x.extBut e n3, t.y.extBut e n4⟩
theorem next_item {z TI TO i1 i2 l1 l2 : Addr} {k1 k2 : Nat} {xs ys : Array Value} {x y a b : Value} {Q : Value → Shared → Prop} (D : ZipApart z TI TO i1 i2 l1 l2)
    (hz : IsZip s.heap z TI TO .none) (hTI : IsPair s.heap TI (.ref i1) (.ref i2)) (hTO : IsPair s.heap TO a b) (t : At s.heap i1 i2 l1 l2 k1 k2 xs ys) (hx : xs[k1]? = some x) (hy : ys[k2]? = some y)
    (hQ : ∀ h', IsZip h' z TI TO (rawInt s.heap.objs.size) → IsPair h' TO x y → h'.IsTupleIter i1 l1 (k1 + 1) → h'.IsListIter i2 l2 (k2 + 1) → IsPair h' s.heap.objs.size x y → h'.objs.size = s.heap.objs.size + 1 →
      (∀ c o, c ≠ z → c ≠ TO → c ≠ i1 → c ≠ i2 → s.heap.get? c = some o → h'.get? c = some o) → Q (.ref s.heap.objs.size) { s with heap := h' }) :
    wpAny (model prog w) A (Builtin.«zip.__next__» ⟨[.ref z], []⟩) (fun fin s' => ∃ v, fin = .done (.ret v) ∧ Q v s') E s := by
  show wpAny _ _ (field (.ref z) 2 >>= _) _ _ _
  refine wpAny_bind (wpAny_field hz rfl (x := .bool false) rfl ?_)
  show wpAny _ _ (field (.ref z) 3 >>= _) _ _ _
  refine wpAny_bind (wpAny_field hz rfl (x := .ref TI) rfl (wpAny_bind (wpAny_seqItems hTI rfl ?_)))
  show wpAny _ _ (Builtin.SmallTypes.ownedTupleIsFree (.ref z) >>= _) _ _ _
  refine wpAny_bind ?_
  unfold Builtin.SmallTypes.ownedTupleIsFree
  refine wpAny_bind (wpAny_field hz rfl (x := .none) rfl (wpAny_pure ?_))
  simp only [if_true]
  refine wpAny_bind (wpAny_rule (wpAny_bind (wpAny_field hz rfl (x := .ref TO) rfl (wpAny_bind (wpAny_setField_rec hz (by simp) fun h1 (hz1 : IsZip h1 z TI TO .ellipsis) s1 => wpAny_bind ?_)))))
  have t1 := t.but s1.extBut D.i1z D.i2z D.l1z D.l2z
  simp only [List.zipIdx_cons, List.zipIdx_nil, List.forIn_cons, List.forIn_nil]
  refine wpAny_bind (wpAny_bind (wpAny_onRaise ?_))
  show wpAny _ _ (Builtin.SmallTypes.nextOf (.ref i1) >>= _) _ _ _
  refine wpAny_bind (RZ.nextOf_tuple_item t1.a t1.x hx fun h2 u1 s2 => wpAny_pure ?_)
  have hTO2 : IsPair h2 TO a b := s2.extBut _ _ D.TOi1 (s1.extBut _ _ D.TOz hTO)
  refine wpAny_bind (wpAny_seqItems hTO2 rfl (wpAny_bind (wpAny_updateSeq_pair hTO2 fun h3 (hTO3 : IsPair h3 TO x b) s3 => wpAny_bind (wpAny_letGo (wpAny_pure ?_)))))
  refine wpAny_bind (wpAny_bind (wpAny_onRaise ?_))
  show wpAny _ _ (Builtin.SmallTypes.nextOf (.ref i2) >>= _) _ _ _
  refine wpAny_bind (wpAny_nextOf_list_item ((t1.b.extBut s2.extBut D.i12.symm).extBut s3.extBut D.TOi2.symm) ((t1.y.extBut s2.extBut D.l2i1).extBut s3.extBut D.l2TO) hy fun h4 u2 s4 => wpAny_pure ?_)
  have hTO4 : IsPair h4 TO x b := s4.extBut _ _ D.TOi2 hTO3
  refine wpAny_bind (wpAny_seqItems hTO4 rfl (wpAny_bind (wpAny_updateSeq_pair hTO4 fun h5 (hTO5 : IsPair h5 TO x y) s5 => wpAny_bind (wpAny_letGo (wpAny_pure (wpAny_pure ?_))))))
  refine wpAny_bind (wpAny_seqItems hTO5 rfl (wpAny_bind (wpAny_newTuple ?_)))
  have hsz : h5.objs.size = s.heap.objs.size := by rw [s5.1, s4.1, s3.1, s2.1, s1.1]
  have hz5 : IsZip h5 z TI TO .ellipsis := s5.extBut _ _ D.TOz.symm (s4.extBut _ _ D.i2z.symm (s3.extBut _ _ D.TOz.symm (s2.extBut _ _ D.i1z.symm hz1)))
  have keep : ∀ c o, c ≠ z → c ≠ TO → c ≠ i1 → c ≠ i2 → s.heap.get? c = some o → h5.get? c = some o := fun c o c1 c2 c3 c4 e =>
    s5.extBut _ _ c2 (s4.extBut _ _ c4 (s3.extBut _ _ c2 (s2.extBut _ _ c3 (s1.extBut _ _ c1 e))))
  have v1 : h5.IsTupleIter i1 l1 (k1 + 1) := ((u1.extBut s3.extBut D.TOi1.symm).extBut s4.extBut D.i12).extBut s5.extBut D.TOi1.symm
  have v2 : h5.IsListIter i2 l2 (k2 + 1) := u2.extBut s5.extBut D.TOi2.symm
  have hzlt : z < h5.objs.size := Heap.lt_size hz5
  show wpAny _ _ (Builtin.SmallTypes.ownedTupleHandOut (.ref z) (.ref h5.objs.size) >>= _) _ _ _
  refine wpAny_bind ?_
  unfold Builtin.SmallTypes.ownedTupleHandOut
  have hz6 : IsZip (h5.push { cls := .type "tuple", data := .seq #[x, y] }) z TI TO .ellipsis := Heap.get?_push_of_some _ hz5
  refine wpAny_bind (wpAny_setField_rec hz6 (by simp) fun h7 (hz7 : IsZip h7 z TI TO (rawInt h5.objs.size)) s7 => ?_)
  refine wpAny_setField_rec hz7 (by simp) fun h8 (hz8 : IsZip h8 z TI TO (rawInt h5.objs.size)) s8 => ?_
  have up : ∀ c o, c ≠ z → h5.get? c = some o → h8.get? c = some o := fun c o c1 e => s8.extBut _ _ c1 (s7.extBut _ _ c1 (Heap.get?_push_of_some _ e))
  have hT : IsPair h8 h5.objs.size x y := s8.extBut _ _ (Nat.ne_of_gt hzlt) (s7.extBut _ _ (Nat.ne_of_gt hzlt) (Heap.get?_push_size _ rfl))
  have hs8 : h8.objs.size = h5.objs.size + 1 := by rw [s8.1, s7.1, Heap.size_push]
  rw [hsz] at hz8 hT hs8
  refine wpAny_pure ⟨_, rfl, ?_⟩
  show Q (.ref h5.objs.size) _
  rw [hsz]
  exact hQ h8 hz8 (up _ _ D.TOz hTO5) (v1.at fun o e => up _ o D.i1z e) (v2.at fun o e => up _ o D.i2z e) hT hs8 fun c o c1 c2 c3 c4 e => up c o c1 (keep c o c1 c2 c3 c4 e)
theorem next_end {z TI TO i1 i2 l1 l2 : Addr} {k1 k2 : Nat} {xs ys : Array Value} {a b : Value} {Q : Fin → Shared → Prop} (hh : A.handled = none) (D : ZipApart z TI TO i1 i2 l1 l2)
    (hz : IsZip s.heap z TI TO .none) (hTI : IsPair s.heap TI (.ref i1) (.ref i2)) (hTO : IsPair s.heap TO a b) (t : At s.heap i1 i2 l1 l2 k1 k2 xs ys) (hend : xs[k1]? = none ∨ ys[k2]? = none)
    (hE : ∀ h' e, (∀ c o, c ≠ z → c ≠ TO → c ≠ i1 → c ≠ i2 → s.heap.get? c = some o → h'.get? c = some o) → (∃ o, h'.get? e = some o ∧ o.cls = .type "StopIteration") → E (.ref e) { s with heap := h' }) :
    wpAny (model prog w) A (Builtin.«zip.__next__» ⟨[.ref z], []⟩) Q E s := by
  show wpAny _ _ (field (.ref z) 2 >>= _) _ _ _
  refine wpAny_bind (wpAny_field hz rfl (x := .bool false) rfl ?_)
  show wpAny _ _ (field (.ref z) 3 >>= _) _ _ _
  refine wpAny_bind (wpAny_field hz rfl (x := .ref TI) rfl (wpAny_bind (wpAny_seqItems hTI rfl ?_)))
  show wpAny _ _ (Builtin.SmallTypes.ownedTupleIsFree (.ref z) >>= _) _ _ _
  refine wpAny_bind ?_
  unfold Builtin.SmallTypes.ownedTupleIsFree
  refine wpAny_bind (wpAny_field hz rfl (x := .none) rfl (wpAny_pure ?_))
  simp only [if_true]
  refine wpAny_bind (wpAny_rule (wpAny_bind (wpAny_field hz rfl (x := .ref TO) rfl (wpAny_bind (wpAny_setField_rec hz (by simp) fun h1 (hz1 : IsZip h1 z TI TO .ellipsis) s1 => wpAny_bind ?_)))))
  have t1 := t.but s1.extBut D.i1z D.i2z D.l1z D.l2z
  simp only [List.zipIdx_cons, List.zipIdx_nil, List.forIn_cons, List.forIn_nil]
  refine wpAny_bind (wpAny_bind (wpAny_onRaise ?_))
  show wpAny _ _ (Builtin.SmallTypes.nextOf (.ref i1) >>= _) _ _ _
  cases hx : xs[k1]? with
  | none =>
    refine wpAny_bind (RZ.nextOf_tuple_end hh t1.a t1.x hx fun h2 e s2 he => ?_)
    obtain ⟨oe, hoe, hce⟩ := he
    have hz2 : IsZip h2 z TI TO .ellipsis := s2 _ _ D.i1z.symm hz1
    have hez : e ≠ z := fun q => by subst q; rw [hz2] at hoe; cases hoe; simp at hce
    refine wpAny_setField_rec hz2 (by simp) fun h3 _ s3 => hE h3 e (fun c o c1 _ c3 _ q => s3.extBut _ _ c1 (s2 _ _ c3 (s1.extBut _ _ c1 q))) ⟨oe, s3.extBut _ _ hez hoe, hce⟩
  | some x =>
    have hy : ys[k2]? = none := by
      rcases hend with h | h
      · rw [hx] at h; cases h
      · exact h
    refine wpAny_bind (RZ.nextOf_tuple_item t1.a t1.x hx fun h2 u1 s2 => wpAny_pure ?_)
    have hTO2 : IsPair h2 TO a b := s2.extBut _ _ D.TOi1 (s1.extBut _ _ D.TOz hTO)
    refine wpAny_bind (wpAny_seqItems hTO2 rfl (wpAny_bind (wpAny_updateSeq_pair hTO2 fun h3 hTO3 s3 => wpAny_bind (wpAny_letGo (wpAny_pure ?_)))))
    refine wpAny_bind (wpAny_bind (wpAny_onRaise ?_))
    show wpAny _ _ (Builtin.SmallTypes.nextOf (.ref i2) >>= _) _ _ _
    refine wpAny_bind (wpAny_nextOf_list_end hh ((t1.b.extBut s2.extBut D.i12.symm).extBut s3.extBut D.TOi2.symm) ((t1.y.extBut s2.extBut D.l2i1).extBut s3.extBut D.l2TO) hy fun h4 e s4 he => ?_)
    obtain ⟨oe, hoe, hce⟩ := he
    have hz4 : IsZip h4 z TI TO .ellipsis := s4 _ _ D.i2z.symm (s3.extBut _ _ D.TOz.symm (s2.extBut _ _ D.i1z.symm hz1))
    have hez : e ≠ z := fun q => by subst q; rw [hz4] at hoe; cases hoe; simp at hce
    refine wpAny_setField_rec hz4 (by simp) fun h5 _ s5 => hE h5 e (fun c o c1 c2 c3 c4 q => s5.extBut _ _ c1 (s4 _ _ c4 (s3.extBut _ _ c2 (s2.extBut _ _ c3 (s1.extBut _ _ c1 q))))) ⟨oe, s5.extBut _ _ hez hoe, hce⟩
theorem pyNext_item {z TI TO i1 i2 l1 l2 : Addr} {k1 k2 : Nat} {xs ys : Array Value} {x y a b : Value} {Q : Option Value → Shared → Prop} (D : ZipApart z TI TO i1 i2 l1 l2)
    (hz : IsZip s.heap z TI TO .none) (hTI : IsPair s.heap TI (.ref i1) (.ref i2)) (hTO : IsPair s.heap TO a b) (t : At s.heap i1 i2 l1 l2 k1 k2 xs ys) (hx : xs[k1]? = some x) (hy : ys[k2]? = some y)
    (hQ : ∀ h', IsZip h' z TI TO (rawInt s.heap.objs.size) → IsPair h' TO x y → h'.IsTupleIter i1 l1 (k1 + 1) → h'.IsListIter i2 l2 (k2 + 1) → IsPair h' s.heap.objs.size x y → h'.objs.size = s.heap.objs.size + 1 →
      (∀ c o, c ≠ z → c ≠ TO → c ≠ i1 → c ≠ i2 → s.heap.get? c = some o → h'.get? c = some o) → Q (some (.ref s.heap.objs.size)) { s with heap := h' }) :
    wpAny (model prog w) A (pyNext (.ref z)) Q E s := by
  have hT : s.TypeIs (.ref z) "zip" := ⟨_, hz, rfl⟩
  unfold pyNext
  exact wpAny_bind (wpAny_attempt (wpAny_callSpecial?_slot (name := Str.ofString "__next__") hT F.slot_zip_next
    (wpAny_call_entry F.slot_zip_next hT F.entry_zip_next (next_item D hz hTI hTO t hx hy fun h' a1 a2 a3 a4 a5 a6 a7 => wpAny_pure (hQ h' a1 a2 a3 a4 a5 a6 a7)) (F.args_zip_next_1 _))))
theorem pyNext_end {z TI TO i1 i2 l1 l2 : Addr} {k1 k2 : Nat} {xs ys : Array Value} {a b : Value} {Q : Option Value → Shared → Prop} (hh : A.handled = none) (D : ZipApart z TI TO i1 i2 l1 l2)
    (hz : IsZip s.heap z TI TO .none) (hTI : IsPair s.heap TI (.ref i1) (.ref i2)) (hTO : IsPair s.heap TO a b) (t : At s.heap i1 i2 l1 l2 k1 k2 xs ys) (hend : xs[k1]? = none ∨ ys[k2]? = none)
    (hQ : ∀ h', (∀ c o, c ≠ z → c ≠ TO → c ≠ i1 → c ≠ i2 → s.heap.get? c = some o → h'.get? c = some o) → Q none { s with heap := h' }) : wpAny (model prog w) A (pyNext (.ref z)) Q E s := by
  have hT : s.TypeIs (.ref z) "zip" := ⟨_, hz, rfl⟩
  unfold pyNext
  refine wpAny_bind (wpAny_attempt (wpAny_callSpecial?_slot (name := Str.ofString "__next__") hT F.slot_zip_next
    (wpAny_call_entry F.slot_zip_next hT F.entry_zip_next (next_end hh D hz hTI hTO t hend fun h' e hk he => ?_) (F.args_zip_next_1 _))))
  obtain ⟨o, ho, hc⟩ := he
  refine wpAny_bind (wpAny_isInstance (T := "StopIteration") (b := true) ⟨o, ho, hc⟩ isSubtype_stop ?_)
  exact wpAny_pure (hQ _ hk)
end
abbrev g1 (h : Heap) (l1 : Addr) : Heap := h.push { cls := .type "tuple_iterator", data := .fields #[.ref l1, .int 0 0] }
abbrev g2 (h : Heap) (l1 l2 : Addr) : Heap := (g1 h l1).push { cls := .type "list_iterator", data := .fields #[.ref l2, .int 0 0] }
abbrev g3 (h : Heap) (l1 l2 : Addr) : Heap := (g2 h l1 l2).push { cls := .type "tuple", data := .seq #[.ref h.objs.size, .ref (g1 h l1).objs.size] }
abbrev g4 (h : Heap) (l1 l2 : Addr) : Heap := (g3 h l1 l2).push { cls := .type "tuple", data := .seq #[.none, .none] }
abbrev g5 (h : Heap) (l1 l2 : Addr) : Heap := (g4 h l1 l2).push { cls := .type "zip", data := .fields #[.none, .bool false, .bool false, .ref (g2 h l1 l2).objs.size, .ref (g3 h l1 l2).objs.size] }
theorem meets_new (l1 l2 : Addr) (xs ys : Array Value) :
    Meets (Builtin.«zip.__new__» ⟨[.type "zip", .ref l1, .ref l2], []⟩) (fun _ R s => s.heap.IsTuple l1 xs ∧ s.heap.IsList l2 ys ∧ R (.ok (.ret (.ref (g4 s.heap l1 l2).objs.size))) { s with heap := g5 s.heap l1 l2 }) :=
  .of_wp fun prog w A R s h => by
    obtain ⟨hp, g, d, tk, os⟩ := s
    obtain ⟨hl1, hl2, h⟩ := h
    have hsub := sub_zip
    have hL1 : Heap.IsTuple (Shared.heap ⟨hp, g, d, tk, os⟩) l1 xs := hl1
    have hL2 : Heap.IsList (Shared.heap ⟨hp.push { cls := .type "tuple_iterator", data := .fields #[.ref l1, .int 0 0] }, g, d, tk, os⟩) l2 ys := Heap.IsList.push hl2 _
    wp_walk using wpAny_pyIter_tuple hL1, wpAny_pyIter_list hL2
    exact ⟨_, rfl, h⟩
section
variable {prog : Program} {w : World} {A : Around} {E : Value → Shared → Prop} {s : Shared}
theorem call_new {l1 l2 : Addr} {xs ys : Array Value} {Q : Value → Shared → Prop} (hl1 : s.heap.IsTuple l1 xs) (hl2 : s.heap.IsList l2 ys)
    (h : ∀ h', IsZip h' (s.heap.objs.size + 4) (s.heap.objs.size + 2) (s.heap.objs.size + 3) .none → IsPair h' (s.heap.objs.size + 2) (.ref s.heap.objs.size) (.ref (s.heap.objs.size + 1)) →
      IsPair h' (s.heap.objs.size + 3) .none .none → h'.IsTupleIter s.heap.objs.size l1 0 → h'.IsListIter (s.heap.objs.size + 1) l2 0 → h'.objs.size = s.heap.objs.size + 5 →
      (∀ c o, s.heap.get? c = some o → h'.get? c = some o) → Q (.ref (s.heap.objs.size + 4)) { s with heap := h' }) :
    wpAny (model prog w) A (call (.type "zip") [.ref l1, .ref l2]) Q E s := by
  refine callType_new F.called_zip (by decide) (F.typeCall_zip_2 _ _) (F.newCall_zip_2 _ _) (fun obj => F.args_object_init_3 obj _ _) F.entry_zip_new (meets_new l1 l2 xs ys) ⟨hl1, hl2, ?_⟩
  have z1 : (g1 s.heap l1).objs.size = s.heap.objs.size + 1 := Heap.size_push ..
  have z2 : (g2 s.heap l1 l2).objs.size = s.heap.objs.size + 2 := by rw [Heap.size_push, z1]
  have z3 : (g3 s.heap l1 l2).objs.size = s.heap.objs.size + 3 := by rw [Heap.size_push, z2]
  have z4 : (g4 s.heap l1 l2).objs.size = s.heap.objs.size + 4 := by rw [Heap.size_push, z3]
  have z5 : (g5 s.heap l1 l2).objs.size = s.heap.objs.size + 5 := by rw [Heap.size_push, z4]
  have p5 : (g5 s.heap l1 l2).get? (g4 s.heap l1 l2).objs.size = some _ := Heap.get?_push_size _ rfl
  have p4 : (g5 s.heap l1 l2).get? (g3 s.heap l1 l2).objs.size = some _ := Heap.get?_push_of_some _ (Heap.get?_push_size _ rfl)
  have p3 : (g5 s.heap l1 l2).get? (g2 s.heap l1 l2).objs.size = some _ := Heap.get?_push_of_some _ (Heap.get?_push_of_some _ (Heap.get?_push_size _ rfl))
  have p2 : (g5 s.heap l1 l2).get? (g1 s.heap l1).objs.size = some _ := Heap.get?_push_of_some _ (Heap.get?_push_of_some _ (Heap.get?_push_of_some _ (Heap.get?_push_size _ rfl)))
  have p1 : (g5 s.heap l1 l2).get? s.heap.objs.size = some _ := Heap.get?_push_of_some _ (Heap.get?_push_of_some _ (Heap.get?_push_of_some _ (Heap.get?_push_of_some _ (Heap.get?_push_size _ rfl))))
  show _ ∧ _
  rw [z2, z3, z4] at p5
  rw [z1, z2] at p3
  rw [z3] at p4
  rw [z1] at p2
  rw [z4]
  exact ⟨⟨_, p5, rfl⟩, h _ p5 p3 p4 ⟨_, p1, rfl, rfl⟩ ⟨_, p2, rfl, rfl⟩ z5 fun c o x =>
    Heap.get?_push_of_some _ (Heap.get?_push_of_some _ (Heap.get?_push_of_some _ (Heap.get?_push_of_some _ (Heap.get?_push_of_some _ x))))⟩
end
/-! ### by values -/
def ItM (K : PySem.W.Frag) (a b : Addr) : It :=
  ⟨fun i H => ∃ (xs ys : List V) (x y : V), SqT K H a xs ∧ SqL K H b ys ∧ xs[i]? = some x ∧ ys[i]? = some y,
    fun i H v H' => ∃ T x y, v = .ref T ∧ H T = none ∧ H' = upd H T (.tup [x, y]) ∧ (∀ xs, SqT K H a xs → xs[i]? = some x) ∧ ∀ ys, SqL K H b ys → ys[i]? = some y,
    fun i H => ∃ xs ys : List V, SqT K H a xs ∧ SqL K H b ys ∧ (xs.length ≤ i ∨ ys.length ≤ i)⟩
theorem five {z TI TO i1 i2 c : Addr} (h : c ∈ [z, TI, TO, i1, i2]) : c = z ∨ c = TI ∨ c = TO ∨ c = i1 ∨ c = i2 := by simpa using h
theorem turn_m {P : Program} {w : World} {K : PySem.W.Frag} {elts : List Expr} {kk : Nat} {tpos : Pos} {a b z TI TO i1 i2 : Addr} (D : ZipApart z TI TO i1 i2 a b) :
    Turn P w K (.Tuple elts kk tpos) (ItM K a b) [z, TI, TO, i1, i2] z (fun i h => IsZip h z TI TO .none ∧ IsPair h TI (.ref i1) (.ref i2) ∧ (∃ x y, IsPair h TO x y) ∧ h.IsTupleIter i1 a i ∧ h.IsListIter i2 b i) where
  mem := by simp
  obj := fun i h st c hc => by
    obtain ⟨hz, hTI, ⟨x, y, hTO⟩, ⟨o1, e1, _, d1⟩, ⟨o2, e2, _, d2⟩⟩ := st
    rcases five hc with q | q | q | q | q
    · rw [q]; exact ⟨_, hz, fun v q => nomatch q⟩
    · rw [q]; exact ⟨_, hTI, fun v q => nomatch q⟩
    · rw [q]; exact ⟨_, hTO, fun v q => nomatch q⟩
    · rw [q]; exact ⟨o1, e1, fun v q => by rw [d1] at q; cases q⟩
    · rw [q]; exact ⟨o2, e2, fun v q => by rw [d2] at q; cases q⟩
  keep := fun i h h' st k => by
    obtain ⟨hz, hTI, ⟨x, y, hTO⟩, h1, h2⟩ := st
    exact ⟨k z (by simp) _ hz, k TI (by simp) _ hTI, ⟨x, y, k TO (by simp) _ hTO⟩, h1.at fun o q => k i1 (by simp) o q, h2.at fun o q => k i2 (by simp) o q⟩
  item := by
    intro X hP hw hK hc i pins s σ H E I hf st hg
    subst hP hw hK
    obtain ⟨hz, hTI, ⟨x0, y0, hTO⟩, h1, h2⟩ := st
    obtain ⟨xs, ys, x, y, hqx, hqy, hx, hy⟩ := hg
    obtain ⟨its, rv, p, _⟩ := I.tuple hqx
    obtain ⟨its2, rv2, p2, _⟩ := I.list hqy
    obtain ⟨u, hu, ru⟩ := rv.get hx
    obtain ⟨u2, hu2, ru2⟩ := rv2.get hy
    have hzl : z < s.heap.objs.size := Heap.lt_size hz
    refine pyNext_item D hz hTI hTO ⟨h1, h2, p, p2.isList⟩ (x := u) (y := u2) (by simpa using hu) (by simpa using hu2) fun h' z' TO' h1' h2' hT hsz hk => ?_
    refine ⟨_, rfl, wpAny_letOwnedTupleGo_zip (s := { s with heap := h' }) z' fun h'' z'' sb => ?_⟩
    have hT2 : h''.get? s.heap.objs.size = some { cls := .type "tuple", data := .seq #[u, u2] } := (sb.2 _ (Nat.ne_of_gt hzl)).trans hT
    have new : ObjOk X.prog X.w (upd H s.heap.objs.size (.tup [x, y])) h'' s.heap.objs.size (.tup [x, y]) :=
      ⟨by show 2 ≤ sizeLine; decide, [u, u2], .cons ru (.cons ru2 .nil), ⟨_, hT2, rfl, _, rfl⟩⟩
    have I1 : Inv X pins σ (upd H s.heap.objs.size (.tup [x, y])) { s with heap := h'' } :=
      I.turnedNew (t' := s.toks) (ch := [z, TI, TO, i1, i2]) (fun c o hb q => (sb.2 c (fun q' => hb (by simp [q']))).trans (hk c o (fun q' => hb (by simp [q'])) (fun q' => hb (by simp [q'])) (fun q' => hb (by simp [q'])) (fun q' => hb (by simp [q'])) q)) hf (Nat.le_refl _) new
    refine ⟨.ref s.heap.objs.size, _, I1, rfl, ⟨_, x, y, rfl, I.hok.fresh (Nat.le_refl _), rfl, fun l hl => by rw [I.tuple_inj hl hqx]; exact hx, fun l hl => by rw [I.list_inj hl hqy]; exact hy⟩, ⟨z'', ?_, ⟨u, u2, ?_⟩, ?_, ?_⟩, fun c hcm => ?_⟩
    · exact (sb.2 _ D.TIz).trans (hk _ _ D.TIz D.TITO D.TIi1 D.TIi2 hTI)
    · exact (sb.2 _ D.TOz).trans TO'
    · exact h1'.at fun o q => (sb.2 _ D.i1z).trans q
    · exact h2'.at fun o q => (sb.2 _ D.i2z).trans q
    · have hlt : c < s.heap.objs.size := by
        rcases five hcm with q | q | q | q | q
        · rw [q]; exact hzl
        · rw [q]; exact Heap.lt_size hTI
        · rw [q]; exact Heap.lt_size hTO
        · rw [q]; obtain ⟨_, e1, _⟩ := h1; exact Heap.lt_size e1
        · rw [q]; obtain ⟨_, e2, _⟩ := h2; exact Heap.lt_size e2
      rw [upd_ne (Nat.ne_of_lt hlt)]
      exact (hf c hcm).1
  done := by
    intro X hP hw hK hc i pins s σ H E I hf st hg
    subst hP hw hK
    obtain ⟨hz, hTI, ⟨x0, y0, hTO⟩, h1, h2⟩ := st
    obtain ⟨xs, ys, hqx, hqy, hend⟩ := hg
    obtain ⟨its, rv, p, _⟩ := I.tuple hqx
    obtain ⟨its2, rv2, p2, _⟩ := I.list hqy
    have l1 := rv.length
    have l2 := rv2.length
    have he : its.toArray[i]? = none ∨ its2.toArray[i]? = none := by
      rcases hend with q | q
      · exact .inl (by simp; omega)
      · exact .inr (by simp; omega)
    exact pyNext_end (I.ok.hd hc) D hz hTI hTO ⟨h1, h2, p, p2.isList⟩ he fun h' hk => ⟨rfl, I.turnedL (t' := s.toks) (ch := [z, TI, TO, i1, i2]) (fun c o hb q =>
      hk c o (fun q' => hb (by simp [q'])) (fun q' => hb (by simp [q'])) (fun q' => hb (by simp [q'])) (fun q' => hb (by simp [q'])) q) hf⟩
  self := fun A i s Q E st h => wpAny_pyIter_zip st.1 h
def iM (K : PySem.W.Frag) (ta : TA) : TI := fun σ H R => ta σ H fun vs H1 => ∃ a b xs ys, vs = [.ref a, .ref b] ∧ SqT K H1 a xs ∧ SqL K H1 b ys ∧ R (ItM K a b) H1
theorem pi_m {X : Cx} {e e2 : Expr} {ta : TA} {p pos tpos : Pos} {elts : List Expr} {kk : Nat} (hg : Gl X "zip") (hm : X.mg "zip" = none) (ha : PA X [e, e2] ta)
    (hs : starEach [e, e2] X.env = (false, eval e X.env) :: starEach [e2] X.env := by rfl) (hpl : (backTo pos (starEach [e2] X.env)).any (·.1) = false := by rfl) :
    PI X (.Tuple elts kk tpos) (.Call (.Name "zip" p) [e, e2] [] pos) (iM X.K ta) := by
  refine ⟨fun pins s σ H R I h => ?_⟩
  refine Call_ (ld_blt I hg hm PyProof.Rows.boot_zip (PyProof.Rows.callWith_type1 (thn (ha.run pos pins s σ H _ I h) fun us s1 ⟨vs, H1, I1, r1, q1⟩ => ?_) hs hpl))
  obtain ⟨a, b, xs, ys, ex, hqx, hqy, q⟩ := q1
  subst ex
  cases r1 with
  | cons r rr =>
    cases rr with
    | cons r' rr =>
      cases rr
      cases r
      cases r'
      have fresh5 : ∀ c, c ∈ [s1.heap.objs.size + 4, s1.heap.objs.size + 2, s1.heap.objs.size + 3, s1.heap.objs.size, s1.heap.objs.size + 1] → FpOk X pins H1 c := fun c hcm => by
        have hle : s1.heap.objs.size ≤ c := by
          rcases five hcm with z | z | z | z | z <;> rw [z] <;> omega
        exact I1.fpOk hle (I1.hok.fresh hle)
      obtain ⟨its, rv, p1, _⟩ := I1.tuple hqx
      obtain ⟨its2, rv2, p2, _⟩ := I1.list hqy
      obtain ⟨o1, ho1, _⟩ := id p1
      refine call_new (show s1.heap.IsTuple a its.toArray from p1) p2.isList fun h' hz hTI hTO h1 h2 hsz hk => wpAny_pyIter_zip hz ?_
      have I2 : Inv X pins σ H1 { s1 with heap := h' } := I1.kept (t' := s1.toks) hk
      exact ⟨s1.heap.objs.size + 4, [s1.heap.objs.size + 4, s1.heap.objs.size + 2, s1.heap.objs.size + 3, s1.heap.objs.size, s1.heap.objs.size + 1], _, _, H1, rfl, I2, turn_m (PySem.W.ktu_apart s1.heap.objs.size a b (Heap.lt_size ho1) p2.lt), ⟨hz, hTI, ⟨_, _, hTO⟩, h1, h2⟩, fresh5, q⟩
end MiZ
/-! Mi33: zip of a tuple and a list, of two tuples: the rules. -/
namespace Mi
open PySem L2 PyProof.Rows
def fZipM : List D → Option (List D)
  | [.tup xs, .lst ys] => some (zipD xs ys)
  | _ => none
def fZipT : List D → Option (List D)
  | [.tup xs, .tup ys] => some (zipD xs ys)
  | _ => none
section
variable {K : PySem.W.Frag} {mg : Str → Option Value} {B : Hp}
theorem walks_zipM {a c : Addr} {vs ws : List V} {ds es : List D} (h : SqT K B a vs) (r : RepL K mg B ds vs) (h' : SqL K B c ws) (r' : RepL K mg B es ws) : Walks K mg B (MiZ.ItM K a c) (zipD ds es) := fun i B' H' e1 e2 => by
  have q := (e1.trans e2).t h
  have q' := (e1.trans e2).l h'
  have g := repL_get (i := i) r
  have g' := repL_get (i := i) r'
  refine ⟨fun d e => ?_, fun e hl => ⟨vs, ws, q, q', ?_⟩⟩
  · rw [zipD_get] at e
    cases ed : ds[i]? with
    | none => rw [ed] at e; cases e
    | some d0 =>
      cases ee : es[i]? with
      | none => rw [ed, ee] at e; cases e
      | some d1 =>
        rw [ed, ee] at e
        cases e
        obtain ⟨v, e3, r3⟩ := g.1 d0 ed
        obtain ⟨w, e3', r3'⟩ := g'.1 d1 ee
        refine ⟨⟨vs, ws, v, w, q, q', e3, e3'⟩, fun x H'' y => ?_⟩
        obtain ⟨T, x', y', rfl, hT, rfl, y1, y2⟩ := y
        have e4 := y1 vs q
        rw [e3] at e4
        cases e4
        have e5 := y2 ws q'
        rw [e3'] at e5
        cases e5
        have ps := PStep.new e2 (.tup [v, w]) hT
        refine ⟨_, ps, ?_⟩
        unfold Rep RepL RepL RepL
        exact ⟨T, _, rfl, .inl (.inl upd_same), _, _, rfl, r3.mono (e1.trans ps.ex), _, _, rfl, r3'.mono (e1.trans ps.ex), rfl⟩
  · rw [zipD_get] at e
    cases ed : ds[i]? with
    | none => exact .inl (List.getElem?_eq_none_iff.mp (g.2 ed))
    | some d0 =>
      cases ee : es[i]? with
      | none => exact .inr (List.getElem?_eq_none_iff.mp (g'.2 ee))
      | some d1 => rw [ed, ee] at e; cases e
theorem walks_zipT {a c : Addr} {vs ws : List V} {ds es : List D} (h : SqT K B a vs) (r : RepL K mg B ds vs) (h' : SqT K B c ws) (r' : RepL K mg B es ws) : Walks K mg B (RZ.ItzT K a c) (zipD ds es) := fun i B' H' e1 e2 => by
  have q := (e1.trans e2).t h
  have q' := (e1.trans e2).t h'
  have g := repL_get (i := i) r
  have g' := repL_get (i := i) r'
  refine ⟨fun d e => ?_, fun e hl => ⟨vs, ws, q, q', ?_⟩⟩
  · rw [zipD_get] at e
    cases ed : ds[i]? with
    | none => rw [ed] at e; cases e
    | some d0 =>
      cases ee : es[i]? with
      | none => rw [ed, ee] at e; cases e
      | some d1 =>
        rw [ed, ee] at e
        cases e
        obtain ⟨v, e3, r3⟩ := g.1 d0 ed
        obtain ⟨w, e3', r3'⟩ := g'.1 d1 ee
        refine ⟨⟨vs, ws, v, w, q, q', e3, e3'⟩, fun x H'' y => ?_⟩
        obtain ⟨T, x', y', rfl, hT, rfl, y1, y2⟩ := y
        have e4 := y1 vs q
        rw [e3] at e4
        cases e4
        have e5 := y2 ws q'
        rw [e3'] at e5
        cases e5
        have ps := PStep.new e2 (.tup [v, w]) hT
        refine ⟨_, ps, ?_⟩
        unfold Rep RepL RepL RepL
        exact ⟨T, _, rfl, .inl (.inl upd_same), _, _, rfl, r3.mono (e1.trans ps.ex), _, _, rfl, r3'.mono (e1.trans ps.ex), rfl⟩
  · rw [zipD_get] at e
    cases ed : ds[i]? with
    | none => exact .inl (List.getElem?_eq_none_iff.mp (g.2 ed))
    | some d0 =>
      cases ee : es[i]? with
      | none => exact .inr (List.getElem?_eq_none_iff.mp (g'.2 ee))
      | some d1 => rw [ed, ee] at e; cases e
end
section
variable {b : Bd} {X : Cx} {x y : Expr} {pos ppos : Pos} {es : Es}
theorem mi_zipM {elts : List Expr} {kk : Nat} {tpos : Pos} (hg : Gl X "zip") (hm : X.mg "zip" = none) (h : MEs b X [x, y] es) (hs : starEach [x, y] X.env = (false, eval x X.env) :: starEach [y] X.env := by rfl) (hpl : (backTo pos (starEach [y] X.env)).any (·.1) = false := by rfl) : MI b X (.Tuple elts kk tpos) (.Call (.Name "zip" ppos) [x, y] [] pos) fZipM es := fun W tk =>
  PI.imp (MiZ.pi_m hg hm (h W tk) hs hpl) fun σ H R k => iterN k fun ds xs B1 H1 vs hf e1 r w => by
    unfold fZipM at hf
    split at hf
    · cases hf
      obtain ⟨v, u, rfl, r1, r2⟩ := repL2 r
      obtain ⟨a, us, rfl, r3, r4⟩ := rep_tup r1
      obtain ⟨c, ws, rfl, r5, r6⟩ := rep_lst r2
      exact ⟨a, c, us, ws, rfl, e1.t r3, e1.l r5, w _ (walks_zipM r3 r4 r5 r6)⟩
    · cases hf
theorem mi_zipT {elts : List Expr} {kk : Nat} {tpos : Pos} (hg : Gl X "zip") (hm : X.mg "zip" = none) (h : MEs b X [x, y] es) (hs : starEach [x, y] X.env = (false, eval x X.env) :: starEach [y] X.env := by rfl) (hpl : (backTo pos (starEach [y] X.env)).any (·.1) = false := by rfl) : MI b X (.Tuple elts kk tpos) (.Call (.Name "zip" ppos) [x, y] [] pos) fZipT es := fun W tk =>
  PI.imp (RZ.pi_zipA hg hm (h W tk) hs hpl) fun σ H R k => iterN k fun ds xs B1 H1 vs hf e1 r w => by
    unfold fZipT at hf
    split at hf
    · cases hf
      obtain ⟨v, u, rfl, r1, r2⟩ := repL2 r
      obtain ⟨a, us, rfl, r3, r4⟩ := rep_tup r1
      obtain ⟨c, ws, rfl, r5, r6⟩ := rep_tup r2
      exact ⟨a, c, us, ws, rfl, .inr ⟨e1.t r3, e1.t r5, w _ (walks_zipT r3 r4 r5 r6)⟩⟩
    · cases hf
end
end Mi
/-! Mi34: list(range(a, b, -1)); f(.., k = v). -/
namespace Mi
open PySem L2 PySem.Spec PyProof.Rows
section
variable {X : Cx}
def PRgC (X : Cx) (e : Expr) (t : L2.St → Hp → (Int → Int → Int → Hp → Prop) → Prop) : Prop :=
  ∀ (pins : List (Addr × Obj)) (s : Shared) (σ : L2.St) (H : Hp) (Q : Int → Int → Int → Hp → Prop), Inv X pins σ H s → t σ H Q →
    wpAny (model X.prog X.w) X.A (eval e X.env) (fun x s' => ∃ r a b c t u v H', x = .ref r ∧ IsRange s'.heap r a b c t u v ∧ Inv X pins σ H' s' ∧ Q a b c H') X.xe s
def tRg3 (ta : TA) : L2.St → Hp → (Int → Int → Int → Hp → Prop) → Prop := fun σ H Q => ta σ H fun vs H1 => ∃ (i j c : Int) (n : Nat), vs = [.int i, .int j, .int c] ∧ RgC i j c n ∧ Q i j c H1
theorem prg_3 {a b c : Expr} {ta : TA} {p pos : Pos} (hg : Gl X "range") (hm : X.mg "range" = none) (ha : PA X [a, b, c] ta)
    (hs : starEach [a, b, c] X.env = (false, eval a X.env) :: starEach [b, c] X.env := by rfl) (hpl : (backTo pos (starEach [b, c] X.env)).any (·.1) = false := by rfl) :
    PRgC X (.Call (.Name "range" p) [a, b, c] [] pos) (tRg3 ta) := by
  intro pins s σ H Q I h
  refine Call_ (ld_blt I hg hm boot_range (PyProof.Rows.callWith_type1 (thn (ha.run pos pins s σ H _ I h) fun us s1 ⟨vs, H1, I1, r1, q1⟩ => ?_) hs hpl))
  obtain ⟨i, j, k, n, e, ⟨c0, c1, c2, c3⟩, q⟩ := q1
  subst e
  cases r1 with
  | cons r rr =>
    cases rr with
    | cons r' rr =>
      cases rr with
      | cons r'' rr =>
        cases rr
        obtain ⟨t, rfl⟩ := r
        obtain ⟨t', rfl⟩ := r'
        obtain ⟨t'', rfl⟩ := r''
        refine call_range_3 c0 ?_ (.inl (PyProof.noPylong_small c1))
        exact ⟨_, i, j, k, _, _, _, H1, rfl, IsRange.new _ _ _ _ _ _ _, I1.kept fun b u e => Heap.get?_push_of_some _ e, q⟩
def rgVC (i c : Int) (n : Nat) : List V := (List.range n).map fun k => V.int (i + (k : Nat) * c)
theorem vals_rgC {a c : Int} {n : Nat} {acc : Array Value} (h : ItemsOf (fun i v => ∃ t, v = .int (a + i * c) t) acc n) : Vals (rgVC a c n) acc.toList := by
  have e : acc.toList.length = n := by rw [Array.length_toList]; exact h.1
  unfold rgVC
  rw [← e]
  refine vals_of_get acc.toList _ fun j u hj => ?_
  obtain ⟨t, rfl⟩ := h.2 j u (by rw [← hj, Array.getElem?_toList])
  exact ⟨t, rfl⟩
def tLstRgC (te : L2.St → Hp → (Int → Int → Int → Hp → Prop) → Prop) : TE := fun σ H Q => te σ H fun i j c H1 => ∃ n : Nat, RgC i j c n ∧ n ≤ 2 ^ 24 ∧ ∀ q, H1 q = none → Q (.ref q) (upd H1 q (.lst (rgVC i c n)))
theorem pe_listRgC {e : Expr} {te : L2.St → Hp → (Int → Int → Int → Hp → Prop) → Prop} {p pos : Pos} (hc : X.calm = true) (hg : Gl X "list") (hm : X.mg "list" = none) (he : PRgC X e te) (na : starEach [e] X.env = (false, eval e X.env) :: starEach [] X.env := by rfl) : PE X (.Call (.Name "list" p) [e] [] pos) (tLstRgC te) := by
  refine ⟨fun pins s σ H Q I h => ?_⟩
  refine Call_ (ld_blt I hg hm boot_list (PyProof.Rows.callWith_type1 (args_cons (thn (he pins s σ H _ I h) fun x s1 ⟨r, a, b, c, t, u, v, H1, ex, hr, I1, n, ok, hn, q⟩ => args_nil ?_) na) na))
  subst ex
  obtain ⟨b1, b2, b3, b4⟩ := ok
  refine call_list_range (n := n) (I1.ok.hd hc) hr b3 b4 hn fun h' tk acc c' hk e' hi => ?_
  refine ⟨.ref s1.heap.objs.size, upd H1 s1.heap.objs.size (.lst (rgVC a c n)), I1.laid hk (Nat.le_refl _) (show ObjOk X.prog X.w _ _ _ (.lst (rgVC a c n)) from ⟨?_, acc.toList, c', vals_rgC hi, ?_⟩), rfl, q _ (I1.hok.fresh (Nat.le_refl _))⟩
  · rw [sizeLine_eq]; unfold rgVC; rw [List.length_map, List.length_range]; omega
  · rw [Array.toArray_toList]; exact e'
end
def fRgD : List D → Option D
  | [.int a, .int b, .int c] => if c = -1 ∧ (-(2 ^ 62) ≤ a ∧ a < 2 ^ 62) ∧ (-(2 ^ 62) ≤ b ∧ b < 2 ^ 62) ∧ (a - b).toNat ≤ 2 ^ 24 then some (.lst ((List.range (a - b).toNat).map fun k => .int (a + (k : Nat) * -1))) else none
  | _ => none
section
variable {K : PySem.W.Frag} {mg : Str → Option Value} {B : Hp}
theorem rgC_rep {a c : Int} {n : Nat} : RepL K mg B ((List.range n).map fun k => .int (a + (k : Nat) * c)) (rgVC a c n) := by
  unfold rgVC
  generalize List.range n = l
  induction l with
  | nil => unfold RepL; rfl
  | cons i r ih =>
    show RepL K mg B (.int (a + (i : Nat) * c) :: _) (.int (a + (i : Nat) * c) :: _)
    unfold RepL
    exact ⟨_, _, rfl, rep_int', ih⟩
theorem imp_rgD : ImpNF K mg fRgD (fun xs H Q => ∃ (i j c : Int) (n : Nat), xs = [.int i, .int j, .int c] ∧ RgC i j c n ∧ ∃ n : Nat, RgC i j c n ∧ n ≤ 2 ^ 24 ∧ ∀ q, H q = none → Q (.ref q) (upd H q (.lst (rgVC i c n)))) := fun B H xs ds d3 Q e r hf k => by
  unfold fRgD at hf
  split at hf
  · split at hf
    · rename_i a b c ok
      cases hf
      obtain ⟨rfl, ⟨h1, h2⟩, ⟨h3, h4⟩, h5⟩ := ok
      obtain ⟨v, w, u, rfl, r1, r2, r3⟩ := repL3r r
      rw [rep_int r1, rep_int r2, rep_int r3]
      exact ⟨_, _, _, _, rfl, RgC.neg h1 h2 h3 h4, _, RgC.neg h1 h2 h3 h4, h5, fun q hq => k q _ hq (.inl ⟨_, _, rfl, rfl, rgC_rep⟩)⟩
    · cases hf
  · cases hf
end
section
variable {b : Bd} {X : Cx} {x y z : Expr} {es : Es} {ppos pos : Pos}
theorem mf_rgD {p2 pos2 : Pos} (hc : X.calm = true) (hgL : Gl X "list") (hmL : X.mg "list" = none) (hg : Gl X "range") (hm : X.mg "range" = none) (h : MEs b X [x, y, z] es)
    (na : starEach [.Call (.Name "range" p2) [x, y, z] [] pos2] X.env = (false, eval (.Call (.Name "range" p2) [x, y, z] [] pos2) X.env) :: starEach [] X.env := by rfl)
    (hs : starEach [x, y, z] X.env = (false, eval x X.env) :: starEach [y, z] X.env := by rfl) (hpl : (backTo pos2 (starEach [y, z] X.env)).any (·.1) = false := by rfl) :
    MF b X (.Call (.Name "list" ppos) [.Call (.Name "range" p2) [x, y, z] [] pos2] [] pos) (.opN fRgD es) := fun W tk =>
  PE.imp (pe_listRgC hc hgL hmL (prg_3 hg hm (h W tk) hs hpl) na) fun σ H Q h => manyF_imp imp_rgD h
end
/-! ### f(.., k = v): v a name -/
section
variable {X : Cx} {CX : CXT} {k n : Nat} {f : Addr} {fd : FuncData} {ps ks : List Str} {sp : Sp} {E : L2.St → XK} {x : Str} {p pos : Pos} {e : Expr} {es : List Expr} {kws : List Keyword} {t tk : TA} {g : List Value → List Value → List Value} {gV : List V → List V → List V}
def tCallNS (n m : Nat) (sp : Sp) (gV : List V → List V → List V) (E : L2.St → XK) (t tk : TA) : TE := fun σ H Q => t σ H fun vs H1 => tk σ H1 fun zs H2 => vs.length = n ∧ zs.length = m ∧ sp (gV vs zs) H2 Q (E σ)
theorem run_fnNS {pins : List (Addr × Obj)} {σ : L2.St} {H : Hp} {s : Shared} {Q : VK} {us ws : List Value} {vs zs : List V} {E : XK} (F : FnOk X.prog X.w X.K X.mg X.base CX k f fd ps sp) (hr : Room k X.A) (hb : KBn X.K fd ps n ks g gV) (hx : PassesAt CX X σ E)
    (I : Inv X pins σ H s) (r : Vals vs us) (rz : Vals zs ws) (l1 : vs.length = n) (l2 : zs.length = ks.length) (h : sp (gV vs zs) H Q E) : wpAny (model X.prog X.w) X.A (call (.ref f) us (ks.zip ws)) (EP X pins σ Q) X.xe s := by
  have r2 := hb.rel r rz
  refine wpAny_call (codeAny_mono (F.run X.A X.stack s H ⟨us, ks.zip ws⟩ (g us ws) (gV vs zs) Q E hr I.env0 (hb.to s us ws I.kIn (r.length.symm.trans l1) (rz.length.symm.trans l2)) r2 h) fun r s' hq => ?_)
  cases r with
  | error e => exact hx pins H s e s' I hq
  | ok fl =>
    cases fl with
    | ret u => exact I.after hq
    | next => exact False.elim hq
    | brk => exact False.elim hq
    | cont => exact False.elim hq
theorem pe_callNS (F : FnOk X.prog X.w X.K X.mg X.base CX k f fd ps sp) (hr : Room k X.A) (hg : Gl X x) (hm : X.mg x = some (.ref f)) (hk : PySem.W.keepIn X.K (.ref f) = true) (hb : KBn X.K fd ps n ks g gV) (hx : ∀ σ, PassesAt CX X σ (E σ))
    (ha : PA X (e :: es) t) (hkw : PK X kws tk) (hall : (backToKw pos (keywordEach kws X.env)).all (·.1.isSome) = true := by rfl) (hks : (backToKw pos (keywordEach kws X.env)).filterMap (·.1) = ks := by rfl)
    (hdb : (x == ("__debug__" : Str)) = false := by decide) (he : starEach (e :: es) X.env = (false, eval e X.env) :: starEach es X.env := by rfl)
    (hpl : ((backTo pos (starEach (e :: es) X.env)).any (·.1) || (backToKw pos (keywordEach kws X.env)).any (·.1.isNone)) = false := by rfl) :
    PE X (.Call (.Name x p) (e :: es) kws pos) (tCallNS n ks.length sp gV E t tk) := by
  refine ⟨fun pins s σ H Q I h => ?_⟩
  refine wpAny_Call_Name_kw (ld_glob I hg hm ?_ hdb)
  refine PySem.W.callWith_KW (h₀ := X.base) I.ok.mod.kin hk hall (thn (ha.run pos pins s σ H _ I h) fun us s1 ⟨vs, H1, I1, r, q⟩ => ?_) hpl he
  refine thn (hkw.run pos pins s1 σ H1 _ I1 q) fun ws s2 ⟨zs, H2, I2, rz, l1, l2, q2⟩ => ⟨I2.kIn, ?_⟩
  rw [hks]
  exact run_fnNS F hr hb (hx σ) I2 r rz l1 l2 q2
end
def varAs (i : Nat) : As := .val (.var i) .nil
theorem evalAs_var {C : Nat → List M → CR} {pin : List Nat} {i : Nat} : ∀ {as : As} {μ : Env}, evalAs C pin (as.app (varAs i)) μ = (evalAs C pin as μ).bind fun ags μ1 => match slot μ1 i with
    | some (.dat d) => .ok (ags ++ [.val (.dat d)]) μ1
    | _ => .stuck
  | .nil, μ => by
    have e0 : ∀ μ, evalAs C pin .nil μ = .ok [] μ := fun μ => by unfold evalAs; rfl
    show ((evalE C pin (.var i) μ).bind fun m μ1 => (evalAs C pin .nil μ1).bind fun ags μ2 => .ok (.val m :: ags) μ2) = _
    unfold evalE
    simp only [e0, Out.bind]
    cases slot μ i with
    | none => rfl
    | some m => cases m <;> rfl
  | .val e r, μ => by
    show ((evalE C pin e μ).bind fun m μ1 => (evalAs C pin (r.app (varAs i)) μ1).bind fun ags μ2 => .ok (.val m :: ags) μ2) = ((evalE C pin e μ).bind fun m μ1 => (evalAs C pin r μ1).bind fun ags μ2 => .ok (.val m :: ags) μ2).bind _
    cases evalE C pin e μ with
    | stuck => rfl
    | err c μ' => rfl
    | ok m μ1 =>
      dsimp only [Out.bind]
      rw [evalAs_var]
      cases evalAs C pin r μ1 with
      | stuck => rfl
      | err c μ' => rfl
      | ok ags μ2 =>
        dsimp only [Out.bind]
        cases slot μ2 i with
        | none => rfl
        | some m => cases m <;> rfl
  | .ref p r, μ => by
    show (match evalP C pin p μ with
      | some pl => (evalAs C pin (r.app (varAs i)) μ).bind fun ags μ2 => .ok (.ref pl :: ags) μ2
      | none => .stuck) = (match evalP C pin p μ with
      | some pl => (evalAs C pin r μ).bind fun ags μ2 => .ok (.ref pl :: ags) μ2
      | none => .stuck : Out (List Ag)).bind _
    cases evalP C pin p μ with
    | none => rfl
    | some pl =>
      dsimp only [Out.bind]
      rw [evalAs_var]
      cases evalAs C pin r μ with
      | stuck => rfl
      | err c μ' => rfl
      | ok ags μ2 =>
        dsimp only [Out.bind]
        cases slot μ2 i with
        | none => rfl
        | some m => cases m <;> rfl
theorem vals_var {i : Nat} : ∀ {as : As}, (as.app (varAs i)).vals = as.vals
  | .nil => rfl
  | .val e r => by show (e.pure && (r.app (varAs i)).vals) = (e.pure && r.vals); rw [vals_var]
  | .ref p r => by show (r.app (varAs i)).vals = r.vals; rw [vals_var]
section
variable {K : PySem.W.Frag} {mg : Str → Option Value}
theorem tAs_var {C : Nat → List M → CR} {pin : List Nat} {as : As} {W : WX} {σ : L2.St} {H : Hp} {Q : List V → Hp → Prop} {i : Nat} (h : tAs K mg C pin (as.app (varAs i)) W σ H Q) : tAs K mg C pin as W σ H fun vs H1 => ∃ v, σ[i]? = some (some v) ∧ Q (vs ++ [v]) H1 := by
  obtain ⟨π, B, μ, S, hp, s, h⟩ := h
  refine ⟨π, B, μ, S, hp, s, ?_⟩
  rw [evalAs_var, vals_var] at h
  cases q : evalAs C pin as μ with
  | stuck => rw [q] at h; exact h
  | err c μ' => rw [q] at h; exact h
  | ok ags μ1 =>
    rw [q] at h
    dsimp only [Out.bind] at h
    split at h
    · rename_i d hs
      intro vs B1 H1 S1 T s1 r1 d1 x1 u1
      obtain ⟨v, e1, r⟩ := s1.getD hs
      exact ⟨v, e1, h (vs ++ [v]) B1 H1 S1 T s1 (ras_app (ds := [d]) (dvs := [v]) (by unfold RepL; exact ⟨v, [], rfl, r, by unfold RepL; rfl⟩) r1) d1 x1 u1⟩
    · exact h.elim
end
section
variable {b : Bd} {X : Cx} {x : Expr} {xs : List Expr} {as : As} {pos ppos : Pos} {n : Str}
theorem me_callK {k g i m : Nat} {o : Bool} {f : Addr} {fd : FuncData} {ps : List Str} {kn vn : Str} {kpos vp : Pos} (G : FnOk X.prog X.w X.K X.mg X.base (L2.CX X.prog X.w) k f fd ps (spF X.K X.mg (b.C g))) (hr : Room k X.A) (hg : Gl X n) (hm : X.mg n = some (.ref f)) (hk : PySem.W.keepIn X.K (.ref f) = true)
    (hb : KBn X.K fd ps m [kn] (fun us ws => us ++ ws) (fun vs zs => vs ++ zs)) (hl : m + 1 = ps.length)
    (hN : X.N[i]? = some vn) (hv : Vis X.env.scope vn)
    (ha : MAs b X (x :: xs) as) (hcd : (vn == ("__classdict__" : Str)) = false := by decide) (hd : (vn == ("__debug__" : Str)) = false := by decide) (hdb : (n == ("__debug__" : Str)) = false := by decide) (he : starEach (x :: xs) X.env = (false, eval x X.env) :: starEach xs X.env := by rfl)
    (hall : (backToKw pos (keywordEach [⟨some kn, .Name vn vp, kpos⟩] X.env)).all (·.1.isSome) = true := by rfl) (hks : (backToKw pos (keywordEach [⟨some kn, .Name vn vp, kpos⟩] X.env)).filterMap (·.1) = [kn] := by rfl)
    (hpl : ((backTo pos (starEach (x :: xs) X.env)).any (·.1) || (backToKw pos (keywordEach [⟨some kn, .Name vn vp, kpos⟩] X.env)).any (·.1.isNone)) = false := by rfl) :
    ME b X (.Call (.Name n ppos) (x :: xs) [⟨some kn, .Name vn vp, kpos⟩] pos) (.call o g (as.app (varAs i))) := fun W tk =>
  PE.imp (pe_callNS (E := fun σ => WE W σ) G hr hg hm hk hb (fun σ => passAt tk σ) (ha W tk) (pk_cons (pe_var hN hv hd hcd) pk_nil) hall hks hdb he hpl) fun σ H Q ⟨π, B, μ, S, hp, s, h⟩ => by
    have h1 : tAs X.K X.mg b.C b.pin (as.app (varAs i)) W σ H fun vs H1 => spF X.K X.mg (b.C g) vs H1 Q (WE W σ) := by
      unfold evalE at h
      refine ⟨π, B, μ, S, hp, s, ?_⟩
      cases q : evalAs b.C b.pin (as.app (varAs i)) μ with
      | stuck => rw [q] at h; exact h
      | err c μ' => rw [q] at h; exact h
      | ok ags μ1 =>
        rw [q] at h
        intro vs B1 H1 S1 T s1 r1 d1 x1 u1
        have pr : (E.call o g (as.app (varAs i))).pure = true → o = false ∧ (as.app (varAs i)).pure = true := fun q => by
          have q1 := (Bool.and_eq_true _ _).mp q
          exact ⟨by simpa using q1.1, q1.2⟩
        exact call_ok s1 r1 d1 (fun q' => ⟨(pr q').1, fun ms e => pureAs (pr q').2 q μ1 ms e⟩) (h.mono x1 (fun _ z => z) fun q' => u1 (me_call.pureVals (pr q').2))
    obtain ⟨π', B', μ', S', hp', s', h2⟩ := tAs_var h1
    refine ⟨π', B', μ', S', hp', s', ?_⟩
    cases q : evalAs b.C b.pin as μ' with
    | stuck => rw [q] at h2; exact h2
    | err c μ' => rw [q] at h2; exact h2
    | ok ags μ1 =>
      rw [q] at h2
      intro vs B1 H1 S1 T s1 r1 d1 x1 u1
      obtain ⟨v, e1, h3⟩ := h2 vs B1 H1 S1 T s1 r1 d1 x1 u1
      refine ⟨v, e1, ?_, rfl, h3⟩
      have := G.len _ _ _ _ h3
      rw [List.length_append] at this
      have e2 : ([v] : List V).length = 1 := rfl
      omega
end
end Mi
/-! Mi35: more of the plain law: views. -/
namespace Mi
open PySem L2
section
variable {C : Nat → List M → Mi.CR} {pin : List Nat} {e : E} {μ μ2 : Mi.Env} {d : D} {ds : List D}
theorem ev_view (hp : e.pure = true) (h : evalE C pin e (viewE μ) = .ok (.dat d) μ2) (hd : (d.hard && (d.flat || noTupE μ)) = true) : evalE C pin (.view e) μ = .ok (.dat d) μ := by
  show (if e.pure = true then match evalE C pin e (viewE μ) with
      | .ok (.dat d) _ => if (d.hard && (d.flat || noTupE μ)) = true then Out.ok (M.dat d) μ else Out.stuck
      | _ => Out.stuck
    else Out.stuck) = _
  rw [if_pos hp, h]
  dsimp only
  rw [if_pos hd]
theorem ev_viewF (hp : e.pure = true) (h : evalE C pin e (viewE μ) = .ok (.dat (.lst ds)) μ2) (hd : (D.hard.hards ds && (ds.all D.flat || noTupE μ)) = true) : evalE C pin (.viewF e) μ = .ok (.dat (.lst ds)) μ := by
  show (if e.pure = true then match evalE C pin e (viewE μ) with
      | .ok (.dat (.lst ds)) _ => if (D.hard.hards ds && (ds.all D.flat || noTupE μ)) = true then Out.ok (M.dat (.lst ds)) μ else Out.stuck
      | _ => Out.stuck
    else Out.stuck) = _
  rw [if_pos hp, h]
  dsimp only
  rw [if_pos hd]
end
end Mi
/-! Mi36: an object of a list under a name of its own; a deed at one place with what another place gives; remove; != []. -/
namespace Mi
open PySem L2
section
variable {b : Bd} {X : Cx} {x y : Expr} {e : E} {p : Path} {pos apos : Pos} {n : Str}
/-- x.n(y): x stands in slot j, y leaves that slot alone -/
theorem me_mutA {j kd : Nat} {T id : String} {f : M → List M → Option (M × M)} {r : V → List V → Hp → VK → Prop} (pa : PlainAttrs T) (slt : Slot T n id) (hty : typeOf (.builtin id) = pure (.type "method_descriptor")) (hm : MtR X id r) (hk : tyKd kd T = true) (hf : MutOk X.K X.mg f fun us v vs H Q => us = [] → r v vs H Q)
    (hx : MP b X x p) (ha : ME b X y e) (hbase : attributeBase x n X.env (eval x X.env) = eval x X.env := by rfl)
    (hfew : ((backTo pos (starEach [y] X.env)).all (fun x => !x.1) && (backToKw pos (keywordEach [] X.env)).all (fun x => x.1.isSome)
      && decide ([y].length + ([] : List Keyword).length + (if ([] : List Keyword).isEmpty then 0 else 1) < 30)) = true := by rfl)
    (hline : (apos.endLine == pos.line) = true := by rfl) (hs : starEach [y] X.env = (false, eval y X.env) :: starEach [] X.env := by rfl) (hplain : (backTo pos (starEach [] X.env)).any (·.1) = false := by rfl) :
    ME b X (.Call (.Attribute x n apos) [y] [] pos) (.mutA kd f j p e) := fun W tk => PE.imp (pe_bm pa slt hty hm hx ((mes_cons ha mes_nil hs) W tk) hbase hfew hline hs hplain) fun σ H Q h => by
  obtain ⟨π, B, μ, S, hp, s, k⟩ := h
  unfold evalE at k
  refine ⟨π, B, μ, S, hp, s, ?_⟩
  cases ep : evalP b.C b.pin p μ with
  | none => rw [ep] at k; exact k.elim
  | some pl =>
    rw [ep] at k
    dsimp only at k
    refine ⟨pl, rfl, fun v B1 H1 ps hv => ?_⟩
    cases ej : slot μ j with
    | none => rw [ej] at k; exact k.elim
    | some mj =>
      rw [ej] at k
      dsimp only at k
      split at k
      rotate_left
      · exact k.elim
      rename_i hg
      obtain ⟨hpj, hkd⟩ := hg
      cases em : mj.at pl.2 with
      | none => rw [em] at hkd; cases hkd
      | some mk =>
        rw [em] at hkd
        have hkd : mk.kind = kd := by simpa using hkd
        have s1 := s.pure ps
        obtain ⟨v0, Tj, S', e0, rj, s', dj, hS⟩ := s1.take ej
        obtain ⟨v1, T1, r1, sub1, va, put1⟩ := rj.at pl.2 em
        have ev : v = v1 := by
          obtain ⟨v0', e0', va'⟩ := hv
          rw [hpj, e0] at e0'
          cases e0'
          exact va'.det va
        subst ev
        refine ⟨ty_of hkd hk r1, π, B1, μ.set j none, S', hp, s', ?_⟩
        have ownj := rj.owned
        have k1 := k.mono (S1 := S) (ps.step S) (fun _ z => z) fun _ => ps.ext
        cases q : evalE b.C b.pin e (μ.set j none) with
        | stuck => rw [q] at k; exact k.elim
        | err c μ' =>
          rw [q] at k1
          have e1 : evalEs b.C b.pin (.cons e .nil) (μ.set j none) = .err c μ' := by
            show (evalE b.C b.pin e (μ.set j none)).bind _ = _
            rw [q]
            rfl
          rw [e1]
          exact fun B' H' S2 s2 x2 => k1 B' H' S2 s2 (x2.weak (fun a z => (hS a).mpr (.inl z)) fun _ z => z)
        | ok m μ1 =>
          rw [q] at k1
          have e1 : evalEs b.C b.pin (.cons e .nil) (μ.set j none) = .ok [m] μ1 := by
            show (evalE b.C b.pin e (μ.set j none)).bind _ = _
            have e0 : evalEs b.C b.pin .nil μ1 = .ok [] μ1 := by unfold evalEs; rfl
            rw [q]
            simp only [Out.bind, e0]
          rw [e1]
          dsimp only [Out.bind] at k1
          rw [em] at k1
          cases ej1 : slot μ1 j with
          | some _ => rw [ej1] at k1; exact k1.elim
          | none =>
            rw [ej1] at k1
            dsimp only at k1
            cases q5 : f mk [m] with
            | none => rw [q5] at k1; exact k1.elim
            | some mm =>
              obtain ⟨mk', d⟩ := mm
              rw [q5] at k1
              dsimp only at k1
              intro vs B2 H2 S2 U s2 r2 d2 x2 u2
              have ap : ∀ a, Tj a → ¬ (S2 a ∨ U a) ∧ B2 a = none ∧ H2 a = H1 a := fun a z => x2.apart (dj a z) (ownj a z).1 (ownj a z).2
              have r12 : RepM X.K X.mg B2 H2 mk v T1 := r1.congr x2.ex fun a z => let w := ap a (sub1 a z); ⟨w.2.2, w.2.1⟩
              have own2 := s2.owned
              refine hf B2 H2 mk v T1 [] [m] [] vs (fun _ => False) U mk' d Q s2.sub r12 (by unfold RepMs; exact ⟨rfl, fun _ z => z⟩) r2 (fun a z w => (ap a (sub1 a z)).1 (.inr w)) (fun _ _ z => z) (fun _ _ z => z) q5 (fun w B3 H3 T' R x3 e3 rm rd dj3 => ?_) rfl
              -- what is beside the deed
              have nown : ∀ a, S2 a ∨ (Tj a ∧ ¬ T1 a) → ¬ (T1 a ∨ U a ∨ False) := fun a z w => by
                rcases w with w | w | w
                · exact z.elim (fun z => (ap a (sub1 a w)).1 (.inl z)) fun z => z.2 w
                · exact z.elim (fun z => d2 a w z) fun z => (ap a z.1).1 (.inr w)
                · exact w
              have there : ∀ a, S2 a ∨ (Tj a ∧ ¬ T1 a) → H2 a ≠ none ∧ B2 a = none := fun a z => z.elim (own2 a) fun z => let w := ap a z.1; ⟨by rw [w.2.2]; exact (ownj a z.1).1, w.2.1⟩
              have ap3 : ∀ a, S2 a ∨ (Tj a ∧ ¬ T1 a) → ¬ (T' a ∨ R a) ∧ B3 a = none ∧ H3 a = H2 a := fun a z => x3.apart (nown a z) (there a z).1 (there a z).2
              have s3 : Stt X.K X.mg π B3 H3 σ μ1 S2 := s2.congr x3.ex e3 fun a z => let w := ap3 a (.inl z); ⟨w.2.2, w.2.1⟩
              obtain ⟨Tn, rn, hn⟩ := put1 B3 H3 mk' T' (x2.ex.trans x3.ex) (fun a z nz => let w := ap3 a (.inr ⟨z, nz⟩); ⟨w.2.2.trans (ap a z).2.2, w.2.1⟩) rm fun a z w => by
                rcases x3.ow a (.inl z) with y | y
                · rcases y with y | y | y
                  · exact y
                  · exact absurd (.inr y) (ap a w).1
                  · exact y.elim
                · rw [(ap a w).2.2] at y
                  exact absurd y (ownj a w).1
              have djn : ∀ a, Tn a → ¬ S2 a := fun a z w => by
                rcases (hn a).mp z with y | y
                · exact (ap a y.1).1 (.inl w)
                · exact (ap3 a (.inl w)).1 (.inl y)
              obtain ⟨S4, s4, h4⟩ := s3.refill e0 rn djn
              refine k1 w B3 H3 S4 R s4 rd (fun a z y => ?_) ?_ fun z => nomatch z
              · rcases h4 a y with y | y
                · exact (ap3 a (.inl y)).1 (.inr z)
                · rcases (hn a).mp y with y | y
                  · exact (ap3 a (.inr y)).1 (.inr z)
                  · exact dj3 a y z
              · have y2 := x2.frame (F := Tj) fun a z => ⟨dj a z, (ownj a z).1⟩
                have y3 := x3.frame (F := fun a => S2 a ∨ (Tj a ∧ ¬ T1 a)) fun a z => ⟨nown a z, (there a z).1⟩
                have y := y2.trans (y3.weak (T := fun a => (S2 a ∨ U a) ∨ Tj a) (fun a z => by
                  rcases z with (z | z | z) | z | z
                  · exact .inr (sub1 a z)
                  · exact .inl (.inr z)
                  · exact z.elim
                  · exact .inl (.inl z)
                  · exact .inr z.1) fun _ z => z)
                refine y.weak (fun a z => (hS a).mpr z) fun a z => ?_
                rcases z with z | z
                · rcases h4 a z with z | z
                  · exact .inr (.inl z)
                  · rcases (hn a).mp z with z | z
                    · exact .inr (.inr z)
                    · exact .inl (.inl z)
                · exact .inl (.inr z)
end
theorem allO_eq {run : Addr → Out M} {R : Out M} (h : ∀ a, run a = R) : allO run = R := by
  unfold allO
  have h' : ∃ R, ∀ a, run a = R := ⟨R, h⟩
  rw [dif_pos h']
  exact (Classical.choose_spec h' 0).symm.trans (h 0)
theorem allO_or (run : Addr → Out M) : allO run = .stuck ∨ ∀ a, run a = allO run := by
  unfold allO
  split
  · rename_i h
    exact .inr (Classical.choose_spec h)
  · exact .inl rfl
section
variable {b : Bd} {X : Cx} {x y : Expr} {e : E} {p : Path} {pos apos : Pos} {n : Str}
/-- x.n(y): y leaves x's object alone -/
theorem me_mutT {kd : Nat} {T id : String} {f : M → List M → Option (M × M)} {r : V → List V → Hp → VK → Prop} (pa : PlainAttrs T) (slt : Slot T n id) (hty : typeOf (.builtin id) = pure (.type "method_descriptor")) (hm : MtR X id r) (hk : tyKd kd T = true) (hf : MutOk X.K X.mg f fun us v vs H Q => us = [] → r v vs H Q)
    (hx : MP b X x p) (ha : ME b X y e) (hbase : attributeBase x n X.env (eval x X.env) = eval x X.env := by rfl)
    (hfew : ((backTo pos (starEach [y] X.env)).all (fun x => !x.1) && (backToKw pos (keywordEach [] X.env)).all (fun x => x.1.isSome)
      && decide ([y].length + ([] : List Keyword).length + (if ([] : List Keyword).isEmpty then 0 else 1) < 30)) = true := by rfl)
    (hline : (apos.endLine == pos.line) = true := by rfl) (hs : starEach [y] X.env = (false, eval y X.env) :: starEach [] X.env := by rfl) (hplain : (backTo pos (starEach [] X.env)).any (·.1) = false := by rfl) :
    ME b X (.Call (.Attribute x n apos) [y] [] pos) (.mutT kd f p e) := fun W tk => PE.imp (pe_bm pa slt hty hm hx ((mes_cons ha mes_nil hs) W tk) hbase hfew hline hs hplain) fun σ H Q h => by
  obtain ⟨π, B, μ, S, hp, s, k⟩ := h
  unfold evalE at k
  refine ⟨π, B, μ, S, hp, s, ?_⟩
  cases ep : evalP b.C b.pin p μ with
  | none => rw [ep] at k; exact k.elim
  | some pl =>
    rw [ep] at k
    dsimp only at k
    refine ⟨pl, rfl, fun v B1 H1 ps hv => ?_⟩
    cases em : atPl μ pl with
    | none => rw [em] at k; exact k.elim
    | some mk =>
      rw [em] at k
      dsimp only at k
      split at k
      rotate_left
      · exact k.elim
      rename_i hkd
      have s1 := s.pure ps
      obtain ⟨v1, T1, r1, sub1, ⟨v0, e0, va⟩, put1⟩ := s1.at em
      have ev : v = v1 := by
        obtain ⟨v0', e0', va'⟩ := hv
        rw [e0] at e0'
        cases e0'
        exact va'.det va
      subst ev
      have nd : mk.isDat = false := by
        cases mk with
        | dat d => exact absurd hkd.1.symm hkd.2
        | _ => rfl
      obtain ⟨a, _, _, rfl, _⟩ := (repM_node nd).mp r1
      have own1 := r1.owned
      have ownS := s1.owned
      obtain ⟨S1, t1, hS1⟩ := put1 B1 H1 (.dat (.adr a)) (fun _ => False) (Ex.refl B1) s1.sub (fun b z _ => ⟨rfl, (ownS b z).2⟩) (repM_dat.mpr ⟨by unfold Rep; rfl, fun _ z => z⟩) fun _ z => z.elim
      have sub2 : ∀ b, S1 b → S b ∧ ¬ T1 b := fun b z => (hS1 b z).elim (fun q => q) False.elim
      refine ⟨ty_of hkd.1 hk r1, π, B1, putPl μ pl (.dat (.adr a)), S1, hp, t1, ?_⟩
      have k1 := k.mono (S1 := S) (ps.step S) (fun _ z => z) fun _ => ps.ext
      rcases allO_or (fun a => (evalE b.C b.pin e (putPl μ pl (.dat (.adr a)))).bind fun m μ1 => match atPl μ1 pl with
        | some (.dat (.adr a')) => if a' = a then match f mk [m] with
          | some (m1', r) => Out.ok r (putPl μ1 pl m1')
          | none => Out.stuck
          else Out.stuck
        | _ => Out.stuck) with z | z
      · have k1 : Post X.K X.mg _ _ π B1 H1 S σ W Q (allO fun a => (evalE b.C b.pin e (putPl μ pl (.dat (.adr a)))).bind fun m μ1 => match atPl μ1 pl with
          | some (.dat (.adr a')) => if a' = a then match f mk [m] with
            | some (m1', r) => Out.ok r (putPl μ1 pl m1')
            | none => Out.stuck
            else Out.stuck
          | _ => Out.stuck) := k1
        rw [z] at k1
        exact k1.elim
      · have k1 : Post X.K X.mg _ _ π B1 H1 S σ W Q (allO fun a => (evalE b.C b.pin e (putPl μ pl (.dat (.adr a)))).bind fun m μ1 => match atPl μ1 pl with
          | some (.dat (.adr a')) => if a' = a then match f mk [m] with
            | some (m1', r) => Out.ok r (putPl μ1 pl m1')
            | none => Out.stuck
            else Out.stuck
          | _ => Out.stuck) := k1
        rw [← z a] at k1
        clear z k
        cases q : evalE b.C b.pin e (putPl μ pl (.dat (.adr a))) with
        | stuck => rw [q] at k1; exact k1.elim
        | err c μ' =>
          rw [q] at k1
          have e1 : evalEs b.C b.pin (.cons e .nil) (putPl μ pl (.dat (.adr a))) = .err c μ' := by
            show (evalE b.C b.pin e (putPl μ pl (.dat (.adr a)))).bind _ = _
            rw [q]
            rfl
          rw [e1]
          exact fun B' H' S2 s2 x2 => k1 B' H' S2 s2 (x2.weak (fun a z => (sub2 a z).1) fun _ z => z)
        | ok m μ1 =>
          rw [q] at k1
          have e1 : evalEs b.C b.pin (.cons e .nil) (putPl μ pl (.dat (.adr a))) = .ok [m] μ1 := by
            show (evalE b.C b.pin e (putPl μ pl (.dat (.adr a)))).bind _ = _
            have e0 : evalEs b.C b.pin .nil μ1 = .ok [] μ1 := by unfold evalEs; rfl
            rw [q]
            simp only [Out.bind, e0]
          rw [e1]
          dsimp only [Out.bind] at k1
          split at k1
          rotate_left
          · exact k1.elim
          rename_i a' eat
          split at k1
          rotate_left
          · exact k1.elim
          rename_i eaa
          subst eaa
          cases q5 : f mk [m] with
          | none => rw [q5] at k1; exact k1.elim
          | some mm =>
            obtain ⟨mk', d⟩ := mm
            rw [q5] at k1
            dsimp only at k1
            intro vs B2 H2 S2 U s2 r2 d2 x2 u2
            obtain ⟨v3, T3, r3, sub3, _, put3⟩ := s2.at eat
            have ev3 : v3 = .ref a' := by
              have := (repM_dat.mp r3).1
              unfold Rep at this
              exact this
            subst ev3
            have nT3 : ∀ b, ¬ T3 b := (repM_dat.mp r3).2
            have ap : ∀ b, T1 b → ¬ (S2 b ∨ U b) ∧ B2 b = none ∧ H2 b = H1 b := fun b z => x2.apart (fun w => (sub2 b w).2 z) (own1 b z).1 (own1 b z).2
            have r12 : RepM X.K X.mg B2 H2 mk (.ref a') T1 := r1.congr x2.ex fun b z => let w := ap b z; ⟨w.2.2, w.2.1⟩
            have own2 := s2.owned
            refine hf B2 H2 mk (.ref a') T1 [] [m] [] vs (fun _ => False) U mk' d Q s2.sub r12 (by unfold RepMs; exact ⟨rfl, fun _ z => z⟩) r2 (fun b z w => (ap b z).1 (.inr w)) (fun _ _ z => z) (fun _ _ z => z) q5 (fun w B3 H3 T' R x3 e3 rm rd dj3 => ?_) rfl
            have nown : ∀ b, S2 b → ¬ (T1 b ∨ U b ∨ False) := fun b z w => by
              rcases w with w | w | w
              · exact (ap b w).1 (.inl z)
              · exact d2 b w z
              · exact w
            have ap3 : ∀ b, S2 b → ¬ (T' b ∨ R b) ∧ B3 b = none ∧ H3 b = H2 b := fun b z => x3.apart (nown b z) (own2 b z).1 (own2 b z).2
            obtain ⟨S4, s4, h4⟩ := put3 B3 H3 mk' T' x3.ex e3 (fun b z _ => let w := ap3 b z; ⟨w.2.2, w.2.1⟩) rm fun b z w => absurd (.inl z) (ap3 b w).1
            refine k1 w B3 H3 S4 R s4 rd (fun b z y => ?_) ?_ fun z => nomatch z
            · rcases h4 b y with y | y
              · exact (ap3 b y.1).1 (.inr z)
              · exact dj3 b y z
            · have y2 := x2.frame (F := T1) fun b z => ⟨fun w => (sub2 b w).2 z, (own1 b z).1⟩
              have y3 := x3.frame (F := S2) fun b z => ⟨nown b z, (own2 b z).1⟩
              have y := y2.trans (y3.weak (T := fun b => (S2 b ∨ U b) ∨ T1 b) (fun b z => by
                rcases z with (z | z | z) | z
                · exact .inr z
                · exact .inl (.inr z)
                · exact z.elim
                · exact .inl (.inl z)) fun _ z => z)
              refine y.weak (fun b z => z.elim (fun z => (sub2 b z).1) (sub1 b)) fun b z => ?_
              rcases z with z | z
              · rcases h4 b z with z | z
                · exact .inr z.1
                · exact .inl (.inl z)
              · exact .inl (.inr z)
end
/-- what stands at a place goes; all of that slot goes -/
theorem me_movP {b : Bd} {X : Cx} {x : Expr} {p : Path} (h : MP b X x p) : ME b X x (.movP p) := fun W tk => PE.imp h fun σ H Q ⟨π, B, μ, S, hp, s, k⟩ => by
  unfold evalE at k
  refine ⟨π, B, μ, S, hp, s, ?_⟩
  cases q : evalP b.C b.pin p μ with
  | none => rw [q] at k; exact k.elim
  | some pl =>
    rw [q] at k
    dsimp only at k
    refine ⟨pl, rfl, fun v B' H' ps hv => ?_⟩
    cases q2 : atPl μ pl with
    | none => rw [q2] at k; exact k.elim
    | some m =>
      rw [q2] at k
      have s1 := s.pure ps
      unfold atPl at q2
      cases ej : slot μ pl.1 with
      | none => rw [ej] at q2; cases q2
      | some mj =>
        rw [ej] at q2
        have q2 : mj.at pl.2 = some m := q2
        obtain ⟨v0, Tj, S', e0, rj, s', dj, hS⟩ := s1.take ej
        obtain ⟨v1, T1, r1, sub1, va, _⟩ := rj.at pl.2 q2
        obtain ⟨v0', e0', va'⟩ := hv
        rw [e0] at e0'
        cases e0'
        have ev := va.det va'
        subst ev
        have k1 := k.mono (S1 := S) (ps.step S) (fun _ z => z) fun _ => ps.ext
        exact k1 v1 B' H' S' T1 s' r1 (fun a z => dj a (sub1 a z)) ((Step.refl B' H' S).weak (fun _ z => z) fun a z => z.elim (fun z => (hS a).mpr (.inl z)) fun z => (hS a).mpr (.inr (sub1 a z))) fun q => nomatch q
/-! ### an nick -/
section
variable {K : PySem.W.Frag} {mg : Str → Option Value} {π : List (Nat × V)} {B H : Hp} {σ : L2.St} {μ μ' : Env} {S : ASet}
theorem unal_ok {j : Nat} {pl : Pl} {a : Addr} (s : Stt K mg ((j, .ref a) :: π) B H σ μ S) (h : unal j pl a μ = some μ') : ∃ S', Stt K mg π B H σ μ' S' ∧ ∀ a, S' a → S a := by
  unfold unal at h
  cases ej : slot μ j with
  | none => rw [ej] at h; cases h
  | some m =>
    rw [ej] at h
    dsimp only at h
    have pv : σ[j]? = some (some (.ref a)) := s.pins (j, .ref a) List.mem_cons_self
    obtain ⟨v, T, S0, e1, r, s0, dj, hS⟩ := s.take ej
    rw [pv] at e1
    cases e1
    have s0' : Stt K mg π B H σ (μ.set j none) S0 := ⟨s0.sub, s0.len, s0.slots, fun p hp => s0.pins p (List.mem_cons_of_mem _ hp)⟩
    have dropped : some (μ.set j none) = some μ' → ∃ S', Stt K mg π B H σ μ' S' ∧ ∀ a, S' a → S a := fun q => by
      cases q
      exact ⟨S0, s0', fun a z => (hS a).mpr (.inl z)⟩
    split at h
    · rename_i a' eat
      split at h
      · rename_i ea
        subst ea
        cases h
        obtain ⟨v1, T1, r1, sub1, _, put⟩ := s0'.at eat
        have q := (repM_dat.mp r1)
        have ev : v1 = .ref a' := by
          have := q.1
          unfold Rep at this
          exact this
        subst ev
        obtain ⟨S', s', hS'⟩ := put B H m T (Ex.refl B) s0'.sub (fun b z _ => ⟨rfl, (s0'.owned b z).2⟩) r fun b z w => absurd w (dj b z)
        exact ⟨S', s', fun b z => (hS' b z).elim (fun z => (hS b).mpr (.inl z.1)) fun z => (hS b).mpr (.inr z)⟩
      · exact dropped h
    · exact dropped h
end
theorem allA_eq {run : Addr → Res} {R : Res} (h : ∀ a, run a = R) : allA run = R := by
  unfold allA
  have h' : ∃ R, ∀ a, run a = R := ⟨R, h⟩
  rw [dif_pos h']
  exact (Classical.choose_spec h' 0).symm.trans (h 0)
theorem allA_or (run : Addr → Res) : allA run = .stuck ∨ ∀ a, run a = allA run := by
  unfold allA
  split
  · rename_i h
    exact .inr (Classical.choose_spec h)
  · exact .inl rfl
section
variable {b : Bd} {X : Cx} {x : Expr} {rest : List Stmt} {e : E} {p : Path} {pos np : Pos} {n : Str} {ss : Ss}
theorem PSs.or {st : List Stmt} {t t' : TS} (h : PSs X st t) (h' : PSs X st t') : PSs X st (fun D σ H => t D σ H ∨ t' D σ H) := ⟨fun pins s σ H D I q => q.elim (h.run pins s σ H D I) (h'.run pins s σ H D I)⟩
/-- n = x, x an object at a place: n is that object as long as the rest goes on -/
theorem mss_alias {j : Nat} (hx : MP b X x p) (hN : X.N.Nodup) (hj : X.N[j]? = some n) (hl : Loc X.env.scope n) (hf : X.fn n = true ∨ X.env.scope.names.lookup n = some .local)
    (hr : ∀ pin, MSs ⟨b.C, pin, b.sub, b.N⟩ X rest ss)
    (hs : swapsWithSole [.Name n np] x pos.line X.env = pure false := by rfl) (hw : swappedStores [.Name n np] x X.env = pure none := by rfl)
    (h1 : (assignEach [.Name n np] X.env).map (·.2) = [assign (.Name n np) X.env] := by rfl) :
    MSs b X (.Assign [.Name n np] x pos :: rest) (.cons (.nick e j p ss) .nil) := fun W tk =>
  PSs.imp (pss_cons (ps_asg hx (pg_name hN hj hl hf) hs hw h1) (PSs.or (hr (j :: b.pin) W tk) (hr b.pin W tk))) fun D σ H ⟨π, B, μ, S, hp, s, h⟩ => by
    have h : PostS X.K X.mg π B H S W D (execSs b.sub b.C b.pin b.N (.cons (.nick e j p ss) .nil) μ) := h
    have hR : PostS X.K X.mg π B H S W D (execS b.sub b.C b.pin b.N (.nick e j p ss) μ) := by
      unfold execSs at h
      cases q : execS b.sub b.C b.pin b.N (.nick e j p ss) μ with
      | nx μ1 => rw [q] at h; dsimp only at h; unfold execSs at h; exact h
      | stuck => rw [q] at h; exact h
      | err c μ1 => rw [q] at h; exact h
      | ret m μ1 => rw [q] at h; exact h
      | brk μ1 => rw [q] at h; exact h
      | cont μ1 => rw [q] at h; exact h
    clear h
    unfold execS at hR
    split at hR
    rotate_left
    · exact hR.elim
    rename_i hg
    obtain ⟨hjl, hjp⟩ := hg
    have npj : ∀ q ∈ π, q.1 ≠ j := fun q hq z => by
      have := hp q hq
      rw [z] at this
      simp [this] at hjp
    refine ⟨π, B, μ, S, hp, s, ?_⟩
    cases ep : evalP b.C b.pin p μ with
    | none => rw [ep] at hR; exact hR.elim
    | some pl =>
      rw [ep] at hR
      dsimp only at hR
      refine ⟨pl, rfl, fun v B1 H1 ps hv => ?_⟩
      cases ea : atPl μ pl with
      | none => rw [ea] at hR; exact hR.elim
      | some m =>
        rw [ea] at hR
        dsimp only at hR
        split at hR
        rotate_left
        · exact hR.elim
        rename_i hk
        have s1 := s.pure ps
        have hR1 := hR.mono (S1 := S) (ps.step S) fun _ z => z
        split at hR1
        · -- no nick
          obtain ⟨S', s', hS'⟩ := s1.less (σ' := σ.set j (some v)) (μ' := μ.set j none) (by rw [List.length_set]) (by rw [List.length_set]) (fun i m' e' => by
            rw [slot_set_none] at e'
            split at e'
            · cases e'
            · rename_i ni
              exact ⟨e', List.getElem?_set_ne ni⟩) fun q hq => List.getElem?_set_ne fun z => npj q hq z.symm
          exact .inr ⟨π, B1, μ.set j none, S', hp, s', hR1.mono (Step.refl _ _ _) hS'⟩
        · -- the object moves into the slot
          obtain ⟨v1, T1, r1, sub1, ⟨v0, e0, va⟩, put⟩ := s1.at ea
          have ev : v = v1 := by
            obtain ⟨v0', e0', va'⟩ := hv
            rw [e0] at e0'
            cases e0'
            exact va'.det va
          subst ev
          have nd : m.isDat = false := by
            cases m with
            | dat d => have := hk.1; simp [M.kind] at this
            | _ => rfl
          obtain ⟨a, _, _, rfl, _⟩ := (repM_node nd).mp r1
          obtain ⟨S1, s2, hS1⟩ := put B1 H1 (.dat (.adr a)) (fun _ => False) (Ex.refl B1) s1.sub (fun b z _ => ⟨rfl, (s1.owned b z).2⟩) (repM_dat.mpr ⟨by unfold Rep; rfl, fun _ z => z⟩) fun _ z => z.elim
          have plen : (putPl μ pl (.dat (.adr a))).length = μ.length := by
            unfold putPl
            split
            · rw [List.length_set]
            · rfl
          obtain ⟨S2, s3, hS2⟩ := s2.fill (i := j) (m := m) (v := .ref a) (T := T1) (by rw [plen]; exact hjl) r1 (fun b z w => (hS1 b w).elim (fun w => w.2 z) id) npj
          have s4 : Stt X.K X.mg ((j, .ref a) :: π) B1 H1 (σ.set j (some (.ref a))) ((putPl μ pl (.dat (.adr a))).set j (some m)) S2 := ⟨s3.sub, s3.len, s3.slots, fun q hq => by
            rcases List.mem_cons.mp hq with rfl | hq
            · exact List.getElem?_set_self (by rw [s.len]; exact hjl)
            · exact s3.pins q hq⟩
          have sub2 : ∀ b, S2 b → S b := fun b z => (hS2 b z).elim (fun z => (hS1 b z).elim (fun z => z.1) False.elim) (sub1 b)
          refine .inl ⟨(j, .ref a) :: π, B1, _, S2, fun q hq => by
            rcases List.mem_cons.mp hq with rfl | hq
            · exact List.mem_cons_self
            · exact List.mem_cons_of_mem _ (hp q hq), s4, ?_⟩
          have hR2 : PostS X.K X.mg π B1 H1 S2 W D (unalR j pl a (execSs b.sub b.C (j :: b.pin) b.N ss ((putPl μ pl (.dat (.adr a))).set j (some m)))) := by
            rcases allA_or (fun a => unalR j pl a (execSs b.sub b.C (j :: b.pin) b.N ss ((putPl μ pl (.dat (.adr a))).set j (some m)))) with z | z
            · rw [z] at hR1; exact hR1.elim
            · rw [← z a] at hR1
              exact hR1.mono (Step.refl _ _ _) sub2
          show PostS X.K X.mg ((j, .ref a) :: π) B1 H1 S2 W D (execSs b.sub b.C (j :: b.pin) b.N ss ((putPl μ pl (.dat (.adr a))).set j (some m)))
          cases q : execSs b.sub b.C (j :: b.pin) b.N ss ((putPl μ pl (.dat (.adr a))).set j (some m)) with
          | stuck => rw [q] at hR2; exact hR2
          | brk μ1 => rw [q] at hR2; exact hR2.elim
          | cont μ1 => rw [q] at hR2; exact hR2.elim
          | err c μ1 =>
            rw [q] at hR2
            intro B' H' σ' S' s' x' C hC
            dsimp only [unalR] at hR2
            cases q2 : unal j pl a μ1 with
            | none => rw [q2] at hR2; exact hR2.elim
            | some μ2 =>
              rw [q2] at hR2
              obtain ⟨S3, s5, h5⟩ := unal_ok s' q2
              exact hR2 B' H' σ' S3 s5 (x'.weak (fun _ z => z) h5) C hC
          | nx μ1 =>
            rw [q] at hR2
            intro B' H' σ' S' s' x'
            dsimp only [unalR] at hR2
            cases q2 : unal j pl a μ1 with
            | none => rw [q2] at hR2; exact hR2.elim
            | some μ2 =>
              rw [q2] at hR2
              obtain ⟨S3, s5, h5⟩ := unal_ok s' q2
              exact hR2 B' H' σ' S3 s5 (x'.weak (fun _ z => z) h5)
          | ret m1 μ1 =>
            rw [q] at hR2
            intro v' B' H' σ' S' T' s' r' d' x'
            dsimp only [unalR] at hR2
            cases q2 : unal j pl a μ1 with
            | none => rw [q2] at hR2; exact hR2.elim
            | some μ2 =>
              rw [q2] at hR2
              obtain ⟨S3, s5, h5⟩ := unal_ok s' q2
              exact hR2 v' B' H' σ' S3 T' s5 r' (fun b z w => d' b z (h5 b w)) (x'.weak (fun _ z => z) fun b z => z.imp (h5 b) id)
        · exact hR1.elim
end
end Mi
/-! Mi37: xs.remove(i) of whole numbers; xs != []. -/
namespace Mi
open PySem L2
def intsM : List M → Option (List Int)
  | [] => some []
  | .dat (.int i) :: r => (intsM r).map (i :: ·)
  | _ => none
def idxI (k : Int) : List Int → Option Nat
  | [] => none
  | i :: r => if i = k then some 0 else (idxI k r).map (· + 1)
theorem idxI_ok {k : Int} : ∀ {ns : List Int} {j : Nat}, idxI k ns = some j → ns[j]? = some k ∧ ∀ m : Nat, m < j → ns[m]? ≠ some k
  | [], j, h => by cases h
  | i :: r, j, h => by
    unfold idxI at h
    by_cases e : i = k
    · rw [if_pos e] at h
      cases h
      exact ⟨by rw [e]; rfl, fun m hm => by omega⟩
    · rw [if_neg e] at h
      cases q : idxI k r with
      | none => rw [q] at h; cases h
      | some j' =>
        rw [q] at h
        cases h
        obtain ⟨h1, h2⟩ := idxI_ok q
        refine ⟨by simpa using h1, fun m hm => ?_⟩
        cases m with
        | zero => intro z; simp at z; exact e z
        | succ m => simpa using h2 m (Nat.lt_of_succ_lt_succ hm)
def fRemove : M → List M → Option (M × M)
  | .lst ms, [.dat (.int k)] => match intsM ms with
    | some ns => (idxI k ns).map fun j => (.lst ((ns.eraseIdx j).map fun i => .dat (.int i)), .dat .non)
    | none => none
  | _, _ => none
section
variable {K : PySem.W.Frag} {mg : Str → Option Value}
theorem ints_repMsM {B H : Hp} : ∀ {ms : List M} {ns : List Int} {vs : List V} {T : ASet}, intsM ms = some ns → RepMs K mg B H ms vs T → vs = ns.map V.int ∧ ∀ a, ¬ T a
  | [], ns, vs, T, h, r => by
    cases h
    unfold RepMs at r
    exact r
  | m :: ms, ns, vs, T, h, r => by
    cases m with
    | dat d =>
      cases d with
      | int i =>
        unfold intsM at h
        cases q : intsM ms with
        | none => rw [q] at h; cases h
        | some ns' =>
          rw [q] at h
          cases h
          unfold RepMs at r
          obtain ⟨v, r', T1, T2, rfl, h1, h2, _, h4⟩ := r
          obtain ⟨e1, n2⟩ := ints_repMsM q h2
          have q1 := repM_dat.mp h1
          have ev : v = .int i := by
            have := q1.1
            unfold Rep at this
            exact this
          exact ⟨by rw [e1, ev]; rfl, fun a z => ((h4 a).mp z).elim (q1.2 a) (n2 a)⟩
      | _ => cases h
    | _ => cases h
theorem ints_repMs {B H : Hp} : ∀ ns : List Int, RepMs K mg B H (ns.map fun i => M.dat (.int i)) (ns.map V.int) fun _ => False
  | [] => by
    show RepMs K mg B H [] [] _
    unfold RepMs
    exact ⟨rfl, fun _ z => z⟩
  | i :: ns => by
    show RepMs K mg B H (M.dat (.int i) :: ns.map fun i => M.dat (.int i)) (V.int i :: ns.map V.int) _
    unfold RepMs
    exact ⟨_, _, fun _ => False, fun _ => False, rfl, repM_dat.mpr ⟨by unfold Rep; rfl, fun _ z => z⟩, ints_repMs ns, fun _ z => z.elim, fun _ => ⟨fun z => z.elim, fun z => z.elim id id⟩⟩
theorem mut_remove : MutOk K mg fRemove fun us v vs H Q => us = [] → rRemI v vs H Q := fun B H m v T ws ms us vs U0 U m' d Q e rm r0 r1 d1 d2 d3 hf k hu => by
  obtain ⟨rfl, n0⟩ := repMs_nil r0 hu
  rw [List.nil_append] at hf
  unfold fRemove at hf
  split at hf
  · rename_i xs y
    split at hf
    · rename_i ns hns
      cases q : idxI y ns with
      | none => rw [q] at hf; cases hf
      | some j =>
        rw [q] at hf
        cases hf
        unfold RepM at rm
        obtain ⟨a, zs, A, rfl, h2, h3, h4, h5, h6⟩ := rm
        obtain ⟨w, rfl, rw'⟩ := repMs_one r1
        have ew : w = .int y := by
          have := (repM_dat.mp rw').1
          unfold Rep at this
          exact this
        subst ew
        obtain ⟨rfl, nA⟩ := ints_repMsM hns h4
        obtain ⟨i1, i2⟩ := idxI_ok q
        refine ⟨a, ns, y, j, rfl, rfl, h2, i1, i2, ?_⟩
        refine k .non B (upd H a (.lst ((ns.eraseIdx j).map V.int))) (fun b => b = a) (fun _ => False) ((step_upd (A := fun b => T b ∨ U b ∨ U0 b) (.inl ((h6 a).mpr (.inl rfl)))).weak (fun _ z => z) fun b z => z.elim (fun z => .inl ((h6 b).mpr (.inl z))) False.elim) (fun b o z => ?_) ?_ (repM_dat.mpr ⟨by unfold Rep; rfl, fun _ z => z⟩) fun _ _ z => z
        · rw [upd_ne fun w => by rw [w, h3] at z; cases z]; exact e b o z
        · unfold RepM
          exact ⟨a, (ns.eraseIdx j).map V.int, fun _ => False, rfl, upd_same, h3, ints_repMs _, fun z => z, fun b => ⟨.inl, fun z => z.elim id False.elim⟩⟩
    · cases hf
  · cases hf
end
/-! ### xs != [] -/
def rNeL (K : PySem.W.Frag) : R2 := fun x y H Q => ∃ a b xs, x = .ref a ∧ y = .ref b ∧ SqL K H a xs ∧ SqL K H b [] ∧ Q (.bl (!xs.isEmpty)) H
theorem op_neL {X : Cx} (hu : X.A.units + 64 < cLine) : OpR X (compareOp .NotEq) (rNeL X.K) := by
  intro pins s σ H x y v u Q I rx ry h
  obtain ⟨a, c, xs, rfl, rfl, h1, h2, q⟩ := h
  obtain rfl : v = .ref a := rx
  obtain rfl : u = .ref c := ry
  obtain ⟨its, r1, p1, _⟩ := I.list h1
  obtain ⟨its2, r2, p2, _⟩ := I.list h2
  have e2 : its2 = [] := by cases r2; rfl
  subst e2
  have hl := r1.length
  cases xs with
  | nil =>
    have e1 : its = [] := by cases r1; rfl
    subst e1
    exact SeqAt.RcNeAt.lists (e := fun _ => true) p1.isList p2.isList rfl (by omega) (fun j h1 _ => by simp at h1) X.prog X.w X.xe _ ⟨.bl _, H, I, rfl, q⟩
  | cons z zs =>
    refine SeqAt.RcNeAt.lists_lengths p1.isList p2.isList ?_ (by omega) X.prog X.w X.xe _ ⟨.bl _, H, I, rfl, q⟩
    rw [List.length_cons] at hl
    simp
    intro hz
    rw [hz] at hl
    simp at hl
def fNeL : D → D → Option D
  | .lst xs, .lst [] => some (.bl (!xs.isEmpty))
  | _, _ => none
theorem imp_neL {K : PySem.W.Frag} {mg : Str → Option Value} : Imp2 K mg fNeL (rNeL K) := fun B H x y d1 d2 d3 Q e r1 r2 hf k => by
  unfold fNeL at hf
  split at hf
  · rename_i xs
    cases hf
    obtain ⟨a, vs, rfl, s1, l1⟩ := rep_lst r1
    obtain ⟨c, ws, rfl, s2, l2⟩ := rep_lst r2
    have e2 : ws = [] := by unfold RepL at l2; exact l2
    subst e2
    have hl := repL_len l1
    refine ⟨a, c, vs, rfl, rfl, e.l s1, e.l s2, ?_⟩
    have eb : (!vs.isEmpty) = (!xs.isEmpty) := by
      cases xs <;> cases vs <;> simp at hl <;> rfl
    rw [eb]
    exact k _ B H (PStep.refl e) rep_bl'
  · cases hf
end Mi
/-! Mi38: xs.append(int(xs.pop() is None)). -/
namespace Mi
open PySem L2
def fPopNone : M → List M → Option (M × M)
  | m, [] => match fPop m [] with
    | some (m1, .dat d) => match fIsN d .non with
      | some (.bl c) => fAppend m1 [.dat (.int (if c then 1 else 0))]
      | _ => none
    | _ => none
  | _, _ => none
section
variable {b : Bd} {X : Cx} {x x2 : Expr} {p : Path} {pos apos pos2 apos2 p1 p3 p4 p5 : Pos} {jj : Nat}
theorem me_popNone (hx : MP b X x p) (hx2 : MP b X x2 p) (hg : Gl X "int") (hm : X.mg "int" = none) (hbase : attributeBase x "append" X.env (eval x X.env) = eval x X.env := by rfl) (hbase2 : attributeBase x2 "pop" X.env (eval x2 X.env) = eval x2 X.env := by rfl)
    (hline : (apos.endLine == pos.line) = true := by rfl) (hline2 : (apos2.endLine == pos2.line) = true := by rfl) (hmk : behindInMarks .Is (.Constant .none jj p3) = false := by rfl)
    (hfew : ((backTo pos (starEach [.Call (.Name "int" p1) [.Compare (.Call (.Attribute x2 "pop" apos2) [] [] pos2) [.Is] [.Constant .none jj p3] p4] [] p5] X.env)).all (fun x => !x.1) && (backToKw pos (keywordEach [] X.env)).all (fun x => x.1.isSome)
      && decide (([.Call (.Name "int" p1) [.Compare (.Call (.Attribute x2 "pop" apos2) [] [] pos2) [.Is] [.Constant .none jj p3] p4] [] p5] : List Expr).length + ([] : List Keyword).length + (if ([] : List Keyword).isEmpty then 0 else 1) < 30)) = true := by rfl)
    (hs : starEach [.Call (.Name "int" p1) [.Compare (.Call (.Attribute x2 "pop" apos2) [] [] pos2) [.Is] [.Constant .none jj p3] p4] [] p5] X.env = (false, eval (.Call (.Name "int" p1) [.Compare (.Call (.Attribute x2 "pop" apos2) [] [] pos2) [.Is] [.Constant .none jj p3] p4] [] p5) X.env) :: starEach [] X.env := by rfl)
    (hplain : (backTo pos (starEach [] X.env)).any (·.1) = false := by rfl)
    (hs2 : starEach [.Compare (.Call (.Attribute x2 "pop" apos2) [] [] pos2) [.Is] [.Constant .none jj p3] p4] X.env = (false, eval (.Compare (.Call (.Attribute x2 "pop" apos2) [] [] pos2) [.Is] [.Constant .none jj p3] p4) X.env) :: starEach [] X.env := by rfl)
    (hplain2 : (backTo p5 (starEach [] X.env)).any (·.1) = false := by rfl) :
    ME b X (.Call (.Attribute x "append" apos) [.Call (.Name "int" p1) [.Compare (.Call (.Attribute x2 "pop" apos2) [] [] pos2) [.Is] [.Constant .none jj p3] p4] [] p5] [] pos) (.mut 0 fPopNone .nil p .nil) := fun W tk => by
  have h1 := pe_bm0 (X := X) (cpos := pos2) PySem.F.plainAttrs_list PySem.F.slot_list_pop PySem.F.type_list_pop mt_pop hx2 hbase2 hline2
  have h2 := pe_cmpR (pos := p4) op_isN h1 (pe_non (X := X) (j := jj) (pos := p3)) hmk
  have h3 := pe_callTy (pos := p5) (p := p1) call_int1 hg hm (by rfl) (pa_cons h2 pa_nil hs2) (by decide) (by decide) hs2 hplain2
  have h4 := pe_bm (X := X) (cpos := pos) PySem.F.plainAttrs_list PySem.F.slot_list_append PySem.F.type_list_append mt_append hx (pa_cons h3 pa_nil hs) hbase hfew hline hs hplain
  refine PE.imp h4 fun σ H Q ⟨π, B, μ, S, hp, s, k⟩ => ?_
  unfold evalE at k
  have e0 : ∀ μ, evalEs b.C b.pin .nil μ = .ok [] μ := fun μ => by unfold evalEs; rfl
  rw [e0] at k
  dsimp only [Out.bind] at k
  refine ⟨π, B, μ, S, hp, s, ?_⟩
  cases ep : evalP b.C b.pin p μ with
  | none => rw [ep] at k; exact k.elim
  | some pl =>
    rw [ep] at k
    dsimp only at k
    split at k
    rotate_left
    · exact k.elim
    rename_i hk
    rw [e0] at k
    dsimp only [Out.bind] at k
    split at k
    rotate_left
    · exact k.elim
    cases ea : atPl μ pl with
    | none => rw [ea] at k; exact k.elim
    | some m =>
      rw [ea] at k hk
      have hk : m.kind = 0 := by simpa using hk
      dsimp only at k
      cases ef : fPopNone m ([] ++ []) with
      | none => rw [ef] at k; exact k.elim
      | some mm =>
        obtain ⟨m2, r2⟩ := mm
        rw [ef] at k
        dsimp only at k
        refine ⟨pl, rfl, fun v B1 H1 ps hv => ?_⟩
        have s1 := s.pure ps
        have tyOf : ∀ {B' H' : Hp} {v' : V}, Stt X.K X.mg π B' H' σ μ S → PlV H' σ pl v' → tyV X.K "list" v' H' := fun {B' H' v'} s' hv' => by
          obtain ⟨v1, T1, r1, _, ⟨v0, e1, va⟩, _⟩ := s'.at ea
          obtain ⟨v0', e0', va'⟩ := hv'
          rw [e1] at e0'
          cases e0'
          have ev := va.det va'
          subst ev
          exact ty_of hk rfl r1
        refine ⟨tyOf s1 hv, π, B1, μ, S, hp, s1, pl, ep, fun v2 B2 H2 ps2 hv2 => ?_⟩
        have s2 := s1.pure ps2
        refine ⟨tyOf s2 hv2, ?_⟩
        obtain ⟨v1, T1, r1, sub1, ⟨v0, e1, va⟩, put⟩ := s2.at ea
        have ev2 : v2 = v1 := by
          obtain ⟨v0', e0', va'⟩ := hv2
          rw [e1] at e0'
          cases e0'
          exact va'.det va
        have ev : v = v1 := by
          obtain ⟨v0', e0', va'⟩ := hv.mono ps2.ext
          rw [e1] at e0'
          cases e0'
          exact va'.det va
        subst ev2
        subst ev
        -- the two deeds
        unfold fPopNone at ef
        simp only [List.append_nil] at ef
        split at ef
        · rename_i m1 d hpop
          split at ef
          · rename_i c hc
            have own := s2.owned
            refine mut_pop0 B2 H2 m v T1 [] [] [] [] (fun _ => False) (fun _ => False) m1 (.dat d) _ s2.sub r1 (by unfold RepMs; exact ⟨rfl, fun _ z => z⟩) (by unfold RepMs; exact ⟨rfl, fun _ z => z⟩) (fun _ _ z => z) (fun _ _ z => z) (fun _ _ z => z) hpop (fun w B3 H3 T3 R3 x3 e3 rm3 rd3 dj3 => ?_) rfl
            have rw3 := (repM_dat.mp rd3).1
            refine imp_isN B3 H3 w .non d .non (.bl c) (fun z H4 => (∃ i, [z] = [V.int i] ∧ rAppend v [V.int i] H4 Q) ∨ ∃ kk, [z] = [V.bl kk] ∧ rAppend v [V.int (if kk = true then 1 else 0)] H4 Q) e3 rw3 (by unfold Rep; rfl) hc fun z B4 H4 ps4 rz => ?_
            have ez : z = .bl c := rep_bl rz
            subst ez
            refine .inr ⟨c, rfl, ?_⟩
            have rm4 : RepM X.K X.mg B4 H4 m1 v T3 := by
              have y := ps4.step T3
              have own3 := rm3.owned
              exact rm3.congr ps4.ex fun a z => by
                refine ⟨?_, ?_⟩
                · cases eh : H3 a with
                  | none => exact absurd eh (own3 a z).1
                  | some u => exact ps4.ext a u eh
                · cases eb : B4 a with
                  | none => rfl
                  | some u => exact absurd ((ps4.fz a (by rw [eb]; simp)).elim (fun w => w (own3 a z).2) fun w => (own3 a z).1 w) id
            refine mut_append B4 H4 m1 v T3 [] [.dat (.int (if c then 1 else 0))] [] [.int (if c then 1 else 0)] (fun _ => False) (fun _ => False) m2 r2 Q ps4.sub rm4 (by unfold RepMs; exact ⟨rfl, fun _ z => z⟩) (repMs_dats (ds := [.int (if c then 1 else 0)]) (by unfold RepL; exact ⟨_, [], rfl, by unfold Rep; rfl, by unfold RepL; rfl⟩)) (fun _ _ z => z) (fun _ _ z => z) (fun _ z => z.elim) ef (fun w5 B5 H5 T5 R5 x5 e5 rm5 rd5 dj5 => ?_) rfl
            -- all together
            have x34 : Step B2 H2 T1 B4 H4 T3 := (x3.weak (T := T1) (fun a z => z.elim id fun z => z.elim False.elim False.elim) fun a z => .inl z).trans (ps4.step T3)
            have x345 : Step B2 H2 T1 B5 H5 (fun a => T5 a ∨ R5 a) := x34.trans (x5.weak (T := T3) (fun a z => z.elim id fun z => z.elim False.elim False.elim) fun _ z => z)
            have ap : ∀ a, S a → ¬ T1 a → ¬ (T5 a ∨ R5 a) ∧ B5 a = none ∧ H5 a = H2 a := fun a z n => x345.apart n (own a z).1 (own a z).2
            obtain ⟨S6, s6, h6⟩ := put B5 H5 m2 T5 x345.ex e5 (fun a z n => let w := ap a z n; ⟨w.2.2, w.2.1⟩) rm5 fun a z w => by
              by_cases t : T1 a
              · exact t
              · exact absurd (.inl z) (ap a w t).1
            have k1 := k.mono (S1 := S) ((ps.step S).trans (ps2.step S)) (fun _ z => z) fun _ => ps.ext.trans ps2.ext
            refine k1 w5 B5 H5 S6 R5 s6 rd5 (fun a z y => ?_) ?_ fun z => nomatch z
            · rcases h6 a y with y | y
              · exact (ap a y.1 y.2).1 (.inr z)
              · exact dj5 a y z
            · have y := x345.frame (F := fun a => S a ∧ ¬ T1 a) fun a z => ⟨z.2, (own a z.1).1⟩
              exact y.weak (fun a z => z.elim (sub1 a) fun z => z.1) fun a z => z.elim (fun z => (h6 a z).elim .inr fun z => .inl (.inl z)) fun z => .inl (.inr z)
          · cases ef
        · cases ef
end
end Mi
/-! Mi39: more of the plain law: errors, tries, ends of calls; great numbers; lists that grow. -/
namespace Mi
open PySem L2
section
variable {sub : Str → Str → Bool} {C : Nat → List M → Mi.CR} {pin : List Nat} {N : Nat} {st : S} {r : Ss} {μ μ1 : Mi.Env} {c : Str}
theorem ex_er (h : execS sub C pin N st μ = .err c μ1) : execSs sub C pin N (.cons st r) μ = .err c μ1 := by
  show (match execS sub C pin N st μ with | .nx μ1 => execSs sub C pin N r μ1 | q => q) = _
  rw [h]
theorem ex_nil : execSs sub C pin N .nil μ = .nx μ := by unfold execSs; rfl
theorem ex_last (h : execS sub C pin N st μ = .nx μ1) : execSs sub C pin N (.cons st .nil) μ = .nx μ1 := by
  rw [ex_nx h, ex_nil]
theorem ex_one {R : Mi.Res} (h : execS sub C pin N st μ = R) (n : ∀ μ1, R = .nx μ1 → execSs sub C pin N r μ1 = .nx μ1) : execSs sub C pin N (.cons st r) μ = R := by
  show (match execS sub C pin N st μ with | .nx μ1 => execSs sub C pin N r μ1 | q => q) = _
  rw [h]
  cases R with
  | nx μ1 => exact n μ1 rfl
  | _ => rfl
/-- the last statement -/
theorem ex_end {R : Mi.Res} (h : execS sub C pin N st μ = R) : execSs sub C pin N (.cons st .nil) μ = R := ex_one h fun _ _ => ex_nil
end
section
variable {sub : Str → Str → Bool} {C : Nat → List M → Mi.CR} {pin : List Nat} {N : Nat} {c : E} {a b : Ss} {μ μ1 μ2 : Mi.Env} {R : Mi.Res}
theorem ite_t (h : evalE C pin c μ = .ok (.dat (.bl true)) μ1) (h2 : execSs sub C pin N a μ1 = R) : execS sub C pin N (.ite c a b) μ = R := by
  show ((evalE C pin c μ).res _) = _
  rw [h]
  exact h2
theorem ite_f (h : evalE C pin c μ = .ok (.dat (.bl false)) μ1) (h2 : execSs sub C pin N b μ1 = R) : execS sub C pin N (.ite c a b) μ = R := by
  show ((evalE C pin c μ).res _) = _
  rw [h]
  exact h2
theorem ex_frz {i : Nat} {st : S} {m : M} (h : slot μ i = some m) (e : execS sub C pin N st (μ.set i (some (.dat m.toD))) = R) : execS sub C pin N (.frz i st) μ = R := by
  show (match slot μ i with | some m => execS sub C pin N st (μ.set i (some (.dat m.toD))) | none => .stuck) = _
  rw [h]
  exact e
theorem ex_try_nx {hs : Hs} {b : Ss} (h : execSs sub C pin N b μ = .nx μ1) : execS sub C pin N (.try_ b hs) μ = .nx μ1 := by
  show (match execSs sub C pin N b μ with | .err c μ1 => execHs sub C pin N hs c μ1 | r => r) = _
  rw [h]
theorem ex_try_er {hs : Hs} {b : Ss} {x : Str} (h : execSs sub C pin N b μ = .err x μ1) (h2 : execHs sub C pin N hs x μ1 = R) : execS sub C pin N (.try_ b hs) μ = R := by
  show (match execSs sub C pin N b μ with | .err c μ1 => execHs sub C pin N hs c μ1 | r => r) = _
  rw [h]
  exact h2
theorem hs_hit {c' x : Str} {b : Ss} {r : Hs} (h0 : sub x x = true) (h : sub x c' = true) (h2 : execSs sub C pin N b μ = .nx μ1) : execHs sub C pin N (.cons c' none b r) x μ = .nx μ1 := by
  unfold execHs
  rw [if_pos h0, if_pos h]
  dsimp only
  rw [h2]
  rfl
theorem hs_miss {c' x : Str} {i : Option Nat} {b : Ss} {r : Hs} (h0 : sub x x = true) (h : sub x c' = false) (h2 : execHs sub C pin N r x μ = R) : execHs sub C pin N (.cons c' i b r) x μ = R := by
  show (if sub x x = true then (if sub x c' = true then _ else execHs sub C pin N r x μ) else .stuck) = _
  rw [if_pos h0, if_neg (by rw [h]; exact Bool.false_ne_true)]
  exact h2
end
section
variable {sub : Str → Str → Bool} {tab : Nat → Option Fn} {N k g : Nat} {fn : Fn} {ms : List M} {c : Str} {μ' : Mi.Env}
theorem call_err (h : tab g = some fn) (hl : ms.length = fn.np) (e : execSs sub (callF sub tab N k) fn.pin N fn.body (startE fn ms) = .err c μ') : callF sub tab N (k + 1) g ms = .err c (outsOf fn μ') := by
  show (match tab g with | some fn => if ms.length = fn.np then fnEnd fn (execSs sub (callF sub tab N k) fn.pin N fn.body (startE fn ms)) else .stuck | none => .stuck) = _
  rw [h]
  dsimp only
  rw [if_pos hl, e]
  rfl
theorem call_nx (h : tab g = some fn) (hl : ms.length = fn.np) (e : execSs sub (callF sub tab N k) fn.pin N fn.body (startE fn ms) = .nx μ') : callF sub tab N (k + 1) g ms = .ok (.dat .non) (outsOf fn μ') := by
  show (match tab g with | some fn => if ms.length = fn.np then fnEnd fn (execSs sub (callF sub tab N k) fn.pin N fn.body (startE fn ms)) else .stuck | none => .stuck) = _
  rw [h]
  dsimp only
  rw [if_pos hl, e]
  rfl
theorem call_any (h : tab g = some fn) (hl : ms.length = fn.np) {R : Mi.Res} (e : execSs sub (callF sub tab N k) fn.pin N fn.body (startE fn ms) = R) : callF sub tab N (k + 1) g ms = fnEnd fn R := by
  show (match tab g with | some fn => if ms.length = fn.np then fnEnd fn (execSs sub (callF sub tab N k) fn.pin N fn.body (startE fn ms)) else .stuck | none => .stuck) = _
  rw [h]
  dsimp only
  rw [if_pos hl, e]
end
def tl : Ss → Ss
  | .cons _ r => r
  | .nil => .nil
/-! ### great numbers -/
theorem fAbs_n (i : Int) : fAbs [.int i] = some (.int (i.natAbs : Int)) := by
  show some (D.int (if i < 0 then -i else i)) = _
  have e : (if i < 0 then -i else i) = (i.natAbs : Int) := by split <;> omega
  rw [e]
theorem fInt_b (k : Bool) : fInt [.bl k] = some (.int (if k then 1 else 0)) := rfl
def Sm (x : Int) : Prop := x.natAbs < 10 ^ 60
instance (x : Int) : Decidable (Sm x) := by unfold Sm; infer_instance
theorem log_sm {x : Int} (h : Sm x) : x.natAbs.log2 < 200 := by
  by_cases h0 : x.natAbs = 0
  · rw [h0]; decide
  · exact (Nat.log2_lt h0).mpr (Nat.lt_trans h (by decide))
theorem fMul_sm {x y : Int} (hx : Sm x) (hy : Sm y) : fMul (.int x) (.int y) = some (.int (x * y)) := by
  show (if CMul x y ∨ CMulW x y then some (D.int (x * y)) else none) = _
  have hp : CMulW x y := by
    have := log_sm hx
    have := log_sm hy
    show _ + _ < _
    omega
  rw [if_pos (.inr hp)]
/-! ### lists -/
def dm (xs : List D) : List M := xs.map .dat
theorem fAppend_dm {xs : List D} {d : D} (h : xs.length ≤ 900000) : fAppend (.lst (dm xs)) [.dat d] = some (.lst (dm (xs ++ [d])), .dat .non) := by
  unfold fAppend dm
  dsimp only
  rw [if_pos (Nat.lt_of_le_of_lt (show _ ≤ 900000 by rw [List.length_map]; exact h) (by decide)), List.map_append]
  rfl
theorem fPop_dm (xs : List D) (d : D) : fPop (.lst (dm (xs ++ [d]))) [] = some (.lst (dm xs), .dat d) := by
  simp [fPop, dm]
theorem dm_toD (xs : List D) : M.toD (.lst (dm xs)) = .lst xs := by
  show D.lst (M.toDs (xs.map .dat)) = _
  rw [toDs_dats]
theorem dm_toDs (xs : List D) : M.toDs (dm xs) = xs := toDs_dats xs
theorem dm_len (xs : List D) : (dm xs).length = xs.length := by unfold dm; rw [List.length_map]
theorem dm_get {xs : List D} {j : Nat} : (dm xs)[j]? = (xs[j]?).map .dat := by unfold dm; rw [List.getElem?_map]
theorem noTups_dm (xs : List D) : M.noTup.noTups (dm xs) = true := by
  unfold dm
  induction xs with
  | nil => rfl
  | cons d r ih =>
    show (true && M.noTup.noTups (r.map .dat)) = true
    rw [ih]
    rfl
theorem toOwned_l (xs : List D) : toOwned (.dat (.lst xs)) = some (.lst (dm xs)) := rfl
theorem hards_mem : ∀ {xs : List D}, (∀ d ∈ xs, d.hard = true) → D.hard.hards xs = true
  | [], _ => rfl
  | d :: r, h => by
    have := hards_mem fun e he => h e (List.mem_cons_of_mem d he)
    simp [D.hard.hards, h d List.mem_cons_self, this]
theorem mem_hards : ∀ {xs : List D}, D.hard.hards xs = true → ∀ d ∈ xs, d.hard = true
  | [], _, d, hd => (nomatch hd)
  | e :: r, h, d, hd => by
    have h : e.hard = true ∧ D.hard.hards r = true := by simpa [D.hard.hards] using h
    rcases List.mem_cons.mp hd with rfl | q
    · exact h.1
    · exact mem_hards h.2 d q
theorem atI_pos {α : Type} {xs : List α} {i : Int} {n : Nat} (h : i = n) {v : α} (e : atI xs i = some v) : xs[n]? = some v := by
  subst h
  cases q : xs[n]? with
  | some w =>
    have := atI_nat q
    rw [this] at e
    exact e
  | none =>
    have hn : ¬ n < xs.length := by
      intro z
      rw [List.getElem?_eq_getElem z] at q
      cases q
    unfold atI at e
    unfold ixN at e
    rw [if_pos (Int.natCast_nonneg n), if_neg (by omega)] at e
    cases e
theorem atI_3 {α : Type} (x y z v : α) (xs : List α) : atI (x :: y :: z :: v :: xs) 3 = some v := by
  have := atI_nat (xs := x :: y :: z :: v :: xs) (j := 3) (v := v) rfl
  simpa using this
theorem atI_4 {α : Type} (x y z v w : α) (xs : List α) : atI (x :: y :: z :: v :: w :: xs) 4 = some w := by
  have := atI_nat (xs := x :: y :: z :: v :: w :: xs) (j := 4) (v := w) rfl
  simpa using this
/-- an index of a list, at a place -/
theorem ixN_dm {xs : List D} {i : Int} {d : D} (h : atI xs i = some d) : ∃ j, ixN (dm xs).length i = some j ∧ (dm xs)[j]? = some (.dat d) := by
  unfold atI at h
  cases q : ixN xs.length i with
  | none => rw [q] at h; cases h
  | some j =>
    rw [q] at h
    refine ⟨j, by rw [dm_len]; exact q, ?_⟩
    rw [dm_get]
    have h : xs[j]? = some d := h
    rw [h]
    rfl
end Mi
/-! Mi40: [..] * k. -/
namespace Mi
open PySem L2
section
variable {X : Cx}
theorem q_times (a : Addr) (ar : Array Value) (m : Nat) (o : Option Addr) (ss : Array (Option Value)) (k : Int) (t : Tok) (g0 : ¬(!Builtin.List.listFitsIndex k) = true)
    (g1 : ¬ar.size * k.toNat > (2 ^ 63 - 1) / 8) (g2 : ¬Builtin.List.listTooLong (ar.size * k.toNat) = true) :
    Meets (Builtin.«list.__mul__» ⟨[.ref a, .int k t], []⟩) (fun _ R s => s.heap.get? a = some { cls := .type "list", dict := o, data := .seq ar m, slots := ss } ∧ R (.ok (.ret (Value.ref s.heap.objs.size))) { s with heap := s.heap.push { cls := Value.type "list", data := Data.seq (List.foldl (fun u v => u ++ v) #[] (List.replicate (if ar.isEmpty = true then 0 else k.toNat) ar)) }, toks := s.toks }) :=
  .of_wp fun pr ww AA RR s1 hy => by
    obtain ⟨h1, g3, d3, t3, o3⟩ := s1; obtain ⟨h4, hy⟩ := hy
    have fits := AutoListH.joined_fits g2
    wp_walk; refine wpAny_ite_false (decide_eq_false (Nat.not_lt.mpr fits)) ?_; wp_walk; exact ⟨_, rfl, hy⟩
theorem q_rtimes (k : Int) (t : Tok) (a : Addr) (ar : Array Value) (m : Nat) (o : Option Addr) (ss : Array (Option Value)) :
    Meets (Builtin.«int.__rmul__» ⟨[.int k t, .ref a], []⟩) (fun _ R s => s.heap.get? a = some { cls := .type "list", dict := o, data := .seq ar m, slots := ss } ∧ R (.ok (.ret Value.notImplemented)) s) :=
  .of_wp fun pr ww AA RR s1 hy => by obtain ⟨h1, g3, d3, t3, o3⟩ := s1; obtain ⟨h4, hy⟩ := hy; wp_walk; exact ⟨_, rfl, hy⟩
def rRepL (K : PySem.W.Frag) : R2 := fun x y H Q => ∃ a k xs, x = .ref a ∧ y = .int k ∧ SqL K H a xs ∧ (0 ≤ k ∧ k < 2 ^ 62) ∧ xs.length * k.toNat ≤ sizeLine ∧ ∀ p, H p = none → Q (.ref p) (upd H p (.lst (List.replicate k.toNat xs).flatten))
theorem op_repL : OpR X (binaryOp .Mult) (rRepL X.K) := by
  intro pins s σ H x y v u Q I rx ry h
  obtain ⟨a, k, xs, rfl, rfl, hs, ⟨k0, k1⟩, hz, q⟩ := h
  obtain rfl : v = Value.ref a := rx
  obtain ⟨t, rfl⟩ := ry
  obtain ⟨its, rv, ⟨⟨cl, o1, dt, ss⟩, m, ho, hc, _, hd⟩, _⟩ := I.list hs
  obtain rfl : cl = Value.type "list" := hc
  obtain rfl : dt = Data.seq its.toArray m := hd
  have le := rv.length
  have hl : its.toArray.size * k.toNat ≤ sizeLine := by rw [List.size_toArray, ← le]; exact hz
  have hcap : ¬ its.toArray.size * k.toNat > (2 ^ 63 - 1) / 8 := fun z => Nat.lt_irrefl _ (Nat.lt_of_lt_of_le z (Nat.le_trans hl (by decide)))
  have hx : ¬ (!Builtin.List.listFitsIndex k) = true := by rw [fitsIndex_both (by omega) (by omega)]; exact Bool.false_ne_true
  have ht : ¬ Builtin.List.listTooLong (its.toArray.size * k.toNat) = true := by rw [notLongL hl]; exact Bool.false_ne_true
  refine wpAny_binaryOp_repeat_ref (T := "list") (U := "int") (by decide) ⟨_, ho, rfl⟩ (fun s' => typeIs_int s' k t) noFill_list_mul F.fills_int_mul F.slot_int_rmul repeat_list F.slot_int_index.lookup
    (call_meets F.slot_int_rmul (typeIs_int s k t) F.entry_int_rmul (F.args_int_rmul_2 _ _) (q_rtimes k t a its.toArray m o1 ss)
      ⟨ho, rfl, ⟨_, ho, rfl⟩, call_meets F.slot_list_mul ⟨_, ho, rfl⟩ F.entry_list_mul (F.args_list_mul_2 _ _) (q_times a its.toArray m o1 ss k t hx hcap ht) ⟨ho, ?_⟩⟩)
  have e : List.foldl (fun u v => u ++ v) #[] (List.replicate (if its.toArray.isEmpty = true then 0 else k.toNat) its.toArray) = (List.replicate k.toNat its).flatten.toArray := by
    have f0 : ∀ j : Nat, List.foldl (fun u v => u ++ v) #[] (List.replicate j its.toArray) = (List.replicate j its).flatten.toArray := fun j => by
      have e0 := foldl_rep its j []
      rw [List.nil_append] at e0; exact e0
    rw [f0]
    cases its with
    | nil => simp
    | cons b r => rw [if_neg (by simp)]
  rw [e]
  exact ⟨.ref _, _, I.lnew (t' := s.toks) (rv.rep k.toNat) (by rw [PyProof.Rows.lm_len_rep_flat, Nat.mul_comm]; exact hz), rfl, q _ I.fresh⟩
def fRepL : D → D → Option D
  | .lst xs, .int k => if (0 ≤ k ∧ k < 2 ^ 62) ∧ xs.length * k.toNat ≤ sizeLine then some (.lst (List.replicate k.toNat xs).flatten) else none
  | _, _ => none
theorem repL_rep {K : PySem.W.Frag} {mg : Str → Option Value} {B : Hp} {ds : List D} {vs : List V} (h : RepL K mg B ds vs) : ∀ n : Nat, RepL K mg B (List.replicate n ds).flatten (List.replicate n vs).flatten
  | 0 => by unfold RepL; rfl
  | n + 1 => by
    rw [List.replicate_succ, List.replicate_succ, List.flatten_cons, List.flatten_cons]
    exact repL_app h (repL_rep h n)
theorem imp_repL {K : PySem.W.Frag} {mg : Str → Option Value} : Imp2F K mg fRepL (rRepL K) := fun B H x y d1 d2 d3 Q e r1 r2 hf kk => by
  unfold fRepL at hf
  split at hf
  · split at hf
    · rename_i hl
      cases hf
      obtain ⟨a, vs, rfl, h1, h2⟩ := rep_lst r1
      rw [rep_int r2]
      have l1 := repL_len h2
      exact ⟨a, _, vs, rfl, rfl, e.l h1, hl.1, by rw [← l1]; exact hl.2, fun p hp => kk p _ hp (.inl ⟨_, _, rfl, rfl, repL_rep h2 _⟩)⟩
    · cases hf
  · cases hf
end
end Mi
namespace K41
open PySem L2 Mi
def top (i : Nat) : Stmt := PySem.Challenge.pw_fieldgate_k41_rows_of_numbers.main.body.getD i (.Pass ⟨0, 0, 0, 0⟩)
abbrev s0 : Stmt := inClass (top 11) 0
abbrev s1 : Stmt := inClass (top 12) 0
abbrev s2 : Stmt := inClass (top 12) 1
abbrev s3 : Stmt := inClass (top 12) 2
abbrev s4 : Stmt := inClass (top 12) 3
abbrev s5 : Stmt := inClass (top 12) 4
abbrev s6 : Stmt := inClass (top 12) 5
abbrev s7 : Stmt := inClass (top 12) 6
abbrev s8 : Stmt := inClass (top 12) 7
abbrev s9 : Stmt := inClass (top 12) 8
abbrev s10 : Stmt := top 13
abbrev s11 : Stmt := top 14
abbrev s12 : Stmt := top 15
abbrev s13 : Stmt := top 16
abbrev s14 : Stmt := top 18
abbrev s15 : Stmt := top 19
abbrev s16 : Stmt := top 20
abbrev s17 : Stmt := top 21
abbrev s18 : Stmt := top 22
abbrev s19 : Stmt := top 23
abbrev s20 : Stmt := top 24
abbrev s21 : Stmt := top 25
abbrev s22 : Stmt := top 26
/-! ### the functions -/
def w9_0c : Mi.E := (.op2 fIsNotN (.var 1) (.con .non))
def w9_0b : Mi.Ss := (.cons (.set (.one 3) (.meth false "Machine" "cell_at" 3 (.root 0) (.val (.var 1) .nil)))
  (.cons (.expr (.mut 0 fAppend .nil (.root 2) (.cons (.meth false "Machine" "told" 9 (.root 0) (.val (.op2 fIx (.var 3) (.con (.int 1))) .nil)) .nil)))
  (.cons (.set (.one 1) (.op2 fIx (.var 3) (.con (.int 2))))
  .nil)))
def w13_0c : Mi.E := (.view (.op2 fNeL (.op1 (fFld "Machine" "frames") (.var 3)) (.opN fLst .nil)))
def w13_0b : Mi.Ss := (.cons (.set (.one 6) (.op2 fIx (.pth (.fld (.root 3) "Machine" "rows")) (.pth (.fld (.root 3) "Machine" "at"))))
  (.cons (.expr (.mut 2 (fAugFld "Machine" "at" (· + ·) 1) .nil (.root 3) .nil))
  (.cons (.expr (.call false 12 (.ref (.root 3) (.val (.var 6) .nil))))
  .nil)))
def w13_1b : Mi.Ss := (.cons (.expr (.mut 0 fAppend .nil (.fld (.root 3) "Machine" "log") (.cons (.opN fTup (.cons (.con (.str "shut")) (.cons (.var 5) .nil))) .nil)))
  .nil)
def w19_0b : Mi.Ss := (.cons (.expr (.mut 0 fAppend .nil (.root 0) (.cons (.op2 fIx (.opN fLst (.cons (.opN fTup (.cons (.con (.str "drop")) .nil)) (.cons (.opN fTup (.cons (.con (.str "plus")) .nil)) (.cons (.opN fTup (.cons (.con (.str "back")) .nil)) .nil)))) (.op2 fMod (.op2 fAddX (.op2 fDivW (.var 2) (.con (.int 6))) (.var 5)) (.con (.int 3)))) .nil)))
  .nil)
def w21_0b : Mi.Ss := (.cons (.set (.one 3) (.call true 13 (.val (.var 0) (.val (.var 1) (.val (.con (.int 5)) .nil)))))
  .nil)
def w22_0b : Mi.Ss := (.cons (.ite (.op1 fNot (.var 8)) (.cons (.expr (.call false 20 (.ref (.root 3) (.ref (.root 7) (.ref (.root 6) (.val (.call false 14 (.val (.var 9) .nil)) .nil))))))
  (.cons (.set (.one 8) (.view (.op2 fGt (.opN fLen (.cons (.comp false [16] (.one 16) fSeq (.cons (.var 7) .nil) (.op2 fGe (.opN fAbs (.cons (.var 16) .nil)) (.op2 fPow (.con (.int 10)) (.con (.int 60)))) (.var 16)) .nil)) (.con (.int 0)))))
  .nil)) .nil)
  .nil)
def w22_1c : Mi.E := (.view (.and (.op2 fGt (.opN fLen (.cons (.var 7) .nil)) (.con (.int 1))) (.op1 fNot (.var 8))))
def w22_1b : Mi.Ss := (.cons (.expr (.call false 18 (.ref (.root 3) (.ref (.root 7) (.val (.view (.op2 fIx (.opN fLst (.cons (.con (.str "plus")) (.cons (.con (.str "minus")) .nil))) (.op2 fMod (.opN fLen (.cons (.var 7) .nil)) (.con (.int 2))))) .nil)))))
  (.cons (.set (.one 8) (.op2 fGe (.opN fAbs (.cons (.pth (.idx (.root 7) (.op1 fNeg (.con (.int 1))))) .nil)) (.op2 fPow (.con (.int 10)) (.con (.int 60)))))
  .nil))
def fn0 : Fn := ⟨4, 4, [0],
  (.cons (.expr (.mut 2 (fSetFld "Frame" "held") (.cons (.mov 1) .nil) (.root 0) .nil))
  (.cons (.expr (.mut 2 (fSetFld "Frame" "fields") (.cons (.mov 2) .nil) (.root 0) .nil))
  (.cons (.expr (.mut 2 (fSetFld "Frame" "back") (.cons (.var 3) .nil) (.root 0) .nil))
  .nil)))⟩
def fn1 : Fn := ⟨4, 6, [0],
  (.cons (.expr (.mut 2 (fSetFld "Machine" "rows") (.cons (.op2 fIx (.var 1) (.con (.int 0))) .nil) (.root 0) .nil))
  (.cons (.expr (.mut 2 (fSetFld "Machine" "at") (.cons (.op2 fIx (.var 1) (.con (.int 1))) .nil) (.root 0) .nil))
  (.cons (.expr (.mut 2 (fSetFld "Machine" "outer") (.cons (.op2 fIx (.var 1) (.con (.int 2))) .nil) (.root 0) .nil))
  (.cons (.expr (.mut 2 (fSetFld "Machine" "most") (.cons (.var 3) .nil) (.root 0) .nil))
  (.cons (.expr (.mut 2 (fSetFld "Machine" "calls") (.cons (.con (.int 0)) .nil) (.root 0) .nil))
  (.cons (.expr (.mut 2 (fSetFld "Machine" "opened") (.cons (.con (.int 0)) .nil) (.root 0) .nil))
  (.cons (.expr (.mut 2 (fSetFld "Machine" "pile") (.cons (.own (.opN fLst .nil)) .nil) (.root 0) .nil))
  (.cons (.expr (.mut 2 (fSetFld "Machine" "cells") (.cons (.own (.opN fLst .nil)) .nil) (.root 0) .nil))
  (.cons (.expr (.mut 2 (fSetFld "Machine" "stack") (.cons (.own (.opN fLst .nil)) .nil) (.root 0) .nil))
  (.cons (.expr (.mut 2 (fSetFld "Machine" "log") (.cons (.own (.opN fLst .nil)) .nil) (.root 0) .nil))
  (.cons (.set (.one 4) (.own (.comp false [5] (.one 5) fRange1 (.cons (.op2 fIx (.var 1) (.con (.int 2))) .nil) (.con (.bl true)) (.meth false "Machine" "one_more" 2 (.root 0) .nil))))
  (.cons (.expr (.mut 2 (fSetFld "Machine" "frames") (.cons (.ml (.cons (.new "Frame" 0 (.val (.own (.opN fList (.cons (.var 2) .nil))) (.val (.mov 4) (.val (.con .non) .nil)))) .nil)) .nil) (.root 0) .nil))
  .nil))))))))))))⟩
def fn2 : Fn := ⟨1, 2, [0],
  (.cons (.set (.one 1) (.pth (.fld (.root 0) "Machine" "opened")))
  (.cons (.expr (.mut 2 (fAugFld "Machine" "opened" (· + ·) 1) .nil (.root 0) .nil))
  (.cons (.expr (.mut 0 fAppend .nil (.fld (.root 0) "Machine" "pile") (.cons (.var 1) .nil)))
  (.cons (.expr (.mut 0 fAppend .nil (.fld (.root 0) "Machine" "log") (.cons (.opN fTup (.cons (.con (.str "open")) (.cons (.var 1) .nil))) .nil)))
  (.cons (.ret (.var 1))
  .nil)))))⟩
def fn3 : Fn := ⟨2, 3, [0],
  (.cons (.set (.one 2) (.pth (.idx (.fld (.root 0) "Machine" "cells") (.op2 fIx (.var 1) (.con (.int 0))))))
  (.cons (.ite (.view (.op2 (inD true) (.op2 fIx (.var 2) (.con (.int 3))) (.op1 (fFld "Machine" "pile") (.var 0)))) (.cons (.raise "Gone")
  .nil) .nil)
  (.cons (.ret (.var 2))
  .nil)))⟩
def fn4 : Fn := ⟨2, 2, [0],
  (.cons (.ite (.op1 (fIsi "tuple") (.var 1)) (.cons (.ret (.op2 fIx (.pth (.idx (.fld (.root 0) "Machine" "cells") (.op2 fIx (.var 1) (.con (.int 0))))) (.con (.int 4))))
  .nil) .nil)
  (.cons (.ret (.con (.int 1)))
  .nil))⟩
def fn5 : Fn := ⟨2, 5, [0],
  (.cons (.set (.one 2) (.mut 0 fPop .nil (.fld (.root 0) "Machine" "stack") .nil))
  (.cons (.set (.one 3) (.mut 0 fPop .nil (.fld (.root 0) "Machine" "stack") .nil))
  (.cons (.set (.one 4) (.opN fInt (.cons (.op2 fLt (.var 3) (.var 2)) .nil)))
  (.cons (.ite (.op2 fEq (.var 1) (.con (.str "plus"))) (.cons (.set (.one 4) (.op2 fAddX (.var 3) (.var 2)))
  .nil) (.cons (.ite (.op2 fEq (.var 1) (.con (.str "minus"))) (.cons (.set (.one 4) (.op2 fSub (.var 3) (.var 2)))
  .nil) (.cons (.ite (.op2 fEq (.var 1) (.con (.str "times"))) (.cons (.set (.one 4) (.op2 fMul (.var 3) (.var 2)))
  .nil) .nil)
  .nil))
  .nil))
  (.cons (.ite (.op2 fGe (.opN fAbs (.cons (.var 4) .nil)) (.con (.int 1000000000000000000000000000000000000000000000000000000000000))) (.cons (.raise "TooGreat")
  .nil) .nil)
  (.cons (.expr (.mut 0 fAppend .nil (.fld (.root 0) "Machine" "stack") (.cons (.var 4) .nil)))
  .nil))))))⟩
def fn6 : Fn := ⟨3, 6, [0],
  (.cons (.set (.one 3) (.mut 0 fPop .nil (.fld (.root 0) "Machine" "stack") .nil))
  (.cons (.set (.one 4) (.mut 0 fPop .nil (.fld (.root 0) "Machine" "stack") .nil))
  (.cons (.set (.one 5) (.op2 fAddX (.op2 fAddX (.con (.int 1)) (.meth false "Machine" "size_of" 4 (.root 0) (.val (.var 4) .nil))) (.meth false "Machine" "size_of" 4 (.root 0) (.val (.var 3) .nil))))
  (.cons (.ite (.op2 fGt (.var 5) (.con (.int 1000))) (.cons (.raise "TooGreat")
  .nil) .nil)
  (.cons (.ite (.view (.op2 (inD true) (.var 2) (.op1 (fFld "Machine" "pile") (.var 0)))) (.cons (.raise "Gone")
  .nil) .nil)
  (.cons (.expr (.mut 0 fAppend .nil (.fld (.root 0) "Machine" "log") (.cons (.opN fTup (.cons (.con (.str "lay")) (.cons (.var 2) .nil))) .nil)))
  (.cons (.expr (.mut 0 fAppend .nil (.fld (.root 0) "Machine" "stack") (.cons (.opN fTup (.cons (.view (.opN fLen (.cons (.op1 (fFld "Machine" "cells") (.var 0)) .nil))) .nil)) .nil)))
  (.cons (.expr (.mut 0 fAppend .nil (.fld (.root 0) "Machine" "cells") (.cons (.opN fTup (.cons (.var 1) (.cons (.var 4) (.cons (.var 3) (.cons (.var 2) (.cons (.var 5) .nil)))))) .nil)))
  .nil))))))))⟩
def fn7 : Fn := ⟨2, 4, [0],
  (.cons (.set (.one 2) (.mut 0 fPop .nil (.fld (.root 0) "Machine" "stack") .nil))
  (.cons (.ite (.op2 fIsN (.var 2) (.con .non)) (.cons (.raise "Empty")
  .nil) .nil)
  (.cons (.set (.one 3) (.meth false "Machine" "cell_at" 3 (.root 0) (.val (.var 2) .nil)))
  (.cons (.expr (.mut 0 fAppend .nil (.fld (.root 0) "Machine" "log") (.cons (.opN fTup (.cons (.con (.str "look")) (.cons (.op2 fIx (.var 3) (.con (.int 3))) .nil))) .nil)))
  (.cons (.ite (.op2 (inD false) (.var 1) (.opN fTup (.cons (.con (.str "first")) (.cons (.con (.str "head")) .nil)))) (.cons (.expr (.mut 0 fAppend .nil (.fld (.root 0) "Machine" "stack") (.cons (.op2 fIx (.var 3) (.con (.int 1))) .nil)))
  .nil) (.cons (.expr (.mut 0 fAppend .nil (.fld (.root 0) "Machine" "stack") (.cons (.op2 fIx (.var 3) (.con (.int 2))) .nil)))
  .nil))
  .nil)))))⟩
def fn8 : Fn := ⟨4, 8, [0],
  (.cons (.set (.one 4) (.view (.op2 fSub (.opN fLen (.cons (.op1 (fFld "Machine" "stack") (.var 0)) .nil)) (.var 2))))
  (.cons (.set (.one 5) (.own (.viewF (.opN fSlL (.cons (.op1 (fFld "Machine" "stack") (.var 0)) (.cons (.op1 fI (.var 4)) (.cons (.con .non) .nil)))))))
  (.cons (.expr (.mut 2 (fSetFld "Machine" "stack") (.cons (.own (.viewF (.opN fSlL (.cons (.op1 (fFld "Machine" "stack") (.var 0)) (.cons (.con .non) (.cons (.op1 fI (.var 4)) .nil)))))) .nil) (.root 0) .nil))
  (.cons (.ite (.op2 fGe (.pth (.fld (.root 0) "Machine" "calls")) (.pth (.fld (.root 0) "Machine" "most"))) (.cons (.raise "TooLong")
  .nil) .nil)
  (.cons (.ite (.view (.op2 fGt (.opN fLen (.cons (.op1 (fFld "Machine" "frames") (.var 0)) .nil)) (.con (.int 12)))) (.cons (.raise "TooDeep")
  .nil) .nil)
  (.cons (.expr (.mut 2 (fAugFld "Machine" "calls" (· + ·) 1) .nil (.root 0) .nil))
  (.cons (.set (.one 6) (.own (.comp false [7] (.one 7) fSeq (.cons (.var 3) .nil) (.con (.bl true)) (.pth (.idx (.fld (.idx (.fld (.root 0) "Machine" "frames") (.op1 fNeg (.con (.int 1)))) "Frame" "fields") (.var 7))))))
  (.cons (.expr (.mutT 0 fAppend (.fld (.root 0) "Machine" "frames") (.new "Frame" 0 (.val (.mov 5) (.val (.mov 6) (.val (.pth (.fld (.root 0) "Machine" "at")) .nil))))))
  (.cons (.expr (.mut 2 (fSetFld "Machine" "at") (.cons (.var 1) .nil) (.root 0) .nil))
  .nil)))))))))⟩
def fn9 : Fn := ⟨2, 4, [0],
  (.cons (.ite (.op2 fIsN (.var 1) (.con .non)) (.cons (.ret (.opN fLst .nil))
  .nil) .nil)
  (.cons (.ite (.op1 fNot (.op1 (fIsi "tuple") (.var 1))) (.cons (.ret (.var 1))
  .nil) .nil)
  (.cons (.ite (.op2 fEq (.op2 fIx (.meth false "Machine" "cell_at" 3 (.root 0) (.val (.var 1) .nil)) (.con (.int 0))) (.con (.str "pair"))) (.cons (.set (.one 3) (.meth false "Machine" "cell_at" 3 (.root 0) (.val (.var 1) .nil)))
  (.cons (.ret (.opN fTup (.cons (.meth false "Machine" "told" 9 (.root 0) (.val (.op2 fIx (.var 3) (.con (.int 1))) .nil)) (.cons (.meth false "Machine" "told" 9 (.root 0) (.val (.op2 fIx (.var 3) (.con (.int 2))) .nil)) .nil))))
  .nil)) .nil)
  (.cons (.set (.one 2) (.own (.opN fLst .nil)))
  (.cons (.wh w9_0c w9_0b)
  (.cons (.ret (.mov 2))
  .nil))))))⟩
def fn10 : Fn := ⟨2, 4, [0],
  (.cons (.set (.one 2) (.op2 fIx (.var 1) (.con (.int 0))))
  (.cons (.nick (.con (.bl true)) 3 (.idx (.fld (.root 0) "Machine" "frames") (.op1 fNeg (.con (.int 1))))
  (.cons (.ite (.op2 fEq (.var 2) (.con (.str "number"))) (.cons (.expr (.mut 0 fAppend .nil (.fld (.root 0) "Machine" "stack") (.cons (.op2 fIx (.var 1) (.con (.int 1))) .nil)))
  .nil) (.cons (.ite (.op2 fEq (.var 2) (.con (.str "local"))) (.cons (.expr (.mut 0 fAppend .nil (.fld (.root 0) "Machine" "stack") (.cons (.pth (.idx (.fld (.root 3) "Frame" "held") (.op2 fIx (.var 1) (.con (.int 1))))) .nil)))
  .nil) (.cons (.ite (.op2 fEq (.var 2) (.con (.str "keep"))) (.cons (.expr (.mutA 0 fAppend 3 (.fld (.root 3) "Frame" "held") (.mut 0 fPop .nil (.fld (.root 0) "Machine" "stack") .nil)))
  .nil) (.cons (.ite (.op2 fEq (.var 2) (.con (.str "drop"))) (.cons (.expr (.mut 0 fPop .nil (.fld (.root 3) "Frame" "held") .nil))
  .nil) (.cons (.ite (.op2 fEq (.var 2) (.con (.str "nil"))) (.cons (.expr (.mut 0 fAppend .nil (.fld (.root 0) "Machine" "stack") (.cons (.con .non) .nil)))
  .nil) (.cons (.ite (.op2 fEq (.var 2) (.con (.str "none"))) (.cons (.expr (.mut 0 fPopNone .nil (.fld (.root 0) "Machine" "stack") .nil))
  .nil) (.cons (.ite (.or (.op2 fEq (.var 2) (.con (.str "jump"))) (.op2 fEq (.mut 0 fPop .nil (.fld (.root 0) "Machine" "stack") .nil) (.con (.int 0)))) (.cons (.expr (.mut 2 (fSetFld "Machine" "at") (.cons (.op2 fIx (.var 1) (.con (.int 1))) .nil) (.root 0) .nil))
  .nil) .nil)
  .nil))
  .nil))
  .nil))
  .nil))
  .nil))
  .nil))
  .nil)) .nil))⟩
def fn11 : Fn := ⟨2, 4, [0],
  (.cons (.nick (.op2 fNe (.op2 fIx (.var 1) (.con (.int 0))) (.con (.str "call"))) 2 (.idx (.fld (.root 0) "Machine" "frames") (.op1 fNeg (.con (.int 1))))
  (.cons (.ite (.op2 fEq (.op2 fIx (.var 1) (.con (.int 0))) (.con (.str "open"))) (.cons (.expr (.mutA 0 fAppend 2 (.fld (.root 2) "Frame" "fields") (.meth true "Machine" "one_more" 2 (.root 0) .nil)))
  .nil) (.cons (.ite (.op2 fEq (.op2 fIx (.var 1) (.con (.int 0))) (.con (.str "shut"))) (.cons (.set (.one 3) (.mut 0 fPop .nil (.fld (.root 2) "Frame" "fields") .nil))
  (.cons (.expr (.mut 0 fRemove .nil (.fld (.root 0) "Machine" "pile") (.cons (.var 3) .nil)))
  (.cons (.expr (.mut 0 fAppend .nil (.fld (.root 0) "Machine" "log") (.cons (.opN fTup (.cons (.con (.str "shut")) (.cons (.var 3) .nil))) .nil)))
  .nil))) (.cons (.ite (.op2 fEq (.op2 fIx (.var 1) (.con (.int 0))) (.con (.str "call"))) (.cons (.expr (.meth false "Machine" "call" 8 (.root 0) (.val (.op2 fIx (.var 1) (.con (.int 1))) (.val (.op2 fIx (.var 1) (.con (.int 2))) (.val (.op2 fIx (.var 1) (.con (.int 3))) .nil)))))
  .nil) (.cons (.expr (.mut 0 fPop .nil (.fld (.root 0) "Machine" "frames") .nil))
  (.cons (.expr (.mut 2 (fSetFld "Machine" "at") (.cons (.pth (.fld (.root 2) "Frame" "back")) .nil) (.root 0) .nil))
  .nil)))
  .nil))
  .nil))
  .nil)) .nil)⟩
def fn12 : Fn := ⟨2, 3, [0],
  (.cons (.set (.one 2) (.op2 fIx (.var 1) (.con (.int 0))))
  (.cons (.ite (.op2 (inD false) (.var 2) (.opN fTup (.cons (.con (.str "plus")) (.cons (.con (.str "minus")) (.cons (.con (.str "times")) (.cons (.con (.str "less")) .nil)))))) (.cons (.expr (.meth false "Machine" "reckon" 5 (.root 0) (.val (.var 2) .nil)))
  .nil) (.cons (.ite (.op2 (inD false) (.var 2) (.opN fTup (.cons (.con (.str "pair")) (.cons (.con (.str "cons")) .nil)))) (.cons (.expr (.meth false "Machine" "lay" 6 (.root 0) (.val (.var 2) (.val (.pth (.idx (.fld (.idx (.fld (.root 0) "Machine" "frames") (.op1 fNeg (.con (.int 1)))) "Frame" "fields") (.op2 fIx (.var 1) (.con (.int 1))))) .nil))))
  .nil) (.cons (.ite (.op2 (inD false) (.var 2) (.opN fTup (.cons (.con (.str "first")) (.cons (.con (.str "second")) (.cons (.con (.str "head")) (.cons (.con (.str "tail")) .nil)))))) (.cons (.expr (.meth false "Machine" "look" 7 (.root 0) (.val (.var 2) .nil)))
  .nil) (.cons (.ite (.op2 (inD false) (.var 2) (.opN fTup (.cons (.con (.str "open")) (.cons (.con (.str "shut")) (.cons (.con (.str "call")) (.cons (.con (.str "back")) .nil)))))) (.cons (.expr (.call false 11 (.ref (.root 0) (.val (.var 1) .nil))))
  .nil) (.cons (.expr (.call false 10 (.ref (.root 0) (.val (.var 1) .nil))))
  .nil))
  .nil))
  .nil))
  .nil))
  .nil))⟩
def fn13 : Fn := ⟨3, 7, [],
  (.cons (.set (.one 3) (.new "Machine" 1 (.val (.var 0) (.val (.var 1) (.val (.var 2) .nil)))))
  (.cons (.wh w13_0c w13_0b)
  (.cons (.set (.one 4) (.meth false "Machine" "told" 9 (.root 3) (.val (.mut 0 fPop .nil (.fld (.root 3) "Machine" "stack") .nil) .nil)))
  (.cons (.for_ (.one 5) fRangeD (.cons (.op2 fSub (.pth (.fld (.root 3) "Machine" "outer")) (.con (.int 1))) (.cons (.op1 fNeg (.con (.int 1))) (.cons (.op1 fNeg (.con (.int 1))) .nil))) w13_1b)
  (.cons (.ret (.mt (.cons (.var 4) (.cons (.movP (.fld (.root 3) "Machine" "log")) .nil))))
  .nil)))))⟩
def fn14 : Fn := ⟨1, 1, [],
  (.cons (.ret (.op2 fMod (.op2 fMul (.op2 fMul (.op2 fAddX (.op2 fMod (.var 0) (.con (.int 2147483647))) (.con (.int 11))) (.con (.int 48271))) (.con (.int 69621))) (.con (.int 2147483629))))
  .nil)⟩
def fn15 : Fn := ⟨2, 2, [],
  (.cons (.ite (.op2 fLt (.var 1) (.opN fLen (.cons (.var 0) .nil))) (.cons (.ret (.call false 14 (.val (.op2 fIx (.var 0) (.var 1)) .nil)))
  .nil) .nil)
  (.cons (.ret (.call false 14 (.val (.var 1) .nil)))
  .nil))⟩
def fn16 : Fn := ⟨1, 3, [],
  (.cons (.set (.one 1) (.op2 fMul (.op2 fMul (.var 0) (.var 0)) (.var 0)))
  (.cons (.set (.one 2) (.op2 fMod (.op2 fMul (.op2 fMul (.var 1) (.var 1)) (.var 0)) (.op2 fPow (.con (.int 10)) (.con (.int 60)))))
  (.cons (.ret (.op2 fIx (.opN fLst (.cons (.op2 fSub (.op2 fMod (.var 0) (.con (.int 7))) (.con (.int 2))) (.cons (.var 2) (.cons (.op2 fSub (.con (.int 0)) (.var 2)) (.cons (.op2 fMod (.var 0) (.con (.int 1000))) .nil))))) (.op2 fMod (.op2 fDivW (.var 0) (.con (.int 7))) (.con (.int 4)))))
  .nil)))⟩
def fn17 : Fn := ⟨3, 3, [],
  (.cons (.ite (.op2 fEq (.var 0) (.con (.str "plus"))) (.cons (.ret (.op2 fAddX (.var 1) (.var 2)))
  .nil) .nil)
  (.cons (.ite (.op2 fEq (.var 0) (.con (.str "minus"))) (.cons (.ret (.op2 fSub (.var 1) (.var 2)))
  .nil) .nil)
  (.cons (.ite (.op2 fEq (.var 0) (.con (.str "times"))) (.cons (.ret (.op2 fMul (.var 1) (.var 2)))
  .nil) .nil)
  (.cons (.ret (.opN fInt (.cons (.op2 fLt (.var 1) (.var 2)) .nil)))
  .nil))))⟩
def fn18 : Fn := ⟨3, 5, [0, 1],
  (.cons (.expr (.mut 0 fAppend .nil (.root 0) (.cons (.opN fTup (.cons (.var 2) .nil)) .nil)))
  (.cons (.set (.one 3) (.mut 0 fPop .nil (.root 1) .nil))
  (.cons (.set (.one 4) (.mut 0 fPop .nil (.root 1) .nil))
  (.cons (.expr (.mut 0 fAppend .nil (.root 1) (.cons (.call false 17 (.val (.var 2) (.val (.var 4) (.val (.var 3) .nil)))) .nil)))
  .nil))))⟩
def fn19 : Fn := ⟨3, 6, [0, 1],
  (.cons (.set (.one 3) (.op2 fAddX (.con (.int 1)) (.op2 fMod (.var 2) (.con (.int 3)))))
  (.cons (.ite (.op2 fEq (.op2 fMod (.op2 fDivW (.var 2) (.con (.int 3))) (.con (.int 2))) (.con (.int 0))) (.cons (.expr (.mut 0 fAppend .nil (.root 0) (.cons (.opN fTup (.cons (.con (.str "jump")) (.cons (.view (.op2 fAddX (.op2 fAddX (.opN fLen (.cons (.var 0) .nil)) (.con (.int 1))) (.var 3))) .nil))) .nil)))
  (.cons (.for_ (.one 5) fRange1 (.cons (.var 3) .nil) w19_0b)
  (.cons (.ret (.con .non))
  .nil))) .nil)
  (.cons (.set (.one 4) (.op2 fMod (.op2 fDivW (.var 2) (.con (.int 6))) (.con (.int 3))))
  (.cons (.expr (.mut 0 fAppend .nil (.root 0) (.cons (.opN fTup (.cons (.con (.str "number")) (.cons (.var 4) .nil))) .nil)))
  (.cons (.expr (.mut 0 fAppend .nil (.root 0) (.cons (.opN fTup (.cons (.con (.str "unless")) (.cons (.view (.op2 fAddX (.opN fLen (.cons (.var 0) .nil)) (.con (.int 2)))) .nil))) .nil)))
  (.cons (.expr (.mut 0 fAppend .nil (.root 0) (.cons (.opN fTup (.cons (.con (.str "number")) (.cons (.con (.int 5)) .nil))) .nil)))
  (.cons (.ite (.op2 fNe (.var 4) (.con (.int 0))) (.cons (.expr (.mut 0 fAppend .nil (.root 1) (.cons (.con (.int 5)) .nil)))
  .nil) .nil)
  (.cons (.ret (.con .non))
  .nil))))))))⟩
def fn20 : Fn := ⟨4, 6, [0, 1, 2],
  (.cons (.set (.one 4) (.op2 fMod (.var 3) (.con (.int 12))))
  (.cons (.set (.one 5) (.op2 fDivW (.var 3) (.con (.int 12))))
  (.cons (.ite (.view (.and (.op2 fEq (.var 4) (.con (.int 2))) (.op2 fGt (.opN fLen (.cons (.var 2) .nil)) (.con (.int 0))))) (.cons (.expr (.mut 0 fAppend .nil (.root 0) (.cons (.opN fTup (.cons (.con (.str "local")) (.cons (.view (.op2 fMod (.var 5) (.opN fLen (.cons (.var 2) .nil)))) .nil))) .nil)))
  (.cons (.expr (.mut 0 fAppend .nil (.root 1) (.cons (.view (.op2 fIx (.var 2) (.op2 fMod (.var 5) (.opN fLen (.cons (.var 2) .nil))))) .nil)))
  .nil)) (.cons (.ite (.view (.and (.op2 fEq (.var 4) (.con (.int 3))) (.op2 fGt (.opN fLen (.cons (.var 1) .nil)) (.con (.int 0))))) (.cons (.expr (.mut 0 fAppend .nil (.root 0) (.cons (.opN fTup (.cons (.con (.str "keep")) .nil)) .nil)))
  (.cons (.expr (.mut 0 fAppend .nil (.root 2) (.cons (.mut 0 fPop .nil (.root 1) .nil) .nil)))
  .nil)) (.cons (.ite (.view (.and (.op2 fEq (.var 4) (.con (.int 4))) (.op2 fGt (.opN fLen (.cons (.var 2) .nil)) (.con (.int 0))))) (.cons (.expr (.mut 0 fAppend .nil (.root 0) (.cons (.opN fTup (.cons (.con (.str "drop")) .nil)) .nil)))
  (.cons (.expr (.mut 0 fPop .nil (.root 2) .nil))
  .nil)) (.cons (.ite (.view (.and (.op2 fGt (.var 4) (.con (.int 4))) (.and (.op2 fLt (.var 4) (.con (.int 9))) (.op2 fGt (.opN fLen (.cons (.var 1) .nil)) (.con (.int 1)))))) (.cons (.expr (.call false 18 (.ref (.root 0) (.ref (.root 1) (.val (.op2 fIx (.opN fLst (.cons (.con (.str "plus")) (.cons (.con (.str "minus")) (.cons (.con (.str "times")) (.cons (.con (.str "less")) .nil))))) (.op2 fSub (.var 4) (.con (.int 5)))) .nil)))))
  .nil) (.cons (.ite (.op2 fEq (.var 4) (.con (.int 9))) (.cons (.expr (.mut 0 fAppend .nil (.root 0) (.cons (.opN fTup (.cons (.con (.str "nil")) .nil)) .nil)))
  (.cons (.expr (.mut 0 fAppend .nil (.root 0) (.cons (.opN fTup (.cons (.con (.str "none")) .nil)) .nil)))
  (.cons (.expr (.mut 0 fAppend .nil (.root 1) (.cons (.con (.int 1)) .nil)))
  .nil))) (.cons (.ite (.op2 fGt (.var 4) (.con (.int 9))) (.cons (.expr (.call false 19 (.ref (.root 0) (.ref (.root 1) (.val (.var 5) .nil)))))
  .nil) (.cons (.expr (.mut 0 fAppend .nil (.root 0) (.cons (.opN fTup (.cons (.con (.str "number")) (.cons (.call false 16 (.val (.var 5) .nil)) .nil))) .nil)))
  (.cons (.expr (.mut 0 fAppend .nil (.root 1) (.cons (.call false 16 (.val (.var 5) .nil)) .nil)))
  .nil)))
  .nil))
  .nil))
  .nil))
  .nil))
  .nil))
  .nil)))⟩
def fn21 : Fn := ⟨2, 4, [],
  (.cons (.set (.one 2) (.con (.str "")))
  (.cons (.set (.one 3) (.con .non))
  (.cons (.try_ w21_0b (.cons "TooGreat" none (.cons (.set (.one 2) (.con (.str "great")))
  .nil) (.cons "GateError" none (.cons (.set (.one 2) (.con (.str "other")))
  .nil) .nil)))
  (.cons (.ret (.mt (.cons (.var 2) (.cons (.mov 3) .nil))))
  .nil))))⟩
def fn22 : Fn := ⟨1, 17, [],
  (.cons (.set (.one 1) (.op2 fMul (.con (.int 6)) (.opN fInt (.cons (.op2 fEq (.op2 fMod (.op2 fDivW (.call false 15 (.val (.var 0) (.val (.con (.int 0)) .nil))) (.con (.int 3))) (.con (.int 8))) (.con (.int 3))) .nil))))
  (.cons (.set (.one 2) (.op2 fAddX (.var 1) (.op2 fMod (.call false 15 (.val (.var 0) (.val (.con (.int 0)) .nil))) (.con (.int 3)))))
  (.cons (.set (.one 3) (.own (.comp false [15] (.one 15) fRange1 (.cons (.op2 fMod (.call false 15 (.val (.var 0) (.val (.con (.int 1)) .nil))) (.con (.int 4))) .nil) (.con (.bl true)) (.op2 fIx (.opN fLst (.cons (.opN fTup (.cons (.con (.str "back")) .nil)) (.cons (.opN fTup (.cons (.con (.str "drop")) .nil)) (.cons (.opN fTup (.cons (.con (.str "shut")) .nil)) .nil)))) (.op2 fMod (.var 15) (.con (.int 3)))))))
  (.cons (.set (.one 4) (.view (.opN fLen (.cons (.var 3) .nil))))
  (.cons (.set (.one 5) (.comp false [15] (.one 15) fRange1 (.cons (.op2 fAddX (.var 1) (.op2 fMod (.op2 fDivW (.call false 15 (.val (.var 0) (.val (.con (.int 1)) .nil))) (.con (.int 4))) (.con (.int 4)))) .nil) (.con (.bl true)) (.call false 16 (.val (.call false 15 (.val (.var 0) (.val (.op2 fAddX (.con (.int 2)) (.var 15)) .nil))) .nil))))
  (.cons (.set (.one 6) (.own (.opN fList (.cons (.var 5) .nil))))
  (.cons (.set (.one 7) (.own (.opN fLst .nil)))
  (.cons (.set (.one 8) (.con (.bl false)))
  (.cons (.for_ (.one 9) fSeq (.cons (.opN fSlL (.cons (.var 0) (.cons (.op1 fI (.con (.int 5))) (.cons (.op1 fI (.con (.int 45))) .nil)))) .nil) w22_0b)
  (.cons (.wh w22_1c w22_1b)
  (.cons (.ite (.view (.op2 fEq (.opN fLen (.cons (.var 7) .nil)) (.con (.int 0)))) (.cons (.expr (.mut 0 fAppend .nil (.root 3) (.cons (.opN fTup (.cons (.con (.str "number")) (.cons (.con (.int 0)) .nil))) .nil)))
  (.cons (.expr (.mut 0 fAppend .nil (.root 7) (.cons (.con (.int 0)) .nil)))
  .nil)) .nil)
  (.cons (.expr (.mut 0 fAppend .nil (.root 3) (.cons (.opN fTup (.cons (.con (.str "back")) .nil)) .nil)))
  (.cons (.frz 3 (.set (.one 10) (.opN fTup (.cons (.opN fList (.cons (.var 3) .nil)) (.cons (.var 4) (.cons (.var 2) .nil))))))
  (.cons (.set (.one 11) (.opN fList (.cons (.var 5) .nil)))
  (.cons (.set (.many [13, 14]) (.call true 21 (.val (.var 10) (.val (.var 11) .nil))))
  (.cons (.ite (.or (.op2 fNe (.var 10) (.opN fTup (.cons (.var 3) (.cons (.var 4) (.cons (.var 2) .nil))))) (.op2 fNe (.var 11) (.var 5))) (.cons (.ret (.con (.bl false)))
  .nil) .nil)
  (.cons (.ite (.var 8) (.cons (.ret (.op2 fEq (.var 13) (.con (.str "great"))))
  .nil) .nil)
  (.cons (.set (.one 12) (.op2 fAddX (.comp false [15] (.one 15) fRange1 (.cons (.var 2) .nil) (.con (.bl true)) (.opN fTup (.cons (.con (.str "open")) (.cons (.var 15) .nil)))) (.comp false [15] (.one 15) fRange1 (.cons (.var 2) .nil) (.con (.bl true)) (.opN fTup (.cons (.con (.str "shut")) (.cons (.op2 fSub (.op2 fSub (.var 2) (.con (.int 1))) (.var 15)) .nil))))))
  (.cons (.ite (.view (.or (.op2 fNe (.var 13) (.con (.str ""))) (.or (.op1 fNot (.op1 (fIsi "tuple") (.var 14))) (.op2 fNe (.var 14) (.opN fTup (.cons (.op2 fIx (.var 7) (.con (.int 0))) (.cons (.var 12) .nil))))))) (.cons (.ret (.con (.bl false)))
  .nil) .nil)
  (.cons (.ite (.view (.or (.op1 fNot (.op1 (fIsi "int") (.op2 fIx (.var 14) (.con (.int 0))))) (.or (.op1 (fIsi "bool") (.op2 fIx (.var 14) (.con (.int 0)))) (.op1 fNot (.op1 (fIsi "list") (.op2 fIx (.var 14) (.con (.int 1)))))))) (.cons (.ret (.con (.bl false)))
  .nil) .nil)
  (.cons (.expr (.mut 0 fAppend .nil (.idx (.root 14) (.con (.int 1))) (.cons (.con (.int 0)) .nil)))
  (.cons (.ret (.op2 fEq (.call false 21 (.val (.var 10) (.val (.var 11) .nil))) (.opN fTup (.cons (.con (.str "")) (.cons (.opN fTup (.cons (.pth (.idx (.root 7) (.con (.int 0)))) (.cons (.var 12) .nil))) .nil)))))
  .nil))))))))))))))))))))))⟩
def tab : Nat → Option Fn
  | 0 => some fn0
  | 1 => some fn1
  | 2 => some fn2
  | 3 => some fn3
  | 4 => some fn4
  | 5 => some fn5
  | 6 => some fn6
  | 7 => some fn7
  | 8 => some fn8
  | 9 => some fn9
  | 10 => some fn10
  | 11 => some fn11
  | 12 => some fn12
  | 13 => some fn13
  | 14 => some fn14
  | 15 => some fn15
  | 16 => some fn16
  | 17 => some fn17
  | 18 => some fn18
  | 19 => some fn19
  | 20 => some fn20
  | 21 => some fn21
  | 22 => some fn22
  | _ => none
def psOf : Nat → List Str
  | 0 => ["self", "held", "fields", "back"]
  | 1 => ["self", "code", "numbers", "most"]
  | 2 => ["self"]
  | 3 => ["self", "value"]
  | 4 => ["self", "value"]
  | 5 => ["self", "word"]
  | 6 => ["self", "word", "field"]
  | 7 => ["self", "word"]
  | 8 => ["self", "to", "many", "handed"]
  | 9 => ["self", "value"]
  | 10 => ["machine", "row"]
  | 11 => ["machine", "row"]
  | 12 => ["machine", "row"]
  | 13 => ["code", "numbers", "most"]
  | 14 => ["cell"]
  | 15 => ["script", "k"]
  | 16 => ["number"]
  | 17 => ["word", "one", "other"]
  | 18 => ["rows", "values", "word"]
  | 19 => ["rows", "values", "number"]
  | 20 => ["rows", "values", "held", "number"]
  | 21 => ["code", "numbers"]
  | 22 => ["script"]
  | _ => []
def exN : List Str := ["GateError", "TooGreat", "Empty", "TooLong", "TooDeep", "Gone"]
def exR : List (Str × Str) := [("TooGreat", "GateError"), ("Empty", "GateError"), ("TooLong", "GateError"), ("TooDeep", "GateError"), ("Gone", "GateError")]
def sub : Str → Str → Bool := subOf exN exR
structure Txt (K : PySem.W.Frag) (mg : Str → Option Value) (A : Nat → Addr) (Dd : Nat → FuncData) (AC : Nat → Addr) : Prop where
  f0 : Fun K "__init__" "Frame.__init__" s0 (A 0) (Dd 0)
  b0 : Binds K (Dd 0) ["self", "held", "fields", "back"] []
  f1 : Fun K "__init__" "Machine.__init__" s1 (A 1) (Dd 1)
  b1 : Binds K (Dd 1) ["self", "code", "numbers", "most"] []
  f2 : Fun K "one_more" "Machine.one_more" s2 (A 2) (Dd 2)
  b2 : Binds K (Dd 2) ["self"] []
  mt2 : Meth K (AC 1) "one_more" (A 2)
  f3 : Fun K "cell_at" "Machine.cell_at" s3 (A 3) (Dd 3)
  b3 : Binds K (Dd 3) ["self", "value"] []
  mt3 : Meth K (AC 1) "cell_at" (A 3)
  f4 : Fun K "size_of" "Machine.size_of" s4 (A 4) (Dd 4)
  b4 : Binds K (Dd 4) ["self", "value"] []
  mt4 : Meth K (AC 1) "size_of" (A 4)
  f5 : Fun K "reckon" "Machine.reckon" s5 (A 5) (Dd 5)
  b5 : Binds K (Dd 5) ["self", "word"] []
  mt5 : Meth K (AC 1) "reckon" (A 5)
  f6 : Fun K "lay" "Machine.lay" s6 (A 6) (Dd 6)
  b6 : Binds K (Dd 6) ["self", "word", "field"] []
  mt6 : Meth K (AC 1) "lay" (A 6)
  f7 : Fun K "look" "Machine.look" s7 (A 7) (Dd 7)
  b7 : Binds K (Dd 7) ["self", "word"] []
  mt7 : Meth K (AC 1) "look" (A 7)
  f8 : Fun K "call" "Machine.call" s8 (A 8) (Dd 8)
  b8 : Binds K (Dd 8) ["self", "to", "many", "handed"] []
  mt8 : Meth K (AC 1) "call" (A 8)
  f9 : Fun K "told" "Machine.told" s9 (A 9) (Dd 9)
  b9 : Binds K (Dd 9) ["self", "value"] []
  mt9 : Meth K (AC 1) "told" (A 9)
  f10 : Fun K "plain_row" "plain_row" s10 (A 10) (Dd 10)
  b10 : Binds K (Dd 10) ["machine", "row"] []
  m10 : mg "plain_row" = some (.ref (A 10))
  f11 : Fun K "gate_row" "gate_row" s11 (A 11) (Dd 11)
  b11 : Binds K (Dd 11) ["machine", "row"] []
  m11 : mg "gate_row" = some (.ref (A 11))
  f12 : Fun K "do_row" "do_row" s12 (A 12) (Dd 12)
  b12 : Binds K (Dd 12) ["machine", "row"] []
  m12 : mg "do_row" = some (.ref (A 12))
  f13 : FunD K "run" "run" (defArgs s13) (defBody s13) (defScope s13) [.int 200] [] (A 13) (Dd 13)
  bd13 : ∃ ds, Vals [.int 200] ds ∧ Binds K (Dd 13) ["code", "numbers", "most"] ds
  b13 : Binds K (Dd 13) ["code", "numbers", "most"] []
  m13 : mg "run" = some (.ref (A 13))
  f14 : Fun K "_law_mixed" "_law_mixed" s14 (A 14) (Dd 14)
  b14 : Binds K (Dd 14) ["cell"] []
  m14 : mg "_law_mixed" = some (.ref (A 14))
  f15 : Fun K "_law_cell_at" "_law_cell_at" s15 (A 15) (Dd 15)
  b15 : Binds K (Dd 15) ["script", "k"] []
  m15 : mg "_law_cell_at" = some (.ref (A 15))
  f16 : Fun K "_law_number" "_law_number" s16 (A 16) (Dd 16)
  b16 : Binds K (Dd 16) ["number"] []
  m16 : mg "_law_number" = some (.ref (A 16))
  f17 : Fun K "_law_reckoned" "_law_reckoned" s17 (A 17) (Dd 17)
  b17 : Binds K (Dd 17) ["word", "one", "other"] []
  m17 : mg "_law_reckoned" = some (.ref (A 17))
  f18 : Fun K "_law_two" "_law_two" s18 (A 18) (Dd 18)
  b18 : Binds K (Dd 18) ["rows", "values", "word"] []
  m18 : mg "_law_two" = some (.ref (A 18))
  f19 : Fun K "_law_leap" "_law_leap" s19 (A 19) (Dd 19)
  b19 : Binds K (Dd 19) ["rows", "values", "number"] []
  m19 : mg "_law_leap" = some (.ref (A 19))
  f20 : Fun K "_law_row" "_law_row" s20 (A 20) (Dd 20)
  b20 : Binds K (Dd 20) ["rows", "values", "held", "number"] []
  m20 : mg "_law_row" = some (.ref (A 20))
  f21 : Fun K "_law_ran" "_law_ran" s21 (A 21) (Dd 21)
  b21 : Binds K (Dd 21) ["code", "numbers"] []
  m21 : mg "_law_ran" = some (.ref (A 21))
  f22 : Fun K "law" "law" s22 (A 22) (Dd 22)
  b22 : Binds K (Dd 22) ["script"] []
  m22 : mg "law" = some (.ref (A 22))
  c0 : mg "Frame" = some (.ref (AC 0))
  cl0 : Cls K (AC 0)
  mk0 : Mk K (AC 0) (A 0)
  na0_back : NoAttr K (AC 0) "back"
  na0_fields : NoAttr K (AC 0) "fields"
  na0_held : NoAttr K (AC 0) "held"
  c1 : mg "Machine" = some (.ref (AC 1))
  cl1 : Cls K (AC 1)
  mk1 : Mk K (AC 1) (A 1)
  na1_at : NoAttr K (AC 1) "at"
  na1_calls : NoAttr K (AC 1) "calls"
  na1_cells : NoAttr K (AC 1) "cells"
  na1_frames : NoAttr K (AC 1) "frames"
  na1_log : NoAttr K (AC 1) "log"
  na1_most : NoAttr K (AC 1) "most"
  na1_opened : NoAttr K (AC 1) "opened"
  na1_outer : NoAttr K (AC 1) "outer"
  na1_pile : NoAttr K (AC 1) "pile"
  na1_rows : NoAttr K (AC 1) "rows"
  na1_stack : NoAttr K (AC 1) "stack"
  z_abs : mg "abs" = none
  z_bool : mg "bool" = none
  z_int : mg "int" = none
  z_isinstance : mg "isinstance" = none
  z_len : mg "len" = none
  z_list : mg "list" = none
  z_range : mg "range" = none
  z_tuple : mg "tuple" = none
  v_GREATEST : ∃ t, mg "GREATEST" = some (.int 1000000000000000000000000000000000000000000000000000000000000 t)
  v_MOST_DEEP : ∃ t, mg "MOST_DEEP" = some (.int 12 t)
  v_MOST_SIZE : ∃ t, mg "MOST_SIZE" = some (.int 1000 t)
  c2 : mg "GateError" = some (.ref (AC 2))
  xc2 : XCls K (AC 2)
  c3 : mg "TooGreat" = some (.ref (AC 3))
  xc3 : XCls K (AC 3)
  c4 : mg "Empty" = some (.ref (AC 4))
  xc4 : XCls K (AC 4)
  c5 : mg "TooLong" = some (.ref (AC 5))
  xc5 : XCls K (AC 5)
  c6 : mg "TooDeep" = some (.ref (AC 6))
  xc6 : XCls K (AC 6)
  c7 : mg "Gone" = some (.ref (AC 7))
  xc7 : XCls K (AC 7)
  so : SubOk K mg sub
section
variable {P : Program} {w : World} {K : PySem.W.Frag} {mg : Str → Option Value} {base : Heap} {A : Nat → Addr} {Dd : Nat → FuncData} {AC : Nat → Addr} {k NN : Nat}
theorem sc0 : FnScope ["self", "held", "fields", "back"] ["self", "held", "fields", "back"] (defScope s0) := ⟨rfl, rfl, rfl, by decide +kernel, rfl, by decide +kernel, by decide +kernel⟩
theorem sc1 : FnScope ["self", "code", "numbers", "most", "fields", "k"] ["self", "code", "numbers", "most"] (defScope s1) := ⟨rfl, rfl, rfl, by decide +kernel, rfl, by decide +kernel, by decide +kernel⟩
theorem sc2 : FnScope ["self", "number"] ["self"] (defScope s2) := ⟨rfl, rfl, rfl, by decide +kernel, rfl, by decide +kernel, by decide +kernel⟩
theorem sc3 : FnScope ["self", "value", "cell"] ["self", "value"] (defScope s3) := ⟨rfl, rfl, rfl, by decide +kernel, rfl, by decide +kernel, by decide +kernel⟩
theorem sc4 : FnScope ["self", "value"] ["self", "value"] (defScope s4) := ⟨rfl, rfl, rfl, by decide +kernel, rfl, by decide +kernel, by decide +kernel⟩
theorem sc5 : FnScope ["self", "word", "other", "one", "found"] ["self", "word"] (defScope s5) := ⟨rfl, rfl, rfl, by decide +kernel, rfl, by decide +kernel, by decide +kernel⟩
theorem sc6 : FnScope ["self", "word", "field", "other", "one", "size"] ["self", "word", "field"] (defScope s6) := ⟨rfl, rfl, rfl, by decide +kernel, rfl, by decide +kernel, by decide +kernel⟩
theorem sc7 : FnScope ["self", "word", "value", "cell"] ["self", "word"] (defScope s7) := ⟨rfl, rfl, rfl, by decide +kernel, rfl, by decide +kernel, by decide +kernel⟩
theorem sc8 : FnScope ["self", "to", "many", "handed", "at", "held", "fields", "number"] ["self", "to", "many", "handed"] (defScope s8) := ⟨rfl, rfl, rfl, by decide +kernel, rfl, by decide +kernel, by decide +kernel⟩
theorem sc9 : FnScope ["self", "value", "found", "cell"] ["self", "value"] (defScope s9) := ⟨rfl, rfl, rfl, by decide +kernel, rfl, by decide +kernel, by decide +kernel⟩
theorem sc10 : FnScope ["machine", "row", "word", "frame"] ["machine", "row"] (defScope s10) := ⟨rfl, rfl, rfl, by decide +kernel, rfl, by decide +kernel, by decide +kernel⟩
theorem sc11 : FnScope ["machine", "row", "frame", "number"] ["machine", "row"] (defScope s11) := ⟨rfl, rfl, rfl, by decide +kernel, rfl, by decide +kernel, by decide +kernel⟩
theorem sc12 : FnScope ["machine", "row", "word"] ["machine", "row"] (defScope s12) := ⟨rfl, rfl, rfl, by decide +kernel, rfl, by decide +kernel, by decide +kernel⟩
theorem sc13 : FnScope ["code", "numbers", "most", "machine", "value", "number", "row"] ["code", "numbers", "most"] (defScope s13) := ⟨rfl, rfl, rfl, by decide +kernel, rfl, by decide +kernel, by decide +kernel⟩
theorem sc14 : FnScope ["cell"] ["cell"] (defScope s14) := ⟨rfl, rfl, rfl, by decide +kernel, rfl, by decide +kernel, by decide +kernel⟩
theorem sc15 : FnScope ["script", "k"] ["script", "k"] (defScope s15) := ⟨rfl, rfl, rfl, by decide +kernel, rfl, by decide +kernel, by decide +kernel⟩
theorem sc16 : FnScope ["number", "third", "far"] ["number"] (defScope s16) := ⟨rfl, rfl, rfl, by decide +kernel, rfl, by decide +kernel, by decide +kernel⟩
theorem sc17 : FnScope ["word", "one", "other"] ["word", "one", "other"] (defScope s17) := ⟨rfl, rfl, rfl, by decide +kernel, rfl, by decide +kernel, by decide +kernel⟩
theorem sc18 : FnScope ["rows", "values", "word", "other", "one"] ["rows", "values", "word"] (defScope s18) := ⟨rfl, rfl, rfl, by decide +kernel, rfl, by decide +kernel, by decide +kernel⟩
theorem sc19 : FnScope ["rows", "values", "number", "many", "asked", "k"] ["rows", "values", "number"] (defScope s19) := ⟨rfl, rfl, rfl, by decide +kernel, rfl, by decide +kernel, by decide +kernel⟩
theorem sc20 : FnScope ["rows", "values", "held", "number", "deed", "more"] ["rows", "values", "held", "number"] (defScope s20) := ⟨rfl, rfl, rfl, by decide +kernel, rfl, by decide +kernel, by decide +kernel⟩
theorem sc21 : FnScope ["code", "numbers", "word", "found"] ["code", "numbers"] (defScope s21) := ⟨rfl, rfl, rfl, by decide +kernel, rfl, by decide +kernel, by decide +kernel⟩
theorem sc22 : FnScope ["script", "more", "outer", "rows", "begin", "numbers", "held", "values", "great", "cell", "code", "given", "due", "word", "found", "k", "value"] ["script"] (defScope s22) := ⟨rfl, rfl, rfl, by decide +kernel, rfl, by decide +kernel, by decide +kernel⟩
abbrev Gs (P : Program) (w : World) (K : PySem.W.Frag) (mg : Str → Option Value) (base : Heap) (A : Nat → Addr) (Dd : Nat → FuncData) (k NN : Nat) : Prop := ∀ g, FnOk P w K mg base (L2.CX P w) (2 * k) (A g) (Dd g) (psOf g) (spF K mg (callF sub tab NN k g))
theorem ok0 (T : Txt K mg A Dd AC) (G : Gs P w K mg base A Dd k NN) : FnOk P w K mg base (L2.CX P w) (2 * (k + 1)) (A 0) (Dd 0) ["self", "held", "fields", "back"] (spF K mg (callF sub tab NN (k + 1) 0)) := by
  have S := sc0
  refine fn_okX (k := 2 * k + 1) (fn := fn0) (C := callF sub tab NN k) (sub := sub) (NN := NN) (okx_of T.f0) S (fun ms => rfl) rfl rfl (by decide) fun cdv A0 outer s H E hr => ?_
  have hr0 := Room.mono hr (Nat.le_succ (2 * k))
  exact (mss_cons (ms_setFld T.c0 T.cl0 T.na0_held (mr 0) (mm 1))
  (mss_cons (ms_setFld T.c0 T.cl0 T.na0_fields (mr 0) (mm 2))
  (mss_cons (ms_setFld T.c0 T.cl0 T.na0_back (mr 0) (mv 3))
  mss_nil)))
theorem ok1 (T : Txt K mg A Dd AC) (G : Gs P w K mg base A Dd k NN) : FnOk P w K mg base (L2.CX P w) (2 * (k + 1)) (A 1) (Dd 1) ["self", "code", "numbers", "most"] (spF K mg (callF sub tab NN (k + 1) 1)) := by
  have S := sc1
  refine fn_okX (k := 2 * k + 1) (fn := fn1) (C := callF sub tab NN k) (sub := sub) (NN := NN) (okx_of T.f1) S (fun ms => rfl) rfl rfl (by decide) fun cdv A0 outer s H E hr => ?_
  have hr0 := Room.mono hr (Nat.le_succ (2 * k))
  exact (mss_cons (ms_setFld T.c1 T.cl1 T.na1_rows (mr 0) (me_ix ix_seq imp_ix (mv 1) me_int (fun _ _ => rfl)))
  (mss_cons (ms_setFld T.c1 T.cl1 T.na1_at (mr 0) (me_ix ix_seq imp_ix (mv 1) me_int (fun _ _ => rfl)))
  (mss_cons (ms_setFld T.c1 T.cl1 T.na1_outer (mr 0) (me_ix ix_seq imp_ix (mv 1) me_int (fun _ _ => rfl)))
  (mss_cons (ms_setFld T.c1 T.cl1 T.na1_most (mr 0) (mv 3))
  (mss_cons (ms_setFld T.c1 T.cl1 T.na1_calls (mr 0) me_int)
  (mss_cons (ms_setFld T.c1 T.cl1 T.na1_opened (mr 0) me_int)
  (mss_cons (ms_setFld T.c1 T.cl1 T.na1_pile (mr 0) (me_own (mf_lst mes_nil)))
  (mss_cons (ms_setFld T.c1 T.cl1 T.na1_cells (mr 0) (me_own (mf_lst mes_nil)))
  (mss_cons (ms_setFld T.c1 T.cl1 T.na1_stack (mr 0) (me_own (mf_lst mes_nil)))
  (mss_cons (ms_setFld T.c1 T.cl1 T.na1_log (mr 0) (me_own (mf_lst mes_nil)))
  (mss_cons (ms_setLc (by rfl) S.nd (by rfl) (by rfl) (sw_true (by rfl) (by rfl) (by rfl) (by rfl)) (mi_range1 (by rfl) T.z_range (mes_cons (me_ix ix_seq imp_ix (mv 1) me_int (fun _ _ => rfl)) mes_nil)) (own := [("k", 5)]) (blkOk_by (by rfl)) (fun s H C cl fp => (gn 5 S.nd)) (fun s H C cl fp => mts_nil) (fun s H C cl fp => (me_meth0 T.c1 T.cl1 T.mt2 (G 2) hr0 T.b2 (mr 0))) true)
  (mss_cons (ms_setFld T.c1 T.cl1 T.na1_frames (mr 0) (me_ml (mes_cons (me_new T.mk0 (G 0) hr rfl T.c0 T.b0 (mas_val (me_own (mf_ty call_list_of impN_list rfl T.z_list bt_list (mes_cons (mv 2) mes_nil))) (mas_val (mm 4) (mas_val me_non mas_nil)))) mes_nil)))
  mss_nil))))))))))))
theorem ok2 (T : Txt K mg A Dd AC) (G : Gs P w K mg base A Dd k NN) : FnOk P w K mg base (L2.CX P w) (2 * (k + 1)) (A 2) (Dd 2) ["self"] (spF K mg (callF sub tab NN (k + 1) 2)) := by
  have S := sc2
  refine fn_okX (k := 2 * k + 1) (fn := fn2) (C := callF sub tab NN k) (sub := sub) (NN := NN) (okx_of T.f2) S (fun ms => rfl) rfl rfl (by decide) fun cdv A0 outer s H E hr => ?_
  have hr0 := Room.mono hr (Nat.le_succ (2 * k))
  exact (mss_cons (ms_asg (me_pth (mp_fld T.c1 T.cl1 T.na1_opened (mr 0))) (gn 1 S.nd))
  (mss_cons (ms_fldaug T.c1 T.cl1 T.na1_opened in_add (mr 0))
  (mss_cons (ms_expr (me_bm PySem.F.plainAttrs_list PySem.F.slot_list_append PySem.F.type_list_append mt_append rfl mut_append (mp_fld T.c1 T.cl1 T.na1_pile (mr 0)) (mes_cons (mv 1) mes_nil)))
  (mss_cons (ms_expr (me_bm PySem.F.plainAttrs_list PySem.F.slot_list_append PySem.F.type_list_append mt_append rfl mut_append (mp_fld T.c1 T.cl1 T.na1_log (mr 0)) (mes_cons (me_tup (mes_cons me_str (mes_cons (mv 1) mes_nil))) mes_nil)))
  (mss_cons (ms_ret (mv 1))
  mss_nil)))))
theorem ok3 (T : Txt K mg A Dd AC) (G : Gs P w K mg base A Dd k NN) : FnOk P w K mg base (L2.CX P w) (2 * (k + 1)) (A 3) (Dd 3) ["self", "value"] (spF K mg (callF sub tab NN (k + 1) 3)) := by
  have S := sc3
  refine fn_okX (k := 2 * k + 1) (fn := fn3) (C := callF sub tab NN k) (sub := sub) (NN := NN) (okx_of T.f3) S (fun ms => rfl) rfl rfl (by decide) fun cdv A0 outer s H E hr => ?_
  have hr0 := Room.mono hr (Nat.le_succ (2 * k))
  exact (mss_cons (ms_asg (me_pth (mp_idx (mp_fld T.c1 T.cl1 T.na1_cells (mr 0)) (md_ix ix_seq imp_ix (dv 1) md_int (fun _ _ => rfl)) (fun _ _ => rfl))) (gn 2 S.nd))
  (mss_cons (ms_if (mt_view (mt_cmp op_notIn_seq imp_in (me_ix ix_seq imp_ix (mv 2) me_int (fun _ _ => rfl)) (me_fld T.c1 T.cl1 T.na1_pile (mv 0)) rfl)) (mss_cons (ms_raiseC (by rfl) T.xc7 T.c7 (by rfl))
  mss_nil) mss_nil)
  (mss_cons (ms_ret (mv 2))
  mss_nil)))
theorem ok4 (T : Txt K mg A Dd AC) (G : Gs P w K mg base A Dd k NN) : FnOk P w K mg base (L2.CX P w) (2 * (k + 1)) (A 4) (Dd 4) ["self", "value"] (spF K mg (callF sub tab NN (k + 1) 4)) := by
  have S := sc4
  refine fn_okX (k := 2 * k + 1) (fn := fn4) (C := callF sub tab NN k) (sub := sub) (NN := NN) (okx_of T.f4) S (fun ms => rfl) rfl rfl (by decide) fun cdv A0 outer s H E hr => ?_
  have hr0 := Room.mono hr (Nat.le_succ (2 * k))
  exact (mss_cons (ms_if (mt_val (me_isi (by rfl) T.z_isinstance (by rfl) T.z_tuple bt_tuple (mv 1))) (mss_cons (ms_ret (me_ix ix_seq imp_ix (me_pth (mp_idx (mp_fld T.c1 T.cl1 T.na1_cells (mr 0)) (md_ix ix_seq imp_ix (dv 1) md_int (fun _ _ => rfl)) (fun _ _ => rfl))) me_int (fun _ _ => rfl)))
  mss_nil) mss_nil)
  (mss_cons (ms_ret me_int)
  mss_nil))
theorem ok5 (T : Txt K mg A Dd AC) (G : Gs P w K mg base A Dd k NN) : FnOk P w K mg base (L2.CX P w) (2 * (k + 1)) (A 5) (Dd 5) ["self", "word"] (spF K mg (callF sub tab NN (k + 1) 5)) := by
  have S := sc5
  refine fn_okX (k := 2 * k + 1) (fn := fn5) (C := callF sub tab NN k) (sub := sub) (NN := NN) (okx_of T.f5) S (fun ms => rfl) rfl rfl (by decide) fun cdv A0 outer s H E hr => ?_
  have hr0 := Room.mono hr (Nat.le_succ (2 * k))
  exact (mss_cons (ms_asg (me_bm0 PySem.F.plainAttrs_list PySem.F.slot_list_pop PySem.F.type_list_pop mt_pop rfl mut_pop0 (mp_fld T.c1 T.cl1 T.na1_stack (mr 0))) (gn 2 S.nd))
  (mss_cons (ms_asg (me_bm0 PySem.F.plainAttrs_list PySem.F.slot_list_pop PySem.F.type_list_pop mt_pop rfl mut_pop0 (mp_fld T.c1 T.cl1 T.na1_stack (mr 0))) (gn 3 S.nd))
  (mss_cons (ms_asg (me_ty call_int1 imp_int rfl T.z_int bt_int (mes_cons (me_cmp op_lt imp_lt (mv 3) (mv 2) rfl) mes_nil)) (gn 4 S.nd))
  (mss_cons (ms_if (mt_cmp (op_eqA hr.units) imp_eq (mv 1) me_str rfl) (mss_cons (ms_asg (me_op op_addX imp_addX (mv 3) (mv 2)) (gn 4 S.nd))
  mss_nil) (mss_cons (ms_if (mt_cmp (op_eqA hr.units) imp_eq (mv 1) me_str rfl) (mss_cons (ms_asg (me_op op_sub imp_sub (mv 3) (mv 2)) (gn 4 S.nd))
  mss_nil) (mss_cons (ms_if (mt_cmp (op_eqA hr.units) imp_eq (mv 1) me_str rfl) (mss_cons (ms_asg (me_op op_mulA imp_mul (mv 3) (mv 2)) (gn 4 S.nd))
  mss_nil) mss_nil)
  mss_nil))
  mss_nil))
  (mss_cons (ms_if (mt_cmp op_ge imp_ge (me_bi call_abs imp_abs rfl T.z_abs bt_abs (mes_cons (mv 4) mes_nil)) (me_globI (by rfl) T.v_GREATEST) rfl) (mss_cons (ms_raiseC (by rfl) T.xc3 T.c3 (by rfl))
  mss_nil) mss_nil)
  (mss_cons (ms_expr (me_bm PySem.F.plainAttrs_list PySem.F.slot_list_append PySem.F.type_list_append mt_append rfl mut_append (mp_fld T.c1 T.cl1 T.na1_stack (mr 0)) (mes_cons (mv 4) mes_nil)))
  mss_nil))))))
theorem ok6 (T : Txt K mg A Dd AC) (G : Gs P w K mg base A Dd k NN) : FnOk P w K mg base (L2.CX P w) (2 * (k + 1)) (A 6) (Dd 6) ["self", "word", "field"] (spF K mg (callF sub tab NN (k + 1) 6)) := by
  have S := sc6
  refine fn_okX (k := 2 * k + 1) (fn := fn6) (C := callF sub tab NN k) (sub := sub) (NN := NN) (okx_of T.f6) S (fun ms => rfl) rfl rfl (by decide) fun cdv A0 outer s H E hr => ?_
  have hr0 := Room.mono hr (Nat.le_succ (2 * k))
  exact (mss_cons (ms_asg (me_bm0 PySem.F.plainAttrs_list PySem.F.slot_list_pop PySem.F.type_list_pop mt_pop rfl mut_pop0 (mp_fld T.c1 T.cl1 T.na1_stack (mr 0))) (gn 3 S.nd))
  (mss_cons (ms_asg (me_bm0 PySem.F.plainAttrs_list PySem.F.slot_list_pop PySem.F.type_list_pop mt_pop rfl mut_pop0 (mp_fld T.c1 T.cl1 T.na1_stack (mr 0))) (gn 4 S.nd))
  (mss_cons (ms_asg (me_op op_addX imp_addX (me_op op_addX imp_addX me_int (me_meth T.c1 T.cl1 T.mt4 (G 4) hr0 T.b4 (mr 0) (mas_val (mv 4) mas_nil))) (me_meth T.c1 T.cl1 T.mt4 (G 4) hr0 T.b4 (mr 0) (mas_val (mv 3) mas_nil))) (gn 5 S.nd))
  (mss_cons (ms_if (mt_cmp op_gt imp_gt (mv 5) (me_globI (by rfl) T.v_MOST_SIZE) rfl) (mss_cons (ms_raiseC (by rfl) T.xc3 T.c3 (by rfl))
  mss_nil) mss_nil)
  (mss_cons (ms_if (mt_view (mt_cmp op_notIn_seq imp_in (mv 2) (me_fld T.c1 T.cl1 T.na1_pile (mv 0)) rfl)) (mss_cons (ms_raiseC (by rfl) T.xc7 T.c7 (by rfl))
  mss_nil) mss_nil)
  (mss_cons (ms_expr (me_bm PySem.F.plainAttrs_list PySem.F.slot_list_append PySem.F.type_list_append mt_append rfl mut_append (mp_fld T.c1 T.cl1 T.na1_log (mr 0)) (mes_cons (me_tup (mes_cons me_str (mes_cons (mv 2) mes_nil))) mes_nil)))
  (mss_cons (ms_expr (me_bm PySem.F.plainAttrs_list PySem.F.slot_list_append PySem.F.type_list_append mt_append rfl mut_append (mp_fld T.c1 T.cl1 T.na1_stack (mr 0)) (mes_cons (me_tup (mes_cons (me_view (me_bi call_lenA imp_len rfl T.z_len bt_len (mes_cons (me_fld T.c1 T.cl1 T.na1_cells (mv 0)) mes_nil))) mes_nil)) mes_nil)))
  (mss_cons (ms_expr (me_bm PySem.F.plainAttrs_list PySem.F.slot_list_append PySem.F.type_list_append mt_append rfl mut_append (mp_fld T.c1 T.cl1 T.na1_cells (mr 0)) (mes_cons (me_tup (mes_cons (mv 1) (mes_cons (mv 4) (mes_cons (mv 3) (mes_cons (mv 2) (mes_cons (mv 5) mes_nil)))))) mes_nil)))
  mss_nil))))))))
theorem ok7 (T : Txt K mg A Dd AC) (G : Gs P w K mg base A Dd k NN) : FnOk P w K mg base (L2.CX P w) (2 * (k + 1)) (A 7) (Dd 7) ["self", "word"] (spF K mg (callF sub tab NN (k + 1) 7)) := by
  have S := sc7
  refine fn_okX (k := 2 * k + 1) (fn := fn7) (C := callF sub tab NN k) (sub := sub) (NN := NN) (okx_of T.f7) S (fun ms => rfl) rfl rfl (by decide) fun cdv A0 outer s H E hr => ?_
  have hr0 := Room.mono hr (Nat.le_succ (2 * k))
  exact (mss_cons (ms_asg (me_bm0 PySem.F.plainAttrs_list PySem.F.slot_list_pop PySem.F.type_list_pop mt_pop rfl mut_pop0 (mp_fld T.c1 T.cl1 T.na1_stack (mr 0))) (gn 2 S.nd))
  (mss_cons (ms_if (mt_cmp op_isN imp_isN (mv 2) me_non rfl) (mss_cons (ms_raiseC (by rfl) T.xc4 T.c4 (by rfl))
  mss_nil) mss_nil)
  (mss_cons (ms_asg (me_meth T.c1 T.cl1 T.mt3 (G 3) hr0 T.b3 (mr 0) (mas_val (mv 2) mas_nil)) (gn 3 S.nd))
  (mss_cons (ms_expr (me_bm PySem.F.plainAttrs_list PySem.F.slot_list_append PySem.F.type_list_append mt_append rfl mut_append (mp_fld T.c1 T.cl1 T.na1_log (mr 0)) (mes_cons (me_tup (mes_cons me_str (mes_cons (me_ix ix_seq imp_ix (mv 3) me_int (fun _ _ => rfl)) mes_nil))) mes_nil)))
  (mss_cons (ms_if (mt_cmp op_in_seq imp_in (mv 1) (me_tup (mes_cons me_str (mes_cons me_str mes_nil))) rfl) (mss_cons (ms_expr (me_bm PySem.F.plainAttrs_list PySem.F.slot_list_append PySem.F.type_list_append mt_append rfl mut_append (mp_fld T.c1 T.cl1 T.na1_stack (mr 0)) (mes_cons (me_ix ix_seq imp_ix (mv 3) me_int (fun _ _ => rfl)) mes_nil)))
  mss_nil) (mss_cons (ms_expr (me_bm PySem.F.plainAttrs_list PySem.F.slot_list_append PySem.F.type_list_append mt_append rfl mut_append (mp_fld T.c1 T.cl1 T.na1_stack (mr 0)) (mes_cons (me_ix ix_seq imp_ix (mv 3) me_int (fun _ _ => rfl)) mes_nil)))
  mss_nil))
  mss_nil)))))
theorem ok8 (T : Txt K mg A Dd AC) (G : Gs P w K mg base A Dd k NN) : FnOk P w K mg base (L2.CX P w) (2 * (k + 1)) (A 8) (Dd 8) ["self", "to", "many", "handed"] (spF K mg (callF sub tab NN (k + 1) 8)) := by
  have S := sc8
  refine fn_okX (k := 2 * k + 1) (fn := fn8) (C := callF sub tab NN k) (sub := sub) (NN := NN) (okx_of T.f8) S (fun ms => rfl) rfl rfl (by decide) fun cdv A0 outer s H E hr => ?_
  have hr0 := Room.mono hr (Nat.le_succ (2 * k))
  exact (mss_cons (ms_asg (me_view (me_op op_sub imp_sub (me_bi call_lenA imp_len rfl T.z_len bt_len (mes_cons (me_fld T.c1 T.cl1 T.na1_stack (mv 0)) mes_nil)) (mv 2))) (gn 4 S.nd))
  (mss_cons (ms_asg (me_own (mf_viewF (mf_slice (me_fld T.c1 T.cl1 T.na1_stack (mv 0)) (mo_some (mv 4)) mo_none))) (gn 5 S.nd))
  (mss_cons (ms_setFld T.c1 T.cl1 T.na1_stack (mr 0) (me_own (mf_viewF (mf_slice (me_fld T.c1 T.cl1 T.na1_stack (mv 0)) mo_none (mo_some (mv 4))))))
  (mss_cons (ms_if (mt_cmp op_ge imp_ge (me_pth (mp_fld T.c1 T.cl1 T.na1_calls (mr 0))) (me_pth (mp_fld T.c1 T.cl1 T.na1_most (mr 0))) rfl) (mss_cons (ms_raiseC (by rfl) T.xc5 T.c5 (by rfl))
  mss_nil) mss_nil)
  (mss_cons (ms_if (mt_view (mt_cmp op_gt imp_gt (me_bi call_lenA imp_len rfl T.z_len bt_len (mes_cons (me_fld T.c1 T.cl1 T.na1_frames (mv 0)) mes_nil)) (me_globI (by rfl) T.v_MOST_DEEP) rfl)) (mss_cons (ms_raiseC (by rfl) T.xc6 T.c6 (by rfl))
  mss_nil) mss_nil)
  (mss_cons (ms_fldaug T.c1 T.cl1 T.na1_calls in_add (mr 0))
  (mss_cons (ms_setLc (by rfl) S.nd (by rfl) (by rfl) (sw_true (by rfl) (by rfl) (by rfl) (by rfl)) (mi_list (mv 3)) (own := [("number", 7)]) (blkOk_by (by rfl)) (fun s H C cl fp => (gn 7 S.nd)) (fun s H C cl fp => mts_nil) (fun s H C cl fp => (me_pth (mp_idx (mp_fld T.c0 T.cl0 T.na0_fields (mp_idx (mp_fld T.c1 T.cl1 T.na1_frames (mr 0)) (md_un un_neg imp_neg md_int) (fun _ _ => rfl))) (dv 7) (fun _ _ => rfl)))) true)
  (mss_cons (ms_expr (me_mutT PySem.F.plainAttrs_list PySem.F.slot_list_append PySem.F.type_list_append mt_append rfl mut_append (mp_fld T.c1 T.cl1 T.na1_frames (mr 0)) (me_new T.mk0 (G 0) hr rfl T.c0 T.b0 (mas_val (mm 5) (mas_val (mm 6) (mas_val (me_pth (mp_fld T.c1 T.cl1 T.na1_at (mr 0))) mas_nil))))))
  (mss_cons (ms_setFld T.c1 T.cl1 T.na1_at (mr 0) (mv 1))
  mss_nil)))))))))
theorem ok9 (T : Txt K mg A Dd AC) (G : Gs P w K mg base A Dd k NN) : FnOk P w K mg base (L2.CX P w) (2 * (k + 1)) (A 9) (Dd 9) ["self", "value"] (spF K mg (callF sub tab NN (k + 1) 9)) := by
  have S := sc9
  refine fn_okX (k := 2 * k + 1) (fn := fn9) (C := callF sub tab NN k) (sub := sub) (NN := NN) (okx_of T.f9) S (fun ms => rfl) rfl rfl (by decide) fun cdv A0 outer s H E hr => ?_
  have hr0 := Room.mono hr (Nat.le_succ (2 * k))
  exact (mss_cons (ms_if (mt_cmp op_isN imp_isN (mv 1) me_non rfl) (mss_cons (ms_ret (MF.me (mf_lst mes_nil)))
  mss_nil) mss_nil)
  (mss_cons (ms_if (mt_not (mt_val (me_isi (by rfl) T.z_isinstance (by rfl) T.z_tuple bt_tuple (mv 1)))) (mss_cons (ms_ret (mv 1))
  mss_nil) mss_nil)
  (mss_cons (ms_if (mt_cmp (op_eqA hr.units) imp_eq (me_ix ix_seq imp_ix (me_meth T.c1 T.cl1 T.mt3 (G 3) hr0 T.b3 (mr 0) (mas_val (mv 1) mas_nil)) me_int (fun _ _ => rfl)) me_str rfl) (mss_cons (ms_asg (me_meth T.c1 T.cl1 T.mt3 (G 3) hr0 T.b3 (mr 0) (mas_val (mv 1) mas_nil)) (gn 3 S.nd))
  (mss_cons (ms_ret (me_tup (mes_cons (me_meth T.c1 T.cl1 T.mt9 (G 9) hr0 T.b9 (mr 0) (mas_val (me_ix ix_seq imp_ix (mv 3) me_int (fun _ _ => rfl)) mas_nil)) (mes_cons (me_meth T.c1 T.cl1 T.mt9 (G 9) hr0 T.b9 (mr 0) (mas_val (me_ix ix_seq imp_ix (mv 3) me_int (fun _ _ => rfl)) mas_nil)) mes_nil))))
  mss_nil)) mss_nil)
  (mss_cons (ms_asg (me_own (mf_lst mes_nil)) (gn 2 S.nd))
  (mss_cons (ms_while (fun _ _ => passes_of rfl) (mt_cmp op_notN imp_isNotN (mv 1) me_non rfl) (mss_cons (ms_asg (me_meth T.c1 T.cl1 T.mt3 (G 3) hr0 T.b3 (mr 0) (mas_val (mv 1) mas_nil)) (gn 3 S.nd))
  (mss_cons (ms_expr (me_bm PySem.F.plainAttrs_list PySem.F.slot_list_append PySem.F.type_list_append mt_append rfl mut_append (mr 2) (mes_cons (me_meth T.c1 T.cl1 T.mt9 (G 9) hr0 T.b9 (mr 0) (mas_val (me_ix ix_seq imp_ix (mv 3) me_int (fun _ _ => rfl)) mas_nil)) mes_nil)))
  (mss_cons (ms_asg (me_ix ix_seq imp_ix (mv 3) me_int (fun _ _ => rfl)) (gn 1 S.nd))
  mss_nil))))
  (mss_cons (ms_ret (mm 2))
  mss_nil))))))
theorem ok10 (T : Txt K mg A Dd AC) (G : Gs P w K mg base A Dd k NN) : FnOk P w K mg base (L2.CX P w) (2 * (k + 1)) (A 10) (Dd 10) ["machine", "row"] (spF K mg (callF sub tab NN (k + 1) 10)) := by
  have S := sc10
  refine fn_okX (k := 2 * k + 1) (fn := fn10) (C := callF sub tab NN k) (sub := sub) (NN := NN) (okx_of T.f10) S (fun ms => rfl) rfl rfl (by decide) fun cdv A0 outer s H E hr => ?_
  have hr0 := Room.mono hr (Nat.le_succ (2 * k))
  exact (mss_cons (ms_asg (me_ix ix_seq imp_ix (mv 1) me_int (fun _ _ => rfl)) (gn 2 S.nd))
  (mss_alias (mp_idx (mp_fld T.c1 T.cl1 T.na1_frames (mr 0)) (md_un un_neg imp_neg md_int) (fun _ _ => rfl)) S.nd (by rfl) (by first | exact Or.inl rfl | exact Or.inr rfl) (by first | exact .inl rfl | exact .inr rfl) (fun pin => (mss_cons (ms_if (mt_cmp (op_eqA hr.units) imp_eq (mv 2) me_str rfl) (mss_cons (ms_expr (me_bm PySem.F.plainAttrs_list PySem.F.slot_list_append PySem.F.type_list_append mt_append rfl mut_append (mp_fld T.c1 T.cl1 T.na1_stack (mr 0)) (mes_cons (me_ix ix_seq imp_ix (mv 1) me_int (fun _ _ => rfl)) mes_nil)))
  mss_nil) (mss_cons (ms_if (mt_cmp (op_eqA hr.units) imp_eq (mv 2) me_str rfl) (mss_cons (ms_expr (me_bm PySem.F.plainAttrs_list PySem.F.slot_list_append PySem.F.type_list_append mt_append rfl mut_append (mp_fld T.c1 T.cl1 T.na1_stack (mr 0)) (mes_cons (me_pth (mp_idx (mp_fld T.c0 T.cl0 T.na0_held (mr 3)) (md_ix ix_seq imp_ix (dv 1) md_int (fun _ _ => rfl)) (fun _ _ => rfl))) mes_nil)))
  mss_nil) (mss_cons (ms_if (mt_cmp (op_eqA hr.units) imp_eq (mv 2) me_str rfl) (mss_cons (ms_expr (me_mutA PySem.F.plainAttrs_list PySem.F.slot_list_append PySem.F.type_list_append mt_append rfl mut_append (mp_fld T.c0 T.cl0 T.na0_held (mr 3)) (me_bm0 PySem.F.plainAttrs_list PySem.F.slot_list_pop PySem.F.type_list_pop mt_pop rfl mut_pop0 (mp_fld T.c1 T.cl1 T.na1_stack (mr 0)))))
  mss_nil) (mss_cons (ms_if (mt_cmp (op_eqA hr.units) imp_eq (mv 2) me_str rfl) (mss_cons (ms_expr (me_bm0 PySem.F.plainAttrs_list PySem.F.slot_list_pop PySem.F.type_list_pop mt_pop rfl mut_pop0 (mp_fld T.c0 T.cl0 T.na0_held (mr 3))))
  mss_nil) (mss_cons (ms_if (mt_cmp (op_eqA hr.units) imp_eq (mv 2) me_str rfl) (mss_cons (ms_expr (me_bm PySem.F.plainAttrs_list PySem.F.slot_list_append PySem.F.type_list_append mt_append rfl mut_append (mp_fld T.c1 T.cl1 T.na1_stack (mr 0)) (mes_cons me_non mes_nil)))
  mss_nil) (mss_cons (ms_if (mt_cmp (op_eqA hr.units) imp_eq (mv 2) me_str rfl) (mss_cons (ms_expr (me_popNone (mp_fld T.c1 T.cl1 T.na1_stack (mr 0)) (mp_fld T.c1 T.cl1 T.na1_stack (mr 0)) (by rfl) T.z_int))
  mss_nil) (mss_cons (ms_if (MW.mt (mw_or (mt_cmp (op_eqA hr.units) imp_eq (mv 2) me_str rfl) (mw_or1 (mt_cmp (op_eqA hr.units) imp_eq (me_bm0 PySem.F.plainAttrs_list PySem.F.slot_list_pop PySem.F.type_list_pop mt_pop rfl mut_pop0 (mp_fld T.c1 T.cl1 T.na1_stack (mr 0))) me_int rfl)))) (mss_cons (ms_setFld T.c1 T.cl1 T.na1_at (mr 0) (me_ix ix_seq imp_ix (mv 1) me_int (fun _ _ => rfl)))
  mss_nil) mss_nil)
  mss_nil))
  mss_nil))
  mss_nil))
  mss_nil))
  mss_nil))
  mss_nil))
  mss_nil))))
theorem ok11 (T : Txt K mg A Dd AC) (G : Gs P w K mg base A Dd k NN) : FnOk P w K mg base (L2.CX P w) (2 * (k + 1)) (A 11) (Dd 11) ["machine", "row"] (spF K mg (callF sub tab NN (k + 1) 11)) := by
  have S := sc11
  refine fn_okX (k := 2 * k + 1) (fn := fn11) (C := callF sub tab NN k) (sub := sub) (NN := NN) (okx_of T.f11) S (fun ms => rfl) rfl rfl (by decide) fun cdv A0 outer s H E hr => ?_
  have hr0 := Room.mono hr (Nat.le_succ (2 * k))
  exact (mss_alias (mp_idx (mp_fld T.c1 T.cl1 T.na1_frames (mr 0)) (md_un un_neg imp_neg md_int) (fun _ _ => rfl)) S.nd (by rfl) (by first | exact Or.inl rfl | exact Or.inr rfl) (by first | exact .inl rfl | exact .inr rfl) (fun pin => (mss_cons (ms_if (mt_cmp (op_eqA hr.units) imp_eq (me_ix ix_seq imp_ix (mv 1) me_int (fun _ _ => rfl)) me_str rfl) (mss_cons (ms_expr (me_mutA PySem.F.plainAttrs_list PySem.F.slot_list_append PySem.F.type_list_append mt_append rfl mut_append (mp_fld T.c0 T.cl0 T.na0_fields (mr 2)) (me_meth0 T.c1 T.cl1 T.mt2 (G 2) hr0 T.b2 (mr 0))))
  mss_nil) (mss_cons (ms_if (mt_cmp (op_eqA hr.units) imp_eq (me_ix ix_seq imp_ix (mv 1) me_int (fun _ _ => rfl)) me_str rfl) (mss_cons (ms_asg (me_bm0 PySem.F.plainAttrs_list PySem.F.slot_list_pop PySem.F.type_list_pop mt_pop rfl mut_pop0 (mp_fld T.c0 T.cl0 T.na0_fields (mr 2))) (gn 3 S.nd))
  (mss_cons (ms_expr (me_bm PySem.F.plainAttrs_list PySem.F.slot_list_remove PySem.F.type_list_remove mt_remove rfl mut_remove (mp_fld T.c1 T.cl1 T.na1_pile (mr 0)) (mes_cons (mv 3) mes_nil)))
  (mss_cons (ms_expr (me_bm PySem.F.plainAttrs_list PySem.F.slot_list_append PySem.F.type_list_append mt_append rfl mut_append (mp_fld T.c1 T.cl1 T.na1_log (mr 0)) (mes_cons (me_tup (mes_cons me_str (mes_cons (mv 3) mes_nil))) mes_nil)))
  mss_nil))) (mss_cons (ms_if (mt_cmp (op_eqA hr.units) imp_eq (me_ix ix_seq imp_ix (mv 1) me_int (fun _ _ => rfl)) me_str rfl) (mss_cons (ms_expr (me_meth T.c1 T.cl1 T.mt8 (G 8) hr0 T.b8 (mr 0) (mas_val (me_ix ix_seq imp_ix (mv 1) me_int (fun _ _ => rfl)) (mas_val (me_ix ix_seq imp_ix (mv 1) me_int (fun _ _ => rfl)) (mas_val (me_ix ix_seq imp_ix (mv 1) me_int (fun _ _ => rfl)) mas_nil)))))
  mss_nil) (mss_cons (ms_expr (me_bm0 PySem.F.plainAttrs_list PySem.F.slot_list_pop PySem.F.type_list_pop mt_pop rfl mut_pop0 (mp_fld T.c1 T.cl1 T.na1_frames (mr 0))))
  (mss_cons (ms_setFld T.c1 T.cl1 T.na1_at (mr 0) (me_pth (mp_fld T.c0 T.cl0 T.na0_back (mr 2))))
  mss_nil)))
  mss_nil))
  mss_nil))
  mss_nil)))
theorem ok12 (T : Txt K mg A Dd AC) (G : Gs P w K mg base A Dd k NN) : FnOk P w K mg base (L2.CX P w) (2 * (k + 1)) (A 12) (Dd 12) ["machine", "row"] (spF K mg (callF sub tab NN (k + 1) 12)) := by
  have S := sc12
  refine fn_okX (k := 2 * k + 1) (fn := fn12) (C := callF sub tab NN k) (sub := sub) (NN := NN) (okx_of T.f12) S (fun ms => rfl) rfl rfl (by decide) fun cdv A0 outer s H E hr => ?_
  have hr0 := Room.mono hr (Nat.le_succ (2 * k))
  exact (mss_cons (ms_asg (me_ix ix_seq imp_ix (mv 1) me_int (fun _ _ => rfl)) (gn 2 S.nd))
  (mss_cons (ms_if (mt_cmp op_in_seq imp_in (mv 2) (me_tup (mes_cons me_str (mes_cons me_str (mes_cons me_str (mes_cons me_str mes_nil))))) rfl) (mss_cons (ms_expr (me_meth T.c1 T.cl1 T.mt5 (G 5) hr0 T.b5 (mr 0) (mas_val (mv 2) mas_nil)))
  mss_nil) (mss_cons (ms_if (mt_cmp op_in_seq imp_in (mv 2) (me_tup (mes_cons me_str (mes_cons me_str mes_nil))) rfl) (mss_cons (ms_expr (me_meth T.c1 T.cl1 T.mt6 (G 6) hr0 T.b6 (mr 0) (mas_val (mv 2) (mas_val (me_pth (mp_idx (mp_fld T.c0 T.cl0 T.na0_fields (mp_idx (mp_fld T.c1 T.cl1 T.na1_frames (mr 0)) (md_un un_neg imp_neg md_int) (fun _ _ => rfl))) (md_ix ix_seq imp_ix (dv 1) md_int (fun _ _ => rfl)) (fun _ _ => rfl))) mas_nil))))
  mss_nil) (mss_cons (ms_if (mt_cmp op_in_seq imp_in (mv 2) (me_tup (mes_cons me_str (mes_cons me_str (mes_cons me_str (mes_cons me_str mes_nil))))) rfl) (mss_cons (ms_expr (me_meth T.c1 T.cl1 T.mt7 (G 7) hr0 T.b7 (mr 0) (mas_val (mv 2) mas_nil)))
  mss_nil) (mss_cons (ms_if (mt_cmp op_in_seq imp_in (mv 2) (me_tup (mes_cons me_str (mes_cons me_str (mes_cons me_str (mes_cons me_str mes_nil))))) rfl) (mss_cons (ms_expr (me_call (G 11) hr0 (by rfl) T.m11 T.f11.kp T.b11 (mas_ref (mr 0) (mas_val (mv 1) mas_nil))))
  mss_nil) (mss_cons (ms_expr (me_call (G 10) hr0 (by rfl) T.m10 T.f10.kp T.b10 (mas_ref (mr 0) (mas_val (mv 1) mas_nil))))
  mss_nil))
  mss_nil))
  mss_nil))
  mss_nil))
  mss_nil))
theorem ok13 (T : Txt K mg A Dd AC) (G : Gs P w K mg base A Dd k NN) : FnOk P w K mg base (L2.CX P w) (2 * (k + 1)) (A 13) (Dd 13) ["code", "numbers", "most"] (spF K mg (callF sub tab NN (k + 1) 13)) := by
  have S := sc13
  refine fn_okX (k := 2 * k + 1) (fn := fn13) (C := callF sub tab NN k) (sub := sub) (NN := NN) (okx_ofD T.f13) S (fun ms => rfl) rfl rfl (by decide) fun cdv A0 outer s H E hr => ?_
  have hr0 := Room.mono hr (Nat.le_succ (2 * k))
  exact (mss_cons (ms_asg (me_new T.mk1 (G 1) hr rfl T.c1 T.b1 (mas_val (mv 0) (mas_val (mv 1) (mas_val (mv 2) mas_nil)))) (gn 3 S.nd))
  (mss_cons (ms_while (fun _ _ => passes_of rfl) (mt_view (mt_cmp (op_neL hr.units) imp_neL (me_fld T.c1 T.cl1 T.na1_frames (mv 3)) (MF.me (mf_lst mes_nil)) rfl)) (mss_cons (ms_asg (me_ix ix_seq imp_ix (me_pth (mp_fld T.c1 T.cl1 T.na1_rows (mr 3))) (me_pth (mp_fld T.c1 T.cl1 T.na1_at (mr 3))) (fun _ _ => rfl)) (gn 6 S.nd))
  (mss_cons (ms_fldaug T.c1 T.cl1 T.na1_at in_add (mr 3))
  (mss_cons (ms_expr (me_call (G 12) hr0 (by rfl) T.m12 T.f12.kp T.b12 (mas_ref (mr 3) (mas_val (mv 6) mas_nil))))
  mss_nil))))
  (mss_cons (ms_asg (me_meth T.c1 T.cl1 T.mt9 (G 9) hr0 T.b9 (mr 3) (mas_val (me_bm0 PySem.F.plainAttrs_list PySem.F.slot_list_pop PySem.F.type_list_pop mt_pop rfl mut_pop0 (mp_fld T.c1 T.cl1 T.na1_stack (mr 3))) mas_nil)) (gn 4 S.nd))
  (mss_cons (ms_for (fun _ _ => passes_of rfl) (by rfl) (mi_rangeD (by rfl) T.z_range (mes_cons (me_op op_sub imp_sub (me_pth (mp_fld T.c1 T.cl1 T.na1_outer (mr 3))) me_int) (mes_cons (me_un un_neg imp_neg me_int) (mes_cons (me_un un_neg imp_neg me_int) mes_nil)))) (gn 5 S.nd) (mss_cons (ms_expr (me_bm PySem.F.plainAttrs_list PySem.F.slot_list_append PySem.F.type_list_append mt_append rfl mut_append (mp_fld T.c1 T.cl1 T.na1_log (mr 3)) (mes_cons (me_tup (mes_cons me_str (mes_cons (mv 5) mes_nil))) mes_nil)))
  mss_nil))
  (mss_cons (ms_ret (me_mt (mes_cons (mv 4) (mes_cons (me_movP (mp_fld T.c1 T.cl1 T.na1_log (mr 3))) mes_nil))))
  mss_nil)))))
theorem ok14 (T : Txt K mg A Dd AC) (G : Gs P w K mg base A Dd k NN) : FnOk P w K mg base (L2.CX P w) (2 * (k + 1)) (A 14) (Dd 14) ["cell"] (spF K mg (callF sub tab NN (k + 1) 14)) := by
  have S := sc14
  refine fn_okX (k := 2 * k + 1) (fn := fn14) (C := callF sub tab NN k) (sub := sub) (NN := NN) (okx_of T.f14) S (fun ms => rfl) rfl rfl (by decide) fun cdv A0 outer s H E hr => ?_
  have hr0 := Room.mono hr (Nat.le_succ (2 * k))
  exact (mss_cons (ms_ret (me_op op_mod imp_mod (me_op op_mulA imp_mul (me_op op_mulA imp_mul (me_op op_addX imp_addX (me_op op_mod imp_mod (mv 0) me_int) me_int) me_int) me_int) me_int))
  mss_nil)
theorem ok15 (T : Txt K mg A Dd AC) (G : Gs P w K mg base A Dd k NN) : FnOk P w K mg base (L2.CX P w) (2 * (k + 1)) (A 15) (Dd 15) ["script", "k"] (spF K mg (callF sub tab NN (k + 1) 15)) := by
  have S := sc15
  refine fn_okX (k := 2 * k + 1) (fn := fn15) (C := callF sub tab NN k) (sub := sub) (NN := NN) (okx_of T.f15) S (fun ms => rfl) rfl rfl (by decide) fun cdv A0 outer s H E hr => ?_
  have hr0 := Room.mono hr (Nat.le_succ (2 * k))
  exact (mss_cons (ms_if (mt_cmp op_lt imp_lt (mv 1) (me_bi call_lenA imp_len rfl T.z_len bt_len (mes_cons (mv 0) mes_nil)) rfl) (mss_cons (ms_ret (me_call (G 14) hr0 (by rfl) T.m14 T.f14.kp T.b14 (mas_val (me_ix ix_seq imp_ix (mv 0) (mv 1) (fun _ _ => rfl)) mas_nil)))
  mss_nil) mss_nil)
  (mss_cons (ms_ret (me_call (G 14) hr0 (by rfl) T.m14 T.f14.kp T.b14 (mas_val (mv 1) mas_nil)))
  mss_nil))
theorem ok16 (T : Txt K mg A Dd AC) (G : Gs P w K mg base A Dd k NN) : FnOk P w K mg base (L2.CX P w) (2 * (k + 1)) (A 16) (Dd 16) ["number"] (spF K mg (callF sub tab NN (k + 1) 16)) := by
  have S := sc16
  refine fn_okX (k := 2 * k + 1) (fn := fn16) (C := callF sub tab NN k) (sub := sub) (NN := NN) (okx_of T.f16) S (fun ms => rfl) rfl rfl (by decide) fun cdv A0 outer s H E hr => ?_
  have hr0 := Room.mono hr (Nat.le_succ (2 * k))
  exact (mss_cons (ms_asg (me_op op_mulA imp_mul (me_op op_mulA imp_mul (mv 0) (mv 0)) (mv 0)) (gn 1 S.nd))
  (mss_cons (ms_asg (me_op op_mod imp_mod (me_op op_mulA imp_mul (me_op op_mulA imp_mul (mv 1) (mv 1)) (mv 0)) (me_op op_pow imp_pow me_int me_int)) (gn 2 S.nd))
  (mss_cons (ms_ret (me_ix ix_seq imp_ix (MF.me (mf_lst (mes_cons (me_op op_sub imp_sub (me_op op_mod imp_mod (mv 0) me_int) me_int) (mes_cons (mv 2) (mes_cons (me_op op_sub imp_sub me_int (mv 2)) (mes_cons (me_op op_mod imp_mod (mv 0) me_int) mes_nil)))))) (me_op op_mod imp_mod (me_op op_fdivW imp_divW (mv 0) me_int) me_int) (fun _ _ => rfl)))
  mss_nil)))
theorem ok17 (T : Txt K mg A Dd AC) (G : Gs P w K mg base A Dd k NN) : FnOk P w K mg base (L2.CX P w) (2 * (k + 1)) (A 17) (Dd 17) ["word", "one", "other"] (spF K mg (callF sub tab NN (k + 1) 17)) := by
  have S := sc17
  refine fn_okX (k := 2 * k + 1) (fn := fn17) (C := callF sub tab NN k) (sub := sub) (NN := NN) (okx_of T.f17) S (fun ms => rfl) rfl rfl (by decide) fun cdv A0 outer s H E hr => ?_
  have hr0 := Room.mono hr (Nat.le_succ (2 * k))
  exact (mss_cons (ms_if (mt_cmp (op_eqA hr.units) imp_eq (mv 0) me_str rfl) (mss_cons (ms_ret (me_op op_addX imp_addX (mv 1) (mv 2)))
  mss_nil) mss_nil)
  (mss_cons (ms_if (mt_cmp (op_eqA hr.units) imp_eq (mv 0) me_str rfl) (mss_cons (ms_ret (me_op op_sub imp_sub (mv 1) (mv 2)))
  mss_nil) mss_nil)
  (mss_cons (ms_if (mt_cmp (op_eqA hr.units) imp_eq (mv 0) me_str rfl) (mss_cons (ms_ret (me_op op_mulA imp_mul (mv 1) (mv 2)))
  mss_nil) mss_nil)
  (mss_cons (ms_ret (me_ty call_int1 imp_int rfl T.z_int bt_int (mes_cons (me_cmp op_lt imp_lt (mv 1) (mv 2) rfl) mes_nil)))
  mss_nil))))
theorem ok18 (T : Txt K mg A Dd AC) (G : Gs P w K mg base A Dd k NN) : FnOk P w K mg base (L2.CX P w) (2 * (k + 1)) (A 18) (Dd 18) ["rows", "values", "word"] (spF K mg (callF sub tab NN (k + 1) 18)) := by
  have S := sc18
  refine fn_okX (k := 2 * k + 1) (fn := fn18) (C := callF sub tab NN k) (sub := sub) (NN := NN) (okx_of T.f18) S (fun ms => rfl) rfl rfl (by decide) fun cdv A0 outer s H E hr => ?_
  have hr0 := Room.mono hr (Nat.le_succ (2 * k))
  exact (mss_cons (ms_expr (me_bm PySem.F.plainAttrs_list PySem.F.slot_list_append PySem.F.type_list_append mt_append rfl mut_append (mr 0) (mes_cons (me_tup (mes_cons (mv 2) mes_nil)) mes_nil)))
  (mss_cons (ms_asg (me_bm0 PySem.F.plainAttrs_list PySem.F.slot_list_pop PySem.F.type_list_pop mt_pop rfl mut_pop0 (mr 1)) (gn 3 S.nd))
  (mss_cons (ms_asg (me_bm0 PySem.F.plainAttrs_list PySem.F.slot_list_pop PySem.F.type_list_pop mt_pop rfl mut_pop0 (mr 1)) (gn 4 S.nd))
  (mss_cons (ms_expr (me_bm PySem.F.plainAttrs_list PySem.F.slot_list_append PySem.F.type_list_append mt_append rfl mut_append (mr 1) (mes_cons (me_call (G 17) hr0 (by rfl) T.m17 T.f17.kp T.b17 (mas_val (mv 2) (mas_val (mv 4) (mas_val (mv 3) mas_nil)))) mes_nil)))
  mss_nil))))
theorem ok19 (T : Txt K mg A Dd AC) (G : Gs P w K mg base A Dd k NN) : FnOk P w K mg base (L2.CX P w) (2 * (k + 1)) (A 19) (Dd 19) ["rows", "values", "number"] (spF K mg (callF sub tab NN (k + 1) 19)) := by
  have S := sc19
  refine fn_okX (k := 2 * k + 1) (fn := fn19) (C := callF sub tab NN k) (sub := sub) (NN := NN) (okx_of T.f19) S (fun ms => rfl) rfl rfl (by decide) fun cdv A0 outer s H E hr => ?_
  have hr0 := Room.mono hr (Nat.le_succ (2 * k))
  exact (mss_cons (ms_asg (me_op op_addX imp_addX me_int (me_op op_mod imp_mod (mv 2) me_int)) (gn 3 S.nd))
  (mss_cons (ms_if (mt_cmp (op_eqA hr.units) imp_eq (me_op op_mod imp_mod (me_op op_fdivW imp_divW (mv 2) me_int) me_int) me_int rfl) (mss_cons (ms_expr (me_bm PySem.F.plainAttrs_list PySem.F.slot_list_append PySem.F.type_list_append mt_append rfl mut_append (mr 0) (mes_cons (me_tup (mes_cons me_str (mes_cons (me_view (me_op op_addX imp_addX (me_op op_addX imp_addX (me_bi call_lenA imp_len rfl T.z_len bt_len (mes_cons (mv 0) mes_nil)) me_int) (mv 3))) mes_nil))) mes_nil)))
  (mss_cons (ms_for (fun _ _ => passes_of rfl) (by rfl) (mi_range1 (by rfl) T.z_range (mes_cons (mv 3) mes_nil)) (gn 5 S.nd) (mss_cons (ms_expr (me_bm PySem.F.plainAttrs_list PySem.F.slot_list_append PySem.F.type_list_append mt_append rfl mut_append (mr 0) (mes_cons (me_ix ix_seq imp_ix (MF.me (mf_lst (mes_cons (me_tup (mes_cons me_str mes_nil)) (mes_cons (me_tup (mes_cons me_str mes_nil)) (mes_cons (me_tup (mes_cons me_str mes_nil)) mes_nil))))) (me_op op_mod imp_mod (me_op op_addX imp_addX (me_op op_fdivW imp_divW (mv 2) me_int) (mv 5)) me_int) (fun _ _ => rfl)) mes_nil)))
  mss_nil))
  (mss_cons (ms_ret me_non)
  mss_nil))) mss_nil)
  (mss_cons (ms_asg (me_op op_mod imp_mod (me_op op_fdivW imp_divW (mv 2) me_int) me_int) (gn 4 S.nd))
  (mss_cons (ms_expr (me_bm PySem.F.plainAttrs_list PySem.F.slot_list_append PySem.F.type_list_append mt_append rfl mut_append (mr 0) (mes_cons (me_tup (mes_cons me_str (mes_cons (mv 4) mes_nil))) mes_nil)))
  (mss_cons (ms_expr (me_bm PySem.F.plainAttrs_list PySem.F.slot_list_append PySem.F.type_list_append mt_append rfl mut_append (mr 0) (mes_cons (me_tup (mes_cons me_str (mes_cons (me_view (me_op op_addX imp_addX (me_bi call_lenA imp_len rfl T.z_len bt_len (mes_cons (mv 0) mes_nil)) me_int)) mes_nil))) mes_nil)))
  (mss_cons (ms_expr (me_bm PySem.F.plainAttrs_list PySem.F.slot_list_append PySem.F.type_list_append mt_append rfl mut_append (mr 0) (mes_cons (me_tup (mes_cons me_str (mes_cons me_int mes_nil))) mes_nil)))
  (mss_cons (ms_if (mt_cmp (op_neA hr.units) imp_ne (mv 4) me_int rfl) (mss_cons (ms_expr (me_bm PySem.F.plainAttrs_list PySem.F.slot_list_append PySem.F.type_list_append mt_append rfl mut_append (mr 1) (mes_cons me_int mes_nil)))
  mss_nil) mss_nil)
  (mss_cons (ms_ret me_non)
  mss_nil))))))))
theorem ok20 (T : Txt K mg A Dd AC) (G : Gs P w K mg base A Dd k NN) : FnOk P w K mg base (L2.CX P w) (2 * (k + 1)) (A 20) (Dd 20) ["rows", "values", "held", "number"] (spF K mg (callF sub tab NN (k + 1) 20)) := by
  have S := sc20
  refine fn_okX (k := 2 * k + 1) (fn := fn20) (C := callF sub tab NN k) (sub := sub) (NN := NN) (okx_of T.f20) S (fun ms => rfl) rfl rfl (by decide) fun cdv A0 outer s H E hr => ?_
  have hr0 := Room.mono hr (Nat.le_succ (2 * k))
  exact (mss_cons (ms_asg (me_op op_mod imp_mod (mv 3) me_int) (gn 4 S.nd))
  (mss_cons (ms_asg (me_op op_fdivW imp_divW (mv 3) me_int) (gn 5 S.nd))
  (mss_cons (ms_if (mt_view (MW.mt (mw_and (mt_cmp (op_eqA hr.units) imp_eq (mv 4) me_int rfl) (mw_and1 (mt_cmp op_gt imp_gt (me_bi call_lenA imp_len rfl T.z_len bt_len (mes_cons (mv 2) mes_nil)) me_int rfl))))) (mss_cons (ms_expr (me_bm PySem.F.plainAttrs_list PySem.F.slot_list_append PySem.F.type_list_append mt_append rfl mut_append (mr 0) (mes_cons (me_tup (mes_cons me_str (mes_cons (me_view (me_op op_mod imp_mod (mv 5) (me_bi call_lenA imp_len rfl T.z_len bt_len (mes_cons (mv 2) mes_nil)))) mes_nil))) mes_nil)))
  (mss_cons (ms_expr (me_bm PySem.F.plainAttrs_list PySem.F.slot_list_append PySem.F.type_list_append mt_append rfl mut_append (mr 1) (mes_cons (me_view (me_ix ix_seq imp_ix (mv 2) (me_op op_mod imp_mod (mv 5) (me_bi call_lenA imp_len rfl T.z_len bt_len (mes_cons (mv 2) mes_nil))) (fun _ _ => rfl))) mes_nil)))
  mss_nil)) (mss_cons (ms_if (mt_view (MW.mt (mw_and (mt_cmp (op_eqA hr.units) imp_eq (mv 4) me_int rfl) (mw_and1 (mt_cmp op_gt imp_gt (me_bi call_lenA imp_len rfl T.z_len bt_len (mes_cons (mv 1) mes_nil)) me_int rfl))))) (mss_cons (ms_expr (me_bm PySem.F.plainAttrs_list PySem.F.slot_list_append PySem.F.type_list_append mt_append rfl mut_append (mr 0) (mes_cons (me_tup (mes_cons me_str mes_nil)) mes_nil)))
  (mss_cons (ms_expr (me_bm PySem.F.plainAttrs_list PySem.F.slot_list_append PySem.F.type_list_append mt_append rfl mut_append (mr 2) (mes_cons (me_bm0 PySem.F.plainAttrs_list PySem.F.slot_list_pop PySem.F.type_list_pop mt_pop rfl mut_pop0 (mr 1)) mes_nil)))
  mss_nil)) (mss_cons (ms_if (mt_view (MW.mt (mw_and (mt_cmp (op_eqA hr.units) imp_eq (mv 4) me_int rfl) (mw_and1 (mt_cmp op_gt imp_gt (me_bi call_lenA imp_len rfl T.z_len bt_len (mes_cons (mv 2) mes_nil)) me_int rfl))))) (mss_cons (ms_expr (me_bm PySem.F.plainAttrs_list PySem.F.slot_list_append PySem.F.type_list_append mt_append rfl mut_append (mr 0) (mes_cons (me_tup (mes_cons me_str mes_nil)) mes_nil)))
  (mss_cons (ms_expr (me_bm0 PySem.F.plainAttrs_list PySem.F.slot_list_pop PySem.F.type_list_pop mt_pop rfl mut_pop0 (mr 2)))
  mss_nil)) (mss_cons (ms_if (mt_view (MW.mt (mw_and (mt_cmp op_gt imp_gt (mv 4) me_int rfl) (mw_and (mt_cmp op_lt imp_lt (mv 4) me_int rfl) (mw_and1 (mt_cmp op_gt imp_gt (me_bi call_lenA imp_len rfl T.z_len bt_len (mes_cons (mv 1) mes_nil)) me_int rfl)))))) (mss_cons (ms_expr (me_call (G 18) hr0 (by rfl) T.m18 T.f18.kp T.b18 (mas_ref (mr 0) (mas_ref (mr 1) (mas_val (me_ix ix_seq imp_ix (MF.me (mf_lst (mes_cons me_str (mes_cons me_str (mes_cons me_str (mes_cons me_str mes_nil)))))) (me_op op_sub imp_sub (mv 4) me_int) (fun _ _ => rfl)) mas_nil)))))
  mss_nil) (mss_cons (ms_if (mt_cmp (op_eqA hr.units) imp_eq (mv 4) me_int rfl) (mss_cons (ms_expr (me_bm PySem.F.plainAttrs_list PySem.F.slot_list_append PySem.F.type_list_append mt_append rfl mut_append (mr 0) (mes_cons (me_tup (mes_cons me_str mes_nil)) mes_nil)))
  (mss_cons (ms_expr (me_bm PySem.F.plainAttrs_list PySem.F.slot_list_append PySem.F.type_list_append mt_append rfl mut_append (mr 0) (mes_cons (me_tup (mes_cons me_str mes_nil)) mes_nil)))
  (mss_cons (ms_expr (me_bm PySem.F.plainAttrs_list PySem.F.slot_list_append PySem.F.type_list_append mt_append rfl mut_append (mr 1) (mes_cons me_int mes_nil)))
  mss_nil))) (mss_cons (ms_if (mt_cmp op_gt imp_gt (mv 4) me_int rfl) (mss_cons (ms_expr (me_call (G 19) hr0 (by rfl) T.m19 T.f19.kp T.b19 (mas_ref (mr 0) (mas_ref (mr 1) (mas_val (mv 5) mas_nil)))))
  mss_nil) (mss_cons (ms_expr (me_bm PySem.F.plainAttrs_list PySem.F.slot_list_append PySem.F.type_list_append mt_append rfl mut_append (mr 0) (mes_cons (me_tup (mes_cons me_str (mes_cons (me_call (G 16) hr0 (by rfl) T.m16 T.f16.kp T.b16 (mas_val (mv 5) mas_nil)) mes_nil))) mes_nil)))
  (mss_cons (ms_expr (me_bm PySem.F.plainAttrs_list PySem.F.slot_list_append PySem.F.type_list_append mt_append rfl mut_append (mr 1) (mes_cons (me_call (G 16) hr0 (by rfl) T.m16 T.f16.kp T.b16 (mas_val (mv 5) mas_nil)) mes_nil)))
  mss_nil)))
  mss_nil))
  mss_nil))
  mss_nil))
  mss_nil))
  mss_nil))
  mss_nil)))
theorem ok21 (T : Txt K mg A Dd AC) (G : Gs P w K mg base A Dd k NN) : FnOk P w K mg base (L2.CX P w) (2 * (k + 1)) (A 21) (Dd 21) ["code", "numbers"] (spF K mg (callF sub tab NN (k + 1) 21)) := by
  have S := sc21
  refine fn_okX (k := 2 * k + 1) (fn := fn21) (C := callF sub tab NN k) (sub := sub) (NN := NN) (okx_of T.f21) S (fun ms => rfl) rfl rfl (by decide) fun cdv A0 outer s H E hr => ?_
  have SO := T.so
  have hr0 := Room.mono hr (Nat.le_succ (2 * k))
  exact (mss_cons (ms_asg me_str (gn 2 S.nd))
  (mss_cons (ms_asg me_non (gn 3 S.nd))
  (mss_cons (ms_try (by rfl) (by rfl) SO (fun pn xe hps => (mss_cons (ms_asg (me_call (G 13) hr0 (by rfl) T.m13 T.f13.kp T.b13 (mas_val (mv 0) (mas_val (mv 1) (mas_val me_int mas_nil)))) (gn 3 S.nd))
  mss_nil)) (.cons ⟨by rfl, by decide, .inl T.c3⟩ T.c3 rfl (fun a pn => (mss_cons (ms_asg me_str (gn 2 S.nd))
  mss_nil)) (.cons ⟨by rfl, by decide, .inl T.c2⟩ T.c2 rfl (fun a pn => (mss_cons (ms_asg me_str (gn 2 S.nd))
  mss_nil)) .nil)))
  (mss_cons (ms_ret (me_mt (mes_cons (mv 2) (mes_cons (mm 3) mes_nil))))
  mss_nil))))
theorem ok22 (T : Txt K mg A Dd AC) (G : Gs P w K mg base A Dd k NN) : FnOk P w K mg base (L2.CX P w) (2 * (k + 1)) (A 22) (Dd 22) ["script"] (spF K mg (callF sub tab NN (k + 1) 22)) := by
  have S := sc22
  refine fn_okX (k := 2 * k + 1) (fn := fn22) (C := callF sub tab NN k) (sub := sub) (NN := NN) (okx_of T.f22) S (fun ms => rfl) rfl rfl (by decide) fun cdv A0 outer s H E hr => ?_
  have hr0 := Room.mono hr (Nat.le_succ (2 * k))
  exact (mss_cons (ms_asg (me_op op_mulA imp_mul me_int (me_ty call_int1 imp_int rfl T.z_int bt_int (mes_cons (me_cmp (op_eqA hr.units) imp_eq (me_op op_mod imp_mod (me_op op_fdivW imp_divW (me_call (G 15) hr0 (by rfl) T.m15 T.f15.kp T.b15 (mas_val (mv 0) (mas_val me_int mas_nil))) me_int) me_int) me_int rfl) mes_nil))) (gn 1 S.nd))
  (mss_cons (ms_asg (me_op op_addX imp_addX (mv 1) (me_op op_mod imp_mod (me_call (G 15) hr0 (by rfl) T.m15 T.f15.kp T.b15 (mas_val (mv 0) (mas_val me_int mas_nil))) me_int)) (gn 2 S.nd))
  (mss_cons (ms_setLc (by rfl) S.nd (by rfl) (by rfl) (sw_true (by rfl) (by rfl) (by rfl) (by rfl)) (mi_range1 (by rfl) T.z_range (mes_cons (me_op op_mod imp_mod (me_call (G 15) hr0 (by rfl) T.m15 T.f15.kp T.b15 (mas_val (mv 0) (mas_val me_int mas_nil))) me_int) mes_nil)) (own := [("k", 15)]) (blkOk_by (by rfl)) (fun s H C cl fp => (gn 15 S.nd)) (fun s H C cl fp => mts_nil) (fun s H C cl fp => (me_ix ix_seq imp_ix (MF.me (mf_lst (mes_cons (me_tup (mes_cons me_str mes_nil)) (mes_cons (me_tup (mes_cons me_str mes_nil)) (mes_cons (me_tup (mes_cons me_str mes_nil)) mes_nil))))) (me_op op_mod imp_mod (mv 15) me_int) (fun _ _ => rfl))) true)
  (mss_cons (ms_asg (me_view (me_bi call_lenA imp_len rfl T.z_len bt_len (mes_cons (mv 3) mes_nil))) (gn 4 S.nd))
  (mss_cons (ms_setLc (by rfl) S.nd (by rfl) (by rfl) (sw_true (by rfl) (by rfl) (by rfl) (by rfl)) (mi_range1 (by rfl) T.z_range (mes_cons (me_op op_addX imp_addX (mv 1) (me_op op_mod imp_mod (me_op op_fdivW imp_divW (me_call (G 15) hr0 (by rfl) T.m15 T.f15.kp T.b15 (mas_val (mv 0) (mas_val me_int mas_nil))) me_int) me_int)) mes_nil)) (own := [("k", 15)]) (blkOk_by (by rfl)) (fun s H C cl fp => (gn 15 S.nd)) (fun s H C cl fp => mts_nil) (fun s H C cl fp => (me_call (G 16) hr0 (by rfl) T.m16 T.f16.kp T.b16 (mas_val (me_call (G 15) hr0 (by rfl) T.m15 T.f15.kp T.b15 (mas_val (mv 0) (mas_val (me_op op_addX imp_addX me_int (mv 15)) mas_nil))) mas_nil))) false)
  (mss_cons (ms_asg (me_own (mf_ty call_list_of impN_list rfl T.z_list bt_list (mes_cons (mv 5) mes_nil))) (gn 6 S.nd))
  (mss_cons (ms_asg (me_own (mf_lst mes_nil)) (gn 7 S.nd))
  (mss_cons (ms_asg me_bl (gn 8 S.nd))
  (mss_cons (ms_for (fun _ _ => passes_of rfl) (by rfl) (mi_list (MF.me (mf_slice (mv 0) (mo_some me_int) (mo_some me_int)))) (gn 9 S.nd) (mss_cons (ms_if (mt_not (mt_val (mv 8))) (mss_cons (ms_expr (me_call (G 20) hr0 (by rfl) T.m20 T.f20.kp T.b20 (mas_ref (mr 3) (mas_ref (mr 7) (mas_ref (mr 6) (mas_val (me_call (G 14) hr0 (by rfl) T.m14 T.f14.kp T.b14 (mas_val (mv 9) mas_nil)) mas_nil))))))
  (mss_cons (ms_asg (me_view (me_cmp op_gt imp_gt (me_bi call_lenA imp_len rfl T.z_len bt_len (mes_cons (MF.me (mf_comp (by rfl) S.nd (mi_list (mv 7)) (own := [("value", 16)]) (blkOk_by (by rfl)) (fun s H C cl fp => (gn 16 S.nd)) (fun s H C cl fp => (mts_one (mt_cmp op_ge imp_ge (me_bi call_abs imp_abs rfl T.z_abs bt_abs (mes_cons (mv 16) mes_nil)) (me_op op_pow imp_pow me_int me_int) rfl))) (fun s H C cl fp => (mv 16)))) mes_nil)) me_int rfl)) (gn 8 S.nd))
  mss_nil)) mss_nil)
  mss_nil))
  (mss_cons (ms_while (fun _ _ => passes_of rfl) (mt_view (MW.mt (mw_and (mt_cmp op_gt imp_gt (me_bi call_lenA imp_len rfl T.z_len bt_len (mes_cons (mv 7) mes_nil)) me_int rfl) (mw_and1 (mt_not (mt_val (mv 8))))))) (mss_cons (ms_expr (me_call (G 18) hr0 (by rfl) T.m18 T.f18.kp T.b18 (mas_ref (mr 3) (mas_ref (mr 7) (mas_val (me_view (me_ix ix_seq imp_ix (MF.me (mf_lst (mes_cons me_str (mes_cons me_str mes_nil)))) (me_op op_mod imp_mod (me_bi call_lenA imp_len rfl T.z_len bt_len (mes_cons (mv 7) mes_nil)) me_int) (fun _ _ => rfl))) mas_nil)))))
  (mss_cons (ms_asg (me_cmp op_ge imp_ge (me_bi call_abs imp_abs rfl T.z_abs bt_abs (mes_cons (me_pth (mp_idx (mr 7) (md_un un_neg imp_neg md_int) (fun _ _ => rfl))) mes_nil)) (me_op op_pow imp_pow me_int me_int) rfl) (gn 8 S.nd))
  mss_nil)))
  (mss_cons (ms_if (mt_view (mt_cmp (op_eqA hr.units) imp_eq (me_bi call_lenA imp_len rfl T.z_len bt_len (mes_cons (mv 7) mes_nil)) me_int rfl)) (mss_cons (ms_expr (me_bm PySem.F.plainAttrs_list PySem.F.slot_list_append PySem.F.type_list_append mt_append rfl mut_append (mr 3) (mes_cons (me_tup (mes_cons me_str (mes_cons me_int mes_nil))) mes_nil)))
  (mss_cons (ms_expr (me_bm PySem.F.plainAttrs_list PySem.F.slot_list_append PySem.F.type_list_append mt_append rfl mut_append (mr 7) (mes_cons me_int mes_nil)))
  mss_nil)) mss_nil)
  (mss_cons (ms_expr (me_bm PySem.F.plainAttrs_list PySem.F.slot_list_append PySem.F.type_list_append mt_append rfl mut_append (mr 3) (mes_cons (me_tup (mes_cons me_str mes_nil)) mes_nil)))
  (mss_cons (ms_frz (ms_asg (me_tup (mes_cons (MF.me (mf_ty call_list_of impN_list rfl T.z_list bt_list (mes_cons (mv 3) mes_nil))) (mes_cons (mv 4) (mes_cons (mv 2) mes_nil)))) (gn 10 S.nd)))
  (mss_cons (ms_asg (MF.me (mf_ty call_list_of impN_list rfl T.z_list bt_list (mes_cons (mv 5) mes_nil))) (gn 11 S.nd))
  (mss_cons (ms_asg (me_call (G 21) hr0 (by rfl) T.m21 T.f21.kp T.b21 (mas_val (mv 10) (mas_val (mv 11) mas_nil))) (mg_tup (by rfl) (mgs_cons (i := 13) S.nd rfl (by first | exact Or.inl rfl | exact Or.inr rfl) (mgs_cons (i := 14) S.nd rfl (by first | exact Or.inl rfl | exact Or.inr rfl) mgs_nil))))
  (mss_cons (ms_if (MW.mt (mw_or (mt_cmp (op_neA hr.units) imp_ne (mv 10) (me_tup (mes_cons (mv 3) (mes_cons (mv 4) (mes_cons (mv 2) mes_nil)))) rfl) (mw_or1 (mt_cmp (op_neA hr.units) imp_ne (mv 11) (mv 5) rfl)))) (mss_cons (ms_ret me_bl)
  mss_nil) mss_nil)
  (mss_cons (ms_if (mt_val (mv 8)) (mss_cons (ms_ret (me_cmp (op_eqA hr.units) imp_eq (mv 13) me_str rfl))
  mss_nil) mss_nil)
  (mss_cons (ms_asg (me_op op_addX imp_addX (MF.me (mf_comp (by rfl) S.nd (mi_range1 (by rfl) T.z_range (mes_cons (mv 2) mes_nil)) (own := [("k", 15)]) (blkOk_by (by rfl)) (fun s H C cl fp => (gn 15 S.nd)) (fun s H C cl fp => mts_nil) (fun s H C cl fp => (me_tup (mes_cons me_str (mes_cons (mv 15) mes_nil)))))) (MF.me (mf_comp (by rfl) S.nd (mi_range1 (by rfl) T.z_range (mes_cons (mv 2) mes_nil)) (own := [("k", 15)]) (blkOk_by (by rfl)) (fun s H C cl fp => (gn 15 S.nd)) (fun s H C cl fp => mts_nil) (fun s H C cl fp => (me_tup (mes_cons me_str (mes_cons (me_op op_sub imp_sub (me_op op_sub imp_sub (mv 2) me_int) (mv 15)) mes_nil))))))) (gn 12 S.nd))
  (mss_cons (ms_if (mt_view (MW.mt (mw_or (mt_cmp (op_neA hr.units) imp_ne (mv 13) me_str rfl) (mw_or (mt_not (mt_val (me_isi (by rfl) T.z_isinstance (by rfl) T.z_tuple bt_tuple (mv 14)))) (mw_or1 (mt_cmp (op_neA hr.units) imp_ne (mv 14) (me_tup (mes_cons (me_ix ix_seq imp_ix (mv 7) me_int (fun _ _ => rfl)) (mes_cons (mv 12) mes_nil))) rfl)))))) (mss_cons (ms_ret me_bl)
  mss_nil) mss_nil)
  (mss_cons (ms_if (mt_view (MW.mt (mw_or (mt_not (mt_val (me_isi (by rfl) T.z_isinstance (by rfl) T.z_int bt_int (me_ix ix_seq imp_ix (mv 14) me_int (fun _ _ => rfl))))) (mw_or (mt_val (me_isi (by rfl) T.z_isinstance (by rfl) T.z_bool bt_bool (me_ix ix_seq imp_ix (mv 14) me_int (fun _ _ => rfl)))) (mw_or1 (mt_not (mt_val (me_isi (by rfl) T.z_isinstance (by rfl) T.z_list bt_list (me_ix ix_seq imp_ix (mv 14) me_int (fun _ _ => rfl)))))))))) (mss_cons (ms_ret me_bl)
  mss_nil) mss_nil)
  (mss_cons (ms_expr (me_bm PySem.F.plainAttrs_list PySem.F.slot_list_append PySem.F.type_list_append mt_append rfl mut_append (mp_idx (mr 14) md_int (fun _ _ => rfl)) (mes_cons me_int mes_nil)))
  (mss_cons (ms_ret (me_cmp (op_eqA hr.units) imp_eq (me_call (G 21) hr0 (by rfl) T.m21 T.f21.kp T.b21 (mas_val (mv 10) (mas_val (mv 11) mas_nil))) (me_tup (mes_cons me_str (mes_cons (me_tup (mes_cons (me_pth (mp_idx (mr 7) md_int (fun _ _ => rfl))) (mes_cons (mv 12) mes_nil))) mes_nil))) rfl))
  mss_nil))))))))))))))))))))))
theorem all_ok (T : Txt K mg A Dd AC) : ∀ k, Gs P w K mg base A Dd k NN
  | 0, g => fn_none
  | k + 1, g => by
    have G := all_ok T k
    match g with
    | 0 => exact ok0 T G
    | 1 => exact ok1 T G
    | 2 => exact ok2 T G
    | 3 => exact ok3 T G
    | 4 => exact ok4 T G
    | 5 => exact ok5 T G
    | 6 => exact ok6 T G
    | 7 => exact ok7 T G
    | 8 => exact ok8 T G
    | 9 => exact ok9 T G
    | 10 => exact ok10 T G
    | 11 => exact ok11 T G
    | 12 => exact ok12 T G
    | 13 => exact ok13 T G
    | 14 => exact ok14 T G
    | 15 => exact ok15 T G
    | 16 => exact ok16 T G
    | 17 => exact ok17 T G
    | 18 => exact ok18 T G
    | 19 => exact ok19 T G
    | 20 => exact ok20 T G
    | 21 => exact ok21 T G
    | 22 => exact ok22 T G
    | g + 23 => exact fn_stuck fun ms => rfl
end
end K41
namespace K41
open PySem L2 Mi
/-! ### the machine: what it holds -/
def mK : List Str := ["rows", "at", "outer", "most", "calls", "opened", "pile", "cells", "stack", "log", "frames"]
def fK : List Str := ["held", "fields", "back"]
abbrev mM (a0 a1 a2 a3 a4 a5 a6 a7 a8 a9 a10 : M) : M := .ins "Machine" mK [a0, a1, a2, a3, a4, a5, a6, a7, a8, a9, a10]
abbrev fM (b0 b1 b2 : M) : M := .ins "Frame" fK [b0, b1, b2]
theorem fx0 : List.findIdx? (fun x => decide (x = ("rows" : Str))) mK = some 0 := by decide +kernel
theorem fx1 : List.findIdx? (fun x => decide (x = ("at" : Str))) mK = some 1 := by decide +kernel
theorem fx2 : List.findIdx? (fun x => decide (x = ("outer" : Str))) mK = some 2 := by decide +kernel
theorem fx3 : List.findIdx? (fun x => decide (x = ("most" : Str))) mK = some 3 := by decide +kernel
theorem fx4 : List.findIdx? (fun x => decide (x = ("calls" : Str))) mK = some 4 := by decide +kernel
theorem fx5 : List.findIdx? (fun x => decide (x = ("opened" : Str))) mK = some 5 := by decide +kernel
theorem fx6 : List.findIdx? (fun x => decide (x = ("pile" : Str))) mK = some 6 := by decide +kernel
theorem fx7 : List.findIdx? (fun x => decide (x = ("cells" : Str))) mK = some 7 := by decide +kernel
theorem fx8 : List.findIdx? (fun x => decide (x = ("stack" : Str))) mK = some 8 := by decide +kernel
theorem fx9 : List.findIdx? (fun x => decide (x = ("log" : Str))) mK = some 9 := by decide +kernel
theorem fx10 : List.findIdx? (fun x => decide (x = ("frames" : Str))) mK = some 10 := by decide +kernel
theorem gx0 : List.findIdx? (fun x => decide (x = ("held" : Str))) fK = some 0 := by decide +kernel
theorem gx1 : List.findIdx? (fun x => decide (x = ("fields" : Str))) fK = some 1 := by decide +kernel
theorem gx2 : List.findIdx? (fun x => decide (x = ("back" : Str))) fK = some 2 := by decide +kernel
theorem kc1 : mK.contains "one_more" = false := by decide +kernel
theorem kc2 : mK.contains "cell_at" = false := by decide +kernel
theorem kc3 : mK.contains "size_of" = false := by decide +kernel
theorem kc4 : mK.contains "reckon" = false := by decide +kernel
theorem kc5 : mK.contains "lay" = false := by decide +kernel
theorem kc6 : mK.contains "look" = false := by decide +kernel
theorem kc7 : mK.contains "call" = false := by decide +kernel
theorem kc8 : mK.contains "told" = false := by decide +kernel
section
variable {a0 a1 a2 a3 a4 a5 a6 a7 a8 a9 a10 m : M} {i j : Int}
theorem st_at : fSetFld "Machine" "at" (mM a0 a1 a2 a3 a4 a5 a6 a7 a8 a9 a10) [m] = some (mM a0 m a2 a3 a4 a5 a6 a7 a8 a9 a10, .dat .non) := rfl
theorem st_stack : fSetFld "Machine" "stack" (mM a0 a1 a2 a3 a4 a5 a6 a7 a8 a9 a10) [m] = some (mM a0 a1 a2 a3 a4 a5 a6 a7 m a9 a10, .dat .non) := rfl
theorem ag_at : fAugFld "Machine" "at" (· + ·) 1 (mM a0 (.dat (.int i)) a2 a3 a4 a5 a6 a7 a8 a9 a10) [] = some (mM a0 (.dat (.int (i + 1))) a2 a3 a4 a5 a6 a7 a8 a9 a10, .dat .non) := rfl
theorem ag_calls : fAugFld "Machine" "calls" (· + ·) 1 (mM a0 a1 a2 a3 (.dat (.int i)) a5 a6 a7 a8 a9 a10) [] = some (mM a0 a1 a2 a3 (.dat (.int (i + 1))) a5 a6 a7 a8 a9 a10, .dat .non) := rfl
theorem ag_opened : fAugFld "Machine" "opened" (· + ·) 1 (mM a0 a1 a2 a3 a4 (.dat (.int i)) a6 a7 a8 a9 a10) [] = some (mM a0 a1 a2 a3 a4 (.dat (.int (i + 1))) a6 a7 a8 a9 a10, .dat .non) := rfl
theorem ld6 {ds : List D} : fFld "Machine" "pile" (.ins "Machine" mK ds) = (ds[6]?) := by
  show (if ("Machine" : Str) = "Machine" then (fldIx mK "pile").bind fun j => ds[j]? else none) = _
  rw [if_pos rfl]
  unfold fldIx
  rw [fx6]
  rfl
theorem ld7 {ds : List D} : fFld "Machine" "cells" (.ins "Machine" mK ds) = (ds[7]?) := by
  show (if ("Machine" : Str) = "Machine" then (fldIx mK "cells").bind fun j => ds[j]? else none) = _
  rw [if_pos rfl]
  unfold fldIx
  rw [fx7]
  rfl
theorem ld8 {ds : List D} : fFld "Machine" "stack" (.ins "Machine" mK ds) = (ds[8]?) := by
  show (if ("Machine" : Str) = "Machine" then (fldIx mK "stack").bind fun j => ds[j]? else none) = _
  rw [if_pos rfl]
  unfold fldIx
  rw [fx8]
  rfl
theorem ld10 {ds : List D} : fFld "Machine" "frames" (.ins "Machine" mK ds) = (ds[10]?) := by
  show (if ("Machine" : Str) = "Machine" then (fldIx mK "frames").bind fun j => ds[j]? else none) = _
  rw [if_pos rfl]
  unfold fldIx
  rw [fx10]
  rfl
end
theorem ts11 {a0 a1 a2 a3 a4 a5 a6 a7 a8 a9 a10 : M} : M.toDs [a0, a1, a2, a3, a4, a5, a6, a7, a8, a9, a10] = [a0.toD, a1.toD, a2.toD, a3.toD, a4.toD, a5.toD, a6.toD, a7.toD, a8.toD, a9.toD, a10.toD] := rfl
theorem nt11 {a0 a1 a2 a3 a4 a5 a6 a7 a8 a9 a10 : M} : M.noTup (mM a0 a1 a2 a3 a4 a5 a6 a7 a8 a9 a10) = (a0.noTup && (a1.noTup && (a2.noTup && (a3.noTup && (a4.noTup && (a5.noTup && (a6.noTup && (a7.noTup && (a8.noTup && (a9.noTup && (a10.noTup && true))))))))))) := rfl
theorem nt_dm {xs : List D} : M.noTup (.lst (dm xs)) = true := noTups_dm xs
theorem flat_i {i : Int} : (D.int i).flat = true := rfl
def nI (xs : List Int) : List D := xs.map .int
theorem nI_app (xs : List Int) (i : Int) : nI (xs ++ [i]) = nI xs ++ [.int i] := by unfold nI; rw [List.map_append]; rfl
theorem inD_nI (neg : Bool) (i : Int) (xs : List Int) : inD neg (.int i) (.lst (nI xs)) = some (.bl (if neg then !decide (i ∈ xs) else decide (i ∈ xs))) := by
  have fl : (nI xs).all flatD = true := by
    unfold nI
    rw [List.all_eq_true]
    intro d hd
    obtain ⟨j, _, rfl⟩ := List.mem_map.mp hd
    rfl
  have e : inV (D.int i).v ((nI xs).map D.v) = xs.contains i := by
    unfold nI
    rw [List.map_map]
    show (xs.map V.int).any (fun y => eqV y (.int i)) = _
    induction xs with
    | nil => rfl
    | cons x r ih =>
      have fl' : (nI r).all flatD = true := by
        unfold nI at fl ⊢
        rw [List.map_cons, List.all_cons, Bool.and_eq_true] at fl
        exact fl.2
      rw [List.map_cons, List.any_cons, ih fl', List.contains_cons]
      congr 1
      show decide (x = i) = (i == x)
      by_cases e : x = i
      · subst e; simp
      · rw [decide_eq_false e]
        exact (beq_eq_false_iff_ne.mpr fun z => e z.symm).symm
  show (if flatD (.int i) = true ∧ (nI xs).all flatD = true then some (D.bl (if neg then !inV (D.int i).v ((nI xs).map D.v) else inV (D.int i).v ((nI xs).map D.v))) else none) = _
  rw [if_pos ⟨rfl, fl⟩, e, show xs.contains i = decide (i ∈ xs) by simp]
section
variable {C : Nat → List M → Mi.CR} {a0 a1 a2 a3 a4 a5 a6 a7 a8 a9 a10 : M} {i : Int}
abbrev lgD (w : Str) (k : D) : D := .tup [.str w, k]
theorem one_w {pl lg : List D} (h1 : pl.length ≤ 900000) (h2 : lg.length ≤ 900000) : execSs sub C fn2.pin bigN fn2.body (startE fn2 [mM a0 a1 a2 a3 a4 (.dat (.int i)) (.lst (dm pl)) a7 a8 (.lst (dm lg)) a10]) =
    .ret (.dat (.int i)) [some (mM a0 a1 a2 a3 a4 (.dat (.int (i + 1))) (.lst (dm (pl ++ [.int i]))) a7 a8 (.lst (dm (lg ++ [lgD "open" (.int i)]))) a10), some (.dat (.int i))] := by
  have p1 := fAppend_dm (d := .int i) h1
  have p2 := fAppend_dm (d := lgD "open" (.int i)) h2
  unfold fn2
  dsimp! [startE, fx5]
  dsimp! [ag_opened]
  dsimp! [fx6, p1]
  dsimp! [fx9, fTup_n, p2]
  simp_all! []
end
/-! ### values, rows, cells, frames -/
inductive Vl where
  | num (i : Int)
  | non
  | ref (n : Int)
  deriving DecidableEq
def Vl.d : Vl → D
  | .num i => .int i
  | .non => .non
  | .ref n => .tup [.int n]
theorem Vl.hard : ∀ v : Vl, v.d.hard = true
  | .num _ => rfl
  | .non => rfl
  | .ref _ => rfl
structure Cl where
  w : Str
  a : Vl
  b : Vl
  f : Int
  sz : Int
def Cl.d (c : Cl) : D := .tup [.str c.w, c.a.d, c.b.d, .int c.f, .int c.sz]
section
variable {C : Nat → List M → Mi.CR} {a0 a1 a2 a3 a4 a5 a6 a7 a8 a9 a10 : M} {n f : Int} {cs : List D} {pl : List Int} {c d : D} {j : Nat}
theorem cell_w (e1 : ixN (dm cs).length n = some j) (e2 : (dm cs)[j]? = some (.dat c)) (e3 : fIx c (.int 3) = some (.int f)) (h : f ∈ pl) :
    execSs sub C fn3.pin bigN fn3.body (startE fn3 [mM a0 a1 a2 a3 a4 a5 (.lst (dm (nI pl))) (.lst (dm cs)) a8 a9 a10, .dat (.tup [.int n])]) = .ret (.dat c) [some (mM a0 a1 a2 a3 a4 a5 (.lst (dm (nI pl))) (.lst (dm cs)) a8 a9 a10), some (.dat (.tup [.int n])), some (.dat c)] := by
  unfold fn3
  dsimp! [startE, fx7, atI_0, e1, e2]
  dsimp! [ts11, dm_toDs, ld6, e3, inD_nI, h, flat_b]
  simp_all! []
theorem cell_x (e1 : ixN (dm cs).length n = some j) (e2 : (dm cs)[j]? = some (.dat c)) (e3 : fIx c (.int 3) = some (.int f)) (h : ¬ f ∈ pl) :
    execSs sub C fn3.pin bigN fn3.body (startE fn3 [mM a0 a1 a2 a3 a4 a5 (.lst (dm (nI pl))) (.lst (dm cs)) a8 a9 a10, .dat (.tup [.int n])]) = .err "Gone" [some (mM a0 a1 a2 a3 a4 a5 (.lst (dm (nI pl))) (.lst (dm cs)) a8 a9 a10), some (.dat (.tup [.int n])), some (.dat c)] := by
  unfold fn3
  dsimp! [startE, fx7, atI_0, e1, e2]
  refine ex_er ?_
  simp! [ts11, dm_toDs, ld6, e3, inD_nI, h, flat_b]
end
end K41
namespace K41
open PySem L2 Mi
/-! ### the machine's own deeds, over any M around them -/
section
variable {C : Nat → List M → Mi.CR} {a0 a1 a2 a3 a4 a5 a6 a7 a8 a9 a10 : M} {n f : Int} {cs st lg : List D} {pl : List Int} {c d v x y : D} {j : Nat} {w : Str}
theorem size_w {s : Int} (e1 : ixN (dm cs).length n = some j) (e2 : (dm cs)[j]? = some (.dat c)) (e3 : fIx c (.int 4) = some (.int s)) :
    execSs sub C fn4.pin bigN fn4.body (startE fn4 [mM a0 a1 a2 a3 a4 a5 a6 (.lst (dm cs)) a8 a9 a10, .dat (.tup [.int n])]) = .ret (.dat (.int s)) [some (mM a0 a1 a2 a3 a4 a5 a6 (.lst (dm cs)) a8 a9 a10), some (.dat (.tup [.int n]))] := by
  have i1 : fIsi "tuple" (.tup [.int n]) = some (.bl true) := rfl
  unfold fn4
  simp_all! [startE, fx7, atI_0, e1, e2, e3, i1]
theorem size_1 (i1 : fIsi "tuple" v = some (.bl false)) : execSs sub C fn4.pin bigN fn4.body (startE fn4 [mM a0 a1 a2 a3 a4 a5 a6 a7 a8 a9 a10, .dat v]) = .ret (.dat (.int 1)) [some (mM a0 a1 a2 a3 a4 a5 a6 a7 a8 a9 a10), some (.dat v)] := by
  unfold fn4
  dsimp! [startE, i1]
  simp_all! []
/-- what two numbers come to, whatever its size -/
def opz (w : Str) (x y : Int) : Int := if w = "plus" then x + y else if w = "minus" then x - y else if w = "times" then x * y else if x < y then 1 else 0
abbrev OV : Int := 1000000000000000000000000000000000000000000000000000000000000
theorem opz_g {x y : Int} (hx : Sm x) (hy : Sm y) : ∃ μ1 : Mi.Env, execSs sub C fn5.pin bigN fn5.body (startE fn5 [mM a0 a1 a2 a3 a4 a5 a6 a7 (.lst (dm (st ++ [.int x, .int y]))) a9 a10, .dat (.str w)]) = execSs sub C fn5.pin bigN (tl (tl (tl (tl fn5.body)))) [some (mM a0 a1 a2 a3 a4 a5 a6 a7 (.lst (dm st)) a9 a10), some (.dat (.str w)), some (.dat (.int y)), some (.dat (.int x)), some (.dat (.int (opz w x y)))] := by
  have p1 := fPop_dm (st ++ [.int x]) (.int y)
  have p2 := fPop_dm st (.int x)
  rw [List.append_assoc] at p1
  have p1 : fPop (.lst (dm (st ++ [.int x, .int y]))) [] = some (.lst (dm (st ++ [.int x])), .dat (.int y)) := p1
  have hm := fMul_sm hx hy
  refine ⟨[], ?_⟩
  unfold fn5
  dsimp! [startE, fx8, p1]
  dsimp! [fx8, p2]
  dsimp! [fInt_b]
  by_cases h1 : w = "plus"
  · subst h1
    dsimp! []
    rfl
  · by_cases h2 : w = "minus"
    · subst h2
      dsimp! []
      rfl
    · by_cases h3 : w = "times"
      · subst h3
        dsimp! [hm]
        rfl
      · dsimp! [h1, h2, h3]
        have e : opz w x y = if x < y then 1 else 0 := by unfold opz; rw [if_neg h1, if_neg h2, if_neg h3]
        rw [e]
        rfl
theorem reck_w {x y : Int} (hx : Sm x) (hy : Sm y) (hl : st.length ≤ 900000) (h : ¬ OV ≤ ((opz w x y).natAbs : Int)) :
    execSs sub C fn5.pin bigN fn5.body (startE fn5 [mM a0 a1 a2 a3 a4 a5 a6 a7 (.lst (dm (st ++ [.int x, .int y]))) a9 a10, .dat (.str w)]) = .nx [some (mM a0 a1 a2 a3 a4 a5 a6 a7 (.lst (dm (st ++ [.int (opz w x y)]))) a9 a10), some (.dat (.str w)), some (.dat (.int y)), some (.dat (.int x)), some (.dat (.int (opz w x y)))] := by
  obtain ⟨_, e⟩ := opz_g (C := C) (a0 := a0) (a1 := a1) (a2 := a2) (a3 := a3) (a4 := a4) (a5 := a5) (a6 := a6) (a7 := a7) (a9 := a9) (a10 := a10) (st := st) (w := w) hx hy
  refine e.trans ?_
  generalize opz w x y = z at *
  have p := fAppend_dm (d := .int z) hl
  unfold fn5
  simp only [tl]
  dsimp! [fAbs_n, h]
  refine ex_last ?_
  simp! [fx8, p]
theorem reck_x {x y : Int} (hx : Sm x) (hy : Sm y) (h : OV ≤ ((opz w x y).natAbs : Int)) :
    execSs sub C fn5.pin bigN fn5.body (startE fn5 [mM a0 a1 a2 a3 a4 a5 a6 a7 (.lst (dm (st ++ [.int x, .int y]))) a9 a10, .dat (.str w)]) = .err "TooGreat" [some (mM a0 a1 a2 a3 a4 a5 a6 a7 (.lst (dm st)) a9 a10), some (.dat (.str w)), some (.dat (.int y)), some (.dat (.int x)), some (.dat (.int (opz w x y)))] := by
  obtain ⟨_, e⟩ := opz_g (C := C) (a0 := a0) (a1 := a1) (a2 := a2) (a3 := a3) (a4 := a4) (a5 := a5) (a6 := a6) (a7 := a7) (a9 := a9) (a10 := a10) (st := st) (w := w) hx hy
  refine e.trans ?_
  generalize opz w x y = z at *
  unfold fn5
  simp only [tl]
  refine ex_er ?_
  simp! [fAbs_n, h]
/-! laying -/
theorem lay_pre {s1 s2 : Int} (h1 : C 4 [mM a0 a1 a2 a3 a4 a5 a6 a7 (.lst (dm st)) a9 a10, .dat x] = .ok (.dat (.int s1)) [some (mM a0 a1 a2 a3 a4 a5 a6 a7 (.lst (dm st)) a9 a10), none]) (h2 : C 4 [mM a0 a1 a2 a3 a4 a5 a6 a7 (.lst (dm st)) a9 a10, .dat y] = .ok (.dat (.int s2)) [some (mM a0 a1 a2 a3 a4 a5 a6 a7 (.lst (dm st)) a9 a10), none]) :
    execSs sub C fn6.pin bigN fn6.body (startE fn6 [mM a0 a1 a2 a3 a4 a5 a6 a7 (.lst (dm (st ++ [x, y]))) a9 a10, .dat (.str w), .dat (.int f)]) = execSs sub C fn6.pin bigN (tl (tl (tl fn6.body))) [some (mM a0 a1 a2 a3 a4 a5 a6 a7 (.lst (dm st)) a9 a10), some (.dat (.str w)), some (.dat (.int f)), some (.dat y), some (.dat x), some (.dat (.int (1 + s1 + s2)))] := by
  have p1 := fPop_dm (st ++ [x]) y
  have p2 := fPop_dm st x
  rw [List.append_assoc] at p1
  have p1 : fPop (.lst (dm (st ++ [x, y]))) [] = some (.lst (dm (st ++ [x])), .dat y) := p1
  unfold fn6
  dsimp! [startE, fx8, p1]
  dsimp! [fx8, p2]
  dsimp! [kc3, h1, h2]
  rfl
theorem lay_w {z : Int} {cl : List D} (g : ¬ 1000 < z) (h : f ∈ pl) (l1 : lg.length ≤ 900000) (l2 : st.length ≤ 900000) (l3 : cl.length ≤ 900000) :
    execSs sub C fn6.pin bigN (tl (tl (tl fn6.body))) [some (mM a0 a1 a2 a3 a4 a5 (.lst (dm (nI pl))) (.lst (dm cl)) (.lst (dm st)) (.lst (dm lg)) a10), some (.dat (.str w)), some (.dat (.int f)), some (.dat y), some (.dat x), some (.dat (.int z))] =
      .nx [some (mM a0 a1 a2 a3 a4 a5 (.lst (dm (nI pl))) (.lst (dm (cl ++ [.tup [.str w, x, y, .int f, .int z]]))) (.lst (dm (st ++ [.tup [.int cl.length]]))) (.lst (dm (lg ++ [lgD "lay" (.int f)]))) a10), some (.dat (.str w)), some (.dat (.int f)), some (.dat y), some (.dat x), some (.dat (.int z))] := by
  have p1 := fAppend_dm (d := lgD "lay" (.int f)) l1
  have p2 := fAppend_dm (d := .tup [.int cl.length]) l2
  have p3 := fAppend_dm (d := .tup [.str w, x, y, .int f, .int z]) l3
  unfold fn6
  simp only [tl]
  dsimp! [g]
  dsimp! [ts11, dm_toDs, ld6, inD_nI, h, flat_b]
  dsimp! [fx9, fTup_n, p1]
  dsimp! [fx8, fTup_n, ts11, dm_toDs, ld7, flat_i, p2]
  refine ex_last ?_
  simp! [fx7, fTup_n, p3]
theorem lay_g {z : Int} (g : 1000 < z) : execSs sub C fn6.pin bigN (tl (tl (tl fn6.body))) [some (mM a0 a1 a2 a3 a4 a5 a6 a7 a8 a9 a10), some (.dat (.str w)), some (.dat (.int f)), some (.dat y), some (.dat x), some (.dat (.int z))] =
      .err "TooGreat" [some (mM a0 a1 a2 a3 a4 a5 a6 a7 a8 a9 a10), some (.dat (.str w)), some (.dat (.int f)), some (.dat y), some (.dat x), some (.dat (.int z))] := by
  unfold fn6
  simp only [tl]
  refine ex_er ?_
  simp! [g]
theorem lay_n {z : Int} (g : ¬ 1000 < z) (h : ¬ f ∈ pl) : execSs sub C fn6.pin bigN (tl (tl (tl fn6.body))) [some (mM a0 a1 a2 a3 a4 a5 (.lst (dm (nI pl))) a7 a8 a9 a10), some (.dat (.str w)), some (.dat (.int f)), some (.dat y), some (.dat x), some (.dat (.int z))] =
      .err "Gone" [some (mM a0 a1 a2 a3 a4 a5 (.lst (dm (nI pl))) a7 a8 a9 a10), some (.dat (.str w)), some (.dat (.int f)), some (.dat y), some (.dat x), some (.dat (.int z))] := by
  unfold fn6
  simp only [tl]
  dsimp! [g]
  refine ex_er ?_
  simp! [ts11, dm_toDs, ld6, inD_nI, h, flat_b]
/-! a look -/
theorem look_e : execSs sub C fn7.pin bigN fn7.body (startE fn7 [mM a0 a1 a2 a3 a4 a5 a6 a7 (.lst (dm (st ++ [.non]))) a9 a10, .dat (.str w)]) = .err "Empty" [some (mM a0 a1 a2 a3 a4 a5 a6 a7 (.lst (dm st)) a9 a10), some (.dat (.str w)), some (.dat .non), none] := by
  have p1 := fPop_dm st .non
  have n1 : fIsN .non .non = some (.bl true) := rfl
  unfold fn7
  dsimp! [startE, fx8, p1]
  refine ex_er ?_
  simp! [n1]
theorem look_x {e : Str} (n1 : fIsN v .non = some (.bl false)) (h : C 3 [mM a0 a1 a2 a3 a4 a5 a6 a7 (.lst (dm st)) a9 a10, .dat v] = .err e [some (mM a0 a1 a2 a3 a4 a5 a6 a7 (.lst (dm st)) a9 a10), none]) : execSs sub C fn7.pin bigN fn7.body (startE fn7 [mM a0 a1 a2 a3 a4 a5 a6 a7 (.lst (dm (st ++ [v]))) a9 a10, .dat (.str w)]) = .err e [some (mM a0 a1 a2 a3 a4 a5 a6 a7 (.lst (dm st)) a9 a10), some (.dat (.str w)), some (.dat v), none] := by
  have p1 := fPop_dm st v
  unfold fn7
  dsimp! [startE, fx8, p1]
  dsimp! [n1]
  refine ex_er ?_
  simp! [kc2, h]
theorem look_w {q : Bool} {r : D} (n1 : fIsN v .non = some (.bl false)) (h : C 3 [mM a0 a1 a2 a3 a4 a5 a6 a7 (.lst (dm st)) (.lst (dm lg)) a10, .dat v] = .ok (.dat c) [some (mM a0 a1 a2 a3 a4 a5 a6 a7 (.lst (dm st)) (.lst (dm lg)) a10), none]) (e3 : fIx c (.int 3) = some (.int f))
    (hw : inD false (.str w) (.tup [.str "first", .str "head"]) = some (.bl q)) (er : fIx c (.int (if q then 1 else 2)) = some r) (l1 : lg.length ≤ 900000) (l2 : st.length ≤ 900000) :
    execSs sub C fn7.pin bigN fn7.body (startE fn7 [mM a0 a1 a2 a3 a4 a5 a6 a7 (.lst (dm (st ++ [v]))) (.lst (dm lg)) a10, .dat (.str w)]) = .nx [some (mM a0 a1 a2 a3 a4 a5 a6 a7 (.lst (dm (st ++ [r]))) (.lst (dm (lg ++ [lgD "look" (.int f)]))) a10), some (.dat (.str w)), some (.dat v), some (.dat c)] := by
  have p1 := fPop_dm st v
  have p2 := fAppend_dm (d := lgD "look" (.int f)) l1
  have p3 := fAppend_dm (d := r) l2
  unfold fn7
  dsimp! [startE, fx8, p1]
  dsimp! [n1]
  dsimp! [kc2, h]
  dsimp! [fx9, fTup_n, e3, p2]
  refine ex_last ?_
  cases q with
  | true =>
    have er : fIx c (.int 1) = some r := er
    simp! [fTup_n, hw, fx8, er, p3]
  | false =>
    have er : fIx c (.int 2) = some r := er
    simp! [fTup_n, hw, fx8, er, p3]
end
end K41
namespace K41
open PySem L2 Mi
theorem last_ix {α : Type} (fl : List α) (F : α) : ixN (fl ++ [F]).length (-1) = some fl.length := by
  unfold ixN
  rw [if_neg (by decide), if_pos (by rw [List.length_append, List.length_singleton]; omega)]
  congr 1
  rw [List.length_append, List.length_singleton]
  omega
theorem last_at {α : Type} (fl : List α) (F : α) : (fl ++ [F])[fl.length]? = some F := by simp
theorem last_set {α : Type} (fl : List α) (F G : α) : (fl ++ [F]).set fl.length G = fl ++ [G] := by simp
theorem nI_len (xs : List Int) : (nI xs).length = xs.length := by unfold nI; rw [List.length_map]
theorem atI_nI {xs : List Int} {i v : Int} (h : atI xs i = some v) : atI (nI xs) i = some (.int v) := by
  unfold atI at h ⊢
  rw [nI_len]
  cases q : ixN xs.length i with
  | none => rw [q] at h; cases h
  | some j =>
    rw [q] at h
    have h : xs[j]? = some v := h
    show (nI xs)[j]? = some (.int v)
    unfold nI
    rw [List.getElem?_map, h]
    rfl
theorem set_to {C : Nat → List M → Mi.CR} {pin : List Nat} {N : Nat} {i : Nat} {e : E} {m : M} {μ μ1 μ2 : Mi.Env} (hp : pin.contains i = false) (h : evalE C pin e μ = .ok m μ1) (hl : i < μ1.length) (hs : μ1.set i (some m) = μ2) : execS sub C pin N (.set (.one i) e) μ = .nx μ2 := hs ▸ set_ok hp h hl
theorem ex_expr {C : Nat → List M → Mi.CR} {pin : List Nat} {N : Nat} {e : E} {m : M} {μ μ1 : Mi.Env} (h : evalE C pin e μ = .ok m μ1) : execS sub C pin N (.expr e) μ = .nx μ1 := by
  show (evalE C pin e μ).res _ = _
  rw [h]
  rfl
section
variable {C : Nat → List M → Mi.CR} {a0 a1 a2 a3 a4 a5 a6 a7 a8 a9 a10 bh bb : M} {fl : List M} {fd : List Int} {st top : List D} {to many c0 mo : Int} {hs : List Int}
abbrev eE : E := .pth (.idx (.fld (.idx (.fld (.root 0) "Machine" "frames") (.op1 fNeg (.con (.int 1)))) "Frame" "fields") (.var 7))
theorem elt_w {h v : Int} {o1 o2 o3 o4 o5 o6 : Option M} (e : atI fd h = some v) : datOf (evalE C [0] eE [some (mM a0 a1 a2 a3 a4 a5 a6 a7 a8 a9 (.lst (fl ++ [fM bh (.lst (dm (nI fd))) bb]))), o1, o2, o3, o4, o5, o6, some (.dat (.int h))]) = .ok (.int v) [some (mM a0 a1 a2 a3 a4 a5 a6 a7 a8 a9 (.lst (fl ++ [fM bh (.lst (dm (nI fd))) bb]))), o1, o2, o3, o4, o5, o6, some (.dat (.int h))] := by
  obtain ⟨j, e1, e2⟩ := ixN_dm (atI_nI e)
  have l1 := last_ix fl (fM bh (.lst (dm (nI fd))) bb)
  have l2 := last_at fl (fM bh (.lst (dm (nI fd))) bb)
  have : evalE C [0] eE [some (mM a0 a1 a2 a3 a4 a5 a6 a7 a8 a9 (.lst (fl ++ [fM bh (.lst (dm (nI fd))) bb]))), o1, o2, o3, o4, o5, o6, some (.dat (.int h))] = .ok (.dat (.int v)) [some (mM a0 a1 a2 a3 a4 a5 a6 a7 a8 a9 (.lst (fl ++ [fM bh (.lst (dm (nI fd))) bb]))), o1, o2, o3, o4, o5, o6, some (.dat (.int h))] := by
    generalize fl ++ [fM bh (.lst (dm (nI fd))) bb] = FL at *
    generalize dm (nI fd) = FD at *
    simp! [fx10, l1, l2, gx1, e1, e2]
  rw [this]
  rfl
theorem elts_w {o1 o2 o3 o4 o5 o6 : Option M} : ∀ (hs vs : List Int) (acc : List D), (hs.map fun h => atI fd h) = vs.map some → compLoop [7] (.one 7) (fun μ => datOf (evalE C [0] (.con (.bl true)) μ)) (fun μ => datOf (evalE C [0] eE μ)) (nI hs) acc [some (mM a0 a1 a2 a3 a4 a5 a6 a7 a8 a9 (.lst (fl ++ [fM bh (.lst (dm (nI fd))) bb]))), o1, o2, o3, o4, o5, o6, none] =
    .ok (acc ++ nI vs) [some (mM a0 a1 a2 a3 a4 a5 a6 a7 a8 a9 (.lst (fl ++ [fM bh (.lst (dm (nI fd))) bb]))), o1, o2, o3, o4, o5, o6, none]
  | [], [], acc, _ => by show Out.ok acc _ = _; rw [show nI [] = [] from rfl, List.append_nil]
  | [], v :: vs, acc, h => by cases h
  | h :: hs, [], acc, e => by cases e
  | h :: hs, v :: vs, acc, e => by
    rw [List.map_cons, List.map_cons] at e
    injection e with e1 e2
    refine (comp_keep (c := fun μ => datOf (evalE C [0] (.con (.bl true)) μ)) (e := fun μ => datOf (evalE C [0] eE μ)) (d := .int h) (ds := nI hs) (show setTg (.one 7) (.dat (.int h)) [some (mM a0 a1 a2 a3 a4 a5 a6 a7 a8 a9 (.lst (fl ++ [fM bh (.lst (dm (nI fd))) bb]))), o1, o2, o3, o4, o5, o6, none] = some [some (mM a0 a1 a2 a3 a4 a5 a6 a7 a8 a9 (.lst (fl ++ [fM bh (.lst (dm (nI fd))) bb]))), o1, o2, o3, o4, o5, o6, some (.dat (.int h))] from rfl) rfl (elt_w e1)).trans ?_
    refine (elts_w hs vs (acc ++ [.int v]) e2).trans ?_
    rw [List.append_assoc]
    rfl
/-- a new frame -/
theorem frame_w {h f : M} {b : D} : execSs sub C fn0.pin bigN fn0.body (startE fn0 [.ins "Frame" [] [], h, f, .dat b]) = .nx [some (fM h f (.dat b)), none, none, some (.dat b)] := by
  have s1 : fSetFld "Frame" "held" (.ins "Frame" [] []) [h] = some (.ins "Frame" ["held"] [h], .dat .non) := rfl
  have s2 : fSetFld "Frame" "fields" (.ins "Frame" ["held"] [h]) [f] = some (.ins "Frame" ["held", "fields"] [h, f], .dat .non) := rfl
  have s3 : fSetFld "Frame" "back" (.ins "Frame" ["held", "fields"] [h, f]) [.dat b] = some (fM h f (.dat b), .dat .non) := rfl
  unfold fn0
  dsimp! [startE, s1]
  dsimp! [s2]
  refine ex_last ?_
  simp! [s3]
theorem toDs_len (xs : List M) : (M.toDs xs).length = xs.length := by
  induction xs with
  | nil => rfl
  | cons m r ih => show (M.toDs r).length + 1 = _; rw [ih]; rfl
theorem slL_drop {α : Type} (f : α → D) (xs : List α) (n : Nat) (h : n ≤ xs.length) : fSlL [.lst (xs.map f), .int n, .non] = some (.lst ((xs.drop n).map f)) := by
  have h1 : HT.sIx (xs.map f).length 0 (some (n : Int)) = n := by
    simp only [HT.sIx, List.length_map]
    have z : ¬ ((n : Int) < 0) := by omega
    rw [if_neg z]
    omega
  have h2 : HT.sIx (xs.map f).length (xs.map f).length none = xs.length := by simp [HT.sIx]
  show ((optI (.int n)).bind fun l => (optI .non).bind fun hh => some (D.lst (cutD (xs.map f) l hh))) = _
  simp only [optI, Option.bind]
  unfold cutD
  rw [h1, h2, ← List.map_drop, ← List.map_take, List.take_of_length_le (by rw [List.length_drop]; omega)]
theorem slL_take {α : Type} (f : α → D) (xs : List α) (n : Nat) (h : n ≤ xs.length) : fSlL [.lst (xs.map f), .non, .int n] = some (.lst ((xs.take n).map f)) := by
  have h1 : HT.sIx (xs.map f).length 0 none = 0 := by simp [HT.sIx]
  have h2 : HT.sIx (xs.map f).length (xs.map f).length (some (n : Int)) = n := by
    simp only [HT.sIx, List.length_map]
    have z : ¬ ((n : Int) < 0) := by omega
    rw [if_neg z]
    omega
  show ((optI .non).bind fun l => (optI (.int n)).bind fun hh => some (D.lst (cutD (xs.map f) l hh))) = _
  simp only [optI, Option.bind]
  unfold cutD
  rw [h1, h2, Nat.sub_zero, List.drop_zero, ← List.map_take]
/-- ahead of the refusals -/
theorem call_pre (nt : M.noTup (mM a0 a1 a2 a3 a4 a5 a6 a7 (.lst (dm (st ++ top))) a9 a10) = true) (hd : D.hard.hards (st ++ top) = true) (hm : many = (top.length : Nat)) :
    execSs sub C fn8.pin bigN fn8.body (startE fn8 [mM a0 a1 a2 a3 a4 a5 a6 a7 (.lst (dm (st ++ top))) a9 a10, .dat (.int to), .dat (.int many), .dat (.tup (nI hs))]) =
      execSs sub C fn8.pin bigN (tl (tl (tl fn8.body))) [some (mM a0 a1 a2 a3 a4 a5 a6 a7 (.lst (dm st)) a9 a10), some (.dat (.int to)), some (.dat (.int many)), some (.dat (.tup (nI hs))), some (.dat (.int st.length)), some (.lst (dm top)), none, none] := by
  subst hm
  have e1 : (((st ++ top).length : Nat) : Int) - (top.length : Nat) = st.length := by rw [List.length_append]; omega
  have s1 := slL_drop id (st ++ top) st.length (by simp)
  have s2 := slL_take id (st ++ top) st.length (by simp)
  rw [List.map_id, List.drop_left, List.map_id] at s1
  rw [List.map_id, List.take_left, List.map_id] at s2
  have nt' : M.noTup.noTups [a0, a1, a2, a3, a4, a5, a6, a7, .lst (dm (st ++ top)), a9, a10] = true := nt
  have hd1 : D.hard.hards top = true := hards_mem fun d h => mem_hards hd d (List.mem_append_right _ h)
  have hd2 : D.hard.hards st = true := hards_mem fun d h => mem_hards hd d (List.mem_append_left _ h)
  have v : ∀ (c : Option M), evalE C [0] (.viewF (.opN fSlL (.cons (.op1 (fFld "Machine" "stack") (.var 0)) (.cons (.op1 fI (.var 4)) (.cons (.con .non) .nil))))) [some (mM a0 a1 a2 a3 a4 a5 a6 a7 (.lst (dm (st ++ top))) a9 a10), some (.dat (.int to)), some (.dat (.int (top.length : Nat))), some (.dat (.tup (nI hs))), some (.dat (.int st.length)), none, none, none] = .ok (.dat (.lst top)) [some (mM a0 a1 a2 a3 a4 a5 a6 a7 (.lst (dm (st ++ top))) a9 a10), some (.dat (.int to)), some (.dat (.int (top.length : Nat))), some (.dat (.tup (nI hs))), some (.dat (.int st.length)), none, none, none] := fun _ => by
    refine ev_viewF (μ2 := viewE [some (mM a0 a1 a2 a3 a4 a5 a6 a7 (.lst (dm (st ++ top))) a9 a10), some (.dat (.int to)), some (.dat (.int (top.length : Nat))), some (.dat (.tup (nI hs))), some (.dat (.int st.length)), none, none, none]) rfl ?_ ?_
    · generalize st ++ top = T at *
      generalize top.length = n at *
      generalize st.length = l at *
      simp! [ts11, dm_toDs, ld8, fI, s1]
    · rw [hd1]
      simp only [noTupE, List.all_cons, List.all_nil, nt', Bool.true_and, Bool.and_true, M.noTup, Bool.or_true]
  have v2 : evalE C [0] (.viewF (.opN fSlL (.cons (.op1 (fFld "Machine" "stack") (.var 0)) (.cons (.con .non) (.cons (.op1 fI (.var 4)) .nil))))) [some (mM a0 a1 a2 a3 a4 a5 a6 a7 (.lst (dm (st ++ top))) a9 a10), some (.dat (.int to)), some (.dat (.int (top.length : Nat))), some (.dat (.tup (nI hs))), some (.dat (.int st.length)), some (.lst (dm top)), none, none] = .ok (.dat (.lst st)) [some (mM a0 a1 a2 a3 a4 a5 a6 a7 (.lst (dm (st ++ top))) a9 a10), some (.dat (.int to)), some (.dat (.int (top.length : Nat))), some (.dat (.tup (nI hs))), some (.dat (.int st.length)), some (.lst (dm top)), none, none] := by
    have nt2 := noTups_dm top
    refine ev_viewF (μ2 := viewE [some (mM a0 a1 a2 a3 a4 a5 a6 a7 (.lst (dm (st ++ top))) a9 a10), some (.dat (.int to)), some (.dat (.int (top.length : Nat))), some (.dat (.tup (nI hs))), some (.dat (.int st.length)), some (.lst (dm top)), none, none]) rfl ?_ ?_
    · generalize st ++ top = T at *
      generalize top.length = n at *
      generalize st.length = l at *
      simp! [ts11, dm_toDs, ld8, fI, s2]
    · rw [hd2]
      simp only [noTupE, List.all_cons, List.all_nil, nt', Bool.true_and, Bool.and_true, M.noTup, nt2, Bool.or_true]
  have v1 := v none
  have to1 : toOwned (.dat (.lst top)) = some (.lst (dm top)) := rfl
  have to2 : toOwned (.dat (.lst st)) = some (.lst (dm st)) := rfl
  unfold fn8
  refine (ex_nx (μ1 := [some (mM a0 a1 a2 a3 a4 a5 a6 a7 (.lst (dm (st ++ top))) a9 a10), some (.dat (.int to)), some (.dat (.int (top.length : Nat))), some (.dat (.tup (nI hs))), some (.dat (.int st.length)), none, none, none]) ?_).trans ?_
  · generalize st ++ top = T at *
    generalize top.length = n at *
    generalize st.length = l at *
    simp! [startE, ts11, dm_toDs, ld8, e1, flat_i]
  refine (ex_nx (μ1 := [some (mM a0 a1 a2 a3 a4 a5 a6 a7 (.lst (dm (st ++ top))) a9 a10), some (.dat (.int to)), some (.dat (.int (top.length : Nat))), some (.dat (.tup (nI hs))), some (.dat (.int st.length)), some (.lst (dm top)), none, none]) ?_).trans ?_
  · have o1 : evalE C [0] (.own (.viewF (.opN fSlL (.cons (.op1 (fFld "Machine" "stack") (.var 0)) (.cons (.op1 fI (.var 4)) (.cons (.con .non) .nil)))))) [some (mM a0 a1 a2 a3 a4 a5 a6 a7 (.lst (dm (st ++ top))) a9 a10), some (.dat (.int to)), some (.dat (.int (top.length : Nat))), some (.dat (.tup (nI hs))), some (.dat (.int st.length)), none, none, none] = .ok (.lst (dm top)) [some (mM a0 a1 a2 a3 a4 a5 a6 a7 (.lst (dm (st ++ top))) a9 a10), some (.dat (.int to)), some (.dat (.int (top.length : Nat))), some (.dat (.tup (nI hs))), some (.dat (.int st.length)), none, none, none] := by
      show (evalE C [0] (.viewF _) _).bind _ = _
      rw [v1]
      rfl
    exact set_to rfl o1 (by simp) rfl
  refine (ex_nx (μ1 := [some (mM a0 a1 a2 a3 a4 a5 a6 a7 (.lst (dm st)) a9 a10), some (.dat (.int to)), some (.dat (.int (top.length : Nat))), some (.dat (.tup (nI hs))), some (.dat (.int st.length)), some (.lst (dm top)), none, none]) ?_).trans rfl
  generalize E.viewF (.opN fSlL (.cons (.op1 (fFld "Machine" "stack") (.var 0)) (.cons (.con .non) (.cons (.op1 fI (.var 4)) .nil)))) = ee at *
  generalize dm (st ++ top) = T at *
  generalize top.length = n at *
  generalize st.length = l at *
  simp! [v2, to2, st_stack]
  rfl
theorem call_long {o4 o5 : M} (g : ¬ c0 < mo) : execSs sub C fn8.pin bigN (tl (tl (tl fn8.body))) [some (mM a0 a1 a2 (.dat (.int mo)) (.dat (.int c0)) a5 a6 a7 a8 a9 a10), some (.dat (.int to)), some (.dat (.int many)), some (.dat (.tup (nI hs))), some o4, some o5, none, none] =
    .err "TooLong" [some (mM a0 a1 a2 (.dat (.int mo)) (.dat (.int c0)) a5 a6 a7 a8 a9 a10), some (.dat (.int to)), some (.dat (.int many)), some (.dat (.tup (nI hs))), some o4, some o5, none, none] := by
  have g' : mo ≤ c0 := by omega
  unfold fn8
  simp only [tl]
  refine ex_er ?_
  simp! [fx3, fx4, g']
theorem call_deep {o4 o5 : M} {fr : List M} (g : c0 < mo) (h : 12 < fr.length) : execSs sub C fn8.pin bigN (tl (tl (tl fn8.body))) [some (mM a0 a1 a2 (.dat (.int mo)) (.dat (.int c0)) a5 a6 a7 a8 a9 (.lst fr)), some (.dat (.int to)), some (.dat (.int many)), some (.dat (.tup (nI hs))), some o4, some o5, none, none] =
    .err "TooDeep" [some (mM a0 a1 a2 (.dat (.int mo)) (.dat (.int c0)) a5 a6 a7 a8 a9 (.lst fr)), some (.dat (.int to)), some (.dat (.int many)), some (.dat (.tup (nI hs))), some o4, some o5, none, none] := by
  have g' : ¬ mo ≤ c0 := by omega
  have h' : (12 : Int) < (fr.length : Nat) := by omega
  unfold fn8
  simp only [tl]
  dsimp! [fx3, fx4, g']
  refine ex_er ?_
  simp! [ts11, ld10, toDs_len, flat_b, h']
theorem call_w {vs : List Int} {b0 : D} {o4 : M} (hC : C 0 [.ins "Frame" [] [], .lst (dm top), .lst (dm (nI vs)), .dat b0] = .ok (.dat .non) [some (fM (.lst (dm top)) (.lst (dm (nI vs))) (.dat b0)), none, none, none]) (g : c0 < mo) (h : fl.length < 12) (hv : (hs.map fun h => atI fd h) = vs.map some) (hl : vs.length ≤ 900) :
    execSs sub C fn8.pin bigN (tl (tl (tl fn8.body))) [some (mM a0 (.dat b0) a2 (.dat (.int mo)) (.dat (.int c0)) a5 a6 a7 a8 a9 (.lst (fl ++ [fM bh (.lst (dm (nI fd))) bb]))), some (.dat (.int to)), some (.dat (.int many)), some (.dat (.tup (nI hs))), some o4, some (.lst (dm top)), none, none] =
      .nx [some (mM a0 (.dat (.int to)) a2 (.dat (.int mo)) (.dat (.int (c0 + 1))) a5 a6 a7 a8 a9 (.lst (fl ++ [fM bh (.lst (dm (nI fd))) bb, fM (.lst (dm top)) (.lst (dm (nI vs))) (.dat b0)]))), some (.dat (.int to)), some (.dat (.int many)), some (.dat (.tup (nI hs))), some o4, none, none, none] := by
  have g' : ¬ mo ≤ c0 := by omega
  have h' : ¬ (12 : Int) < ((fl ++ [fM bh (.lst (dm (nI fd))) bb]).length : Nat) := by rw [List.length_append, List.length_singleton]; omega
  have sq : fSeq [.tup (nI hs)] = some (nI hs) := rfl
  have cm := elts_w (C := C) (a0 := a0) (a1 := .dat b0) (a2 := a2) (a3 := .dat (.int mo)) (a4 := .dat (.int (c0 + 1))) (a5 := a5) (a6 := a6) (a7 := a7) (a8 := a8) (a9 := a9) (bh := bh) (bb := bb) (fl := fl) (fd := fd) (o1 := some (.dat (.int to))) (o2 := some (.dat (.int many))) (o3 := some (.dat (.tup (nI hs)))) (o4 := some o4) (o5 := some (.lst (dm top))) (o6 := none) hs vs [] hv
  rw [List.nil_append] at cm
  have ap : ∀ a : M, fAppend (.lst (fl ++ [fM bh (.lst (dm (nI fd))) bb])) [a] = some (.lst (fl ++ [fM bh (.lst (dm (nI fd))) bb, a]), .dat .non) := fun a => by
    unfold fAppend
    dsimp only
    rw [if_pos (Nat.lt_of_le_of_lt (show _ ≤ 1000 by rw [List.length_append, List.length_singleton]; omega) (by decide)), List.append_assoc]
    rfl
  have CE : evalE C [0] (.own (.comp false [7] (.one 7) fSeq (.cons (.var 3) .nil) (.con (.bl true)) eE)) [some (mM a0 (.dat b0) a2 (.dat (.int mo)) (.dat (.int (c0 + 1))) a5 a6 a7 a8 a9 (.lst (fl ++ [fM bh (.lst (dm (nI fd))) bb]))), some (.dat (.int to)), some (.dat (.int many)), some (.dat (.tup (nI hs))), some o4, some (.lst (dm top)), none, none] = .ok (.lst (dm (nI vs))) [some (mM a0 (.dat b0) a2 (.dat (.int mo)) (.dat (.int (c0 + 1))) a5 a6 a7 a8 a9 (.lst (fl ++ [fM bh (.lst (dm (nI fd))) bb]))), some (.dat (.int to)), some (.dat (.int many)), some (.dat (.tup (nI hs))), some o4, some (.lst (dm top)), none, none] := by
    have c1 := ev_comp (C := C) (pin := [0]) (own := [7]) (t := .one 7) (f := fSeq) (src := .cons (.var 3) .nil) (c := .con (.bl true)) (e := eE) (μ := [some (mM a0 (.dat b0) a2 (.dat (.int mo)) (.dat (.int (c0 + 1))) a5 a6 a7 a8 a9 (.lst (fl ++ [fM bh (.lst (dm (nI fd))) bb]))), some (.dat (.int to)), some (.dat (.int many)), some (.dat (.tup (nI hs))), some o4, some (.lst (dm top)), none, none]) (μ1 := [some (mM a0 (.dat b0) a2 (.dat (.int mo)) (.dat (.int (c0 + 1))) a5 a6 a7 a8 a9 (.lst (fl ++ [fM bh (.lst (dm (nI fd))) bb]))), some (.dat (.int to)), some (.dat (.int many)), some (.dat (.tup (nI hs))), some o4, some (.lst (dm top)), none, none]) (ms := [.dat (.tup (nI hs))]) (ds := [.tup (nI hs)]) rfl rfl rfl sq cm (le_line (by rw [nI_len]; omega))
    show (evalE C [0] (.comp false [7] (.one 7) fSeq _ _ eE) _).bind _ = _
    rw [c1]
    rfl
  unfold fn8
  simp only [tl]
  dsimp! [fx3, fx4, g']
  refine (ex_nx (μ1 := [some (mM a0 (.dat b0) a2 (.dat (.int mo)) (.dat (.int c0)) a5 a6 a7 a8 a9 (.lst (fl ++ [fM bh (.lst (dm (nI fd))) bb]))), some (.dat (.int to)), some (.dat (.int many)), some (.dat (.tup (nI hs))), some o4, some (.lst (dm top)), none, none]) (ite_f (μ1 := [some (mM a0 (.dat b0) a2 (.dat (.int mo)) (.dat (.int c0)) a5 a6 a7 a8 a9 (.lst (fl ++ [fM bh (.lst (dm (nI fd))) bb]))), some (.dat (.int to)), some (.dat (.int many)), some (.dat (.tup (nI hs))), some o4, some (.lst (dm top)), none, none]) ?_ ex_nil)).trans ?_
  · generalize fl ++ [fM bh (.lst (dm (nI fd))) bb] = FL at *
    have h2 : ¬ 12 < FL.length := by omega
    simp! [ts11, ld10, toDs_len, flat_b, h2]
    omega
  refine (ex_nx (μ1 := [some (mM a0 (.dat b0) a2 (.dat (.int mo)) (.dat (.int (c0 + 1))) a5 a6 a7 a8 a9 (.lst (fl ++ [fM bh (.lst (dm (nI fd))) bb]))), some (.dat (.int to)), some (.dat (.int many)), some (.dat (.tup (nI hs))), some o4, some (.lst (dm top)), none, none]) ?_).trans ?_
  · generalize fl ++ [fM bh (.lst (dm (nI fd))) bb] = FL at *
    simp! [ag_calls]
  refine (ex_nx (set_ok rfl CE (by simp))).trans ?_
  refine (ex_nx (μ1 := [some (mM a0 (.dat b0) a2 (.dat (.int mo)) (.dat (.int (c0 + 1))) a5 a6 a7 a8 a9 (.lst (fl ++ [fM bh (.lst (dm (nI fd))) bb, fM (.lst (dm top)) (.lst (dm (nI vs))) (.dat b0)]))), some (.dat (.int to)), some (.dat (.int many)), some (.dat (.tup (nI hs))), some o4, none, none, none]) ?_).trans ?_
  · have ap1 := ap (fM (.lst (dm top)) (.lst (dm (nI vs))) (.dat b0))
    have e : evalE C [0] (.mutT 0 fAppend (.fld (.root 0) "Machine" "frames") (.new "Frame" 0 (.val (.mov 5) (.val (.mov 6) (.val (.pth (.fld (.root 0) "Machine" "at")) .nil))))) [some (mM a0 (.dat b0) a2 (.dat (.int mo)) (.dat (.int (c0 + 1))) a5 a6 a7 a8 a9 (.lst (fl ++ [fM bh (.lst (dm (nI fd))) bb]))), some (.dat (.int to)), some (.dat (.int many)), some (.dat (.tup (nI hs))), some o4, some (.lst (dm top)), some (.lst (dm (nI vs))), none] =
        .ok (.dat .non) [some (mM a0 (.dat b0) a2 (.dat (.int mo)) (.dat (.int (c0 + 1))) a5 a6 a7 a8 a9 (.lst (fl ++ [fM bh (.lst (dm (nI fd))) bb, fM (.lst (dm top)) (.lst (dm (nI vs))) (.dat b0)]))), some (.dat (.int to)), some (.dat (.int many)), some (.dat (.tup (nI hs))), some o4, none, none, none] := by
      generalize fM (.lst (dm top)) (.lst (dm (nI vs))) (.dat b0) = NF at *
      generalize fl ++ [fM bh (.lst (dm (nI fd))) bb, NF] = FL2 at *
      generalize fl ++ [fM bh (.lst (dm (nI fd))) bb] = FL at *
      have ep : evalP C [0] (.fld (.root 0) "Machine" "frames") [some (mM a0 (.dat b0) a2 (.dat (.int mo)) (.dat (.int (c0 + 1))) a5 a6 a7 a8 a9 (.lst FL)), some (.dat (.int to)), some (.dat (.int many)), some (.dat (.tup (nI hs))), some o4, some (.lst (dm top)), some (.lst (dm (nI vs))), none] = some (0, [10]) := by
        simp! [fx10]
      unfold evalE
      rw [ep]
      show (if (M.lst FL).kind = 0 ∧ 0 ≠ 3 then _ else _) = _
      rw [if_pos ⟨rfl, by decide⟩]
      refine allO_eq fun a => ?_
      have q : evalE C [0] (.new "Frame" 0 (.val (.mov 5) (.val (.mov 6) (.val (.pth (.fld (.root 0) "Machine" "at")) .nil)))) (putPl [some (mM a0 (.dat b0) a2 (.dat (.int mo)) (.dat (.int (c0 + 1))) a5 a6 a7 a8 a9 (.lst FL)), some (.dat (.int to)), some (.dat (.int many)), some (.dat (.tup (nI hs))), some o4, some (.lst (dm top)), some (.lst (dm (nI vs))), none] (0, [10]) (.dat (.adr a))) = .ok NF [some (mM a0 (.dat b0) a2 (.dat (.int mo)) (.dat (.int (c0 + 1))) a5 a6 a7 a8 a9 (.dat (.adr a))), some (.dat (.int to)), some (.dat (.int many)), some (.dat (.tup (nI hs))), some o4, none, none, none] := by
        simp! [fx1, hC, newEnd]
      rw [q]
      show (if a = a then (match fAppend (.lst FL) [NF] with | some (m1', r) => Out.ok r _ | none => Out.stuck) else Out.stuck) = _
      rw [if_pos rfl, ap1]
      rfl
    exact ex_expr e
  · refine ex_last ?_
    generalize fl ++ [fM bh (.lst (dm (nI fd))) bb, fM (.lst (dm top)) (.lst (dm (nI vs))) (.dat b0)] = FL2
    simp! [st_at]
end
end K41
namespace K41
open PySem L2 Mi
/-! ### the top frame under a name of its own -/
section
variable {C : Nat → List M → Mi.CR} {pin : List Nat} {N j : Nat} {c : E} {ss : Ss} {a0 a1 a2 a3 a4 a5 a6 a7 a8 a9 b0 b1 b2 b3 b4 b5 b6 b7 b8 b9 F G : M} {fl : List M} {os os' : List (Option M)}
abbrev topP : Path := .idx (.fld (.root 0) "Machine" "frames") (.op1 fNeg (.con (.int 1)))
theorem top_at : evalP C pin topP (some (mM a0 a1 a2 a3 a4 a5 a6 a7 a8 a9 (.lst (fl ++ [F]))) :: os) = some (0, [10, fl.length]) := by
  have l1 := last_ix fl F
  generalize fl ++ [F] = FL at *
  simp! [fx10, l1]
theorem at_top : atPl (some (mM a0 a1 a2 a3 a4 a5 a6 a7 a8 a9 (.lst (fl ++ [F]))) :: os) (0, [10, fl.length]) = some F := by
  have l2 := last_at fl F
  generalize fl ++ [F] = FL at *
  simp! [l2]
theorem at_none : atPl (some (mM a0 a1 a2 a3 a4 a5 a6 a7 a8 a9 (.lst fl)) :: os) (0, [10, fl.length]) = none := by
  have l2 : fl[fl.length]? = none := List.getElem?_eq_none (Nat.le_refl _)
  generalize fl.length = n at *
  simp! [l2]
theorem put_top : putPl (some (mM a0 a1 a2 a3 a4 a5 a6 a7 a8 a9 (.lst (fl ++ [F]))) :: os) (0, [10, fl.length]) G = some (mM a0 a1 a2 a3 a4 a5 a6 a7 a8 a9 (.lst (fl ++ [G]))) :: os := by
  have l2 := last_at fl F
  have l3 := last_set fl F G
  generalize fl ++ [F] = FL at *
  generalize fl ++ [G] = GL at *
  simp! [l2, l3]
theorem al_top (hj : j < os.length) (hp : pin.contains (j + 1) = false) (hF : F.kind = 2) (hc : evalE C pin c (some (mM a0 a1 a2 a3 a4 a5 a6 a7 a8 a9 (.lst (fl ++ [F]))) :: os) = .ok (.dat (.bl true)) (some (mM a0 a1 a2 a3 a4 a5 a6 a7 a8 a9 (.lst (fl ++ [F]))) :: os))
    (hb : ∀ a, execSs sub C ((j + 1) :: pin) N ss (some (mM a0 a1 a2 a3 a4 a5 a6 a7 a8 a9 (.lst (fl ++ [.dat (.adr a)]))) :: os.set j (some F)) = .nx (some (mM b0 b1 b2 b3 b4 b5 b6 b7 b8 b9 (.lst (fl ++ [.dat (.adr a)]))) :: os')) (hG : os'[j]? = some (some G)) :
    execS sub C pin N (.nick c (j + 1) topP ss) (some (mM a0 a1 a2 a3 a4 a5 a6 a7 a8 a9 (.lst (fl ++ [F]))) :: os) = .nx (some (mM b0 b1 b2 b3 b4 b5 b6 b7 b8 b9 (.lst (fl ++ [G]))) :: os'.set j none) := by
  unfold execS
  rw [if_pos ⟨Nat.succ_lt_succ hj, hp⟩, top_at]
  dsimp only
  rw [at_top]
  dsimp only
  rw [if_pos ⟨hF, by simp⟩, hc]
  dsimp only
  refine allA_eq fun a => ?_
  rw [put_top]
  show unalR (j + 1) _ a (execSs sub C ((j + 1) :: pin) N ss (some _ :: os.set j (some F))) = _
  rw [hb a]
  have sl : slot (some (mM b0 b1 b2 b3 b4 b5 b6 b7 b8 b9 (.lst (fl ++ [.dat (.adr a)]))) :: os') (j + 1) = some G := by
    show (os'[j]?).getD none = _
    rw [hG]
    rfl
  show (match unal _ _ a _ with | some μ' => Mi.Res.nx μ' | none => Mi.Res.stuck) = _
  unfold unal
  rw [sl]
  dsimp only
  rw [show (some (mM b0 b1 b2 b3 b4 b5 b6 b7 b8 b9 (.lst (fl ++ [.dat (.adr a)]))) :: os').set (j + 1) none = some (mM b0 b1 b2 b3 b4 b5 b6 b7 b8 b9 (.lst (fl ++ [.dat (.adr a)]))) :: os'.set j none from rfl, at_top]
  dsimp only
  rw [if_pos rfl, put_top]
theorem al_gone (hj : j < os.length) (hp : pin.contains (j + 1) = false) (hF : F.kind = 2) (hc : evalE C pin c (some (mM a0 a1 a2 a3 a4 a5 a6 a7 a8 a9 (.lst (fl ++ [F]))) :: os) = .ok (.dat (.bl true)) (some (mM a0 a1 a2 a3 a4 a5 a6 a7 a8 a9 (.lst (fl ++ [F]))) :: os))
    (hb : ∀ a, execSs sub C ((j + 1) :: pin) N ss (some (mM a0 a1 a2 a3 a4 a5 a6 a7 a8 a9 (.lst (fl ++ [.dat (.adr a)]))) :: os.set j (some F)) = .nx (some (mM b0 b1 b2 b3 b4 b5 b6 b7 b8 b9 (.lst fl)) :: os')) (hG : os'[j]? = some (some G)) :
    execS sub C pin N (.nick c (j + 1) topP ss) (some (mM a0 a1 a2 a3 a4 a5 a6 a7 a8 a9 (.lst (fl ++ [F]))) :: os) = .nx (some (mM b0 b1 b2 b3 b4 b5 b6 b7 b8 b9 (.lst fl)) :: os'.set j none) := by
  unfold execS
  rw [if_pos ⟨Nat.succ_lt_succ hj, hp⟩, top_at]
  dsimp only
  rw [at_top]
  dsimp only
  rw [if_pos ⟨hF, by simp⟩, hc]
  dsimp only
  refine allA_eq fun a => ?_
  rw [put_top]
  show unalR (j + 1) _ a (execSs sub C ((j + 1) :: pin) N ss (some _ :: os.set j (some F))) = _
  rw [hb a]
  have sl : slot (some (mM b0 b1 b2 b3 b4 b5 b6 b7 b8 b9 (.lst fl)) :: os') (j + 1) = some G := by
    show (os'[j]?).getD none = _
    rw [hG]
    rfl
  show (match unal _ _ a _ with | some μ' => Mi.Res.nx μ' | none => Mi.Res.stuck) = _
  unfold unal
  rw [sl]
  dsimp only
  rw [show (some (mM b0 b1 b2 b3 b4 b5 b6 b7 b8 b9 (.lst fl)) :: os').set (j + 1) none = some (mM b0 b1 b2 b3 b4 b5 b6 b7 b8 b9 (.lst fl)) :: os'.set j none from rfl, at_none]
theorem al_f (hj : j < os.length) (hp : pin.contains (j + 1) = false) (hF : F.kind = 2) {R : Mi.Res} (hc : evalE C pin c (some (mM a0 a1 a2 a3 a4 a5 a6 a7 a8 a9 (.lst (fl ++ [F]))) :: os) = .ok (.dat (.bl false)) (some (mM a0 a1 a2 a3 a4 a5 a6 a7 a8 a9 (.lst (fl ++ [F]))) :: os))
    (hb : execSs sub C pin N ss (some (mM a0 a1 a2 a3 a4 a5 a6 a7 a8 a9 (.lst (fl ++ [F]))) :: os.set j none) = R) :
    execS sub C pin N (.nick c (j + 1) topP ss) (some (mM a0 a1 a2 a3 a4 a5 a6 a7 a8 a9 (.lst (fl ++ [F]))) :: os) = R := by
  unfold execS
  rw [if_pos ⟨Nat.succ_lt_succ hj, hp⟩, top_at]
  dsimp only
  rw [at_top]
  dsimp only
  rw [if_pos ⟨hF, by simp⟩, hc]
  exact hb
end
/-! ### rows that only move values and locals -/
section
variable {C : Nat → List M → Mi.CR} {a0 a1 a2 a3 a4 a5 a6 a7 a9 bh bf bb : M} {fl : List M} {st hl : List D} {r : D} {w : Str}
/-- the walk ahead of the nick -/
theorem plain_pre {μ : Mi.Env} (hw : fIx r (.int 0) = some (.str w)) {a10 : M} : execSs sub C fn10.pin bigN fn10.body (startE fn10 [mM a0 a1 a2 a3 a4 a5 a6 a7 (.lst (dm st)) a9 a10, .dat r]) = execSs sub C fn10.pin bigN (tl fn10.body) [some (mM a0 a1 a2 a3 a4 a5 a6 a7 (.lst (dm st)) a9 a10), some (.dat r), some (.dat (.str w)), none] := by
  unfold fn10
  dsimp! [startE, hw]
  rfl
theorem plain_num {d : D} (hw : fIx r (.int 0) = some (.str "number")) (h1 : fIx r (.int 1) = some d) (g : st.length ≤ 900000) :
    execSs sub C fn10.pin bigN fn10.body (startE fn10 [mM a0 a1 a2 a3 a4 a5 a6 a7 (.lst (dm st)) a9 (.lst (fl ++ [fM bh bf bb])), .dat r]) = .nx [some (mM a0 a1 a2 a3 a4 a5 a6 a7 (.lst (dm (st ++ [d]))) a9 (.lst (fl ++ [fM bh bf bb]))), some (.dat r), some (.dat (.str "number")), none] := by
  have p := fAppend_dm (d := d) g
  refine (plain_pre (μ := []) hw).trans ?_
  unfold fn10
  refine ex_last (al_top (os' := [some (.dat r), some (.dat (.str "number")), some (fM bh bf bb)]) (by show 2 < 3; decide) rfl rfl rfl (fun a => ?_) rfl)
  generalize fl ++ [M.dat (.adr a)] = GL
  simp! [h1, fx8, p]
theorem plain_loc {d : D} {i : Int} {j : Nat} (hw : fIx r (.int 0) = some (.str "local")) (h1 : fIx r (.int 1) = some (.int i)) (e1 : ixN (dm hl).length i = some j) (e2 : (dm hl)[j]? = some (.dat d)) (g : st.length ≤ 900000) :
    execSs sub C fn10.pin bigN fn10.body (startE fn10 [mM a0 a1 a2 a3 a4 a5 a6 a7 (.lst (dm st)) a9 (.lst (fl ++ [fM (.lst (dm hl)) bf bb])), .dat r]) = .nx [some (mM a0 a1 a2 a3 a4 a5 a6 a7 (.lst (dm (st ++ [d]))) a9 (.lst (fl ++ [fM (.lst (dm hl)) bf bb]))), some (.dat r), some (.dat (.str "local")), none] := by
  have p := fAppend_dm (d := d) g
  refine (plain_pre (μ := []) hw).trans ?_
  unfold fn10
  refine ex_last (al_top (os' := [some (.dat r), some (.dat (.str "local")), some (fM (.lst (dm hl)) bf bb)]) (by show 2 < 3; decide) rfl rfl rfl (fun a => ?_) rfl)
  generalize fl ++ [M.dat (.adr a)] = GL
  generalize dm hl = HL at *
  simp! [h1, fx8, gx0, e1, e2, p]
theorem plain_keep {d : D} (hw : fIx r (.int 0) = some (.str "keep")) (g : hl.length ≤ 900000) :
    execSs sub C fn10.pin bigN fn10.body (startE fn10 [mM a0 a1 a2 a3 a4 a5 a6 a7 (.lst (dm (st ++ [d]))) a9 (.lst (fl ++ [fM (.lst (dm hl)) bf bb])), .dat r]) = .nx [some (mM a0 a1 a2 a3 a4 a5 a6 a7 (.lst (dm st)) a9 (.lst (fl ++ [fM (.lst (dm (hl ++ [d]))) bf bb]))), some (.dat r), some (.dat (.str "keep")), none] := by
  have p := fAppend_dm (d := d) g
  have p2 := fPop_dm st d
  refine (plain_pre (μ := []) hw).trans ?_
  unfold fn10
  refine ex_last (al_top (os' := [some (.dat r), some (.dat (.str "keep")), some (fM (.lst (dm (hl ++ [d]))) bf bb)]) (by show 2 < 3; decide) rfl rfl rfl (fun a => ?_) rfl)
  generalize fl ++ [M.dat (.adr a)] = GL
  generalize dm (hl ++ [d]) = HL2 at *
  generalize dm hl = HL at *
  simp! [gx0, fx8, p2, p]
theorem plain_drop {d : D} (hw : fIx r (.int 0) = some (.str "drop")) :
    execSs sub C fn10.pin bigN fn10.body (startE fn10 [mM a0 a1 a2 a3 a4 a5 a6 a7 (.lst (dm st)) a9 (.lst (fl ++ [fM (.lst (dm (hl ++ [d]))) bf bb])), .dat r]) = .nx [some (mM a0 a1 a2 a3 a4 a5 a6 a7 (.lst (dm st)) a9 (.lst (fl ++ [fM (.lst (dm hl)) bf bb]))), some (.dat r), some (.dat (.str "drop")), none] := by
  have p2 := fPop_dm hl d
  refine (plain_pre (μ := []) hw).trans ?_
  unfold fn10
  refine ex_last (al_top (os' := [some (.dat r), some (.dat (.str "drop")), some (fM (.lst (dm hl)) bf bb)]) (by show 2 < 3; decide) rfl rfl rfl (fun a => ?_) rfl)
  generalize fl ++ [M.dat (.adr a)] = GL
  simp! [gx0, p2]
theorem plain_nil (hw : fIx r (.int 0) = some (.str "nil")) (g : st.length ≤ 900000) :
    execSs sub C fn10.pin bigN fn10.body (startE fn10 [mM a0 a1 a2 a3 a4 a5 a6 a7 (.lst (dm st)) a9 (.lst (fl ++ [fM bh bf bb])), .dat r]) = .nx [some (mM a0 a1 a2 a3 a4 a5 a6 a7 (.lst (dm (st ++ [.non]))) a9 (.lst (fl ++ [fM bh bf bb]))), some (.dat r), some (.dat (.str "nil")), none] := by
  have p := fAppend_dm (d := .non) g
  refine (plain_pre (μ := []) hw).trans ?_
  unfold fn10
  refine ex_last (al_top (os' := [some (.dat r), some (.dat (.str "nil")), some (fM bh bf bb)]) (by show 2 < 3; decide) rfl rfl rfl (fun a => ?_) rfl)
  generalize fl ++ [M.dat (.adr a)] = GL
  simp! [fx8, p]
theorem plain_none {d : D} {q : Bool} (hw : fIx r (.int 0) = some (.str "none")) (hn : fIsN d .non = some (.bl q)) (g : st.length ≤ 900000) :
    execSs sub C fn10.pin bigN fn10.body (startE fn10 [mM a0 a1 a2 a3 a4 a5 a6 a7 (.lst (dm (st ++ [d]))) a9 (.lst (fl ++ [fM bh bf bb])), .dat r]) = .nx [some (mM a0 a1 a2 a3 a4 a5 a6 a7 (.lst (dm (st ++ [.int (if q then 1 else 0)]))) a9 (.lst (fl ++ [fM bh bf bb]))), some (.dat r), some (.dat (.str "none")), none] := by
  have p := fAppend_dm (d := .int (if q then 1 else 0)) g
  have pn : fPopNone (.lst (dm (st ++ [d]))) [] = some (.lst (dm (st ++ [.int (if q then 1 else 0)])), .dat .non) := by
    show (match fPop (.lst (dm (st ++ [d]))) [] with | some (m1, .dat d) => _ | _ => _) = _
    rw [fPop_dm]
    dsimp only
    rw [hn]
    exact p
  refine (plain_pre (μ := []) hw).trans ?_
  unfold fn10
  refine ex_last (al_top (os' := [some (.dat r), some (.dat (.str "none")), some (fM bh bf bb)]) (by show 2 < 3; decide) rfl rfl rfl (fun a => ?_) rfl)
  generalize fl ++ [M.dat (.adr a)] = GL
  simp! [fx8, pn]
theorem plain_jump {d : D} (hw : fIx r (.int 0) = some (.str "jump")) (h1 : fIx r (.int 1) = some d) :
    execSs sub C fn10.pin bigN fn10.body (startE fn10 [mM a0 a1 a2 a3 a4 a5 a6 a7 (.lst (dm st)) a9 (.lst (fl ++ [fM bh bf bb])), .dat r]) = .nx [some (mM a0 (.dat d) a2 a3 a4 a5 a6 a7 (.lst (dm st)) a9 (.lst (fl ++ [fM bh bf bb]))), some (.dat r), some (.dat (.str "jump")), none] := by
  refine (plain_pre (μ := []) hw).trans ?_
  unfold fn10
  refine ex_last (al_top (os' := [some (.dat r), some (.dat (.str "jump")), some (fM bh bf bb)]) (by show 2 < 3; decide) rfl rfl rfl (fun a => ?_) rfl)
  generalize fl ++ [M.dat (.adr a)] = GL
  simp! [h1, st_at]
theorem plain_unl {d v : D} (hw : fIx r (.int 0) = some (.str "unless")) (h1 : fIx r (.int 1) = some d) (hv : fEq v (.int 0) = some (.bl true)) :
    execSs sub C fn10.pin bigN fn10.body (startE fn10 [mM a0 a1 a2 a3 a4 a5 a6 a7 (.lst (dm (st ++ [v]))) a9 (.lst (fl ++ [fM bh bf bb])), .dat r]) = .nx [some (mM a0 (.dat d) a2 a3 a4 a5 a6 a7 (.lst (dm st)) a9 (.lst (fl ++ [fM bh bf bb]))), some (.dat r), some (.dat (.str "unless")), none] := by
  have p2 := fPop_dm st v
  refine (plain_pre (μ := []) hw).trans ?_
  unfold fn10
  refine ex_last (al_top (os' := [some (.dat r), some (.dat (.str "unless")), some (fM bh bf bb)]) (by show 2 < 3; decide) rfl rfl rfl (fun a => ?_) rfl)
  generalize fl ++ [M.dat (.adr a)] = GL
  simp! [h1, fx8, p2, hv, st_at]
theorem plain_not {v : D} (hw : fIx r (.int 0) = some (.str "unless")) (hv : fEq v (.int 0) = some (.bl false)) :
    execSs sub C fn10.pin bigN fn10.body (startE fn10 [mM a0 a1 a2 a3 a4 a5 a6 a7 (.lst (dm (st ++ [v]))) a9 (.lst (fl ++ [fM bh bf bb])), .dat r]) = .nx [some (mM a0 a1 a2 a3 a4 a5 a6 a7 (.lst (dm st)) a9 (.lst (fl ++ [fM bh bf bb]))), some (.dat r), some (.dat (.str "unless")), none] := by
  have p2 := fPop_dm st v
  refine (plain_pre (μ := []) hw).trans ?_
  unfold fn10
  refine ex_last (al_top (os' := [some (.dat r), some (.dat (.str "unless")), some (fM bh bf bb)]) (by show 2 < 3; decide) rfl rfl rfl (fun a => ?_) rfl)
  generalize fl ++ [M.dat (.adr a)] = GL
  simp! [fx8, p2, hv]
end
/-! ### gates -/
section
variable {C : Nat → List M → Mi.CR} {a0 a1 a2 a3 a4 a5 a6 a7 a8 a9 a10 b5 b6 b9 bh bf bb : M} {fl : List M} {st hl fd pl lg : List D} {r : D}
theorem gate_open {i : Int} (hw : fIx r (.int 0) = some (.str "open")) (g : fd.length ≤ 900000)
    (hC : ∀ a : Addr, C 2 [mM a0 a1 a2 a3 a4 a5 a6 a7 a8 a9 (.lst (fl ++ [.dat (.adr a)]))] = .ok (.dat (.int i)) [some (mM a0 a1 a2 a3 a4 b5 b6 a7 a8 b9 (.lst (fl ++ [.dat (.adr a)])))]) :
    execSs sub C fn11.pin bigN fn11.body (startE fn11 [mM a0 a1 a2 a3 a4 a5 a6 a7 a8 a9 (.lst (fl ++ [fM bh (.lst (dm fd)) bb])), .dat r]) = .nx [some (mM a0 a1 a2 a3 a4 b5 b6 a7 a8 b9 (.lst (fl ++ [fM bh (.lst (dm (fd ++ [.int i]))) bb]))), some (.dat r), none, none] := by
  have p := fAppend_dm (d := .int i) g
  unfold fn11
  refine ex_last (al_top (os' := [some (.dat r), some (fM bh (.lst (dm (fd ++ [.int i]))) bb), none]) (by show 1 < 3; decide) rfl rfl (by simp! [hw]) (fun a => ?_) rfl)
  have hC := hC a
  generalize fl ++ [M.dat (.adr a)] = GL at *
  generalize dm (fd ++ [.int i]) = HL2 at *
  generalize dm fd = HL at *
  simp! [startE, hw, gx1, kc1, hC, p]
theorem ints_nI : ∀ ns : List Int, intsM (dm (nI ns)) = some ns
  | [] => rfl
  | n :: r => by
    show (intsM (dm (nI r))).map (n :: ·) = _
    rw [ints_nI r]
    rfl
theorem gate_shut {ns : List Int} {i : Int} {j : Nat} (hw : fIx r (.int 0) = some (.str "shut")) (e : idxI i ns = some j) (g : lg.length ≤ 900000) :
    execSs sub C fn11.pin bigN fn11.body (startE fn11 [mM a0 a1 a2 a3 a4 a5 (.lst (dm (nI ns))) a7 a8 (.lst (dm lg)) (.lst (fl ++ [fM bh (.lst (dm (fd ++ [.int i]))) bb])), .dat r]) = .nx [some (mM a0 a1 a2 a3 a4 a5 (.lst (dm (nI (ns.eraseIdx j)))) a7 a8 (.lst (dm (lg ++ [lgD "shut" (.int i)]))) (.lst (fl ++ [fM bh (.lst (dm fd)) bb]))), some (.dat r), none, some (.dat (.int i))] := by
  have p := fAppend_dm (d := lgD "shut" (.int i)) g
  have p2 := fPop_dm fd (.int i)
  have im := ints_nI ns
  have p3 : fRemove (.lst (dm (nI ns))) [.dat (.int i)] = some (.lst (dm (nI (ns.eraseIdx j))), .dat .non) := by
    unfold fRemove
    dsimp only
    rw [im]
    dsimp only
    rw [e]
    show some (M.lst _, _) = some (M.lst _, _)
    unfold dm nI
    rw [List.map_map]
    rfl
  unfold fn11
  refine ex_last (al_top (os' := [some (.dat r), some (fM bh (.lst (dm fd)) bb), some (.dat (.int i))]) (by show 1 < 3; decide) rfl rfl (by simp! [hw]) (fun a => ?_) rfl)
  generalize fl ++ [M.dat (.adr a)] = GL at *
  generalize dm (nI ns) = NS at *
  generalize dm (nI (ns.eraseIdx j)) = NS2 at *
  generalize dm (fd ++ [.int i]) = HL2 at *
  generalize dm fd = HL at *
  show execSs sub C [2, 0] bigN _ _ = _
  simp! [startE, hw, gx1, p2, fx6, p3, fx9, fTup_n, p]
theorem gate_call {x y z : D} {m' : M} (hw : fIx r (.int 0) = some (.str "call")) (h1 : fIx r (.int 1) = some x) (h2 : fIx r (.int 2) = some y) (h3 : fIx r (.int 3) = some z) (hk : bh.kind = bh.kind)
    (hC : C 8 [mM a0 a1 a2 a3 a4 a5 a6 a7 a8 a9 (.lst (fl ++ [fM bh bf bb])), .dat x, .dat y, .dat z] = .ok (.dat .non) [some m', none, none, none]) :
    execSs sub C fn11.pin bigN fn11.body (startE fn11 [mM a0 a1 a2 a3 a4 a5 a6 a7 a8 a9 (.lst (fl ++ [fM bh bf bb])), .dat r]) = .nx [some m', some (.dat r), none, none] := by
  unfold fn11
  refine ex_last (al_f (by show 1 < 3; decide) rfl rfl (by simp! [hw]) ?_)
  generalize fl ++ [fM bh bf bb] = GL at *
  simp! [startE, hw, h1, h2, h3, kc7, hC]
theorem gate_cerr {x y z : D} {m' : M} {c : Str} (hw : fIx r (.int 0) = some (.str "call")) (h1 : fIx r (.int 1) = some x) (h2 : fIx r (.int 2) = some y) (h3 : fIx r (.int 3) = some z)
    (hC : C 8 [mM a0 a1 a2 a3 a4 a5 a6 a7 a8 a9 (.lst (fl ++ [fM bh bf bb])), .dat x, .dat y, .dat z] = .err c [some m', none, none, none]) :
    execSs sub C fn11.pin bigN fn11.body (startE fn11 [mM a0 a1 a2 a3 a4 a5 a6 a7 a8 a9 (.lst (fl ++ [fM bh bf bb])), .dat r]) = .err c [some m', some (.dat r), none, none] := by
  unfold fn11
  refine ex_er (al_f (by show 1 < 3; decide) rfl rfl (by simp! [hw]) ?_)
  generalize fl ++ [fM bh bf bb] = GL at *
  simp! [startE, hw, h1, h2, h3, kc7, hC]
theorem gate_back {b : D} (hw : fIx r (.int 0) = some (.str "back")) :
    execSs sub C fn11.pin bigN fn11.body (startE fn11 [mM a0 a1 a2 a3 a4 a5 a6 a7 a8 a9 (.lst (fl ++ [fM bh bf (.dat b)])), .dat r]) = .nx [some (mM a0 (.dat b) a2 a3 a4 a5 a6 a7 a8 a9 (.lst fl)), some (.dat r), none, none] := by
  have p : ∀ a : Addr, fPop (.lst (fl ++ [M.dat (.adr a)])) [] = some (.lst fl, .dat (.adr a)) := fun a => by simp [fPop]
  unfold fn11
  refine ex_last (al_gone (os' := [some (.dat r), some (fM bh bf (.dat b)), none]) (by show 1 < 3; decide) rfl rfl (by simp! [hw]) (fun a => ?_) rfl)
  have p := p a
  generalize fl ++ [M.dat (.adr a)] = GL at *
  simp! [startE, hw, fx10, p, gx2, st_at]
end
end K41
namespace K41
open PySem L2 Mi
/-! ### a row -/
section
variable {C : Nat → List M → Mi.CR} {a0 a1 a2 a3 a4 a5 a6 a7 a8 a9 a10 bh bf bb m' : M} {fl : List M} {st hl fd pl lg : List D} {r : D} {w c : Str}
def in1 (w : Str) (k : Bool) : Prop := inD false (.str w) (.tup [.str "plus", .str "minus", .str "times", .str "less"]) = some (.bl k)
def in2 (w : Str) (k : Bool) : Prop := inD false (.str w) (.tup [.str "pair", .str "cons"]) = some (.bl k)
def in3 (w : Str) (k : Bool) : Prop := inD false (.str w) (.tup [.str "first", .str "second", .str "head", .str "tail"]) = some (.bl k)
def in4 (w : Str) (k : Bool) : Prop := inD false (.str w) (.tup [.str "open", .str "shut", .str "call", .str "back"]) = some (.bl k)
theorem row_reck (hw : fIx r (.int 0) = some (.str w)) (i1 : in1 w true) (h : C 5 [mM a0 a1 a2 a3 a4 a5 a6 a7 a8 a9 a10, .dat (.str w)] = .ok (.dat .non) [some m', none]) :
    execSs sub C fn12.pin bigN fn12.body (startE fn12 [mM a0 a1 a2 a3 a4 a5 a6 a7 a8 a9 a10, .dat r]) = .nx [some m', some (.dat r), some (.dat (.str w))] := by
  unfold in1 at i1
  unfold fn12
  dsimp! [startE, hw]
  refine ex_last ?_
  simp! [fTup_n, i1, kc4, h]
theorem row_rerr (hw : fIx r (.int 0) = some (.str w)) (i1 : in1 w true) (h : C 5 [mM a0 a1 a2 a3 a4 a5 a6 a7 a8 a9 a10, .dat (.str w)] = .err c [some m', none]) :
    execSs sub C fn12.pin bigN fn12.body (startE fn12 [mM a0 a1 a2 a3 a4 a5 a6 a7 a8 a9 a10, .dat r]) = .err c [some m', some (.dat r), some (.dat (.str w))] := by
  unfold in1 at i1
  unfold fn12
  dsimp! [startE, hw]
  refine ex_er ?_
  simp! [fTup_n, i1, kc4, h]
theorem row_lay {i f : Int} {j : Nat} (hw : fIx r (.int 0) = some (.str w)) (i1 : in1 w false) (i2 : in2 w true) (h1 : fIx r (.int 1) = some (.int i)) (e1 : ixN (dm fd).length i = some j) (e2 : (dm fd)[j]? = some (.dat (.int f)))
    (h : C 6 [mM a0 a1 a2 a3 a4 a5 a6 a7 a8 a9 (.lst (fl ++ [fM bh (.lst (dm fd)) bb])), .dat (.str w), .dat (.int f)] = .ok (.dat .non) [some m', none, none]) :
    execSs sub C fn12.pin bigN fn12.body (startE fn12 [mM a0 a1 a2 a3 a4 a5 a6 a7 a8 a9 (.lst (fl ++ [fM bh (.lst (dm fd)) bb])), .dat r]) = .nx [some m', some (.dat r), some (.dat (.str w))] := by
  unfold in1 at i1
  unfold in2 at i2
  have l1 := last_ix fl (fM bh (.lst (dm fd)) bb)
  have l2 := last_at fl (fM bh (.lst (dm fd)) bb)
  unfold fn12
  dsimp! [startE, hw]
  refine ex_last ?_
  generalize fl ++ [fM bh (.lst (dm fd)) bb] = FL at *
  generalize dm fd = FD at *
  simp! [fTup_n, i1, i2, fx10, l1, l2, gx1, h1, e1, e2, kc5, h]
theorem row_lerr {i f : Int} {j : Nat} (hw : fIx r (.int 0) = some (.str w)) (i1 : in1 w false) (i2 : in2 w true) (h1 : fIx r (.int 1) = some (.int i)) (e1 : ixN (dm fd).length i = some j) (e2 : (dm fd)[j]? = some (.dat (.int f)))
    (h : C 6 [mM a0 a1 a2 a3 a4 a5 a6 a7 a8 a9 (.lst (fl ++ [fM bh (.lst (dm fd)) bb])), .dat (.str w), .dat (.int f)] = .err c [some m', none, none]) :
    execSs sub C fn12.pin bigN fn12.body (startE fn12 [mM a0 a1 a2 a3 a4 a5 a6 a7 a8 a9 (.lst (fl ++ [fM bh (.lst (dm fd)) bb])), .dat r]) = .err c [some m', some (.dat r), some (.dat (.str w))] := by
  unfold in1 at i1
  unfold in2 at i2
  have l1 := last_ix fl (fM bh (.lst (dm fd)) bb)
  have l2 := last_at fl (fM bh (.lst (dm fd)) bb)
  unfold fn12
  dsimp! [startE, hw]
  refine ex_er ?_
  generalize fl ++ [fM bh (.lst (dm fd)) bb] = FL at *
  generalize dm fd = FD at *
  simp! [fTup_n, i1, i2, fx10, l1, l2, gx1, h1, e1, e2, kc5, h]
theorem row_look (hw : fIx r (.int 0) = some (.str w)) (i1 : in1 w false) (i2 : in2 w false) (i3 : in3 w true) (h : C 7 [mM a0 a1 a2 a3 a4 a5 a6 a7 a8 a9 a10, .dat (.str w)] = .ok (.dat .non) [some m', none]) :
    execSs sub C fn12.pin bigN fn12.body (startE fn12 [mM a0 a1 a2 a3 a4 a5 a6 a7 a8 a9 a10, .dat r]) = .nx [some m', some (.dat r), some (.dat (.str w))] := by
  unfold in1 at i1
  unfold in2 at i2
  unfold in3 at i3
  unfold fn12
  dsimp! [startE, hw]
  refine ex_last ?_
  simp! [fTup_n, i1, i2, i3, kc6, h]
theorem row_loerr (hw : fIx r (.int 0) = some (.str w)) (i1 : in1 w false) (i2 : in2 w false) (i3 : in3 w true) (h : C 7 [mM a0 a1 a2 a3 a4 a5 a6 a7 a8 a9 a10, .dat (.str w)] = .err c [some m', none]) :
    execSs sub C fn12.pin bigN fn12.body (startE fn12 [mM a0 a1 a2 a3 a4 a5 a6 a7 a8 a9 a10, .dat r]) = .err c [some m', some (.dat r), some (.dat (.str w))] := by
  unfold in1 at i1
  unfold in2 at i2
  unfold in3 at i3
  unfold fn12
  dsimp! [startE, hw]
  refine ex_er ?_
  simp! [fTup_n, i1, i2, i3, kc6, h]
theorem row_gate (hw : fIx r (.int 0) = some (.str w)) (i1 : in1 w false) (i2 : in2 w false) (i3 : in3 w false) (i4 : in4 w true) (h : C 11 [mM a0 a1 a2 a3 a4 a5 a6 a7 a8 a9 a10, .dat r] = .ok (.dat .non) [some m', none]) :
    execSs sub C fn12.pin bigN fn12.body (startE fn12 [mM a0 a1 a2 a3 a4 a5 a6 a7 a8 a9 a10, .dat r]) = .nx [some m', some (.dat r), some (.dat (.str w))] := by
  unfold in1 at i1
  unfold in2 at i2
  unfold in3 at i3
  unfold in4 at i4
  unfold fn12
  dsimp! [startE, hw]
  refine ex_last ?_
  simp! [fTup_n, i1, i2, i3, i4, h]
theorem row_gerr (hw : fIx r (.int 0) = some (.str w)) (i1 : in1 w false) (i2 : in2 w false) (i3 : in3 w false) (i4 : in4 w true) (h : C 11 [mM a0 a1 a2 a3 a4 a5 a6 a7 a8 a9 a10, .dat r] = .err c [some m', none]) :
    execSs sub C fn12.pin bigN fn12.body (startE fn12 [mM a0 a1 a2 a3 a4 a5 a6 a7 a8 a9 a10, .dat r]) = .err c [some m', some (.dat r), some (.dat (.str w))] := by
  unfold in1 at i1
  unfold in2 at i2
  unfold in3 at i3
  unfold in4 at i4
  unfold fn12
  dsimp! [startE, hw]
  refine ex_er ?_
  simp! [fTup_n, i1, i2, i3, i4, h]
theorem row_plain (hw : fIx r (.int 0) = some (.str w)) (i1 : in1 w false) (i2 : in2 w false) (i3 : in3 w false) (i4 : in4 w false) (h : C 10 [mM a0 a1 a2 a3 a4 a5 a6 a7 a8 a9 a10, .dat r] = .ok (.dat .non) [some m', none]) :
    execSs sub C fn12.pin bigN fn12.body (startE fn12 [mM a0 a1 a2 a3 a4 a5 a6 a7 a8 a9 a10, .dat r]) = .nx [some m', some (.dat r), some (.dat (.str w))] := by
  unfold in1 at i1
  unfold in2 at i2
  unfold in3 at i3
  unfold in4 at i4
  unfold fn12
  dsimp! [startE, hw]
  refine ex_last ?_
  simp! [fTup_n, i1, i2, i3, i4, h]
end
/-! ### the machine in plain Lean -/
def popL {α : Type} : List α → Option (List α × α)
  | [] => none
  | x :: xs => match popL xs with
    | none => some ([], x)
    | some p => some (x :: p.1, p.2)
theorem popL_none {α : Type} : ∀ {xs : List α}, popL xs = none → xs = []
  | [], _ => rfl
  | x :: xs, h => by
    unfold popL at h
    split at h <;> cases h
theorem popL_eq {α : Type} : ∀ {xs r : List α} {x : α}, popL xs = some (r, x) → xs = r ++ [x]
  | [], _, _, h => by cases h
  | y :: ys, r, x, h => by
    unfold popL at h
    split at h
    · rename_i q
      cases h
      rw [popL_none q]
      rfl
    · rename_i p q
      cases h
      show y :: ys = y :: (p.1 ++ [p.2])
      rw [← popL_eq (r := p.1) (x := p.2) q]
theorem popL_app {α : Type} (r : List α) (x : α) : popL (r ++ [x]) = some (r, x) := by
  induction r with
  | nil => rfl
  | cons y r ih =>
    show (match popL (r ++ [x]) with | none => some ([], y) | some p => some (y :: p.1, p.2)) = _
    rw [ih]
inductive Op where
  | plus
  | minus
  | times
  | less
  deriving DecidableEq
def Op.w : Op → Str
  | .plus => "plus"
  | .minus => "minus"
  | .times => "times"
  | .less => "less"
def Op.z (o : Op) (x y : Int) : Int := match o with
  | .plus => x + y
  | .minus => x - y
  | .times => x * y
  | .less => if x < y then 1 else 0
theorem Op.z_w (o : Op) (x y : Int) : opz o.w x y = o.z x y := by
  unfold opz
  cases o
  · rw [if_pos (by decide +kernel)]; rfl
  · rw [if_neg (by decide +kernel), if_pos (by decide +kernel)]; rfl
  · rw [if_neg (by decide +kernel), if_neg (by decide +kernel), if_pos (by decide +kernel)]; rfl
  · rw [if_neg (by decide +kernel), if_neg (by decide +kernel), if_neg (by decide +kernel)]; rfl
inductive Lk where
  | first
  | second
  | head
  | tail
  deriving DecidableEq
def Lk.w : Lk → Str
  | .first => "first"
  | .second => "second"
  | .head => "head"
  | .tail => "tail"
def Lk.one : Lk → Bool
  | .first => true
  | .second => false
  | .head => true
  | .tail => false
def mkW (pr : Bool) : Str := if pr then "pair" else "cons"
inductive Row where
  | num (i : Int)
  | loc (i : Int)
  | keep
  | drop
  | nil
  | isN
  | jump (t : Int)
  | unl (t : Int)
  | op (o : Op)
  | mk (pr : Bool) (j : Int)
  | look (w : Lk)
  | opn
  | shut
  | call (t n : Int) (hs : List Int)
  | back
  deriving DecidableEq
def Row.d : Row → D
  | .num i => .tup [.str "number", .int i]
  | .loc i => .tup [.str "local", .int i]
  | .keep => .tup [.str "keep"]
  | .drop => .tup [.str "drop"]
  | .nil => .tup [.str "nil"]
  | .isN => .tup [.str "none"]
  | .jump t => .tup [.str "jump", .int t]
  | .unl t => .tup [.str "unless", .int t]
  | .op o => .tup [.str o.w]
  | .mk pr j => .tup [.str (mkW pr), .int j]
  | .look w => .tup [.str w.w]
  | .opn => .tup [.str "open"]
  | .shut => .tup [.str "shut"]
  | .call t n hs => .tup [.str "call", .int t, .int n, .tup (nI hs)]
  | .back => .tup [.str "back"]
/-- a cell -/
structure Ce where
  pr : Bool
  a : Vl
  b : Vl
  f : Int
  sz : Int
def Ce.d (c : Ce) : D := .tup [.str (mkW c.pr), c.a.d, c.b.d, .int c.f, .int c.sz]
def bk : Option Int → D
  | none => .non
  | some i => .int i
structure Fr where
  held : List Vl
  fields : List Int
  back : Option Int
def dV (xs : List Vl) : List D := xs.map Vl.d
def Fr.m (f : Fr) : M := fM (.lst (dm (dV f.held))) (.lst (dm (nI f.fields))) (.dat (bk f.back))
inductive Ev where
  | opn
  | shut
  | lay
  | look
  deriving DecidableEq
def Ev.w : Ev → Str
  | .opn => "open"
  | .shut => "shut"
  | .lay => "lay"
  | .look => "look"
def evD (p : Ev × Int) : D := lgD p.1.w (.int p.2)
def Vl.n0 : Vl → Int
  | .non => 1
  | .num _ => 0
  | .ref _ => 0
structure St where
  at_ : Option Int
  calls : Int
  opened : Int
  pile : List Int
  cells : List Ce
  stack : List Vl
  log : List (Ev × Int)
  frames : List Fr
def St.m (R : D) (ou mo : Int) (s : St) : M := mM (.dat R) (.dat (bk s.at_)) (.dat (.int ou)) (.dat (.int mo)) (.dat (.int s.calls)) (.dat (.int s.opened)) (.lst (dm (nI s.pile))) (.lst (dm (s.cells.map Ce.d))) (.lst (dm (dV s.stack))) (.lst (dm (s.log.map evD))) (.lst (s.frames.map Fr.m))
inductive SR where
  | nx (s : St)
  | er (c : Str)
  | bad
def sizeV (cs : List Ce) : Vl → Option Int
  | .ref n => (atI cs n).map Ce.sz
  | _ => some 1
def getA (fd : List Int) : List Int → Option (List Int)
  | [] => some []
  | h :: r => match atI fd h, getA fd r with
    | some v, some vs => some (v :: vs)
    | _, _ => none
def tooBig (z : Int) : Bool := decide (OV ≤ (z.natAbs : Int))
/-- one row -/
def step (mo : Int) (s : St) : Row → SR
  | .num i => .nx { s with stack := s.stack ++ [.num i] }
  | .loc i => match popL s.frames with
    | some (_, f) => match atI f.held i with
      | some v => .nx { s with stack := s.stack ++ [v] }
      | none => .bad
    | none => .bad
  | .keep => match popL s.frames, popL s.stack with
    | some (fl, f), some (st, v) => .nx { s with stack := st, frames := fl ++ [{ f with held := f.held ++ [v] }] }
    | _, _ => .bad
  | .drop => match popL s.frames with
    | some (fl, f) => match popL f.held with
      | some (hl, _) => .nx { s with frames := fl ++ [{ f with held := hl }] }
      | none => .bad
    | none => .bad
  | .nil => .nx { s with stack := s.stack ++ [.non] }
  | .isN => match popL s.stack with
    | some (st, v) => .nx { s with stack := st ++ [.num v.n0] }
    | none => .bad
  | .jump t => .nx { s with at_ := some t }
  | .unl t => match popL s.stack with
    | some (st, .num i) => if i = 0 then .nx { s with stack := st, at_ := some t } else .nx { s with stack := st }
    | _ => .bad
  | .op o => match popL s.stack with
    | some (s1, .num y) => match popL s1 with
      | some (s2, .num x) => if tooBig (o.z x y) then .er "TooGreat" else .nx { s with stack := s2 ++ [.num (o.z x y)] }
      | _ => .bad
    | _ => .bad
  | .mk pr j => match popL s.frames with
    | some (_, f) => match atI f.fields j, popL s.stack with
      | some fd, some (s1, y) => match popL s1 with
        | some (s2, x) => match sizeV s.cells x, sizeV s.cells y with
          | some p, some q => if 1000 < 1 + p + q then .er "TooGreat" else if fd ∈ s.pile then .nx { s with stack := s2 ++ [.ref s.cells.length], cells := s.cells ++ [⟨pr, x, y, fd, 1 + p + q⟩], log := s.log ++ [(.lay, fd)] } else .er "Gone"
          | _, _ => .bad
        | none => .bad
      | _, _ => .bad
    | none => .bad
  | .look w => match popL s.stack with
    | some (st, .ref n) => match atI s.cells n with
      | some c => if c.f ∈ s.pile then .nx { s with stack := st ++ [if w.one then c.a else c.b], log := s.log ++ [(.look, c.f)] } else .er "Gone"
      | none => .bad
    | some (_, .non) => .er "Empty"
    | _ => .bad
  | .opn => match popL s.frames with
    | some (fl, f) => .nx { s with opened := s.opened + 1, pile := s.pile ++ [s.opened], log := s.log ++ [(.opn, s.opened)], frames := fl ++ [{ f with fields := f.fields ++ [s.opened] }] }
    | none => .bad
  | .shut => match popL s.frames with
    | some (fl, f) => match popL f.fields with
      | some (fd, i) => match idxI i s.pile with
        | some j => .nx { s with pile := s.pile.eraseIdx j, log := s.log ++ [(.shut, i)], frames := fl ++ [{ f with fields := fd }] }
        | none => .bad
      | none => .bad
    | none => .bad
  | .call t n hs => match popL s.frames with
    | some (_, f) => if 0 ≤ n ∧ n ≤ s.stack.length then
        if ¬ s.calls < mo then .er "TooLong" else if 12 < s.frames.length then .er "TooDeep" else
          match getA f.fields hs with
          | some fd => .nx { s with calls := s.calls + 1, at_ := some t, stack := s.stack.take (s.stack.length - n.toNat), frames := s.frames ++ [⟨s.stack.drop (s.stack.length - n.toNat), fd, s.at_⟩] }
          | none => .bad
      else .bad
    | none => .bad
  | .back => match popL s.frames with
    | some (fl, f) => .nx { s with at_ := f.back, frames := fl }
    | none => .bad
def mrun (rows : List Row) (mo : Int) : Nat → St → SR
  | 0, _ => .bad
  | n + 1, s => match s.frames with
    | [] => .nx s
    | _ :: _ => match s.at_ with
      | none => .bad
      | some a => match atI rows a with
        | none => .bad
        | some r => match step mo { s with at_ := some (a + 1) } r with
          | .nx s' => mrun rows mo n s'
          | q => q
end K41
namespace K41
open PySem L2 Mi
/-! ### the given code does what the plain machine does -/
def Vl.Ok : Vl → Prop
  | .num i => Sm i
  | _ => True
def Row.Ok : Row → Prop
  | .num i => Sm i
  | .call _ _ hs => hs.length ≤ 900
  | _ => True
theorem Vl.n0_ok : ∀ v : Vl, Sm v.n0
  | .non => (by decide : Sm 1)
  | .num _ => (by decide : Sm 0)
  | .ref _ => (by decide : Sm 0)
structure FrOk (n : Nat) (f : Fr) : Prop where
  vs : ∀ v ∈ f.held, v.Ok
  hl : f.held.length ≤ n
  fl : f.fields.length ≤ n
structure Inv (n : Nat) (s : St) : Prop where
  sv : ∀ v ∈ s.stack, v.Ok
  cv : ∀ c ∈ s.cells, c.a.Ok ∧ c.b.Ok
  fv : ∀ f ∈ s.frames, FrOk n f
  pl : s.pile.length ≤ n
  cl : s.cells.length ≤ n
  sl : s.stack.length ≤ n
  ll : s.log.length ≤ n
  fl : s.frames.length ≤ 13
  big : 1000 ≤ n
theorem FrOk.mono {n : Nat} {f : Fr} (h : FrOk n f) : FrOk (n + 1) f := ⟨h.vs, Nat.le_succ_of_le h.hl, Nat.le_succ_of_le h.fl⟩
theorem Inv.mono {n : Nat} {s : St} (h : Inv n s) : Inv (n + 1) s := ⟨h.sv, h.cv, fun f hf => (h.fv f hf).mono, Nat.le_succ_of_le h.pl, Nat.le_succ_of_le h.cl, Nat.le_succ_of_le h.sl, Nat.le_succ_of_le h.ll, h.fl, Nat.le_succ_of_le h.big⟩
theorem dV_app (xs : List Vl) (v : Vl) : dV (xs ++ [v]) = dV xs ++ [v.d] := by unfold dV; rw [List.map_append]; rfl
theorem dV_len (xs : List Vl) : (dV xs).length = xs.length := by unfold dV; rw [List.length_map]
theorem lg_app (xs : List (Ev × Int)) (v : Ev × Int) : (xs ++ [v]).map evD = xs.map evD ++ [evD v] := by rw [List.map_append]; rfl
theorem ce_app (xs : List Ce) (v : Ce) : (xs ++ [v]).map Ce.d = xs.map Ce.d ++ [v.d] := by rw [List.map_append]; rfl
theorem fr_app (xs : List Fr) (v : Fr) : (xs ++ [v]).map Fr.m = xs.map Fr.m ++ [v.m] := by rw [List.map_append]; rfl
theorem atI_map {α β : Type} (f : α → β) {xs : List α} {i : Int} {v : α} (h : atI xs i = some v) : atI (xs.map f) i = some (f v) := by
  unfold atI at h ⊢
  rw [List.length_map]
  cases q : ixN xs.length i with
  | none => rw [q] at h; cases h
  | some j =>
    rw [q] at h
    have h : xs[j]? = some v := h
    show (xs.map f)[j]? = some (f v)
    rw [List.getElem?_map, h]
    rfl
theorem atI_mem {α : Type} {xs : List α} {i : Int} {v : α} (h : atI xs i = some v) : v ∈ xs := by
  unfold atI at h
  cases q : ixN xs.length i with
  | none => rw [q] at h; cases h
  | some j =>
    rw [q] at h
    have h : xs[j]? = some v := h
    exact List.mem_of_getElem? h
theorem mem_app {α : Type} {P : α → Prop} {xs : List α} {x : α} (h : ∀ y ∈ xs, P y) (hx : P x) : ∀ y ∈ xs ++ [x], P y := fun y hy => by
  rcases List.mem_append.mp hy with q | q
  · exact h y q
  · rw [List.mem_singleton.mp q]
    exact hx
theorem app_l {α : Type} {P : α → Prop} {xs ys : List α} (h : ∀ y ∈ xs ++ ys, P y) : ∀ y ∈ xs, P y := fun y hy => h y (List.mem_append_left _ hy)
theorem app_x {α : Type} {P : α → Prop} {xs : List α} {x : α} (h : ∀ y ∈ xs ++ [x], P y) : P x := h x (List.mem_append_right _ (List.mem_singleton.mpr rfl))
theorem len_app {α : Type} (xs : List α) (x : α) : (xs ++ [x]).length = xs.length + 1 := by rw [List.length_append]; rfl
theorem hard_dV (xs : List Vl) : D.hard.hards (dV xs) = true := hards_mem fun d hd => by
  obtain ⟨v, _, rfl⟩ := List.mem_map.mp hd
  exact v.hard
section
variable {k n : Nat} {R : D} {ou mo : Int} {s s' : St} {c : Str}
abbrev Did (k : Nat) (R : D) (ou mo : Int) (s s' : St) (r : Row) : Prop := callF sub tab bigN (k + 5) 12 [s.m R ou mo, .dat r.d] = .ok (.dat .non) [some (s'.m R ou mo), none]
abbrev Refd (k : Nat) (R : D) (ou mo : Int) (s : St) (c : Str) (r : Row) : Prop := ∃ m', callF sub tab bigN (k + 5) 12 [s.m R ou mo, .dat r.d] = .err c [some m', none]
theorem did_plain {r : Row} {w : Str} (hw : fIx r.d (.int 0) = some (.str w)) (i1 : in1 w false) (i2 : in2 w false) (i3 : in3 w false) (i4 : in4 w false)
    (h : ∃ μ : Mi.Env, execSs sub (callF sub tab bigN (k + 3)) fn10.pin bigN fn10.body (startE fn10 [s.m R ou mo, .dat r.d]) = .nx (some (s'.m R ou mo) :: μ)) : Did k R ou mo s s' r :=
  let ⟨_, h⟩ := h; call_nx (fn := fn12) rfl rfl (row_plain hw i1 i2 i3 i4 (call_nx (fn := fn10) rfl rfl h))
theorem did_gate {r : Row} {w : Str} (hw : fIx r.d (.int 0) = some (.str w)) (i1 : in1 w false) (i2 : in2 w false) (i3 : in3 w false) (i4 : in4 w true)
    (h : ∃ μ : Mi.Env, execSs sub (callF sub tab bigN (k + 3)) fn11.pin bigN fn11.body (startE fn11 [s.m R ou mo, .dat r.d]) = .nx (some (s'.m R ou mo) :: μ)) : Did k R ou mo s s' r :=
  let ⟨_, h⟩ := h; call_nx (fn := fn12) rfl rfl (row_gate hw i1 i2 i3 i4 (call_nx (fn := fn11) rfl rfl h))
theorem refd_gate {r : Row} {w : Str} {m' : M} (hw : fIx r.d (.int 0) = some (.str w)) (i1 : in1 w false) (i2 : in2 w false) (i3 : in3 w false) (i4 : in4 w true)
    (h : ∃ μ : Mi.Env, execSs sub (callF sub tab bigN (k + 3)) fn11.pin bigN fn11.body (startE fn11 [s.m R ou mo, .dat r.d]) = .err c (some m' :: μ)) : Refd k R ou mo s c r :=
  let ⟨_, h⟩ := h; ⟨m', call_err (fn := fn12) rfl rfl (row_gerr hw i1 i2 i3 i4 (call_err (fn := fn11) rfl rfl h))⟩
theorem fr_cons {fl : List Fr} {f : Fr} (h : popL s.frames = some (fl, f)) : s.frames.map Fr.m = fl.map Fr.m ++ [f.m] := by rw [popL_eq h, fr_app]
/-- the state, its stack and frames named -/
theorem St.m_eq {st : List D} {fr : List M} (h1 : dV s.stack = st) (h2 : s.frames.map Fr.m = fr) : s.m R ou mo = mM (.dat R) (.dat (bk s.at_)) (.dat (.int ou)) (.dat (.int mo)) (.dat (.int s.calls)) (.dat (.int s.opened)) (.lst (dm (nI s.pile))) (.lst (dm (s.cells.map Ce.d))) (.lst (dm st)) (.lst (dm (s.log.map evD))) (.lst fr) := by rw [← h1, ← h2]; rfl
/-! plain rows -/
theorem s_num {i : Int} {fl : List Fr} {f : Fr} (I : Inv n s) (hn : n ≤ 800000) (hf : popL s.frames = some (fl, f)) (hi : Sm i) : Did k R ou mo s { s with stack := s.stack ++ [.num i] } (.num i) ∧ Inv (n + 1) { s with stack := s.stack ++ [.num i] } := by
  refine ⟨did_plain rfl (show inD _ _ _ = _ by with_unfolding_all rfl) (show inD _ _ _ = _ by with_unfolding_all rfl) (show inD _ _ _ = _ by with_unfolding_all rfl) (show inD _ _ _ = _ by with_unfolding_all rfl) ?_, { I.mono with sv := mem_app I.sv hi, sl := ?_ }⟩
  · simp only [St.m, Fr.m, dV_app, fr_app, lg_app, ce_app, nI_app, fr_cons hf]
    exact ⟨_, plain_num rfl rfl (by rw [dV_len]; exact Nat.le_trans I.sl (by omega))⟩
  · show (s.stack ++ [_]).length ≤ _
    rw [len_app]
    exact Nat.succ_le_succ I.sl
theorem s_nil {fl : List Fr} {f : Fr} (I : Inv n s) (hn : n ≤ 800000) (hf : popL s.frames = some (fl, f)) : Did k R ou mo s { s with stack := s.stack ++ [.non] } .nil ∧ Inv (n + 1) { s with stack := s.stack ++ [.non] } := by
  refine ⟨did_plain rfl (show inD _ _ _ = _ by with_unfolding_all rfl) (show inD _ _ _ = _ by with_unfolding_all rfl) (show inD _ _ _ = _ by with_unfolding_all rfl) (show inD _ _ _ = _ by with_unfolding_all rfl) ?_, { I.mono with sv := mem_app I.sv trivial, sl := ?_ }⟩
  · simp only [St.m, Fr.m, dV_app, fr_app, lg_app, ce_app, nI_app, fr_cons hf]
    exact ⟨_, plain_nil rfl (by rw [dV_len]; exact Nat.le_trans I.sl (by omega))⟩
  · show (s.stack ++ [_]).length ≤ _
    rw [len_app]
    exact Nat.succ_le_succ I.sl
theorem s_loc {i : Int} {v : Vl} {fl : List Fr} {f : Fr} (I : Inv n s) (hn : n ≤ 800000) (hf : popL s.frames = some (fl, f)) (hv : atI f.held i = some v) : Did k R ou mo s { s with stack := s.stack ++ [v] } (.loc i) ∧ Inv (n + 1) { s with stack := s.stack ++ [v] } := by
  have F : FrOk n f := app_x (popL_eq hf ▸ I.fv)
  refine ⟨did_plain rfl (show inD _ _ _ = _ by with_unfolding_all rfl) (show inD _ _ _ = _ by with_unfolding_all rfl) (show inD _ _ _ = _ by with_unfolding_all rfl) (show inD _ _ _ = _ by with_unfolding_all rfl) ?_, { I.mono with sv := mem_app I.sv (F.vs v (atI_mem hv)), sl := ?_ }⟩
  · simp only [St.m, Fr.m, dV_app, fr_app, lg_app, ce_app, nI_app, fr_cons hf]
    obtain ⟨j, e1, e2⟩ := ixN_dm (atI_map Vl.d hv)
    exact ⟨_, plain_loc rfl rfl e1 e2 (by rw [dV_len]; exact Nat.le_trans I.sl (by omega))⟩
  · show (s.stack ++ [_]).length ≤ _
    rw [len_app]
    exact Nat.succ_le_succ I.sl
theorem s_keep {v : Vl} {st : List Vl} {fl : List Fr} {f : Fr} (I : Inv n s) (hn : n ≤ 800000) (hf : popL s.frames = some (fl, f)) (hs : popL s.stack = some (st, v)) :
    Did k R ou mo s { s with stack := st, frames := fl ++ [{ f with held := f.held ++ [v] }] } .keep ∧ Inv (n + 1) { s with stack := st, frames := fl ++ [{ f with held := f.held ++ [v] }] } := by
  have hfr := popL_eq hf
  have hst := popL_eq hs
  have fv := I.fv
  rw [hfr] at fv
  have F : FrOk n f := app_x fv
  have sv := I.sv
  rw [hst] at sv
  have sl := I.sl
  rw [hst, len_app] at sl
  have fl' := I.fl
  rw [hfr, len_app] at fl'
  refine ⟨did_plain rfl (show inD _ _ _ = _ by with_unfolding_all rfl) (show inD _ _ _ = _ by with_unfolding_all rfl) (show inD _ _ _ = _ by with_unfolding_all rfl) (show inD _ _ _ = _ by with_unfolding_all rfl) ?_, { I.mono with sv := app_l sv, sl := ?_, fv := mem_app (fun f' h' => (fv f' (List.mem_append_left _ h')).mono) ⟨mem_app F.vs (app_x sv), ?_, Nat.le_succ_of_le F.fl⟩, fl := ?_ }⟩
  · simp only [St.m, Fr.m, dV_app, fr_app, lg_app, ce_app, nI_app, hst, hfr]
    exact ⟨_, plain_keep rfl (by rw [dV_len]; exact Nat.le_trans F.hl (by omega))⟩
  · show (f.held ++ [v]).length ≤ _
    rw [len_app]
    exact Nat.succ_le_succ F.hl
  · show st.length ≤ _
    omega
  · show (fl ++ [_]).length ≤ _
    rw [len_app]
    exact fl'
theorem s_drop {v : Vl} {hl : List Vl} {fl : List Fr} {f : Fr} (I : Inv n s) (hn : n ≤ 800000) (hf : popL s.frames = some (fl, f)) (hs : popL f.held = some (hl, v)) :
    Did k R ou mo s { s with frames := fl ++ [{ f with held := hl }] } .drop ∧ Inv (n + 1) { s with frames := fl ++ [{ f with held := hl }] } := by
  have hfr := popL_eq hf
  have hh := popL_eq hs
  have fv := I.fv
  rw [hfr] at fv
  have F : FrOk n f := app_x fv
  have Fv := F.vs
  rw [hh] at Fv
  have Fl := F.hl
  rw [hh, len_app] at Fl
  have fl' := I.fl
  rw [hfr, len_app] at fl'
  refine ⟨did_plain rfl (show inD _ _ _ = _ by with_unfolding_all rfl) (show inD _ _ _ = _ by with_unfolding_all rfl) (show inD _ _ _ = _ by with_unfolding_all rfl) (show inD _ _ _ = _ by with_unfolding_all rfl) ?_, { I.mono with fv := mem_app (fun f' h' => (fv f' (List.mem_append_left _ h')).mono) ⟨app_l Fv, ?_, Nat.le_succ_of_le F.fl⟩, fl := ?_ }⟩
  · simp only [St.m, Fr.m, dV_app, fr_app, lg_app, ce_app, nI_app, hfr, hh]
    exact ⟨_, plain_drop rfl⟩
  · show hl.length ≤ _
    omega
  · show (fl ++ [_]).length ≤ _
    rw [len_app]
    exact fl'
theorem s_isN {v : Vl} {st : List Vl} {fl : List Fr} {f : Fr} (I : Inv n s) (hn : n ≤ 800000) (hf : popL s.frames = some (fl, f)) (hs : popL s.stack = some (st, v)) :
    Did k R ou mo s { s with stack := st ++ [.num v.n0] } .isN ∧ Inv (n + 1) { s with stack := st ++ [.num v.n0] } := by
  have hst := popL_eq hs
  have sv := I.sv
  rw [hst] at sv
  have sl := I.sl
  rw [hst, len_app] at sl
  refine ⟨did_plain rfl (show inD _ _ _ = _ by with_unfolding_all rfl) (show inD _ _ _ = _ by with_unfolding_all rfl) (show inD _ _ _ = _ by with_unfolding_all rfl) (show inD _ _ _ = _ by with_unfolding_all rfl) ?_, { I.mono with sv := mem_app (app_l sv) ?_, sl := ?_ }⟩
  · simp only [St.m, Fr.m, dV_app, fr_app, lg_app, ce_app, nI_app, hst, fr_cons hf]
    cases v with
    | non => exact ⟨_, plain_none (q := true) rfl rfl (by rw [dV_len]; omega)⟩
    | num i => exact ⟨_, plain_none (q := false) rfl rfl (by rw [dV_len]; omega)⟩
    | ref i => exact ⟨_, plain_none (q := false) rfl rfl (by rw [dV_len]; omega)⟩
  · exact Vl.n0_ok v
  · show (st ++ [_]).length ≤ _
    rw [len_app]
    omega
theorem s_jump {t : Int} {fl : List Fr} {f : Fr} (I : Inv n s) (hf : popL s.frames = some (fl, f)) : Did k R ou mo s { s with at_ := some t } (.jump t) ∧ Inv (n + 1) { s with at_ := some t } := by
  refine ⟨did_plain rfl (show inD _ _ _ = _ by with_unfolding_all rfl) (show inD _ _ _ = _ by with_unfolding_all rfl) (show inD _ _ _ = _ by with_unfolding_all rfl) (show inD _ _ _ = _ by with_unfolding_all rfl) ?_, { I.mono with }⟩
  simp only [St.m, Fr.m, dV_app, fr_app, lg_app, ce_app, nI_app, fr_cons hf]
  exact ⟨_, plain_jump rfl rfl⟩
theorem s_unl {t : Int} {st : List Vl} {fl : List Fr} {f : Fr} (I : Inv n s) (hf : popL s.frames = some (fl, f)) (hs : popL s.stack = some (st, .num 0)) : Did k R ou mo s { s with stack := st, at_ := some t } (.unl t) ∧ Inv (n + 1) { s with stack := st, at_ := some t } := by
  have hst := popL_eq hs
  have sv := I.sv
  rw [hst] at sv
  have sl := I.sl
  rw [hst, len_app] at sl
  refine ⟨did_plain rfl (show inD _ _ _ = _ by with_unfolding_all rfl) (show inD _ _ _ = _ by with_unfolding_all rfl) (show inD _ _ _ = _ by with_unfolding_all rfl) (show inD _ _ _ = _ by with_unfolding_all rfl) ?_, { I.mono with sv := app_l sv, sl := ?_ }⟩
  · simp only [St.m, Fr.m, dV_app, fr_app, lg_app, ce_app, nI_app, hst, fr_cons hf]
    exact ⟨_, plain_unl rfl rfl rfl⟩
  · show st.length ≤ _
    omega
theorem s_not {t i : Int} {st : List Vl} {fl : List Fr} {f : Fr} (I : Inv n s) (hf : popL s.frames = some (fl, f)) (hs : popL s.stack = some (st, .num i)) (hi : i ≠ 0) : Did k R ou mo s { s with stack := st } (.unl t) ∧ Inv (n + 1) { s with stack := st } := by
  have hst := popL_eq hs
  have sv := I.sv
  rw [hst] at sv
  have sl := I.sl
  rw [hst, len_app] at sl
  refine ⟨did_plain rfl (show inD _ _ _ = _ by with_unfolding_all rfl) (show inD _ _ _ = _ by with_unfolding_all rfl) (show inD _ _ _ = _ by with_unfolding_all rfl) (show inD _ _ _ = _ by with_unfolding_all rfl) ?_, { I.mono with sv := app_l sv, sl := ?_ }⟩
  · simp only [St.m, Fr.m, dV_app, fr_app, lg_app, ce_app, nI_app, hst, fr_cons hf]
    exact ⟨_, plain_not rfl ((fEq_i i 0).trans (by rw [decide_eq_false hi]))⟩
  · show st.length ≤ _
    omega
end
end K41
namespace K41
open PySem L2 Mi
section
variable {k n : Nat} {R : D} {ou mo : Int} {s s' : St} {c : Str}
theorem len_nI (xs : List Int) : (nI xs).length = xs.length := nI_len xs
theorem eraseIdx_le {α : Type} (xs : List α) (j : Nat) : (xs.eraseIdx j).length ≤ xs.length := by
  rw [List.length_eraseIdx]
  split <;> omega
/-! gates -/
theorem s_open {fl : List Fr} {f : Fr} (I : Inv n s) (hn : n ≤ 800000) (hf : popL s.frames = some (fl, f)) :
    Did k R ou mo s { s with opened := s.opened + 1, pile := s.pile ++ [s.opened], log := s.log ++ [(.opn, s.opened)], frames := fl ++ [{ f with fields := f.fields ++ [s.opened] }] } .opn ∧ Inv (n + 1) { s with opened := s.opened + 1, pile := s.pile ++ [s.opened], log := s.log ++ [(.opn, s.opened)], frames := fl ++ [{ f with fields := f.fields ++ [s.opened] }] } := by
  have hfr := popL_eq hf
  have fv := I.fv
  rw [hfr] at fv
  have F : FrOk n f := app_x fv
  have fl' := I.fl
  rw [hfr, len_app] at fl'
  refine ⟨did_gate rfl (show inD _ _ _ = _ by with_unfolding_all rfl) (show inD _ _ _ = _ by with_unfolding_all rfl) (show inD _ _ _ = _ by with_unfolding_all rfl) (show inD _ _ _ = _ by with_unfolding_all rfl) ?_, { I.mono with fv := mem_app (fun f' h' => (fv f' (List.mem_append_left _ h')).mono) ⟨F.vs, Nat.le_succ_of_le F.hl, ?_⟩, fl := ?_, pl := ?_, ll := ?_ }⟩
  · simp only [St.m, Fr.m, dV_app, fr_app, lg_app, ce_app, nI_app, hfr]
    refine ⟨_, gate_open rfl (by rw [nI_len]; exact Nat.le_trans F.fl (by omega)) fun a => ?_⟩
    refine (call_ret (fn := fn2) rfl rfl (one_w ?_ ?_)).trans ?_
    · rw [nI_len]; exact Nat.le_trans I.pl (by omega)
    · rw [List.length_map]; exact Nat.le_trans I.ll (by omega)
    · rfl
  · show (f.fields ++ [_]).length ≤ _
    rw [len_app]
    exact Nat.succ_le_succ F.fl
  · show (s.pile ++ [_]).length ≤ _
    rw [len_app]
    exact Nat.succ_le_succ I.pl
  · show (s.log ++ [_]).length ≤ _
    rw [len_app]
    exact Nat.succ_le_succ I.ll
  · show (fl ++ [_]).length ≤ _
    rw [len_app]
    exact fl'
theorem s_shut {i : Int} {j : Nat} {fd : List Int} {fl : List Fr} {f : Fr} (I : Inv n s) (hn : n ≤ 800000) (hf : popL s.frames = some (fl, f)) (hd : popL f.fields = some (fd, i)) (hj : idxI i s.pile = some j) :
    Did k R ou mo s { s with pile := s.pile.eraseIdx j, log := s.log ++ [(.shut, i)], frames := fl ++ [{ f with fields := fd }] } .shut ∧ Inv (n + 1) { s with pile := s.pile.eraseIdx j, log := s.log ++ [(.shut, i)], frames := fl ++ [{ f with fields := fd }] } := by
  have hfr := popL_eq hf
  have hfd := popL_eq hd
  have fv := I.fv
  rw [hfr] at fv
  have F : FrOk n f := app_x fv
  have ff := F.fl
  rw [hfd, len_app] at ff
  have fl' := I.fl
  rw [hfr, len_app] at fl'
  refine ⟨did_gate rfl (show inD _ _ _ = _ by with_unfolding_all rfl) (show inD _ _ _ = _ by with_unfolding_all rfl) (show inD _ _ _ = _ by with_unfolding_all rfl) (show inD _ _ _ = _ by with_unfolding_all rfl) ?_, { I.mono with fv := mem_app (fun f' h' => (fv f' (List.mem_append_left _ h')).mono) ⟨F.vs, Nat.le_succ_of_le F.hl, ?_⟩, fl := ?_, pl := ?_, ll := ?_ }⟩
  · simp only [St.m, Fr.m, dV_app, fr_app, lg_app, ce_app, nI_app, hfr, hfd]
    exact ⟨_, gate_shut rfl hj (by rw [List.length_map]; exact Nat.le_trans I.ll (by omega))⟩
  · show fd.length ≤ _
    omega
  · show (s.pile.eraseIdx j).length ≤ _
    have := eraseIdx_le s.pile j
    have := I.pl
    omega
  · show (s.log ++ [_]).length ≤ _
    rw [len_app]
    exact Nat.succ_le_succ I.ll
  · show (fl ++ [_]).length ≤ _
    rw [len_app]
    exact fl'
theorem s_back {fl : List Fr} {f : Fr} (I : Inv n s) (hf : popL s.frames = some (fl, f)) : Did k R ou mo s { s with at_ := f.back, frames := fl } .back ∧ Inv (n + 1) { s with at_ := f.back, frames := fl } := by
  have hfr := popL_eq hf
  have fv := I.fv
  rw [hfr] at fv
  have fl' := I.fl
  rw [hfr, len_app] at fl'
  refine ⟨did_gate rfl (show inD _ _ _ = _ by with_unfolding_all rfl) (show inD _ _ _ = _ by with_unfolding_all rfl) (show inD _ _ _ = _ by with_unfolding_all rfl) (show inD _ _ _ = _ by with_unfolding_all rfl) ?_, { I.mono with fv := fun f' h' => (fv f' (List.mem_append_left _ h')).mono, fl := ?_ }⟩
  · simp only [St.m, Fr.m, dV_app, fr_app, lg_app, ce_app, nI_app, hfr]
    exact ⟨_, gate_back rfl⟩
  · show fl.length ≤ _
    omega
/-! calls -/
theorem noTups_fr : ∀ xs : List Fr, M.noTup.noTups (xs.map Fr.m) = true
  | [] => rfl
  | f :: r => by
    have h1 := noTups_dm (dV f.held)
    have h2 := noTups_dm (nI f.fields)
    show (M.noTup f.m && M.noTup.noTups (r.map Fr.m)) = true
    rw [noTups_fr r]
    show ((M.noTup.noTups (dm (dV f.held)) && (M.noTup.noTups (dm (nI f.fields)) && (true && true))) && true) = true
    rw [h1, h2]
    rfl
theorem noTup_st (R : D) (ou mo : Int) (s : St) : M.noTup (s.m R ou mo) = true := by
  unfold St.m
  rw [nt11]
  show (true && (true && (true && (true && (true && (true && (M.noTup.noTups _ && (M.noTup.noTups _ && (M.noTup.noTups _ && (M.noTup.noTups _ && (M.noTup.noTups _ && true))))))))))) = true
  rw [noTups_dm, noTups_dm, noTups_dm, noTups_dm, noTups_fr]
  rfl
theorem getA_map {fd : List Int} : ∀ {hs vs : List Int}, getA fd hs = some vs → (hs.map fun h => atI fd h) = vs.map some
  | [], vs, h => by cases h; rfl
  | h :: r, vs, e => by
    unfold getA at e
    split at e
    · rename_i v ws e1 e2
      cases e
      rw [List.map_cons, List.map_cons, e1, getA_map e2]
    · cases e
theorem getA_len {fd : List Int} : ∀ {hs vs : List Int}, getA fd hs = some vs → vs.length = hs.length
  | [], vs, h => by cases h; rfl
  | h :: r, vs, e => by
    unfold getA at e
    split at e
    · rename_i v ws e1 e2
      cases e
      show ws.length + 1 = r.length + 1
      rw [getA_len e2]
    · cases e
theorem dV_cut (xs ys : List Vl) : dV (xs ++ ys) = dV xs ++ dV ys := List.map_append
theorem hards_app (xs ys : List Vl) : D.hard.hards (dV xs ++ dV ys) = true := dV_cut xs ys ▸ hard_dV (xs ++ ys)
theorem call_st {t m : Int} {hs : List Int} {xs ys : List Vl} (e : s.stack = xs ++ ys) (hm : m = (ys.length : Nat)) {fr : List M} (hfr : s.frames.map Fr.m = fr) {C : Nat → List M → Mi.CR} :
    execSs sub C fn8.pin bigN fn8.body (startE fn8 [s.m R ou mo, .dat (.int t), .dat (.int m), .dat (.tup (nI hs))]) = execSs sub C fn8.pin bigN (tl (tl (tl fn8.body))) [some (mM (.dat R) (.dat (bk s.at_)) (.dat (.int ou)) (.dat (.int mo)) (.dat (.int s.calls)) (.dat (.int s.opened)) (.lst (dm (nI s.pile))) (.lst (dm (s.cells.map Ce.d))) (.lst (dm (dV xs))) (.lst (dm (s.log.map evD))) (.lst fr)), some (.dat (.int t)), some (.dat (.int m)), some (.dat (.tup (nI hs))), some (.dat (.int (dV xs).length)), some (.lst (dm (dV ys))), none, none] := by
  have nt := noTup_st R ou mo s
  revert nt
  unfold St.m
  rw [e, dV_cut, hfr]
  intro nt
  exact call_pre nt (hards_app xs ys) (by rw [dV_len]; exact hm)
theorem cut_eq {α : Type} (xs : List α) {m : Int} (h0 : 0 ≤ m) (h1 : m ≤ xs.length) : xs = xs.take (xs.length - m.toNat) ++ xs.drop (xs.length - m.toNat) ∧ m = ((xs.drop (xs.length - m.toNat)).length : Nat) := by
  refine ⟨(List.take_append_drop _ _).symm, ?_⟩
  rw [List.length_drop]
  omega
theorem s_call {t m : Int} {hs fd : List Int} {fl : List Fr} {f : Fr} (I : Inv n s) (hn : n ≤ 800000) (hf : popL s.frames = some (fl, f)) (h0 : 0 ≤ m ∧ m ≤ s.stack.length) (h1 : s.calls < mo) (h2 : ¬ 12 < s.frames.length) (hg : getA f.fields hs = some fd) (hl : hs.length ≤ 900) :
    Did k R ou mo s { s with calls := s.calls + 1, at_ := some t, stack := s.stack.take (s.stack.length - m.toNat), frames := s.frames ++ [⟨s.stack.drop (s.stack.length - m.toNat), fd, s.at_⟩] } (.call t m hs) ∧ Inv (n + 1) { s with calls := s.calls + 1, at_ := some t, stack := s.stack.take (s.stack.length - m.toNat), frames := s.frames ++ [⟨s.stack.drop (s.stack.length - m.toNat), fd, s.at_⟩] } := by
  obtain ⟨e1, e2⟩ := cut_eq s.stack h0.1 h0.2
  have I1 := I.sl
  have I2 := I.sv
  have hfr := popL_eq hf
  have hfl := getA_len hg
  have hb := I.big
  have hlen : (s.stack.drop (s.stack.length - m.toNat)).length ≤ n := by rw [List.length_drop]; omega
  have htl : (s.stack.take (s.stack.length - m.toNat)).length ≤ n := by rw [List.length_take]; omega
  have v1 : ∀ v ∈ s.stack.take (s.stack.length - m.toNat), v.Ok := fun v hv => I2 v (List.mem_of_mem_take hv)
  have v2 : ∀ v ∈ s.stack.drop (s.stack.length - m.toNat), v.Ok := fun v hv => I2 v (List.mem_of_mem_drop hv)
  generalize s.stack.take (s.stack.length - m.toNat) = xs at *
  generalize s.stack.drop (s.stack.length - m.toNat) = ys at *
  refine ⟨did_gate rfl (show inD _ _ _ = _ by with_unfolding_all rfl) (show inD _ _ _ = _ by with_unfolding_all rfl) (show inD _ _ _ = _ by with_unfolding_all rfl) (show inD _ _ _ = _ by with_unfolding_all rfl) ?_, { I.mono with sv := v1, sl := Nat.le_succ_of_le htl, fv := mem_app (fun f' h' => (I.fv f' h').mono) ⟨v2, Nat.le_succ_of_le hlen, ?_⟩, fl := ?_ }⟩
  · have q : callF sub tab bigN (k + 3) 8 [s.m R ou mo, .dat (.int t), .dat (.int m), .dat (.tup (nI hs))] = .ok (.dat .non) [some (St.m R ou mo { s with calls := s.calls + 1, at_ := some t, stack := xs, frames := s.frames ++ [⟨ys, fd, s.at_⟩] }), none, none, none] := by
      have hC : callF sub tab bigN (k + 2) 0 [.ins "Frame" [] [], .lst (dm (dV ys)), .lst (dm (nI fd)), .dat (bk s.at_)] = .ok (.dat .non) [some (fM (.lst (dm (dV ys))) (.lst (dm (nI fd))) (.dat (bk s.at_))), none, none, none] := (call_nx (fn := fn0) rfl rfl frame_w).trans rfl
      have hlt : (fl.map Fr.m).length < 12 := by
        rw [List.length_map]
        rw [hfr, len_app] at h2
        omega
      refine (call_nx (fn := fn8) rfl rfl ((call_st e1 e2 (fr_cons hf)).trans (call_w hC h1 hlt (getA_map hg) (by omega)))).trans ?_
      · simp only [St.m, Fr.m, dV_app, fr_app, lg_app, ce_app, nI_app, hfr]
        rw [List.append_assoc]
        rfl
    revert q
    simp only [St.m, Fr.m, dV_app, fr_app, lg_app, ce_app, nI_app, fr_cons hf]
    intro q
    exact ⟨_, gate_call rfl rfl rfl rfl rfl q⟩
  · show fd.length ≤ _
    omega
  · show (s.frames ++ [_]).length ≤ _
    rw [len_app]
    omega
theorem s_long {t m : Int} {hs : List Int} {fl : List Fr} {f : Fr} (hf : popL s.frames = some (fl, f)) (h0 : 0 ≤ m ∧ m ≤ s.stack.length) (h1 : ¬ s.calls < mo) : Refd k R ou mo s "TooLong" (.call t m hs) := by
  obtain ⟨e1, e2⟩ := cut_eq s.stack h0.1 h0.2
  generalize s.stack.take (s.stack.length - m.toNat) = xs at *
  generalize s.stack.drop (s.stack.length - m.toNat) = ys at *
  have q : ∃ m', callF sub tab bigN (k + 3) 8 [s.m R ou mo, .dat (.int t), .dat (.int m), .dat (.tup (nI hs))] = .err "TooLong" [some m', none, none, none] :=
    ⟨_, call_err (fn := fn8) rfl rfl ((call_st e1 e2 (fr_cons hf)).trans (call_long h1))⟩
  obtain ⟨m', q⟩ := q
  refine refd_gate (m' := m') rfl (show inD _ _ _ = _ by with_unfolding_all rfl) (show inD _ _ _ = _ by with_unfolding_all rfl) (show inD _ _ _ = _ by with_unfolding_all rfl) (show inD _ _ _ = _ by with_unfolding_all rfl) ?_
  revert q
  simp only [St.m, Fr.m, dV_app, fr_app, lg_app, ce_app, nI_app, fr_cons hf]
  intro q
  exact ⟨_, gate_cerr rfl rfl rfl rfl q⟩
theorem s_deep {t m : Int} {hs : List Int} {fl : List Fr} {f : Fr} (hf : popL s.frames = some (fl, f)) (h0 : 0 ≤ m ∧ m ≤ s.stack.length) (h1 : s.calls < mo) (h2 : 12 < s.frames.length) : Refd k R ou mo s "TooDeep" (.call t m hs) := by
  obtain ⟨e1, e2⟩ := cut_eq s.stack h0.1 h0.2
  generalize s.stack.take (s.stack.length - m.toNat) = xs at *
  generalize s.stack.drop (s.stack.length - m.toNat) = ys at *
  have q : ∃ m', callF sub tab bigN (k + 3) 8 [s.m R ou mo, .dat (.int t), .dat (.int m), .dat (.tup (nI hs))] = .err "TooDeep" [some m', none, none, none] :=
    ⟨_, call_err (fn := fn8) rfl rfl ((call_st e1 e2 (fr_cons hf)).trans (call_deep h1 (by rw [← fr_cons hf, List.length_map]; exact h2)))⟩
  obtain ⟨m', q⟩ := q
  refine refd_gate (m' := m') rfl (show inD _ _ _ = _ by with_unfolding_all rfl) (show inD _ _ _ = _ by with_unfolding_all rfl) (show inD _ _ _ = _ by with_unfolding_all rfl) (show inD _ _ _ = _ by with_unfolding_all rfl) ?_
  revert q
  simp only [St.m, Fr.m, dV_app, fr_app, lg_app, ce_app, nI_app, fr_cons hf]
  intro q
  exact ⟨_, gate_cerr rfl rfl rfl rfl q⟩
end
end K41
namespace K41
open PySem L2 Mi
section
variable {k n : Nat} {R : D} {ou mo : Int} {s s' : St} {c : Str}
theorem in1_op (o : Op) : in1 o.w true := by cases o <;> exact (show inD _ _ _ = _ by with_unfolding_all rfl)
theorem mk1 (p : Bool) : in1 (mkW p) false := by cases p <;> exact (show inD _ _ _ = _ by with_unfolding_all rfl)
theorem mk2 (p : Bool) : in2 (mkW p) true := by cases p <;> exact (show inD _ _ _ = _ by with_unfolding_all rfl)
theorem lk1 (w : Lk) : in1 w.w false := by cases w <;> exact (show inD _ _ _ = _ by with_unfolding_all rfl)
theorem lk2 (w : Lk) : in2 w.w false := by cases w <;> exact (show inD _ _ _ = _ by with_unfolding_all rfl)
theorem lk3 (w : Lk) : in3 w.w true := by cases w <;> exact (show inD _ _ _ = _ by with_unfolding_all rfl)
theorem lkq (w : Lk) : inD false (.str w.w) (.tup [.str "first", .str "head"]) = some (.bl w.one) := by cases w <;> exact (show inD _ _ _ = _ by with_unfolding_all rfl)
/-! numbers -/
theorem op_in {o : Op} {x y : Int} {s2 : List Vl} (hs : s.stack = s2 ++ [.num x, .num y]) : s.m R ou mo = mM (.dat R) (.dat (bk s.at_)) (.dat (.int ou)) (.dat (.int mo)) (.dat (.int s.calls)) (.dat (.int s.opened)) (.lst (dm (nI s.pile))) (.lst (dm (s.cells.map Ce.d))) (.lst (dm (dV s2 ++ [.int x, .int y]))) (.lst (dm (s.log.map evD))) (.lst (s.frames.map Fr.m)) := by
  unfold St.m
  rw [hs, dV_cut]
  rfl
theorem tb {z : Int} : tooBig z = true ↔ OV ≤ (z.natAbs : Int) := by unfold tooBig; exact decide_eq_true_iff
theorem sm_z {z : Int} (h : ¬ OV ≤ (z.natAbs : Int)) : Sm z := by
  unfold Sm
  have : OV = (10 : Int) ^ 60 := by decide
  omega
theorem s_op {o : Op} {x y : Int} {s1 s2 : List Vl} (I : Inv n s) (hn : n ≤ 800000) (h1 : popL s.stack = some (s1, .num y)) (h2 : popL s1 = some (s2, .num x)) (hz : ¬ tooBig (o.z x y) = true) :
    Did k R ou mo s { s with stack := s2 ++ [.num (o.z x y)] } (.op o) ∧ Inv (n + 1) { s with stack := s2 ++ [.num (o.z x y)] } := by
  have e1 : s.stack = s2 ++ [.num x, .num y] := by rw [popL_eq h1, popL_eq h2, List.append_assoc]; rfl
  have sv := I.sv
  rw [e1] at sv
  have sl := I.sl
  rw [e1, List.length_append] at sl
  have hx : Sm x := sv (.num x) (List.mem_append_right _ (by simp))
  have hy : Sm y := sv (.num y) (List.mem_append_right _ (by simp))
  have hz' : ¬ OV ≤ ((o.z x y).natAbs : Int) := fun q => hz (tb.mpr q)
  refine ⟨call_nx (fn := fn12) rfl rfl (row_reck (w := o.w) rfl (in1_op o) ?_), { I.mono with sv := mem_app (app_l sv) (sm_z hz'), sl := ?_ }⟩
  · refine (congrArg (fun q => callF sub tab bigN (k + 4) 5 [q, .dat (.str o.w)]) (op_in (o := o) e1)).trans ?_
    refine (call_nx (fn := fn5) rfl rfl (reck_w hx hy (by rw [dV_len]; omega) (by rw [Op.z_w]; exact hz'))).trans ?_
    simp only [St.m, Fr.m, dV_app, fr_app, lg_app, ce_app, nI_app, Op.z_w]
    rfl
  · show (s2 ++ [_]).length ≤ _
    rw [len_app]
    omega
theorem s_ogr {o : Op} {x y : Int} {s1 s2 : List Vl} (I : Inv n s) (h1 : popL s.stack = some (s1, .num y)) (h2 : popL s1 = some (s2, .num x)) (hz : tooBig (o.z x y) = true) : Refd k R ou mo s "TooGreat" (.op o) := by
  have e1 : s.stack = s2 ++ [.num x, .num y] := by rw [popL_eq h1, popL_eq h2, List.append_assoc]; rfl
  have sv := I.sv
  rw [e1] at sv
  have hx : Sm x := sv (.num x) (List.mem_append_right _ (by simp))
  have hy : Sm y := sv (.num y) (List.mem_append_right _ (by simp))
  exact ⟨_, call_err (fn := fn12) rfl rfl (row_rerr (w := o.w) rfl (in1_op o) ((congrArg (fun q => callF sub tab bigN (k + 4) 5 [q, .dat (.str o.w)]) (op_in (o := o) e1)).trans
    (call_err (fn := fn5) rfl rfl (reck_x hx hy (by rw [Op.z_w]; exact tb.mp hz)))))⟩
/-! cells laid -/
theorem size_c {v : Vl} {z : Int} {xs : List D} (h : sizeV s.cells v = some z) {fr : List M} : callF sub tab bigN (k + 1) 4 [mM (.dat R) (.dat (bk s.at_)) (.dat (.int ou)) (.dat (.int mo)) (.dat (.int s.calls)) (.dat (.int s.opened)) (.lst (dm (nI s.pile))) (.lst (dm (s.cells.map Ce.d))) (.lst (dm xs)) (.lst (dm (s.log.map evD))) (.lst fr), .dat v.d] = .ok (.dat (.int z)) [some (mM (.dat R) (.dat (bk s.at_)) (.dat (.int ou)) (.dat (.int mo)) (.dat (.int s.calls)) (.dat (.int s.opened)) (.lst (dm (nI s.pile))) (.lst (dm (s.cells.map Ce.d))) (.lst (dm xs)) (.lst (dm (s.log.map evD))) (.lst fr)), none] := by
  cases v with
  | num i => cases h; exact call_ret (fn := fn4) rfl rfl (size_1 rfl)
  | non => cases h; exact call_ret (fn := fn4) rfl rfl (size_1 rfl)
  | ref i =>
    have h : (atI s.cells i).map Ce.sz = some z := h
    cases q : atI s.cells i with
    | none => rw [q] at h; cases h
    | some c =>
      rw [q] at h
      cases h
      obtain ⟨j, e1, e2⟩ := ixN_dm (atI_map Ce.d q)
      exact call_ret (fn := fn4) rfl rfl (size_w e1 e2 rfl)
theorem mk_in {x y : Vl} {s2 : List Vl} (hs : s.stack = s2 ++ [x, y]) {fr : List M} (hf : s.frames.map Fr.m = fr) : s.m R ou mo = mM (.dat R) (.dat (bk s.at_)) (.dat (.int ou)) (.dat (.int mo)) (.dat (.int s.calls)) (.dat (.int s.opened)) (.lst (dm (nI s.pile))) (.lst (dm (s.cells.map Ce.d))) (.lst (dm (dV s2 ++ [x.d, y.d]))) (.lst (dm (s.log.map evD))) (.lst fr) := by
  unfold St.m
  rw [hs, dV_cut, hf]
  rfl
theorem s_mk {pr : Bool} {j fd p q : Int} {x y : Vl} {s1 s2 : List Vl} {fl : List Fr} {f : Fr} (I : Inv n s) (hn : n ≤ 800000) (hf : popL s.frames = some (fl, f)) (hd : atI f.fields j = some fd) (h1 : popL s.stack = some (s1, y)) (h2 : popL s1 = some (s2, x)) (hp : sizeV s.cells x = some p) (hq : sizeV s.cells y = some q) (g : ¬ 1000 < 1 + p + q) (hm : fd ∈ s.pile) :
    Did k R ou mo s { s with stack := s2 ++ [.ref s.cells.length], cells := s.cells ++ [⟨pr, x, y, fd, 1 + p + q⟩], log := s.log ++ [(.lay, fd)] } (.mk pr j) ∧ Inv (n + 1) { s with stack := s2 ++ [.ref s.cells.length], cells := s.cells ++ [⟨pr, x, y, fd, 1 + p + q⟩], log := s.log ++ [(.lay, fd)] } := by
  have e1 : s.stack = s2 ++ [x, y] := by rw [popL_eq h1, popL_eq h2, List.append_assoc]; rfl
  have sv := I.sv
  rw [e1] at sv
  have sl := I.sl
  rw [e1, List.length_append] at sl
  obtain ⟨j', t1, t2⟩ := ixN_dm (atI_nI hd)
  have hc := I.cl
  have hlg := I.ll
  have hin : s.m R ou mo = mM _ _ _ _ _ _ _ _ _ _ _ := mk_in e1 (fr_cons hf)
  refine ⟨?_, { I.mono with sv := mem_app (app_l sv) trivial, cv := mem_app I.cv ⟨sv x (List.mem_append_right _ (by simp)), sv y (List.mem_append_right _ (by simp))⟩, sl := ?_, cl := ?_, ll := ?_ }⟩
  · unfold Did
    rw [hin]
    refine (call_nx (fn := fn12) rfl rfl (row_lay (w := mkW pr) (m' := St.m R ou mo { s with stack := s2 ++ [.ref s.cells.length], cells := s.cells ++ [⟨pr, x, y, fd, 1 + p + q⟩], log := s.log ++ [(.lay, fd)] }) rfl (mk1 pr) (mk2 pr) rfl t1 t2 ?_)).trans rfl
    refine (call_nx (fn := fn6) rfl rfl ((lay_pre (size_c hp) (size_c hq)).trans (lay_w g hm (by rw [List.length_map]; omega) (by rw [dV_len]; omega) (by rw [List.length_map]; omega)))).trans ?_
    simp only [St.m, Fr.m, dV_app, fr_app, lg_app, ce_app, nI_app, fr_cons hf]
    rw [List.length_map]
    rfl
  · show (s.cells ++ [_]).length ≤ _
    rw [len_app]
    exact Nat.succ_le_succ hc
  · show (s2 ++ [_]).length ≤ _
    rw [len_app]
    omega
  · show (s.log ++ [_]).length ≤ _
    rw [len_app]
    exact Nat.succ_le_succ hlg
theorem s_mgr {pr : Bool} {j fd p q : Int} {x y : Vl} {s1 s2 : List Vl} {fl : List Fr} {f : Fr} (hf : popL s.frames = some (fl, f)) (hd : atI f.fields j = some fd) (h1 : popL s.stack = some (s1, y)) (h2 : popL s1 = some (s2, x)) (hp : sizeV s.cells x = some p) (hq : sizeV s.cells y = some q) (g : 1000 < 1 + p + q) : Refd k R ou mo s "TooGreat" (.mk pr j) := by
  have e1 : s.stack = s2 ++ [x, y] := by rw [popL_eq h1, popL_eq h2, List.append_assoc]; rfl
  obtain ⟨j', t1, t2⟩ := ixN_dm (atI_nI hd)
  have hin : s.m R ou mo = mM _ _ _ _ _ _ _ _ _ _ _ := mk_in e1 (fr_cons hf)
  unfold Refd
  rw [hin]
  exact ⟨_, call_err (fn := fn12) rfl rfl (row_lerr (w := mkW pr) rfl (mk1 pr) (mk2 pr) rfl t1 t2 (call_err (fn := fn6) rfl rfl ((lay_pre (size_c hp) (size_c hq)).trans (lay_g g))))⟩
theorem s_mgo {pr : Bool} {j fd p q : Int} {x y : Vl} {s1 s2 : List Vl} {fl : List Fr} {f : Fr} (hf : popL s.frames = some (fl, f)) (hd : atI f.fields j = some fd) (h1 : popL s.stack = some (s1, y)) (h2 : popL s1 = some (s2, x)) (hp : sizeV s.cells x = some p) (hq : sizeV s.cells y = some q) (g : ¬ 1000 < 1 + p + q) (hm : ¬ fd ∈ s.pile) : Refd k R ou mo s "Gone" (.mk pr j) := by
  have e1 : s.stack = s2 ++ [x, y] := by rw [popL_eq h1, popL_eq h2, List.append_assoc]; rfl
  obtain ⟨j', t1, t2⟩ := ixN_dm (atI_nI hd)
  have hin : s.m R ou mo = mM _ _ _ _ _ _ _ _ _ _ _ := mk_in e1 (fr_cons hf)
  unfold Refd
  rw [hin]
  exact ⟨_, call_err (fn := fn12) rfl rfl (row_lerr (w := mkW pr) rfl (mk1 pr) (mk2 pr) rfl t1 t2 (call_err (fn := fn6) rfl rfl ((lay_pre (size_c hp) (size_c hq)).trans (lay_n g hm))))⟩
/-! looks -/
theorem lk_in {x : Vl} {s2 : List Vl} (hs : s.stack = s2 ++ [x]) : s.m R ou mo = mM (.dat R) (.dat (bk s.at_)) (.dat (.int ou)) (.dat (.int mo)) (.dat (.int s.calls)) (.dat (.int s.opened)) (.lst (dm (nI s.pile))) (.lst (dm (s.cells.map Ce.d))) (.lst (dm (dV s2 ++ [x.d]))) (.lst (dm (s.log.map evD))) (.lst (s.frames.map Fr.m)) := by
  unfold St.m
  rw [hs, dV_app]
theorem s_lk {w : Lk} {i : Int} {c : Ce} {st : List Vl} (I : Inv n s) (hn : n ≤ 800000) (h1 : popL s.stack = some (st, .ref i)) (hc : atI s.cells i = some c) (hm : c.f ∈ s.pile) :
    Did k R ou mo s { s with stack := st ++ [if w.one then c.a else c.b], log := s.log ++ [(.look, c.f)] } (.look w) ∧ Inv (n + 1) { s with stack := st ++ [if w.one then c.a else c.b], log := s.log ++ [(.look, c.f)] } := by
  have e1 := popL_eq h1
  have sv := I.sv
  rw [e1] at sv
  have sl := I.sl
  rw [e1, len_app] at sl
  have hlg := I.ll
  have hv := I.cv c (atI_mem hc)
  obtain ⟨j, t1, t2⟩ := ixN_dm (atI_map Ce.d hc)
  have hin : s.m R ou mo = mM _ _ _ _ _ _ _ _ _ _ _ := lk_in e1
  refine ⟨?_, { I.mono with sv := mem_app (app_l sv) ?_, sl := ?_, ll := ?_ }⟩
  · unfold Did
    rw [hin]
    refine (call_nx (fn := fn12) rfl rfl (row_look (w := w.w) (m' := St.m R ou mo { s with stack := st ++ [if w.one then c.a else c.b], log := s.log ++ [(.look, c.f)] }) rfl (lk1 w) (lk2 w) (lk3 w) ?_)).trans rfl
    refine (call_nx (fn := fn7) rfl rfl (look_w (c := c.d) (f := c.f) (q := w.one) (r := (if w.one then c.a else c.b).d) rfl ((call_ret (fn := fn3) rfl rfl (cell_w t1 t2 rfl hm)).trans rfl) rfl (lkq w) ?_ (by rw [List.length_map]; omega) (by rw [dV_len]; omega))).trans ?_
    · cases w.one <;> rfl
    · simp only [St.m, Fr.m, dV_app, fr_app, lg_app, ce_app, nI_app]
      rfl
  · split
    · exact hv.1
    · exact hv.2
  · show (st ++ [_]).length ≤ _
    rw [len_app]
    omega
  · show (s.log ++ [_]).length ≤ _
    rw [len_app]
    exact Nat.succ_le_succ hlg
theorem s_lgo {w : Lk} {i : Int} {c : Ce} {st : List Vl} (h1 : popL s.stack = some (st, .ref i)) (hc : atI s.cells i = some c) (hm : ¬ c.f ∈ s.pile) : Refd k R ou mo s "Gone" (.look w) := by
  have e1 := popL_eq h1
  obtain ⟨j, t1, t2⟩ := ixN_dm (atI_map Ce.d hc)
  have hin : s.m R ou mo = mM _ _ _ _ _ _ _ _ _ _ _ := lk_in e1
  unfold Refd
  rw [hin]
  exact ⟨_, call_err (fn := fn12) rfl rfl (row_loerr (w := w.w) rfl (lk1 w) (lk2 w) (lk3 w) (call_err (fn := fn7) rfl rfl (look_x rfl ((call_err (fn := fn3) rfl rfl (cell_x t1 t2 rfl hm)).trans rfl))))⟩
theorem s_lem {w : Lk} {st : List Vl} (h1 : popL s.stack = some (st, .non)) : Refd k R ou mo s "Empty" (.look w) := by
  have e1 := popL_eq h1
  have hin : s.m R ou mo = mM _ _ _ _ _ _ _ _ _ _ _ := lk_in e1
  unfold Refd
  rw [hin]
  exact ⟨_, call_err (fn := fn12) rfl rfl (row_loerr (w := w.w) rfl (lk1 w) (lk2 w) (lk3 w) (call_err (fn := fn7) rfl rfl look_e))⟩
/-! a row, any -/
def Rowed (k n : Nat) (R : D) (ou mo : Int) (s : St) (r : Row) : SR → Prop
  | .nx s' => Did k R ou mo s s' r ∧ Inv (n + 1) s'
  | .er c => Refd k R ou mo s c r
  | .bad => True
theorem step_ok {r : Row} (I : Inv n s) (hn : n ≤ 800000) (hr : r.Ok) (hf : s.frames ≠ []) : Rowed k n R ou mo s r (step mo s r) := by
  have ⟨fl, f, hf⟩ : ∃ fl f, popL s.frames = some (fl, f) := by
    cases q : popL s.frames with
    | none => exact absurd (popL_none q) hf
    | some p => exact ⟨p.1, p.2, rfl⟩
  cases r with
  | num i => exact s_num I hn hf hr
  | nil => exact s_nil I hn hf
  | loc i =>
    unfold step
    rw [hf]
    dsimp only
    split
    · rename_i v hv
      exact s_loc I hn hf hv
    · trivial
  | keep =>
    unfold step
    rw [hf]
    dsimp only
    split
    · rename_i e1 e2
      cases e1
      exact s_keep I hn hf e2
    · trivial
  | drop =>
    unfold step
    rw [hf]
    dsimp only
    split
    · rename_i e
      exact s_drop I hn hf e
    · trivial
  | isN =>
    unfold step
    dsimp only
    split
    · rename_i e
      exact s_isN I hn hf e
    · trivial
  | jump t => exact s_jump I hf
  | unl t =>
    unfold step
    dsimp only
    split
    · rename_i i e
      split
      · rename_i z
        subst z
        exact s_unl I hf e
      · rename_i z
        exact s_not I hf e z
    · trivial
  | op o =>
    unfold step
    dsimp only
    split
    · rename_i e
      split
      · rename_i e2
        split
        · rename_i z
          exact s_ogr I e e2 z
        · rename_i z
          exact s_op I hn e e2 z
      · trivial
    · trivial
  | mk pr j =>
    unfold step
    rw [hf]
    dsimp only
    split
    · rename_i hd e
      split
      · rename_i e2
        split
        · rename_i hp hq
          split
          · rename_i g
            exact s_mgr hf hd e e2 hp hq g
          · rename_i g
            split
            · rename_i hm
              exact s_mk I hn hf hd e e2 hp hq g hm
            · rename_i hm
              exact s_mgo hf hd e e2 hp hq g hm
        · trivial
      · trivial
    · trivial
  | look w =>
    unfold step
    dsimp only
    split
    · rename_i e
      split
      · rename_i hc
        split
        · rename_i hm
          exact s_lk I hn e hc hm
        · rename_i hm
          exact s_lgo e hc hm
      · trivial
    · rename_i e
      exact s_lem e
    · trivial
  | opn =>
    unfold step
    rw [hf]
    exact s_open I hn hf
  | shut =>
    unfold step
    rw [hf]
    dsimp only
    split
    · rename_i e
      split
      · rename_i hj
        exact s_shut I hn hf e hj
      · trivial
    · trivial
  | call t m hs =>
    unfold step
    rw [hf]
    dsimp only
    split
    · rename_i h0
      split
      · rename_i h1
        exact s_long hf h0 h1
      · rename_i h1
        split
        · rename_i h2
          exact s_deep hf h0 (Decidable.not_not.mp h1) h2
        · rename_i h2
          split
          · rename_i hg
            exact s_call I hn hf h0 (Decidable.not_not.mp h1) h2 hg hr
          · trivial
    · trivial
  | back =>
    unfold step
    rw [hf]
    exact s_back I hf
end
end K41
namespace K41
open PySem L2 Mi
/-! ### a value told -/
inductive TR where
  | ok (d : D)
  | er
  | bad
def chainT (cs : List Ce) (pl : List Int) (t : Vl → TR) : Nat → List D → Vl → TR
  | 0, _, _ => .bad
  | _ + 1, _, .num _ => .bad
  | _ + 1, acc, .non => .ok (.lst acc)
  | m + 1, acc, .ref k => match atI cs k with
    | none => .bad
    | some c => if c.f ∈ pl then match t c.a with
        | .ok x => chainT cs pl t m (acc ++ [x]) c.b
        | q => q
      else .er
def tell (cs : List Ce) (pl : List Int) : Nat → Vl → TR
  | 0, _ => .bad
  | _ + 1, .non => .ok (.lst [])
  | _ + 1, .num i => .ok (.int i)
  | n + 1, .ref k => match atI cs k with
    | none => .bad
    | some c => if c.f ∈ pl then
        if c.pr = true then match tell cs pl n c.a with
          | .ok x => match tell cs pl n c.b with
            | .ok y => .ok (.tup [x, y])
            | q => q
          | q => q
        else chainT cs pl (tell cs pl n) n [] (.ref k)
      else .er
section
variable {k : Nat} {a0 a1 a2 a3 a4 a5 a8 a9 a10 : M} {cs : List Ce} {pl : List Int}
abbrev tM (a0 a1 a2 a3 a4 a5 : M) (cs : List Ce) (pl : List Int) (a8 a9 a10 : M) : M := mM a0 a1 a2 a3 a4 a5 (.lst (dm (nI pl))) (.lst (dm (cs.map Ce.d))) a8 a9 a10
def Tells (x : Mi.CR) (m : M) : TR → Prop
  | .ok d => ∃ r : M, r.toD = d ∧ x = .ok r [some m, none]
  | .er => x = .err "Gone" [some m, none]
  | .bad => True
theorem cell_c {i : Int} {c : Ce} (h : atI cs i = some c) (hf : c.f ∈ pl) : callF sub tab bigN (k + 1) 3 [tM a0 a1 a2 a3 a4 a5 cs pl a8 a9 a10, .dat (.tup [.int i])] = .ok (.dat c.d) [some (tM a0 a1 a2 a3 a4 a5 cs pl a8 a9 a10), none] := by
  obtain ⟨j, t1, t2⟩ := ixN_dm (atI_map Ce.d h)
  exact (call_ret (fn := fn3) rfl rfl (cell_w t1 t2 rfl hf)).trans rfl
theorem cell_e {i : Int} {c : Ce} (h : atI cs i = some c) (hf : ¬ c.f ∈ pl) : callF sub tab bigN (k + 1) 3 [tM a0 a1 a2 a3 a4 a5 cs pl a8 a9 a10, .dat (.tup [.int i])] = .err "Gone" [some (tM a0 a1 a2 a3 a4 a5 cs pl a8 a9 a10), none] := by
  obtain ⟨j, t1, t2⟩ := ixN_dm (atI_map Ce.d h)
  exact (call_err (fn := fn3) rfl rfl (cell_x t1 t2 rfl hf)).trans rfl
theorem isT (c : Ce) : fEq (.str (mkW c.pr)) (.str "pair") = some (.bl c.pr) := by
  cases c.pr <;> (with_unfolding_all rfl)
theorem told_0 {C : Nat → List M → Mi.CR} {m : M} : execSs sub C fn9.pin bigN fn9.body (startE fn9 [m, .dat .non]) = .ret (.dat (.lst [])) [some m, some (.dat .non), none, none] := by
  have n1 : fIsN .non .non = some (.bl true) := rfl
  have n2 : fLst [] = some (.lst []) := rfl
  unfold fn9
  refine ex_ret ?_
  simp! [startE, n1, n2]
theorem told_i {C : Nat → List M → Mi.CR} {m : M} {i : Int} : execSs sub C fn9.pin bigN fn9.body (startE fn9 [m, .dat (.int i)]) = .ret (.dat (.int i)) [some m, some (.dat (.int i)), none, none] := by
  have n1 : fIsN (.int i) .non = some (.bl false) := rfl
  have n2 : fIsi "tuple" (.int i) = some (.bl false) := rfl
  unfold fn9
  dsimp! [startE, n1]
  refine ex_ret ?_
  simp! [n2]
theorem told_x {C : Nat → List M → Mi.CR} {i : Int} (h : C 3 [tM a0 a1 a2 a3 a4 a5 cs pl a8 a9 a10, .dat (.tup [.int i])] = .err "Gone" [some (tM a0 a1 a2 a3 a4 a5 cs pl a8 a9 a10), none]) :
    execSs sub C fn9.pin bigN fn9.body (startE fn9 [tM a0 a1 a2 a3 a4 a5 cs pl a8 a9 a10, .dat (.tup [.int i])]) = .err "Gone" [some (tM a0 a1 a2 a3 a4 a5 cs pl a8 a9 a10), some (.dat (.tup [.int i])), none, none] := by
  have n1 : fIsN (.tup [.int i]) .non = some (.bl false) := rfl
  have n2 : fIsi "tuple" (.tup [.int i]) = some (.bl true) := rfl
  unfold tM at *
  generalize (M.lst (dm (nI pl))) = P at *
  generalize (M.lst (dm (cs.map Ce.d))) = Q at *
  unfold fn9
  dsimp! [startE, n1]
  dsimp! [n2]
  refine ex_er ?_
  simp! [kc2, h]
theorem told_2 {C : Nat → List M → Mi.CR} {i : Int} {c : Ce} {x y : D} {ox oy : M} (hx : ox.toD = x) (hy : oy.toD = y) (hp : c.pr = true) (h : C 3 [tM a0 a1 a2 a3 a4 a5 cs pl a8 a9 a10, .dat (.tup [.int i])] = .ok (.dat c.d) [some (tM a0 a1 a2 a3 a4 a5 cs pl a8 a9 a10), none])
    (h1 : C 9 [tM a0 a1 a2 a3 a4 a5 cs pl a8 a9 a10, .dat c.a.d] = .ok ox [some (tM a0 a1 a2 a3 a4 a5 cs pl a8 a9 a10), none]) (h2 : C 9 [tM a0 a1 a2 a3 a4 a5 cs pl a8 a9 a10, .dat c.b.d] = .ok oy [some (tM a0 a1 a2 a3 a4 a5 cs pl a8 a9 a10), none]) :
    execSs sub C fn9.pin bigN fn9.body (startE fn9 [tM a0 a1 a2 a3 a4 a5 cs pl a8 a9 a10, .dat (.tup [.int i])]) = .ret (.dat (.tup [x, y])) [some (tM a0 a1 a2 a3 a4 a5 cs pl a8 a9 a10), some (.dat (.tup [.int i])), none, some (.dat c.d)] := by
  have n1 : fIsN (.tup [.int i]) .non = some (.bl false) := rfl
  have n2 : fIsi "tuple" (.tup [.int i]) = some (.bl true) := rfl
  have c0 : fIx c.d (.int 0) = some (.str (mkW c.pr)) := rfl
  have c1 : fIx c.d (.int 1) = some c.a.d := rfl
  have c2 : fIx c.d (.int 2) = some c.b.d := rfl
  have q := isT c
  rw [hp] at q c0
  unfold tM at *
  generalize (M.lst (dm (nI pl))) = P at *
  generalize (M.lst (dm (cs.map Ce.d))) = Q at *
  generalize c.d = cd at *
  generalize c.a.d = ca at *
  generalize c.b.d = cb at *
  have fr : execS sub C fn9.pin bigN (.ite (.op2 fEq (.op2 fIx (.meth false "Machine" "cell_at" 3 (.root 0) (.val (.var 1) .nil)) (.con (.int 0))) (.con (.str "pair"))) (.cons (.set (.one 3) (.meth false "Machine" "cell_at" 3 (.root 0) (.val (.var 1) .nil)))
  (.cons (.ret (.opN fTup (.cons (.meth false "Machine" "told" 9 (.root 0) (.val (.op2 fIx (.var 3) (.con (.int 1))) .nil)) (.cons (.meth false "Machine" "told" 9 (.root 0) (.val (.op2 fIx (.var 3) (.con (.int 2))) .nil)) .nil))))
  .nil)) .nil) [some (mM a0 a1 a2 a3 a4 a5 P Q a8 a9 a10), some (.dat (.tup [.int i])), none, none] = .ret (.dat (.tup [x, y])) [some (mM a0 a1 a2 a3 a4 a5 P Q a8 a9 a10), some (.dat (.tup [.int i])), none, some (.dat cd)] := by
    refine ite_t (μ1 := [some (mM a0 a1 a2 a3 a4 a5 P Q a8 a9 a10), some (.dat (.tup [.int i])), none, none]) (by simp! [kc2, h, c0, q]) ?_
    unfold fn9
    dsimp! [kc2, h]
    refine ex_ret ?_
    simp! [kc8, c1, h1, c2, h2, fTup_n, hx, hy]
  unfold fn9 at fr ⊢
  dsimp! [startE, n1]
  dsimp! [n2]
  exact ex_one fr (fun _ z => by cases z)
abbrev ite9 : Mi.S := .ite (.op2 fEq (.op2 fIx (.meth false "Machine" "cell_at" 3 (.root 0) (.val (.var 1) .nil)) (.con (.int 0))) (.con (.str "pair"))) (.cons (.set (.one 3) (.meth false "Machine" "cell_at" 3 (.root 0) (.val (.var 1) .nil)))
  (.cons (.ret (.opN fTup (.cons (.meth false "Machine" "told" 9 (.root 0) (.val (.op2 fIx (.var 3) (.con (.int 1))) .nil)) (.cons (.meth false "Machine" "told" 9 (.root 0) (.val (.op2 fIx (.var 3) (.con (.int 2))) .nil)) .nil))))
  .nil)) .nil
theorem told_21 {C : Nat → List M → Mi.CR} {i : Int} {c : Ce} (hp : c.pr = true) (h : C 3 [tM a0 a1 a2 a3 a4 a5 cs pl a8 a9 a10, .dat (.tup [.int i])] = .ok (.dat c.d) [some (tM a0 a1 a2 a3 a4 a5 cs pl a8 a9 a10), none])
    (h1 : C 9 [tM a0 a1 a2 a3 a4 a5 cs pl a8 a9 a10, .dat c.a.d] = .err "Gone" [some (tM a0 a1 a2 a3 a4 a5 cs pl a8 a9 a10), none]) :
    execSs sub C fn9.pin bigN fn9.body (startE fn9 [tM a0 a1 a2 a3 a4 a5 cs pl a8 a9 a10, .dat (.tup [.int i])]) = .err "Gone" [some (tM a0 a1 a2 a3 a4 a5 cs pl a8 a9 a10), some (.dat (.tup [.int i])), none, some (.dat c.d)] := by
  have n1 : fIsN (.tup [.int i]) .non = some (.bl false) := rfl
  have n2 : fIsi "tuple" (.tup [.int i]) = some (.bl true) := rfl
  have c0 : fIx c.d (.int 0) = some (.str (mkW c.pr)) := rfl
  have c1 : fIx c.d (.int 1) = some c.a.d := rfl
  have q := isT c
  rw [hp] at q c0
  unfold tM at *
  generalize (M.lst (dm (nI pl))) = P at *
  generalize (M.lst (dm (cs.map Ce.d))) = Q at *
  generalize c.d = cd at *
  generalize c.a.d = ca at *
  have fr : execS sub C fn9.pin bigN ite9 [some (mM a0 a1 a2 a3 a4 a5 P Q a8 a9 a10), some (.dat (.tup [.int i])), none, none] = .err "Gone" [some (mM a0 a1 a2 a3 a4 a5 P Q a8 a9 a10), some (.dat (.tup [.int i])), none, some (.dat cd)] := by
    refine ite_t (μ1 := [some (mM a0 a1 a2 a3 a4 a5 P Q a8 a9 a10), some (.dat (.tup [.int i])), none, none]) (by simp! [kc2, h, c0, q]) ?_
    unfold fn9
    dsimp! [kc2, h]
    refine ex_er ?_
    simp! [kc8, c1, h1]
  unfold fn9 at fr ⊢
  dsimp! [startE, n1]
  dsimp! [n2]
  exact ex_one fr (fun _ z => by cases z)
theorem told_22 {C : Nat → List M → Mi.CR} {i : Int} {c : Ce} {ox : M} (hp : c.pr = true) (h : C 3 [tM a0 a1 a2 a3 a4 a5 cs pl a8 a9 a10, .dat (.tup [.int i])] = .ok (.dat c.d) [some (tM a0 a1 a2 a3 a4 a5 cs pl a8 a9 a10), none])
    (h1 : C 9 [tM a0 a1 a2 a3 a4 a5 cs pl a8 a9 a10, .dat c.a.d] = .ok ox [some (tM a0 a1 a2 a3 a4 a5 cs pl a8 a9 a10), none]) (h2 : C 9 [tM a0 a1 a2 a3 a4 a5 cs pl a8 a9 a10, .dat c.b.d] = .err "Gone" [some (tM a0 a1 a2 a3 a4 a5 cs pl a8 a9 a10), none]) :
    execSs sub C fn9.pin bigN fn9.body (startE fn9 [tM a0 a1 a2 a3 a4 a5 cs pl a8 a9 a10, .dat (.tup [.int i])]) = .err "Gone" [some (tM a0 a1 a2 a3 a4 a5 cs pl a8 a9 a10), some (.dat (.tup [.int i])), none, some (.dat c.d)] := by
  have n1 : fIsN (.tup [.int i]) .non = some (.bl false) := rfl
  have n2 : fIsi "tuple" (.tup [.int i]) = some (.bl true) := rfl
  have c0 : fIx c.d (.int 0) = some (.str (mkW c.pr)) := rfl
  have c1 : fIx c.d (.int 1) = some c.a.d := rfl
  have c2 : fIx c.d (.int 2) = some c.b.d := rfl
  have q := isT c
  rw [hp] at q c0
  unfold tM at *
  generalize (M.lst (dm (nI pl))) = P at *
  generalize (M.lst (dm (cs.map Ce.d))) = Q at *
  generalize c.d = cd at *
  generalize c.a.d = ca at *
  generalize c.b.d = cb at *
  have fr : execS sub C fn9.pin bigN ite9 [some (mM a0 a1 a2 a3 a4 a5 P Q a8 a9 a10), some (.dat (.tup [.int i])), none, none] = .err "Gone" [some (mM a0 a1 a2 a3 a4 a5 P Q a8 a9 a10), some (.dat (.tup [.int i])), none, some (.dat cd)] := by
    refine ite_t (μ1 := [some (mM a0 a1 a2 a3 a4 a5 P Q a8 a9 a10), some (.dat (.tup [.int i])), none, none]) (by simp! [kc2, h, c0, q]) ?_
    unfold fn9
    dsimp! [kc2, h]
    refine ex_er ?_
    simp! [kc8, c1, h1, c2, h2]
  unfold fn9 at fr ⊢
  dsimp! [startE, n1]
  dsimp! [n2]
  exact ex_one fr (fun _ z => by cases z)
/-! a list -/
def Chained (m : M) (x : Mi.Res) : TR → Prop
  | .ok d => ∃ xs o3, d = .lst xs ∧ x = .nx [some m, some (.dat .non), some (.lst (dm xs)), o3]
  | .er => ∃ o1 o2 o3, x = .err "Gone" [some m, o1, o2, o3]
  | .bad => True
theorem chain_w {C : Nat → List M → Mi.CR} {t : Vl → TR} (hc : ∀ i c, atI cs i = some c → c.f ∈ pl → C 3 [tM a0 a1 a2 a3 a4 a5 cs pl a8 a9 a10, .dat (.tup [.int i])] = .ok (.dat c.d) [some (tM a0 a1 a2 a3 a4 a5 cs pl a8 a9 a10), none])
    (he : ∀ i c, atI cs i = some c → ¬ c.f ∈ pl → C 3 [tM a0 a1 a2 a3 a4 a5 cs pl a8 a9 a10, .dat (.tup [.int i])] = .err "Gone" [some (tM a0 a1 a2 a3 a4 a5 cs pl a8 a9 a10), none])
    (ih : ∀ v, Tells (C 9 [tM a0 a1 a2 a3 a4 a5 cs pl a8 a9 a10, .dat v.d]) (tM a0 a1 a2 a3 a4 a5 cs pl a8 a9 a10) (t v)) :
    ∀ (m N : Nat) (acc : List D) (v : Vl) (o3 : Option M), m ≤ N → acc.length + m ≤ 900000 → Chained (tM a0 a1 a2 a3 a4 a5 cs pl a8 a9 a10) (whLoop (evalE C fn9.pin w9_0c) (execSs sub C fn9.pin bigN w9_0b) N [some (tM a0 a1 a2 a3 a4 a5 cs pl a8 a9 a10), some (.dat v.d), some (.lst (dm acc)), o3]) (chainT cs pl t m acc v)
  | 0, _, _, _, _, _, _ => trivial
  | m + 1, 0, _, _, _, h, _ => (nomatch h)
  | m + 1, N + 1, acc, .num _, o3, h, g => trivial
  | m + 1, N + 1, acc, .non, o3, h, g => by
    have n1 : fIsNotN .non .non = some (.bl false) := rfl
    refine ⟨acc, o3, rfl, whLoop_f ?_⟩
    unfold w9_0c
    show evalE C [0] _ [some _, some (.dat .non), _, _] = _
    unfold tM
    simp! [n1]
  | m + 1, N + 1, acc, .ref i, o3, h, g => by
    have n1 : fIsNotN (.tup [.int i]) .non = some (.bl true) := rfl
    have ht : evalE C fn9.pin w9_0c [some (tM a0 a1 a2 a3 a4 a5 cs pl a8 a9 a10), some (.dat (Vl.ref i).d), some (.lst (dm acc)), o3] = .ok (.dat (.bl true)) [some (tM a0 a1 a2 a3 a4 a5 cs pl a8 a9 a10), some (.dat (Vl.ref i).d), some (.lst (dm acc)), o3] := by
      unfold w9_0c
      show evalE C [0] _ [some _, some (.dat (.tup [.int i])), _, _] = .ok _ [_, some (.dat (.tup [.int i])), _, _]
      unfold tM
      simp! [n1]
    unfold chainT
    split
    · trivial
    · rename_i c e
      split
      · rename_i hf
        have hC := hc i c e hf
        have IH := ih c.a
        have c1 : fIx c.d (.int 1) = some c.a.d := rfl
        have c2 : fIx c.d (.int 2) = some c.b.d := rfl
        cases q : t c.a with
        | bad => trivial
        | er =>
          rw [q] at IH
          have IH : C 9 [tM a0 a1 a2 a3 a4 a5 cs pl a8 a9 a10, .dat c.a.d] = .err "Gone" [some (tM a0 a1 a2 a3 a4 a5 cs pl a8 a9 a10), none] := IH
          refine ⟨some (.dat (.tup [.int i])), some (.lst (dm acc)), some (.dat c.d), ?_⟩
          show (evalE C fn9.pin w9_0c _).res _ = _
          rw [ht]
          show (match execSs sub C fn9.pin bigN w9_0b [_, some (.dat (.tup [.int i])), _, _] with | .nx μ2 => _ | .cont μ2 => _ | .brk μ2 => _ | r => r) = _
          have b : execSs sub C fn9.pin bigN w9_0b [some (tM a0 a1 a2 a3 a4 a5 cs pl a8 a9 a10), some (.dat (.tup [.int i])), some (.lst (dm acc)), o3] = .err "Gone" [some (tM a0 a1 a2 a3 a4 a5 cs pl a8 a9 a10), some (.dat (.tup [.int i])), some (.lst (dm acc)), some (.dat c.d)] := by
            unfold tM at *
            generalize (M.lst (dm (nI pl))) = P at *
            generalize (M.lst (dm (cs.map Ce.d))) = Q at *
            generalize dm acc = AC at *
            generalize c.d = cd at *
            generalize c.a.d = ca at *
            unfold w9_0b fn9
            dsimp! [kc2, hC]
            refine ex_er ?_
            simp! [kc8, c1, IH]
          rw [b]
        | ok x =>
          rw [q] at IH
          obtain ⟨r, hr, IH⟩ := IH
          have p := fAppend_dm (xs := acc) (d := x) (by omega)
          have b : execSs sub C fn9.pin bigN w9_0b [some (tM a0 a1 a2 a3 a4 a5 cs pl a8 a9 a10), some (.dat (Vl.ref i).d), some (.lst (dm acc)), o3] = .nx [some (tM a0 a1 a2 a3 a4 a5 cs pl a8 a9 a10), some (.dat c.b.d), some (.lst (dm (acc ++ [x]))), some (.dat c.d)] := by
            show execSs sub C fn9.pin bigN w9_0b [some _, some (.dat (.tup [.int i])), _, _] = _
            unfold tM at *
            generalize (M.lst (dm (nI pl))) = P at *
            generalize (M.lst (dm (cs.map Ce.d))) = Q at *
            generalize dm (acc ++ [x]) = AX at *
            generalize dm acc = AC at *
            generalize c.d = cd at *
            generalize c.a.d = ca at *
            generalize c.b.d = cb at *
            unfold w9_0b fn9
            dsimp! [kc2, hC]
            dsimp! [kc8, c1, IH, hr, p]
            refine ex_last ?_
            simp! [c2]
          rw [whLoop_t ht b]
          exact chain_w hc he ih m N (acc ++ [x]) c.b _ (Nat.le_of_succ_le_succ h) (by rw [List.length_append]; show acc.length + 1 + m ≤ _; omega)
      · rename_i hf
        have hC := he i c e hf
        refine ⟨some (.dat (.tup [.int i])), some (.lst (dm acc)), o3, ?_⟩
        show (evalE C fn9.pin w9_0c _).res _ = _
        rw [ht]
        show (match execSs sub C fn9.pin bigN w9_0b [_, some (.dat (.tup [.int i])), _, _] with | .nx μ2 => _ | .cont μ2 => _ | .brk μ2 => _ | r => r) = _
        have b : execSs sub C fn9.pin bigN w9_0b [some (tM a0 a1 a2 a3 a4 a5 cs pl a8 a9 a10), some (.dat (.tup [.int i])), some (.lst (dm acc)), o3] = .err "Gone" [some (tM a0 a1 a2 a3 a4 a5 cs pl a8 a9 a10), some (.dat (.tup [.int i])), some (.lst (dm acc)), o3] := by
          unfold tM at *
          generalize (M.lst (dm (nI pl))) = P at *
          generalize (M.lst (dm (cs.map Ce.d))) = Q at *
          generalize dm acc = AC at *
          unfold w9_0b fn9
          refine ex_er ?_
          simp! [kc2, hC]
        rw [b]
theorem told_l {C : Nat → List M → Mi.CR} {i : Int} {c : Ce} {R : Mi.Res} (hp : c.pr = false) (h : C 3 [tM a0 a1 a2 a3 a4 a5 cs pl a8 a9 a10, .dat (.tup [.int i])] = .ok (.dat c.d) [some (tM a0 a1 a2 a3 a4 a5 cs pl a8 a9 a10), none]) 
    (hR : execSs sub C fn9.pin bigN (.cons (.wh w9_0c w9_0b) (.cons (.ret (.mov 2)) .nil)) [some (tM a0 a1 a2 a3 a4 a5 cs pl a8 a9 a10), some (.dat (.tup [.int i])), some (.lst (dm [])), none] = R) :
    execSs sub C fn9.pin bigN fn9.body (startE fn9 [tM a0 a1 a2 a3 a4 a5 cs pl a8 a9 a10, .dat (.tup [.int i])]) = R := by
  have n1 : fIsN (.tup [.int i]) .non = some (.bl false) := rfl
  have n2 : fIsi "tuple" (.tup [.int i]) = some (.bl true) := rfl
  have c0 : fIx c.d (.int 0) = some (.str (mkW c.pr)) := rfl
  have q := isT c
  have n3 : fLst [] = some (.lst []) := rfl
  rw [hp] at q c0
  unfold tM at *
  generalize (M.lst (dm (nI pl))) = P at *
  generalize (M.lst (dm (cs.map Ce.d))) = Q at *
  generalize c.d = cd at *
  unfold fn9 at hR ⊢
  dsimp! [startE, n1]
  dsimp! [n2]
  dsimp! [kc2, h, c0, q]
  dsimp! [n3]
  exact hR
theorem told_w : ∀ (n : Nat) (v : Vl), n ≤ 800000 → Tells (callF sub tab bigN (k + n + 1) 9 [tM a0 a1 a2 a3 a4 a5 cs pl a8 a9 a10, .dat v.d]) (tM a0 a1 a2 a3 a4 a5 cs pl a8 a9 a10) (tell cs pl n v)
  | 0, _, _ => trivial
  | n + 1, .non, _ => ⟨.dat (.lst []), rfl, call_ret (fn := fn9) rfl rfl told_0⟩
  | n + 1, .num i, _ => ⟨.dat (.int i), rfl, call_ret (fn := fn9) rfl rfl told_i⟩
  | n + 1, .ref i, hn => by
    unfold tell
    have ih := fun v => told_w n v (by omega)
    split
    · trivial
    · rename_i c e
      split
      · rename_i hf
        have hC := cell_c (k := k + n) (a0 := a0) (a1 := a1) (a2 := a2) (a3 := a3) (a4 := a4) (a5 := a5) (a8 := a8) (a9 := a9) (a10 := a10) e hf
        split
        · rename_i hp
          have i1 := ih c.a
          have i2 := ih c.b
          cases q1 : tell cs pl n c.a with
          | bad => trivial
          | er =>
            rw [q1] at i1
            exact (call_err (fn := fn9) rfl rfl (told_21 hp hC i1)).trans rfl
          | ok x =>
            rw [q1] at i1
            obtain ⟨ox, hx, i1⟩ := i1
            cases q2 : tell cs pl n c.b with
            | bad => trivial
            | er =>
              rw [q2] at i2
              exact (call_err (fn := fn9) rfl rfl (told_22 hp hC i1 i2)).trans rfl
            | ok y =>
              rw [q2] at i2
              obtain ⟨oy, hy, i2⟩ := i2
              exact ⟨_, rfl, (call_ret (fn := fn9) rfl rfl (told_2 hx hy hp hC i1 i2)).trans rfl⟩
        · rename_i hp
          have cw := chain_w (fun i c e hf => cell_c (k := k + n) (a0 := a0) (a1 := a1) (a2 := a2) (a3 := a3) (a4 := a4) (a5 := a5) (a8 := a8) (a9 := a9) (a10 := a10) e hf) (fun i c e hf => cell_e (k := k + n) e hf) ih n bigN [] (.ref i) none (by show n ≤ 1000000; omega) (by show 0 + n ≤ _; omega)
          cases q : chainT cs pl (tell cs pl n) n [] (.ref i) with
          | bad => trivial
          | er =>
            rw [q] at cw
            obtain ⟨o1, o2, o3, w⟩ := cw
            exact (call_err (fn := fn9) rfl rfl (told_l (Bool.eq_false_iff.mpr hp) hC (ex_er (ex_wh w)))).trans rfl
          | ok d =>
            rw [q] at cw
            obtain ⟨xs, o3, hd, w⟩ := cw
            exact ⟨.lst (dm xs), (dm_toD xs).trans hd.symm, (call_ret (fn := fn9) rfl rfl (told_l (Bool.eq_false_iff.mpr hp) hC ((ex_nx (ex_wh w)).trans (ex_ret rfl)))).trans rfl⟩
      · rename_i hf
        exact (call_err (fn := fn9) rfl rfl (told_x (cell_e e hf))).trans rfl
end
end K41
namespace K41
open PySem L2 Mi
/-! ### the beginning -/
def mT : List Str := ["rows", "at", "outer", "most", "calls", "opened", "pile", "cells", "stack", "log"]
theorem tx5 : List.findIdx? (fun x => decide (x = ("opened" : Str))) mT = some 5 := by decide +kernel
theorem tx6 : List.findIdx? (fun x => decide (x = ("pile" : Str))) mT = some 6 := by decide +kernel
theorem tx9 : List.findIdx? (fun x => decide (x = ("log" : Str))) mT = some 9 := by decide +kernel
theorem tc1 : mT.contains "one_more" = false := by decide +kernel
abbrev tT (a0 a1 a2 a3 a4 a5 a6 a7 a8 a9 : M) : M := .ins "Machine" mT [a0, a1, a2, a3, a4, a5, a6, a7, a8, a9]
section
variable {C : Nat → List M → Mi.CR} {a0 a1 a2 a3 a4 a5 a6 a7 a8 a9 m : M} {i : Int}
theorem tg_opened : fAugFld "Machine" "opened" (· + ·) 1 (tT a0 a1 a2 a3 a4 (.dat (.int i)) a6 a7 a8 a9) [] = some (tT a0 a1 a2 a3 a4 (.dat (.int (i + 1))) a6 a7 a8 a9, .dat .non) := rfl
theorem one_t {pl lg : List D} (h1 : pl.length ≤ 900000) (h2 : lg.length ≤ 900000) : execSs sub C fn2.pin bigN fn2.body (startE fn2 [tT a0 a1 a2 a3 a4 (.dat (.int i)) (.lst (dm pl)) a7 a8 (.lst (dm lg))]) =
    .ret (.dat (.int i)) [some (tT a0 a1 a2 a3 a4 (.dat (.int (i + 1))) (.lst (dm (pl ++ [.int i]))) a7 a8 (.lst (dm (lg ++ [lgD "open" (.int i)])))), some (.dat (.int i))] := by
  have p1 := fAppend_dm (d := .int i) h1
  have p2 := fAppend_dm (d := lgD "open" (.int i)) h2
  unfold fn2
  dsimp! [startE, tx5]
  dsimp! [tg_opened]
  dsimp! [tx6, p1]
  dsimp! [tx9, fTup_n, p2]
  simp_all! []
end
def rgI (n : Nat) : List Int := (List.range n).map fun k => ((k : Nat) : Int)
theorem rgI_succ (n : Nat) : rgI (n + 1) = rgI n ++ [(n : Int)] := by unfold rgI; rw [List.range_succ, List.map_append]; rfl
theorem rgI_len (n : Nat) : (rgI n).length = n := by unfold rgI; rw [List.length_map, List.length_range]
def opens (n : Nat) : List (Ev × Int) := (rgI n).map fun i => (.opn, i)
theorem opens_succ (n : Nat) : opens (n + 1) = opens n ++ [(.opn, (n : Int))] := by unfold opens; rw [rgI_succ, List.map_append]; rfl
theorem opens_len (n : Nat) : (opens n).length = n := by unfold opens; rw [List.length_map, rgI_len]
section
variable {k : Nat} {R a0 : D} {b1 b2 b3 b4 : M}
abbrev eIn (R : D) (at_ : Int) (ou mo : Int) (i : Nat) : M := tT (.dat R) (.dat (.int at_)) (.dat (.int ou)) (.dat (.int mo)) (.dat (.int 0)) (.dat (.int i)) (.lst (dm (nI (rgI i)))) (.lst (dm [])) (.lst (dm [])) (.lst (dm ((opens i).map evD)))
theorem in_loop {at_ ou mo : Int} {o1 o2 o3 : Option M} : ∀ (j i : Nat) (acc : List D), i + j ≤ 900 →
    compLoop [5] (.one 5) (fun μ => datOf (evalE (callF sub tab bigN (k + 1)) [0] (.con (.bl true)) μ)) (fun μ => datOf (evalE (callF sub tab bigN (k + 1)) [0] (.meth false "Machine" "one_more" 2 (.root 0) .nil) μ)) ((List.range' i j).map fun k => D.int (0 + (k : Nat))) acc [some (eIn R at_ ou mo i), o1, o2, o3, none, none] =
      .ok (acc ++ (List.range' i j).map fun k => D.int ((k : Nat) : Int)) [some (eIn R at_ ou mo (i + j)), o1, o2, o3, none, none]
  | 0, i, acc, _ => by
    rw [show List.range' i 0 = [] from rfl, List.map_nil, List.map_nil, List.append_nil]
    rfl
  | j + 1, i, acc, h => by
    rw [List.range'_succ, List.map_cons, List.map_cons]
    have st : setTg (.one 5) (.dat (.int (0 + (i : Nat)))) [some (eIn R at_ ou mo i), o1, o2, o3, none, none] = some [some (eIn R at_ ou mo i), o1, o2, o3, none, some (.dat (.int (0 + (i : Nat))))] := rfl
    have hC : callF sub tab bigN (k + 1) 2 [eIn R at_ ou mo i] = .ok (.dat (.int (i : Nat))) [some (eIn R at_ ou mo (i + 1))] := by
      refine (call_ret (fn := fn2) rfl rfl (one_t (by rw [nI_len, rgI_len]; omega) (by rw [List.length_map, opens_len]; omega))).trans ?_
      unfold eIn
      rw [rgI_succ, nI_app, opens_succ, lg_app]
      rfl
    have ev : evalE (callF sub tab bigN (k + 1)) [0] (.meth false "Machine" "one_more" 2 (.root 0) .nil) [some (eIn R at_ ou mo i), o1, o2, o3, none, some (.dat (.int (0 + (i : Nat))))] = .ok (.dat (.int (i : Nat))) [some (eIn R at_ ou mo (i + 1)), o1, o2, o3, none, some (.dat (.int (0 + (i : Nat))))] := by
      unfold eIn at *
      generalize dm (nI (rgI i)) = A at *
      generalize dm ((opens i).map evD) = B at *
      simp! [tc1, hC]
    refine (comp_keep (c := fun μ => datOf (evalE (callF sub tab bigN (k + 1)) [0] (.con (.bl true)) μ)) (e := fun μ => datOf (evalE (callF sub tab bigN (k + 1)) [0] (.meth false "Machine" "one_more" 2 (.root 0) .nil) μ)) (d := .int (0 + (i : Nat))) (x := .int (i : Nat)) (ds := (List.range' (i + 1) j).map fun k => D.int (0 + (k : Nat))) st rfl (μ3 := [some (eIn R at_ ou mo (i + 1)), o1, o2, o3, none, some (.dat (.int (0 + (i : Nat))))]) ?_).trans ?_
    · exact (congrArg datOf ev).trans rfl
    · refine (in_loop j (i + 1) (acc ++ [.int (i : Nat)]) (by omega)).trans ?_
      rw [List.append_assoc, show i + 1 + j = i + (j + 1) by omega]
      rfl
/-- the state at the beginning -/
def St.begin (at_ : Int) (ou : Nat) (ns : List Int) : St := ⟨some at_, 0, ou, rgI ou, [], [], opens ou, [⟨ns.map .num, rgI ou, none⟩]⟩
theorem init_w {at_ mo : Int} {ou : Nat} {ns : List Int} (h : ou ≤ 900) : ∃ μ : Mi.Env, execSs sub (callF sub tab bigN (k + 1)) fn1.pin bigN fn1.body (startE fn1 [.ins "Machine" [] [], .dat (.tup [R, .int at_, .int ou]), .dat (.lst (nI ns)), .dat (.int mo)]) = .nx (some ((St.begin at_ ou ns).m R ou mo) :: μ) := by
  have x0 : fIx (.tup [R, .int at_, .int ou]) (.int 0) = some R := rfl
  have x1 : fIx (.tup [R, .int at_, .int ou]) (.int 1) = some (.int at_) := rfl
  have x2 : fIx (.tup [R, .int at_, .int ou]) (.int 2) = some (.int ou) := rfl
  have n3 : fLst [] = some (.lst []) := rfl
  have li : fList [.lst (nI ns)] = some (.lst (nI ns)) := rfl
  have rg : fRange1 [.int ou] = some ((List.range' 0 ou).map fun k => D.int (0 + (k : Nat))) := by
    have e : fRange1 [.int (ou : Int)] = if -(2 ^ 62) ≤ (ou : Int) ∧ (ou : Int) < 2 ^ 62 then some ((List.range (ou : Int).toNat).map fun i => D.int (0 + (i : Nat))) else none := rfl
    rw [e, if_pos (by omega), Int.toNat_natCast, List.range_eq_range']
  generalize hcode : D.tup [R, .int at_, .int ou] = code at *
  generalize hnum : D.lst (nI ns) = num at *
  have s0 : ∀ m : M, fSetFld "Machine" "rows" (.ins "Machine" [] []) [m] = some (.ins "Machine" ["rows"] [m], .dat .non) := fun _ => rfl
  have s1 : ∀ a m : M, fSetFld "Machine" "at" (.ins "Machine" ["rows"] [a]) [m] = some (.ins "Machine" ["rows", "at"] [a, m], .dat .non) := fun _ _ => rfl
  have s2 : ∀ a b m : M, fSetFld "Machine" "outer" (.ins "Machine" ["rows", "at"] [a, b]) [m] = some (.ins "Machine" ["rows", "at", "outer"] [a, b, m], .dat .non) := fun _ _ _ => rfl
  have s3 : ∀ a b c m : M, fSetFld "Machine" "most" (.ins "Machine" ["rows", "at", "outer"] [a, b, c]) [m] = some (.ins "Machine" ["rows", "at", "outer", "most"] [a, b, c, m], .dat .non) := fun _ _ _ _ => rfl
  have s4 : ∀ a b c d m : M, fSetFld "Machine" "calls" (.ins "Machine" ["rows", "at", "outer", "most"] [a, b, c, d]) [m] = some (.ins "Machine" ["rows", "at", "outer", "most", "calls"] [a, b, c, d, m], .dat .non) := fun _ _ _ _ _ => rfl
  have s5 : ∀ a b c d e m : M, fSetFld "Machine" "opened" (.ins "Machine" ["rows", "at", "outer", "most", "calls"] [a, b, c, d, e]) [m] = some (.ins "Machine" ["rows", "at", "outer", "most", "calls", "opened"] [a, b, c, d, e, m], .dat .non) := fun _ _ _ _ _ _ => rfl
  have s6 : ∀ a b c d e f m : M, fSetFld "Machine" "pile" (.ins "Machine" ["rows", "at", "outer", "most", "calls", "opened"] [a, b, c, d, e, f]) [m] = some (.ins "Machine" ["rows", "at", "outer", "most", "calls", "opened", "pile"] [a, b, c, d, e, f, m], .dat .non) := fun _ _ _ _ _ _ _ => rfl
  have s7 : ∀ a b c d e f g m : M, fSetFld "Machine" "cells" (.ins "Machine" ["rows", "at", "outer", "most", "calls", "opened", "pile"] [a, b, c, d, e, f, g]) [m] = some (.ins "Machine" ["rows", "at", "outer", "most", "calls", "opened", "pile", "cells"] [a, b, c, d, e, f, g, m], .dat .non) := fun _ _ _ _ _ _ _ _ => rfl
  have s8 : ∀ a b c d e f g h m : M, fSetFld "Machine" "stack" (.ins "Machine" ["rows", "at", "outer", "most", "calls", "opened", "pile", "cells"] [a, b, c, d, e, f, g, h]) [m] = some (.ins "Machine" ["rows", "at", "outer", "most", "calls", "opened", "pile", "cells", "stack"] [a, b, c, d, e, f, g, h, m], .dat .non) := fun _ _ _ _ _ _ _ _ _ => rfl
  have s9 : ∀ a b c d e f g h i m : M, fSetFld "Machine" "log" (.ins "Machine" ["rows", "at", "outer", "most", "calls", "opened", "pile", "cells", "stack"] [a, b, c, d, e, f, g, h, i]) [m] = some (tT a b c d e f g h i m, .dat .non) := fun _ _ _ _ _ _ _ _ _ _ => rfl
  have s10 : ∀ a b c d e f g h i j m : M, fSetFld "Machine" "frames" (tT a b c d e f g h i j) [m] = some (mM a b c d e f g h i j m, .dat .non) := fun _ _ _ _ _ _ _ _ _ _ _ => rfl
  refine ⟨[some (.dat code), some (.dat num), some (.dat (.int mo)), none, none], ?_⟩
  have lp := in_loop (k := k) (R := R) (at_ := at_) (ou := ou) (mo := mo) (o1 := some (.dat code)) (o2 := some (.dat num)) (o3 := some (.dat (.int mo))) ou 0 [] (by omega)
  have CE : evalE (callF sub tab bigN (k + 1)) [0] (.own (.comp false [5] (.one 5) fRange1 (.cons (.op2 fIx (.var 1) (.con (.int 2))) .nil) (.con (.bl true)) (.meth false "Machine" "one_more" 2 (.root 0) .nil))) [some (eIn R at_ ou mo 0), some (.dat code), some (.dat num), some (.dat (.int mo)), none, none] = .ok (.lst (dm (nI (rgI ou)))) [some (eIn R at_ ou mo ou), some (.dat code), some (.dat num), some (.dat (.int mo)), none, none] := by
    have c1 := ev_comp (C := callF sub tab bigN (k + 1)) (pin := [0]) (own := [5]) (t := .one 5) (f := fRange1) (src := .cons (.op2 fIx (.var 1) (.con (.int 2))) .nil) (c := .con (.bl true)) (e := .meth false "Machine" "one_more" 2 (.root 0) .nil) (μ := [some (eIn R at_ ou mo 0), some (.dat code), some (.dat num), some (.dat (.int mo)), none, none]) (μ1 := [some (eIn R at_ ou mo 0), some (.dat code), some (.dat num), some (.dat (.int mo)), none, none]) (ms := [.dat (.int ou)]) (ds := [.int ou]) rfl (by simp! [x2]) rfl rg lp (le_line (by rw [List.length_append, List.length_map, List.length_range']; show 0 + ou ≤ _; omega))
    show (evalE _ [0] (.comp false [5] (.one 5) fRange1 _ _ _) _).bind _ = _
    rw [c1]
    show (match toOwned (.dat (.lst ([] ++ (List.range' 0 ou).map fun k => D.int ((k : Nat) : Int)))) with | some m => Out.ok m _ | none => Out.stuck) = _
    rw [List.nil_append, toOwned_l, Nat.zero_add]
    unfold nI rgI
    rw [List.map_map, List.range_eq_range']
    rfl
  have hF : callF sub tab bigN (k + 1) 0 [.ins "Frame" [] [], .lst (dm (nI ns)), .lst (dm (nI (rgI ou))), .dat .non] = .ok (.dat .non) [some (fM (.lst (dm (nI ns))) (.lst (dm (nI (rgI ou)))) (.dat .non)), none, none, none] := (call_nx (fn := fn0) rfl rfl frame_w).trans rfl
  have hd : dV (ns.map .num) = nI ns := by unfold dV nI; rw [List.map_map]; rfl
  unfold fn1
  dsimp! [startE, x0, s0]
  dsimp! [x1, s1]
  dsimp! [x2, s2]
  dsimp! [s3]
  dsimp! [s4]
  dsimp! [s5]
  dsimp! [n3, s6]
  dsimp! [n3, s7]
  dsimp! [n3, s8]
  dsimp! [n3, s9]
  refine (ex_nx (set_to (i := 4) rfl CE (by show 4 < 6; decide) rfl)).trans ?_
  refine ex_last ?_
  have fin : (St.begin at_ ou ns).m R ou mo = mM (.dat R) (.dat (.int at_)) (.dat (.int ou)) (.dat (.int mo)) (.dat (.int 0)) (.dat (.int ou)) (.lst (dm (nI (rgI ou)))) (.lst (dm [])) (.lst (dm [])) (.lst (dm ((opens ou).map evD))) (.lst [fM (.lst (dm (nI ns))) (.lst (dm (nI (rgI ou)))) (.dat .non)]) := by
    unfold St.begin St.m Fr.m
    rw [List.map_cons, List.map_nil]
    dsimp only
    rw [hd]
    rfl
  rw [fin]
  generalize fM (.lst (dm (nI ns))) (.lst (dm (nI (rgI ou)))) (.dat .non) = F at *
  have od : ∀ n : Int, toOwned (.dat (.lst (nI ns))) = some (.lst (dm (nI ns))) := fun _ => rfl
  subst hnum
  unfold eIn
  have l1 : 1 ≤ sizeLine := le_line (Nat.le_of_ble_eq_true rfl)
  have ht : (nI ns).map M.dat = dm (nI ns) := rfl
  generalize dm ((opens ou).map evD) = L at *
  generalize dm (nI (rgI ou)) = P at *
  generalize dm (nI ns) = H at *
  simp! [li, toOwned, ht, hF, newEnd, s10, l1]
end
end K41
namespace K41
open PySem L2 Mi
/-! ### a whole run -/
section
variable {k : Nat} {o0 o1 o2 o4 o5 o6 : Option M} {rows : List Row} {ou mo : Int}
abbrev rD (rows : List Row) : D := .lst (rows.map Row.d)
theorem ld10' {a0 a1 a2 a3 a4 a5 a6 a7 a8 a9 a10 : D} : fFld "Machine" "frames" (.ins "Machine" mK [a0, a1, a2, a3, a4, a5, a6, a7, a8, a9, a10]) = some a10 := ld10
theorem cond_w {C : Nat → List M → Mi.CR} {R : D} {s : St} : evalE C [] w13_0c [o0, o1, o2, some (s.m R ou mo), o4, o5, o6] = .ok (.dat (.bl (!s.frames.isEmpty))) [o0, o1, o2, some (s.m R ou mo), o4, o5, o6] := by
  have n3 : fLst [] = some (.lst []) := rfl
  have ne : fNeL (.lst (M.toDs (s.frames.map Fr.m))) (.lst []) = some (.bl (!s.frames.isEmpty)) := by
    cases s.frames with
    | nil => rfl
    | cons f r => rfl
  unfold w13_0c
  unfold St.m
  refine ev_view (μ2 := viewE [o0, o1, o2, some (mM (.dat R) (.dat (bk s.at_)) (.dat (.int ou)) (.dat (.int mo)) (.dat (.int s.calls)) (.dat (.int s.opened)) (.lst (dm (nI s.pile))) (.lst (dm (s.cells.map Ce.d))) (.lst (dm (dV s.stack))) (.lst (dm (s.log.map evD))) (.lst (s.frames.map Fr.m))), o4, o5, o6]) rfl ?_ rfl
  generalize s.frames.map Fr.m = FR at *
  simp! [ts11, dm_toDs, ld10', n3, ne]
theorem body_nx {C : Nat → List M → Mi.CR} {s s' : St} {a : Int} {r : Row} (ha : s.at_ = some a) (hr : atI rows a = some r) (h : C 12 [St.m (rD rows) ou mo { s with at_ := some (a + 1) }, .dat r.d] = .ok (.dat .non) [some (s'.m (rD rows) ou mo), none]) :
    execSs sub C [] bigN w13_0b [o0, o1, o2, some (s.m (rD rows) ou mo), o4, o5, o6] = .nx [o0, o1, o2, some (s'.m (rD rows) ou mo), o4, o5, some (.dat r.d)] := by
  have i0 : fIx (rD rows) (.int a) = some r.d := atI_map Row.d hr
  generalize s'.m (rD rows) ou mo = m' at *
  unfold St.m at *
  dsimp only at h
  rw [ha]
  show execSs sub C [] bigN w13_0b [o0, o1, o2, some (mM _ (.dat (.int a)) _ _ _ _ _ _ _ _ _), o4, o5, o6] = _
  have h : C 12 [mM _ (.dat (.int (a + 1))) _ _ _ _ _ _ _ _ _, .dat r.d] = _ := h
  generalize s.frames.map Fr.m = FR at *
  generalize rD rows = RD at *
  generalize r.d = rd at *
  unfold w13_0b
  dsimp! [fx0, fx1, i0]
  dsimp! [ag_at]
  refine ex_last ?_
  simp! [h]
theorem body_er {C : Nat → List M → Mi.CR} {s : St} {a : Int} {r : Row} {c : Str} {m' : M} (ha : s.at_ = some a) (hr : atI rows a = some r) (h : C 12 [St.m (rD rows) ou mo { s with at_ := some (a + 1) }, .dat r.d] = .err c [some m', none]) :
    execSs sub C [] bigN w13_0b [o0, o1, o2, some (s.m (rD rows) ou mo), o4, o5, o6] = .err c [o0, o1, o2, some m', o4, o5, some (.dat r.d)] := by
  have i0 : fIx (rD rows) (.int a) = some r.d := atI_map Row.d hr
  unfold St.m at *
  dsimp only at h
  rw [ha]
  show execSs sub C [] bigN w13_0b [o0, o1, o2, some (mM _ (.dat (.int a)) _ _ _ _ _ _ _ _ _), o4, o5, o6] = _
  have h : C 12 [mM _ (.dat (.int (a + 1))) _ _ _ _ _ _ _ _ _, .dat r.d] = _ := h
  generalize s.frames.map Fr.m = FR at *
  generalize rD rows = RD at *
  generalize r.d = rd at *
  unfold w13_0b
  dsimp! [fx0, fx1, i0]
  dsimp! [ag_at]
  refine ex_er ?_
  simp! [h]
def Ran (rows : List Row) (ou mo : Int) (o0 o1 o2 o4 o5 : Option M) (n : Nat) (x : Mi.Res) : SR → Prop
  | .nx s' => (∃ o6, x = .nx [o0, o1, o2, some (s'.m (rD rows) ou mo), o4, o5, o6]) ∧ (∃ n', n' ≤ n ∧ Inv n' s')
  | .er c => ∃ μ', x = .err c μ'
  | .bad => True
theorem Inv.at_ {n : Nat} {s : St} (h : Inv n s) (a : Option Int) : Inv n { s with at_ := a } := ⟨h.sv, h.cv, h.fv, h.pl, h.cl, h.sl, h.ll, h.fl, h.big⟩
theorem loop_w (hro : ∀ r ∈ rows, r.Ok) : ∀ (f n N : Nat) (s : St) (o6 : Option M), Inv n s → n + f ≤ 800000 → f ≤ N →
    Ran rows ou mo o0 o1 o2 o4 o5 (n + f) (whLoop (evalE (callF sub tab bigN (k + 5)) [] w13_0c) (execSs sub (callF sub tab bigN (k + 5)) [] bigN w13_0b) N [o0, o1, o2, some (s.m (rD rows) ou mo), o4, o5, o6]) (mrun rows mo f s)
  | 0, _, _, _, _, _, _, _ => trivial
  | f + 1, _, 0, _, _, _, _, h => (nomatch h)
  | f + 1, n, N + 1, s, o6, I, hn, hN => by
    have cw := cond_w (C := callF sub tab bigN (k + 5)) (R := rD rows) (s := s) (o0 := o0) (o1 := o1) (o2 := o2) (o4 := o4) (o5 := o5) (o6 := o6) (ou := ou) (mo := mo)
    unfold mrun
    split
    · rename_i e
      rw [e] at cw
      exact ⟨⟨o6, whLoop_f cw⟩, n, by omega, I⟩
    · rename_i fr fs e
      have nn : s.frames ≠ [] := by rw [e]; exact List.cons_ne_nil _ _
      rw [e] at cw
      split
      · trivial
      · rename_i a ha
        split
        · trivial
        · rename_i r hr
          have st := step_ok (k := k) (R := rD rows) (ou := ou) (mo := mo) (I.at_ (some (a + 1))) (by omega) (hro r (atI_mem hr)) nn
          split
          · rename_i s' es
            rw [es] at st
            have b := body_nx (o0 := o0) (o1 := o1) (o2 := o2) (o4 := o4) (o5 := o5) (o6 := o6) ha hr st.1
            rw [whLoop_t cw b]
            have := loop_w hro f (n + 1) N s' (some (.dat r.d)) st.2 (by omega) (by omega)
            rw [show n + 1 + f = n + (f + 1) by omega] at this
            exact this
          · rename_i q es
            cases q0 : step mo { s with at_ := some (a + 1) } r with
            | nx s' => exact absurd q0 (es s')
            | bad => trivial
            | er c =>
              rw [q0] at st
              obtain ⟨m', st⟩ := st
              have b := body_er (o0 := o0) (o1 := o1) (o2 := o2) (o4 := o4) (o5 := o5) (o6 := o6) ha hr st
              refine ⟨[o0, o1, o2, some m', o4, o5, some (.dat r.d)], ?_⟩
              · show (evalE (callF sub tab bigN (k + 5)) [] w13_0c _).res _ = _
                rw [cw]
                show (match execSs sub (callF sub tab bigN (k + 5)) [] bigN w13_0b _ with | .nx μ2 => _ | .cont μ2 => _ | .brk μ2 => _ | r => r) = _
                rw [b]
theorem shut_w {C : Nat → List M → Mi.CR} {R : D} : ∀ (xs : List Int) (s : St) (o5 : Option M), s.log.length + xs.length ≤ 900000 → ∃ o5', forLoop (.one 5) (execSs sub C [] bigN w13_1b) (xs.map D.int) [o0, o1, o2, some (s.m R ou mo), o4, o5, o6] = .nx [o0, o1, o2, some (St.m R ou mo { s with log := s.log ++ xs.map fun i => (.shut, i) }), o4, o5', o6]
  | [], s, o5, _ => by
    refine ⟨o5, ?_⟩
    rw [List.map_nil, List.map_nil, List.append_nil]
    rfl
  | i :: xs, s, o5, h => by
    have hl : s.log.length ≤ 900000 := by omega
    have p := fAppend_dm (xs := s.log.map evD) (d := lgD "shut" (.int i)) (by rw [List.length_map]; exact hl)
    have b : execSs sub C [] bigN w13_1b [o0, o1, o2, some (s.m R ou mo), o4, some (.dat (.int i)), o6] = .nx [o0, o1, o2, some (St.m R ou mo { s with log := s.log ++ [(.shut, i)] }), o4, some (.dat (.int i)), o6] := by
      have e : (s.log ++ [(Ev.shut, i)]).map evD = s.log.map evD ++ [lgD "shut" (.int i)] := lg_app _ _
      unfold St.m
      dsimp only
      rw [e]
      generalize s.frames.map Fr.m = FR at *
      unfold w13_1b
      refine ex_last ?_
      simp! [fx9, fTup_n, p]
    obtain ⟨o5', q⟩ := shut_w xs { s with log := s.log ++ [(.shut, i)] } (some (.dat (.int i))) (by show (s.log ++ [_]).length + _ ≤ _; rw [len_app]; have : (i :: xs).length = xs.length + 1 := rfl; omega)
    refine ⟨o5', ?_⟩
    rw [List.map_cons, List.map_cons]
    show (match execSs sub C [] bigN w13_1b [o0, o1, o2, some (s.m R ou mo), o4, some (.dat (.int i)), o6] with | .nx μ2 => forLoop _ _ _ μ2 | .cont μ2 => forLoop _ _ _ μ2 | .brk μ2 => .nx μ2 | r => r) = _
    rw [b]
    dsimp only
    rw [q]
    dsimp only
    rw [List.append_assoc]
    rfl
end
end K41
namespace K41
open PySem L2 Mi
/-! a whole run -/
theorem told_D (d : D) (l : List (Ev × Int)) : M.toD (.tup [.dat d, .lst (dm (l.map evD))]) = .tup [d, .lst (l.map evD)] := by
  show D.tup [d, M.toD (.lst (dm _))] = _
  rw [dm_toD]
inductive RR where
  | ok (d : D) (log : List (Ev × Int))
  | er (c : Str)
  | bad
def downs (ou : Nat) : List Int := (List.range ou).map fun k => (ou : Int) - 1 + (k : Nat) * -1
def shuts (ou : Nat) : List (Ev × Int) := (downs ou).map fun i => (.shut, i)
def runs (rows : List Row) (at_ : Int) (ou : Nat) (ns : List Int) (mo : Int) (f tf : Nat) : RR := match mrun rows mo f (St.begin at_ ou ns) with
  | .nx s => match popL s.stack with
    | some (_, v) => match tell s.cells s.pile tf v with
      | .ok d => .ok d (s.log ++ shuts ou)
      | .er => .er "Gone"
      | .bad => .bad
    | none => .bad
  | .er c => .er c
  | .bad => .bad
def codeD (rows : List Row) (at_ : Int) (ou : Nat) : D := .tup [rD rows, .int at_, .int ou]
def lgs (l : List (Ev × Int)) : D := .lst (l.map evD)
def RunOk (x : Mi.CR) : RR → Prop
  | .ok d l => ∃ m : M, m = .tup [.dat d, .lst (dm (l.map evD))] ∧ x = .ok m [none, none, none]
  | .er c => x = .err c [none, none, none]
  | .bad => True
theorem begin_inv {at_ : Int} {ou : Nat} {ns : List Int} (h1 : ou ≤ 900) (h2 : ns.length ≤ 900) (h3 : ∀ i ∈ ns, Sm i) : Inv 1000 (St.begin at_ ou ns) where
  sv := fun _ h => (nomatch h)
  cv := fun _ h => (nomatch h)
  fv := fun f hf => by
    rw [List.mem_singleton.mp hf]
    refine ⟨fun v hv => ?_, ?_, ?_⟩
    · obtain ⟨i, hi, rfl⟩ := List.mem_map.mp hv
      exact h3 i hi
    · show (ns.map Vl.num).length ≤ _
      rw [List.length_map]
      omega
    · show (rgI ou).length ≤ _
      rw [rgI_len]
      omega
  pl := by show (rgI ou).length ≤ _; rw [rgI_len]; omega
  cl := Nat.zero_le _
  sl := Nat.zero_le _
  ll := by show (opens ou).length ≤ _; rw [opens_len]; omega
  fl := by show 1 ≤ 13; decide
  big := Nat.le_refl _
abbrev s13a : Mi.S := .set (.one 4) (.meth false "Machine" "told" 9 (.root 3) (.val (.mut 0 fPop .nil (.fld (.root 3) "Machine" "stack") .nil) .nil))
abbrev s13b : Mi.S := .for_ (.one 5) fRangeD (.cons (.op2 fSub (.pth (.fld (.root 3) "Machine" "outer")) (.con (.int 1))) (.cons (.op1 fNeg (.con (.int 1))) (.cons (.op1 fNeg (.con (.int 1))) .nil))) w13_1b
abbrev s13c : Mi.S := .ret (.mt (.cons (.var 4) (.cons (.movP (.fld (.root 3) "Machine" "log")) .nil)))
abbrev b13 : Mi.Ss := .cons (.wh w13_0c w13_0b) (.cons s13a (.cons s13b (.cons s13c .nil)))
theorem b13_eq : fn13.body = .cons (.set (.one 3) (.new "Machine" 1 (.val (.var 0) (.val (.var 1) (.val (.var 2) .nil))))) b13 := rfl
theorem pin13 : fn13.pin = [] := rfl
theorem st13 {a b c : M} : startE fn13 [a, b, c] = [some a, some b, some c, none, none, none, none] := rfl
theorem outs13 {μ : Mi.Env} : outsOf fn13 μ = [none, none, none] := rfl
section
variable {C : Nat → List M → Mi.CR} {CO NS : D} {R : D} {mo ou : Int} {st : List Vl} {v : Vl} {s : St} {o5 o6 : Option M} {d : D} {r ST : M}
theorem run_new (iw : C 1 [.ins "Machine" [] [], .dat CO, .dat NS, .dat (.int mo)] = .ok (.dat .non) [some ST, none, none, none]) :
    execS sub C [] bigN (.set (.one 3) (.new "Machine" 1 (.val (.var 0) (.val (.var 1) (.val (.var 2) .nil))))) [some (.dat CO), some (.dat NS), some (.dat (.int mo)), none, none, none, none] = .nx [some (.dat CO), some (.dat NS), some (.dat (.int mo)), some ST, none, none, none] := by
  simp! [iw, newEnd]
theorem run_er (hst : s.stack = st ++ [v]) (tw : C 9 [tM (.dat R) (.dat (bk s.at_)) (.dat (.int ou)) (.dat (.int mo)) (.dat (.int s.calls)) (.dat (.int s.opened)) s.cells s.pile (.lst (dm (dV st))) (.lst (dm (s.log.map evD))) (.lst (s.frames.map Fr.m)), .dat v.d] = .err "Gone" [some (tM (.dat R) (.dat (bk s.at_)) (.dat (.int ou)) (.dat (.int mo)) (.dat (.int s.calls)) (.dat (.int s.opened)) s.cells s.pile (.lst (dm (dV st))) (.lst (dm (s.log.map evD))) (.lst (s.frames.map Fr.m))), none]) :
    ∃ μ : Mi.Env, execS sub C [] bigN s13a [some (.dat CO), some (.dat NS), some (.dat (.int mo)), some (s.m R ou mo), none, none, o6] = .err "Gone" μ := by
  have p2 := fPop_dm (dV st) v.d
  refine ⟨[some (.dat CO), some (.dat NS), some (.dat (.int mo)), some (tM (.dat R) (.dat (bk s.at_)) (.dat (.int ou)) (.dat (.int mo)) (.dat (.int s.calls)) (.dat (.int s.opened)) s.cells s.pile (.lst (dm (dV st))) (.lst (dm (s.log.map evD))) (.lst (s.frames.map Fr.m))), none, none, o6], ?_⟩
  rw [lk_in hst]
  unfold tM at *
  generalize s.frames.map Fr.m = FR at *
  generalize dm (dV st ++ [v.d]) = ST at *
  generalize dm (dV st) = ST2 at *
  generalize v.d = vd at *
  simp! [fx8, p2, kc8, tw]
theorem run_tl (hst : s.stack = st ++ [v]) (hr : r.toD = d) (tw : C 9 [tM (.dat R) (.dat (bk s.at_)) (.dat (.int ou)) (.dat (.int mo)) (.dat (.int s.calls)) (.dat (.int s.opened)) s.cells s.pile (.lst (dm (dV st))) (.lst (dm (s.log.map evD))) (.lst (s.frames.map Fr.m)), .dat v.d] = .ok r [some (tM (.dat R) (.dat (bk s.at_)) (.dat (.int ou)) (.dat (.int mo)) (.dat (.int s.calls)) (.dat (.int s.opened)) s.cells s.pile (.lst (dm (dV st))) (.lst (dm (s.log.map evD))) (.lst (s.frames.map Fr.m))), none]) :
    execS sub C [] bigN s13a [some (.dat CO), some (.dat NS), some (.dat (.int mo)), some (s.m R ou mo), none, none, o6] = .nx [some (.dat CO), some (.dat NS), some (.dat (.int mo)), some (St.m R ou mo { s with stack := st }), some (.dat d), none, o6] := by
  have p2 := fPop_dm (dV st) v.d
  rw [lk_in hst]
  unfold St.m
  dsimp only
  unfold tM at *
  generalize s.frames.map Fr.m = FR at *
  generalize dm (dV st ++ [v.d]) = ST at *
  generalize dm (dV st) = ST2 at *
  generalize v.d = vd at *
  simp! [fx8, p2, kc8, tw, hr]
theorem run_arg : evalEs C [] (.cons (.op2 fSub (.pth (.fld (.root 3) "Machine" "outer")) (.con (.int 1))) (.cons (.op1 fNeg (.con (.int 1))) (.cons (.op1 fNeg (.con (.int 1))) .nil))) [some (.dat CO), some (.dat NS), some (.dat (.int mo)), some (s.m R ou mo), some (.dat d), none, o6] = .ok [.dat (.int (ou - 1)), .dat (.int (-1)), .dat (.int (-1))] [some (.dat CO), some (.dat NS), some (.dat (.int mo)), some (s.m R ou mo), some (.dat d), none, o6] := by
  unfold St.m
  generalize s.frames.map Fr.m = FR at *
  simp! [fx2]
theorem run_ret : execS sub C [] bigN s13c [some (.dat CO), some (.dat NS), some (.dat (.int mo)), some (s.m R ou mo), some (.dat d), o5, o6] = .ret (.tup [.dat d, .lst (dm (s.log.map evD))]) [some (.dat CO), some (.dat NS), some (.dat (.int mo)), none, some (.dat d), o5, o6] := by
  have l2 : 2 ≤ sizeLine := le_line (Nat.le_of_ble_eq_true rfl)
  unfold St.m
  generalize s.frames.map Fr.m = FR at *
  simp! [fx9, l2]
end
theorem rg_down {ou : Nat} (h1 : ou ≤ 900) : fRangeD [.int ((ou : Int) - 1), .int (-1), .int (-1)] = some ((downs ou).map D.int) := by
  have e : fRangeD [.int ((ou : Int) - 1), .int (-1), .int (-1)] = if (-1 : Int) = -1 ∧ (-(2 ^ 62) ≤ (ou : Int) - 1 ∧ (ou : Int) - 1 < 2 ^ 62) ∧ -(2 ^ 62) ≤ (-1 : Int) ∧ (-1 : Int) < 2 ^ 62 then some ((List.range ((ou : Int) - 1 - (-1)).toNat).map fun k => D.int ((ou : Int) - 1 + (k : Nat) * -1)) else none := rfl
  rw [e, if_pos (by omega), show ((ou : Int) - 1 - (-1)).toNat = ou by omega]
  unfold downs
  rw [List.map_map]
  rfl
/-- the pieces of a run put together, over any C -/
theorem run_all {C : Nat → List M → Mi.CR} {CO NS : D} {rows : List Row} {ou : Nat} {mo : Int} {s0 : St} {q : SR} {n tf : Nat} (h1 : ou ≤ 900) (hn : n ≤ 800000) (iw : C 1 [.ins "Machine" [] [], .dat CO, .dat NS, .dat (.int mo)] = .ok (.dat .non) [some (s0.m (rD rows) ou mo), none, none, none])
    (lw : Ran rows ou mo (some (.dat CO)) (some (.dat NS)) (some (.dat (.int mo))) none none n (execS sub C [] bigN (.wh w13_0c w13_0b) [some (.dat CO), some (.dat NS), some (.dat (.int mo)), some (s0.m (rD rows) ou mo), none, none, none]) q)
    (tw : ∀ (a0 a1 a2 a3 a4 a5 a8 a9 a10 : M) cs pl v, Tells (C 9 [tM a0 a1 a2 a3 a4 a5 cs pl a8 a9 a10, .dat v.d]) (tM a0 a1 a2 a3 a4 a5 cs pl a8 a9 a10) (tell cs pl tf v)) :
    match (match q with
      | .nx s => match popL s.stack with
        | some (_, v) => match tell s.cells s.pile tf v with
          | .ok d => .ok d (s.log ++ shuts ou)
          | .er => .er "Gone"
          | .bad => .bad
        | none => .bad
      | .er c => .er c
      | .bad => .bad : RR) with
    | .ok d l => ∃ (m : M) (μ : Mi.Env), m = .tup [.dat d, .lst (dm (l.map evD))] ∧ execSs sub C fn13.pin bigN fn13.body (startE fn13 [.dat CO, .dat NS, .dat (.int mo)]) = .ret m μ
    | .er c => ∃ μ : Mi.Env, execSs sub C fn13.pin bigN fn13.body (startE fn13 [.dat CO, .dat NS, .dat (.int mo)]) = .err c μ
    | .bad => True := by
  rw [pin13, st13, b13_eq, ex_nx (run_new iw)]
  cases q with
  | bad => trivial
  | er c =>
    obtain ⟨μ', lw⟩ := lw
    exact ⟨μ', ex_er lw⟩
  | nx s =>
    obtain ⟨⟨o6, lw⟩, n', hn', I⟩ := lw
    rw [ex_nx lw]
    dsimp only
    cases hp : popL s.stack with
    | none => trivial
    | some p =>
      obtain ⟨st, v⟩ := p
      have hst := popL_eq hp
      have tw := tw (.dat (rD rows)) (.dat (bk s.at_)) (.dat (.int ou)) (.dat (.int mo)) (.dat (.int s.calls)) (.dat (.int s.opened)) (.lst (dm (dV st))) (.lst (dm (s.log.map evD))) (.lst (s.frames.map Fr.m)) s.cells s.pile v
      dsimp only
      cases qt : tell s.cells s.pile tf v with
      | bad => trivial
      | er =>
        rw [qt] at tw
        obtain ⟨μ, e⟩ := run_er (CO := CO) (NS := NS) (o6 := o6) hst tw
        exact ⟨μ, ex_er e⟩
      | ok d =>
        rw [qt] at tw
        obtain ⟨r, hr, tw⟩ := tw
        have e := run_tl (CO := CO) (NS := NS) (o6 := o6) hst hr tw
        obtain ⟨o5', sw⟩ := shut_w (C := C) (R := rD rows) (ou := ou) (mo := mo) (o0 := some (.dat CO)) (o1 := some (.dat NS)) (o2 := some (.dat (.int mo))) (o4 := some (.dat d)) (o6 := o6) (downs ou) { s with stack := st } none (by
          have := I.ll
          show s.log.length + (downs ou).length ≤ _
          unfold downs
          rw [List.length_map, List.length_range]
          omega)
        have e2 := ex_for (sub := sub) (C := C) (pin := []) (N := bigN) (t := .one 5) (f := fRangeD) (b := w13_1b) rfl (run_arg (s := { s with stack := st }) (R := rD rows) (CO := CO) (NS := NS) (d := d) (o6 := o6) (ou := ou) (mo := mo)) rfl (rg_down h1) sw
        have e3 := run_ret (C := C) (s := { s with stack := st, log := s.log ++ (downs ou).map fun i => (.shut, i) }) (R := rD rows) (CO := CO) (NS := NS) (d := d) (o5 := o5') (o6 := o6) (ou := ou) (mo := mo)
        rw [ex_nx e, ex_nx e2, ex_ret e3]
        exact ⟨_, _, rfl, rfl⟩
theorem run_w {k : Nat} {rows : List Row} {at_ mo : Int} {ou f tf : Nat} {ns : List Int} (hro : ∀ r ∈ rows, r.Ok) (h1 : ou ≤ 900) (h2 : ns.length ≤ 900) (h3 : ∀ i ∈ ns, Sm i) (hf : f ≤ 700000) (ht : tf ≤ 700000) :
    RunOk (callF sub tab bigN (k + tf + 6) 13 [.dat (codeD rows at_ ou), .dat (.lst (nI ns)), .dat (.int mo)]) (runs rows at_ ou ns mo f tf) := by
  obtain ⟨μi, iw⟩ := init_w (k := k + tf + 3) (R := rD rows) (at_ := at_) (mo := mo) (ou := ou) (ns := ns) h1
  have iw : callF sub tab bigN (k + tf + 5) 1 [.ins "Machine" [] [], .dat (codeD rows at_ ou), .dat (.lst (nI ns)), .dat (.int mo)] = .ok (.dat .non) [some ((St.begin at_ ou ns).m (rD rows) ou mo), none, none, none] := (call_nx (fn := fn1) rfl rfl iw).trans rfl
  have lw := loop_w (k := k + tf) (ou := ou) (mo := mo) (o0 := some (.dat (codeD rows at_ ou))) (o1 := some (.dat (.lst (nI ns)))) (o2 := some (.dat (.int mo))) (o4 := none) (o5 := none) hro f 1000 bigN (St.begin at_ ou ns) none (begin_inv h1 h2 h3) (by omega) (by show f ≤ 1000000; omega)
  have tw := fun (a0 a1 a2 a3 a4 a5 a8 a9 a10 : M) cs pl v => told_w (k := k + 4) (a0 := a0) (a1 := a1) (a2 := a2) (a3 := a3) (a4 := a4) (a5 := a5) (cs := cs) (pl := pl) (a8 := a8) (a9 := a9) (a10 := a10) tf v (by omega)
  rw [show k + 4 + tf + 1 = k + tf + 5 by omega] at tw
  have all := run_all (q := mrun rows mo f (St.begin at_ ou ns)) h1 (by omega) iw lw tw
  unfold runs
  revert all
  generalize (match mrun rows mo f (St.begin at_ ou ns) with
      | .nx s => match popL s.stack with
        | some (_, v) => match tell s.cells s.pile tf v with
          | .ok d => .ok d (s.log ++ shuts ou)
          | .er => .er "Gone"
          | .bad => .bad
        | none => .bad
      | .er c => .er c
      | .bad => .bad : RR) = RES
  intro all
  cases RES with
  | bad => trivial
  | er c =>
    obtain ⟨μ, e⟩ := all
    exact (call_err (fn := fn13) rfl rfl e).trans (congrArg _ outs13)
  | ok d l =>
    obtain ⟨m, μ, hm, e⟩ := all
    exact ⟨m, hm, (call_ret (fn := fn13) rfl rfl e).trans (congrArg _ outs13)⟩
end K41
namespace K41
open PySem L2 Mi
/-! ### code in a row -/
theorem mstep {rows : List Row} {mo a : Int} {s s' : St} {r : Row} {f : Nat} (hf : s.frames ≠ []) (ha : s.at_ = some a) (hr : atI rows a = some r) (hs : step mo { s with at_ := some (a + 1) } r = .nx s') : mrun rows mo (f + 1) s = mrun rows mo f s' := by
  generalize hR : mrun rows mo f s' = R
  unfold mrun
  split
  · rename_i q
    exact absurd q hf
  · rw [ha]
    dsimp only
    rw [hr]
    dsimp only
    rw [hs]
    exact hR
theorem mstep_er {rows : List Row} {mo a : Int} {s : St} {r : Row} {f : Nat} {c : Str} (hf : s.frames ≠ []) (ha : s.at_ = some a) (hr : atI rows a = some r) (hs : step mo { s with at_ := some (a + 1) } r = .er c) : mrun rows mo (f + 1) s = .er c := by
  unfold mrun
  split
  · rename_i q
    exact absurd q hf
  · rw [ha]
    dsimp only
    rw [hr]
    dsimp only
    rw [hs]
theorem mend {rows : List Row} {mo : Int} {s : St} {f : Nat} (hf : s.frames = []) : mrun rows mo (f + 1) s = .nx s := by
  unfold mrun
  rw [hf]
theorem at_here {pre post : List Row} {r : Row} : atI (pre ++ r :: post) (pre.length : Nat) = some r := atI_nat (by simp)
/-- the state in code of numbers alone -/
def Sx (ou : Nat) (p : Nat) (vs hs : List Int) : St := ⟨some p, 0, ou, rgI ou, [], vs.map .num, opens ou, [⟨hs.map .num, rgI ou, none⟩]⟩
structure Env0 where
  bg : Int
  ou : Nat
  ns : List Int
def Reach (E : Env0) (c : Nat) (P : List Row) (vs hs : List Int) : Prop := ∀ (ext : List Row) (f : Nat), mrun (P ++ ext) 5 (f + c) (St.begin E.bg E.ou E.ns) = mrun (P ++ ext) 5 f (Sx E.ou P.length vs hs)
def Great (E : Env0) (c : Nat) (P : List Row) : Prop := ∀ (ext : List Row) (f : Nat), mrun (P ++ ext) 5 (f + c) (St.begin E.bg E.ou E.ns) = .er "TooGreat"
section
variable {E : Env0} {c : Nat} {P : List Row} {vs hs : List Int} {v x y : Int}
theorem reach0 {P : List Row} {E : Env0} (h : E.bg = (P.length : Nat)) : Reach E 0 P [] E.ns := fun ext f => by
  show mrun (P ++ ext) 5 f (St.begin E.bg E.ou E.ns) = _
  unfold St.begin Sx
  rw [h]
  rfl
theorem map_app (vs : List Int) (v : Int) : (vs ++ [v]).map Vl.num = vs.map Vl.num ++ [.num v] := by rw [List.map_append]; rfl
theorem popL_nums (vs : List Int) (v : Int) : popL ((vs ++ [v]).map Vl.num) = some (vs.map .num, .num v) := by rw [map_app, popL_app]
/-- one row more, the next one after it -/
theorem Reach.one (h : Reach E c P vs hs) {r : Row} {vs' hs' : List Int} (hs1 : step 5 (Sx E.ou (P.length + 1) vs hs) r = .nx (Sx E.ou (P.length + 1) vs' hs')) : Reach E (c + 1) (P ++ [r]) vs' hs' := fun ext f => by
  have e := h ([r] ++ ext) (f + 1)
  rw [← List.append_assoc] at e
  rw [show f + (c + 1) = f + 1 + c by omega, e, List.append_assoc]
  rw [show (P ++ [r]).length = P.length + 1 by simp]
  refine mstep (a := (P.length : Nat)) (r := r) (by simp [Sx]) rfl at_here ?_
  exact hs1
theorem Reach.num (h : Reach E c P vs hs) (i : Int) : Reach E (c + 1) (P ++ [.num i]) (vs ++ [i]) hs := h.one (by
  unfold step Sx
  rw [map_app])
theorem Reach.loc (h : Reach E c P vs hs) {i : Int} (e : atI hs i = some v) : Reach E (c + 1) (P ++ [.loc i]) (vs ++ [v]) hs := h.one (by
  unfold step Sx
  have e2 : atI (hs.map Vl.num) i = some (.num v) := atI_map Vl.num e
  simp only [popL]
  rw [e2, map_app])
theorem Reach.keep (h : Reach E c P (vs ++ [v]) hs) : Reach E (c + 1) (P ++ [.keep]) vs (hs ++ [v]) := h.one (by
  unfold step Sx
  dsimp only
  rw [popL_nums, map_app]
  rfl)
theorem Reach.drop (h : Reach E c P vs (hs ++ [v])) : Reach E (c + 1) (P ++ [.drop]) vs hs := h.one (by
  unfold step Sx
  simp only [popL]
  rw [popL_nums]
  rfl)
theorem Reach.op (h : Reach E c P (vs ++ [x, y]) hs) {o : Op} (g : tooBig (o.z x y) = false) : Reach E (c + 1) (P ++ [.op o]) (vs ++ [o.z x y]) hs := h.one (by
  unfold step Sx
  have e1 : popL ((vs ++ [x, y]).map Vl.num) = some ((vs ++ [x]).map .num, .num y) := by
    rw [show vs ++ [x, y] = vs ++ [x] ++ [y] by simp, popL_nums]
  dsimp only
  rw [e1]
  dsimp only
  rw [popL_nums]
  dsimp only
  rw [g, map_app]
  rfl)
theorem Reach.great (h : Reach E c P (vs ++ [x, y]) hs) {o : Op} (g : tooBig (o.z x y) = true) : Great E (c + 1) (P ++ [.op o]) := fun ext f => by
  have e := h ([.op o] ++ ext) (f + 1)
  rw [← List.append_assoc] at e
  rw [show f + (c + 1) = f + 1 + c by omega, e, List.append_assoc]
  refine mstep_er (a := (P.length : Nat)) (r := .op o) (by simp [Sx]) rfl at_here ?_
  unfold step Sx
  have e1 : popL ((vs ++ [x, y]).map Vl.num) = some ((vs ++ [x]).map .num, .num y) := by
    rw [show vs ++ [x, y] = vs ++ [x] ++ [y] by simp, popL_nums]
  dsimp only
  rw [e1]
  dsimp only
  rw [popL_nums]
  dsimp only
  rw [g]
  rfl
theorem Great.more (h : Great E c P) (Q : List Row) : Great E c (P ++ Q) := fun ext f => by
  rw [List.append_assoc]
  exact h (Q ++ ext) f
theorem Reach.nul (h : Reach E c P vs hs) : Reach E (c + 2) (P ++ [.nil] ++ [.isN]) (vs ++ [1]) hs := fun ext f => by
  have e := h ([.nil] ++ ([.isN] ++ ext)) (f + 2)
  rw [← List.append_assoc, ← List.append_assoc] at e
  rw [show f + (c + 2) = f + 2 + c by omega, e]
  rw [show (P ++ [Row.nil] ++ [Row.isN]).length = P.length + 2 by simp]
  refine (mstep (a := (P.length : Nat)) (r := .nil) (s' := ⟨some ((P.length : Nat) + 1), 0, E.ou, rgI E.ou, [], vs.map .num ++ [.non], opens E.ou, [⟨hs.map .num, rgI E.ou, none⟩]⟩) (by simp [Sx]) rfl (by rw [List.append_assoc, List.append_assoc]; exact at_here) rfl).trans ?_
  refine mstep (a := (P.length : Nat) + 1) (r := .isN) (by simp) rfl ?_ ?_
  · rw [List.append_assoc]
    have := at_here (pre := P ++ [.nil]) (post := ext) (r := .isN)
    rw [show ((P ++ [Row.nil]).length : Int) = (P.length : Nat) + 1 by simp] at this
    exact this
  · unfold step Sx
    dsimp only
    rw [popL_app, map_app]
    rfl
/-- a jump over rows -/
theorem Reach.jump (h : Reach E c P vs hs) (skip : List Row) {t : Int} (ht : t = (P.length : Nat) + 1 + (skip.length : Nat)) : Reach E (c + 1) (P ++ [.jump t] ++ skip) vs hs := fun ext f => by
  have e := h ([.jump t] ++ (skip ++ ext)) (f + 1)
  rw [← List.append_assoc, ← List.append_assoc] at e
  rw [show f + (c + 1) = f + 1 + c by omega, e]
  rw [show (P ++ [Row.jump t] ++ skip).length = P.length + 1 + skip.length by simp; omega]
  refine mstep (a := (P.length : Nat)) (r := .jump t) (by simp [Sx]) rfl (by rw [List.append_assoc, List.append_assoc]; exact at_here) ?_
  unfold step Sx
  rw [ht]
  congr 2
/-- a number, an unless over the row behind -/
theorem Reach.unl (h : Reach E c P vs hs) (a : Int) {t : Int} (ht : t = (P.length : Nat) + 3) : ∃ c', c' ≤ c + 3 ∧ Reach E c' (P ++ [.num a] ++ [.unl t] ++ [.num 5]) (vs ++ if a ≠ 0 then [5] else []) hs := by
  have h1 := h.num a
  by_cases ha : a = 0
  · refine ⟨c + 2, by omega, fun ext f => ?_⟩
    have e := h1 ([.unl t] ++ ([.num 5] ++ ext)) (f + 1)
    rw [← List.append_assoc, ← List.append_assoc] at e
    rw [show f + (c + 2) = f + 1 + (c + 1) by omega, e]
    rw [show (P ++ [Row.num a] ++ [Row.unl t] ++ [Row.num 5]).length = P.length + 3 by simp]
    refine mstep (a := (P.length : Nat) + 1) (r := .unl t) (by simp [Sx]) (by unfold Sx; simp) ?_ ?_
    · have := at_here (pre := P ++ [.num a]) (post := .num 5 :: ext) (r := .unl t)
      rw [show ((P ++ [Row.num a]).length : Int) = (P.length : Nat) + 1 by simp] at this
      rw [List.append_assoc, List.append_assoc]
      exact this
    · unfold step Sx
      dsimp only
      rw [popL_nums, ha]
      dsimp only
      rw [if_pos rfl, if_neg (by simp), List.append_nil, ht]
      congr 2
  · refine ⟨c + 1 + 1 + 1, by omega, ?_⟩
    rw [if_pos ha]
    have h2 : Reach E (c + 1 + 1) (P ++ [.num a] ++ [.unl t]) vs hs := h1.one (by
      unfold step Sx
      dsimp only
      rw [popL_nums]
      dsimp only
      rw [if_neg ha])
    exact h2.num 5
/-- the end -/
theorem Reach.fin (h : Reach E c P [v] hs) {tf : Nat} : runs (P ++ [.back]) E.bg E.ou E.ns 5 (2 + c) (tf + 1) = .ok (.int v) (opens E.ou ++ shuts E.ou) := by
  have e := h [.back] 2
  have e2 : mrun (P ++ [.back]) 5 2 (Sx E.ou P.length [v] hs) = .nx ⟨none, 0, E.ou, rgI E.ou, [], [.num v], opens E.ou, []⟩ := by
    refine (mstep (a := (P.length : Nat)) (r := .back) (s' := ⟨none, 0, E.ou, rgI E.ou, [], [.num v], opens E.ou, []⟩) (by simp [Sx]) rfl at_here rfl).trans ?_
    exact mend rfl
  unfold runs
  rw [e, e2]
  rfl
theorem Great.fin (h : Great E c P) {f tf : Nat} : runs (P ++ [.back]) E.bg E.ou E.ns 5 (f + c) tf = .er "TooGreat" := by
  have e := h [.back] f
  unfold runs
  rw [e]
end
end K41
namespace K41
open PySem L2 Mi
def mx (c : Int) : Int := (c % 2147483647 + 11) * 48271 * 69621 % 2147483629
def Sd (n : Int) : Prop := 0 ≤ n ∧ n < 2147483629
theorem mx_sd (c : Int) : Sd (mx c) := by unfold Sd mx; omega
theorem Sd.div {n j : Int} (h : Sd n) (hj : 0 < j) : Sd (n / j) := by
  obtain ⟨h1, h2⟩ := h
  exact ⟨Int.ediv_nonneg h1 (Int.le_of_lt hj), Int.lt_of_le_of_lt (Int.ediv_le_self _ h1) h2⟩
theorem mixed_ok (k : Nat) (c : Int) : callF sub tab bigN (k + 1) 14 [.dat (.int c)] = .ok (.dat (.int (mx c))) [none] := by
  refine call_ret (fn := fn14) rfl rfl ?_ (μ' := [some (.dat (.int c))])
  simp_all! [startE, fn14, fMul_r, fMul_l, fMod_p, mx]
/-- the cell of a script -/
def cat (ns : List Int) (i : Nat) : Int := mx ((ns[i]?).getD i)
theorem cat_sd (ns : List Int) (i : Nat) : Sd (cat ns i) := mx_sd _
theorem cA {C : Nat → List M → Mi.CR} {N : List D} {i : Nat} {v z : Int} (h1 : atI N (i : Int) = some (.int v)) (h3 : i < N.length) (e : C 14 [.dat (.int v)] = .ok (.dat (.int z)) [none]) : execSs sub C [] bigN fn15.body [some (.dat (.lst N)), some (.dat (.int i))] = .ret (.dat (.int z)) [some (.dat (.lst N)), some (.dat (.int i))] := by
  unfold fn15
  refine ex_one (R := .ret _ _) (ite_t (μ1 := [some (.dat (.lst N)), some (.dat (.int i))]) ?_ ?_) (fun _ z => by cases z)
  · simp! [h3]
  · simp_all! [h1, e]
theorem cB {C : Nat → List M → Mi.CR} {N : List D} {i : Nat} {z : Int} (h3 : ¬ i < N.length) (e : C 14 [.dat (.int i)] = .ok (.dat (.int z)) [none]) : execSs sub C [] bigN fn15.body [some (.dat (.lst N)), some (.dat (.int i))] = .ret (.dat (.int z)) [some (.dat (.lst N)), some (.dat (.int i))] := by
  unfold fn15
  dsimp! [h3]
  simp_all! [e]
theorem cat_f (k : Nat) (ns : List Int) (i : Nat) : callF sub tab bigN (k + 2) 15 [.dat (.lst (ns.map .int)), .dat (.int i)] = .ok (.dat (.int (cat ns i))) [none, none] := by
  by_cases h : i < ns.length
  · have h1 : atI (ns.map D.int) (i : Int) = some (.int ((ns[i]?).getD i)) := atI_nat (by rw [List.getElem?_map, List.getElem?_eq_getElem h]; rfl)
    exact (call_ret (fn := fn15) rfl rfl (cA h1 (by rw [List.length_map]; exact h) (mixed_ok k _))).trans rfl
  · have h0 : (ns[i]?).getD (i : Int) = i := by rw [List.getElem?_eq_none (by omega)]; rfl
    have w : callF sub tab bigN (k + 2) 15 [.dat (.lst (ns.map .int)), .dat (.int i)] = .ok (.dat (.int (mx i))) [none, none] := (call_ret (fn := fn15) rfl rfl (cB (N := ns.map .int) (by rw [List.length_map]; exact h) (mixed_ok k i))).trans rfl
    unfold cat
    rw [h0]
    exact w
/-! numbers -/
def lawN (n : Int) : Int := match (n / 7 % 4).toNat with
  | 0 => n % 7 - 2
  | 1 => n * n * n * (n * n * n) * n % 10 ^ 60
  | 2 => 0 - n * n * n * (n * n * n) * n % 10 ^ 60
  | _ => n % 1000
theorem far_b (n : Int) : 0 ≤ n * n * n * (n * n * n) * n % 10 ^ 60 ∧ n * n * n * (n * n * n) * n % 10 ^ 60 < 10 ^ 60 := ⟨Int.emod_nonneg _ (by decide), Int.emod_lt_of_pos _ (by decide)⟩
theorem lawN_sm (n : Int) : Sm (lawN n) := by
  have := far_b n
  generalize n * n * n * (n * n * n) * n % 10 ^ 60 = z at *
  unfold Sm lawN
  split <;> omega
theorem pow60 : fPow (.int 10) (.int 60) = some (.int 1000000000000000000000000000000000000000000000000000000000000) := by kernel_rfl
theorem mul_b {x y a b : Int} (hx : 0 ≤ x ∧ x ≤ a) (hy : 0 ≤ y ∧ y ≤ b) : 0 ≤ x * y ∧ x * y ≤ a * b := ⟨Int.mul_nonneg hx.1 hy.1, Int.mul_le_mul hx.2 hy.2 hy.1 (Int.le_trans hx.1 hx.2)⟩
theorem sm_of {x a : Int} (h : 0 ≤ x ∧ x ≤ a) (ha : a < 10 ^ 60) : Sm x := by unfold Sm; omega
theorem num_w {C : Nat → List M → Mi.CR} {n : Int} (hn : Sd n) : ∃ μ : Mi.Env, execSs sub C [] bigN fn16.body (startE fn16 [.dat (.int n)]) = .ret (.dat (.int (lawN n))) μ := by
  have b1 : 0 ≤ n ∧ n ≤ 3000000000 := ⟨hn.1, by have := hn.2; omega⟩
  have b2 := mul_b b1 b1
  have b3 := mul_b b2 b1
  have b6 := mul_b b3 b3
  have m2 := fMul_sm (sm_of b1 (by decide)) (sm_of b1 (by decide))
  have m3 := fMul_sm (sm_of b2 (by decide)) (sm_of b1 (by decide))
  have m6 := fMul_sm (sm_of b3 (by decide)) (sm_of b3 (by decide))
  have m7 := fMul_sm (sm_of b6 (by decide)) (sm_of b1 (by decide))
  have d7 : fDivW (.int n) (.int 7) = some (.int (n / 7)) := fDivW_p (by omega) (by omega)
  have r4 : fMod (.int (n / 7)) (.int 4) = some (.int (n / 7 % 4)) := fMod_p (by omega)
  have r7 : fMod (.int n) (.int 7) = some (.int (n % 7)) := fMod_p (by omega)
  have r10 : fMod (.int n) (.int 1000) = some (.int (n % 1000)) := fMod_p (by omega)
  have rf : fMod (.int (n * n * n * (n * n * n) * n)) (.int 1000000000000000000000000000000000000000000000000000000000000) = some (.int (n * n * n * (n * n * n) * n % 10 ^ 60)) := fMod_p (by decide)
  have p60 := pow60
  have hj : n / 7 % 4 = ((n / 7 % 4).toNat : Nat) := by omega
  have h4 : (n / 7 % 4).toNat < 4 := by omega
  unfold lawN
  rw [hj] at r4
  generalize (n / 7 % 4).toNat = j at *
  refine ⟨[some (.dat (.int n)), some (.dat (.int (n * n * n))), some (.dat (.int (n * n * n * (n * n * n) * n % 10 ^ 60)))], ?_⟩
  generalize hz : n * n * n * (n * n * n) * n % 10 ^ 60 = z at *
  generalize n * n * n * (n * n * n) * n = z7 at *
  generalize n * n * n * (n * n * n) = z6 at *
  generalize n * n * n = z3 at *
  unfold fn16
  dsimp! [startE, m2, m3]
  dsimp! [m6, m7, p60, rf]
  refine ex_ret ?_
  rcases (by omega : j = 0 ∨ j = 1 ∨ j = 2 ∨ j = 3) with rfl | rfl | rfl | rfl
  · simp! [r7, r10, fLst_n, d7, r4, atI_0]
  · simp! [r7, r10, fLst_n, d7, r4, atI_1]
  · simp! [r7, r10, fLst_n, d7, r4, atI_2]
  · simp! [r7, r10, fLst_n, d7, r4, atI_3]
theorem num_f (k : Nat) {n : Int} (hn : Sd n) : callF sub tab bigN (k + 1) 16 [.dat (.int n)] = .ok (.dat (.int (lawN n))) [none] := by
  obtain ⟨μ, w⟩ := num_w (C := callF sub tab bigN k) hn
  exact (call_ret (fn := fn16) rfl rfl w).trans rfl
theorem rek_w {C : Nat → List M → Mi.CR} {o : Op} {x y : Int} (hx : Sm x) (hy : Sm y) : execSs sub C [] bigN fn17.body (startE fn17 [.dat (.str o.w), .dat (.int x), .dat (.int y)]) = .ret (.dat (.int (o.z x y))) [some (.dat (.str o.w)), some (.dat (.int x)), some (.dat (.int y))] := by
  have hm := fMul_sm hx hy
  unfold fn17
  cases o with
  | plus =>
    refine ex_one (R := .ret _ _) (ite_t (μ1 := [some (.dat (.str Op.plus.w)), some (.dat (.int x)), some (.dat (.int y))]) (by simp! [startE, Op.w]) (ex_ret (by simp! [Op.z]))) (fun _ z => by cases z)
  | minus =>
    dsimp! [startE, Op.w]
    refine ex_one (R := .ret _ _) (ite_t (μ1 := [some (.dat (.str Op.minus.w)), some (.dat (.int x)), some (.dat (.int y))]) (by simp! [Op.w]) (ex_ret (by simp! [Op.z, fSub_i]))) (fun _ z => by cases z)
  | times =>
    dsimp! [startE, Op.w]
    dsimp! [Op.w]
    refine ex_one (R := .ret _ _) (ite_t (μ1 := [some (.dat (.str Op.times.w)), some (.dat (.int x)), some (.dat (.int y))]) (by simp! [Op.w]) (ex_ret (by simp! [Op.z, hm]))) (fun _ z => by cases z)
  | less =>
    dsimp! [startE, Op.w]
    dsimp! [Op.w]
    dsimp! [Op.w]
    refine ex_ret ?_
    by_cases h : x < y
    · simp! [fInt_b, Op.z, Op.w, h]
    · simp! [fInt_b, Op.z, Op.w, h]
theorem reck_f (k : Nat) {o : Op} {x y : Int} (hx : Sm x) (hy : Sm y) : callF sub tab bigN (k + 1) 17 [.dat (.str o.w), .dat (.int x), .dat (.int y)] = .ok (.dat (.int (o.z x y))) [none, none, none] := (call_ret (fn := fn17) rfl rfl (rek_w hx hy)).trans rfl
abbrev PM (P : List Row) : M := .lst (dm (P.map Row.d))
abbrev VM (vs : List Int) : M := .lst (dm (nI vs))
theorem app_PM {P : List Row} {r : Row} (h : P.length ≤ 900) : fAppend (PM P) [.dat r.d] = some (PM (P ++ [r]), .dat .non) := by
  have := fAppend_dm (xs := P.map Row.d) (d := r.d) (by rw [List.length_map]; omega)
  have e : (P ++ [r]).map Row.d = P.map Row.d ++ [r.d] := by rw [List.map_append]; rfl
  unfold PM
  rw [e]
  exact this
theorem app_VM {vs : List Int} {v : Int} (h : vs.length ≤ 900) : fAppend (VM vs) [.dat (.int v)] = some (VM (vs ++ [v]), .dat .non) := by
  have := fAppend_dm (xs := nI vs) (d := .int v) (by rw [nI_len]; omega)
  unfold VM
  rw [nI_app]
  exact this
theorem pop_VM (vs : List Int) (v : Int) : fPop (VM (vs ++ [v])) [] = some (VM vs, .dat (.int v)) := by
  have := fPop_dm (nI vs) (.int v)
  rw [← nI_app] at this
  exact this
theorem two_w {C : Nat → List M → Mi.CR} {P : List Row} {vs : List Int} {o : Op} {x y : Int} (e : C 17 [.dat (.str o.w), .dat (.int x), .dat (.int y)] = .ok (.dat (.int (o.z x y))) [none, none, none]) (lp : P.length ≤ 900) (lv : vs.length ≤ 800) : execSs sub C [0, 1] bigN fn18.body (startE fn18 [PM P, VM (vs ++ [x, y]), .dat (.str o.w)]) = .nx [some (PM (P ++ [Row.op o])), some (VM (vs ++ [o.z x y])), some (.dat (.str o.w)), some (.dat (.int y)), some (.dat (.int x))] := by
  have a1 := app_PM (r := Row.op o) lp
  have p1 := pop_VM (vs ++ [x]) y
  have p2 := pop_VM vs x
  have a2 := app_VM (vs := vs) (v := o.z x y) (by omega)
  rw [show vs ++ [x] ++ [y] = vs ++ [x, y] by simp] at p1
  have rd : (Row.op o).d = .tup [.str o.w] := rfl
  rw [rd] at a1
  unfold PM VM at *
  generalize dm (P.map Row.d) = X1 at *
  generalize dm ((P ++ [Row.op o]).map Row.d) = X2 at *
  generalize dm (nI (vs ++ [x, y])) = Y1 at *
  generalize dm (nI (vs ++ [x])) = Y2 at *
  generalize dm (nI (vs ++ [o.z x y])) = Y4 at *
  generalize dm (nI vs) = Y3 at *
  generalize o.z x y = z at *
  unfold fn18
  dsimp! [startE, fTup_n, a1]
  dsimp! [p1]
  dsimp! [p2]
  refine ex_last ?_
  simp! [e, a2]
theorem two_f (k : Nat) {P : List Row} {vs : List Int} {o : Op} {x y : Int} (hx : Sm x) (hy : Sm y) (lp : P.length ≤ 900) (lv : vs.length ≤ 800) : callF sub tab bigN (k + 2) 18 [PM P, VM (vs ++ [x, y]), .dat (.str o.w)] = .ok (.dat .non) [some (PM (P ++ [Row.op o])), some (VM (vs ++ [o.z x y])), none] :=
  (call_nx (fn := fn18) rfl rfl (two_w (reck_f k hx hy) lp lv)).trans rfl
end K41
namespace K41
open PySem L2 Mi
def skip1 : Nat → Row
  | 0 => .drop
  | 1 => .op .plus
  | _ => .back
def skipL (n : Int) (i j : Nat) : List Row := (List.range' i j).map fun k => skip1 ((n / 6 + (k : Nat)) % 3).toNat
theorem skipL_len (n : Int) (i j : Nat) : (skipL n i j).length = j := by unfold skipL; rw [List.length_map, List.length_range']
def leapR (n : Int) (P : List Row) : List Row := if n / 3 % 2 = 0 then P ++ [Row.jump ((P.length : Nat) + 1 + (1 + n % 3))] ++ skipL n 0 (1 + n % 3).toNat else P ++ [Row.num (n / 6 % 3)] ++ [Row.unl ((P.length : Nat) + 3)] ++ [Row.num 5]
def leapV (n : Int) (vs : List Int) : List Int := if n / 3 % 2 = 0 then vs else vs ++ if n / 6 % 3 ≠ 0 then [5] else []
section
variable {C : Nat → List M → Mi.CR} {P : List Row} {vs hs : List Int} {n : Int} {x1 x3 x4 : Option M}
theorem body19 {k : Nat} (lp : P.length ≤ 900) : execSs sub C [0, 1] bigN w19_0b [some (PM P), x1, some (.dat (.int n)), x3, x4, some (.dat (.int (0 + (k : Nat))))] = .nx [some (PM (P ++ [skip1 ((n / 6 + (k : Nat)) % 3).toNat])), x1, some (.dat (.int n)), x3, x4, some (.dat (.int (0 + (k : Nat))))] := by
  have d6 : fDivW (.int n) (.int 6) = some (.int (n / 6)) := fDivW_p (by omega) (by omega)
  have z : (0 : Int) + (k : Nat) = (k : Nat) := by omega
  have hj : (n / 6 + (k : Nat)) % 3 = (((n / 6 + (k : Nat)) % 3).toNat : Nat) := by omega
  have h3 : ((n / 6 + (k : Nat)) % 3).toNat < 3 := by omega
  have m3 : fMod (.int (n / 6 + (k : Nat))) (.int 3) = some (.int (((n / 6 + (k : Nat)) % 3).toNat : Nat)) := (fMod_p (by omega)).trans (by rw [← hj])
  rw [z]
  generalize ((n / 6 + (k : Nat)) % 3).toNat = j at *
  have a := app_PM (r := skip1 j) lp
  have ix : atI [D.tup [.str "drop"], .tup [.str "plus"], .tup [.str "back"]] (j : Int) = some (skip1 j).d := by
    rcases (by omega : j = 0 ∨ j = 1 ∨ j = 2) with rfl | rfl | rfl
    · exact atI_0 _ _
    · exact atI_1 _ _ _
    · exact atI_2 _ _ _ _
  unfold PM at *
  generalize dm (P.map Row.d) = A at *
  generalize dm ((P ++ [skip1 j]).map Row.d) = B at *
  generalize (skip1 j).d = d at *
  unfold w19_0b
  refine ex_last ?_
  simp! [fTup_n, fLst_n, d6, m3, ix, a]
theorem loop19 : ∀ (j i : Nat) (P : List Row) (x5 : Option M), P.length + j ≤ 900 → ∃ x5', forLoop (.one 5) (execSs sub C [0, 1] bigN w19_0b) ((List.range' i j).map fun k => D.int (0 + (k : Nat))) [some (PM P), x1, some (.dat (.int n)), x3, x4, x5] = .nx [some (PM (P ++ skipL n i j)), x1, some (.dat (.int n)), x3, x4, x5']
  | 0, i, P, x5, _ => ⟨x5, by rw [show skipL n i 0 = [] from rfl, List.append_nil]; rfl⟩
  | j + 1, i, P, x5, h => by
    obtain ⟨x5', e⟩ := loop19 j (i + 1) (P ++ [skip1 ((n / 6 + (i : Nat)) % 3).toNat]) (some (.dat (.int (0 + (i : Nat))))) (by rw [List.length_append]; show _ + 1 + j ≤ _; omega)
    refine ⟨x5', ?_⟩
    rw [List.range'_succ, List.map_cons]
    show (match execSs sub C [0, 1] bigN w19_0b [some (PM P), x1, some (.dat (.int n)), x3, x4, some (.dat (.int (0 + (i : Nat))))] with | .nx μ2 => forLoop _ _ _ μ2 | .cont μ2 => forLoop _ _ _ μ2 | .brk μ2 => .nx μ2 | r => r) = _
    rw [body19 (by omega)]
    dsimp only
    rw [e, List.append_assoc]
    rfl
theorem leap_w (lp : P.length ≤ 800) (lv : vs.length ≤ 800) : ∃ μ : Mi.Env, execSs sub C [0, 1] bigN fn19.body (startE fn19 [PM P, VM vs, .dat (.int n)]) = .ret (.dat .non) (some (PM (leapR n P)) :: some (VM (leapV n vs)) :: μ) := by
  have m3 : fMod (.int n) (.int 3) = some (.int (n % 3)) := fMod_p (by omega)
  have d3 : fDivW (.int n) (.int 3) = some (.int (n / 3)) := fDivW_p (by omega) (by omega)
  have d6 : fDivW (.int n) (.int 6) = some (.int (n / 6)) := fDivW_p (by omega) (by omega)
  have m2 : fMod (.int (n / 3)) (.int 2) = some (.int (n / 3 % 2)) := fMod_p (by omega)
  have m63 : fMod (.int (n / 6)) (.int 3) = some (.int (n / 6 % 3)) := fMod_p (by omega)
  have lD : ((P.map Row.d).length : Int) = (P.length : Nat) := by rw [List.length_map]
  have fi : ∀ i : Int, (D.int i).flat = true := fun _ => rfl
  unfold leapR leapV
  have hm : (1 + n % 3) = ((1 + n % 3).toNat : Nat) := by omega
  have hm4 : (1 + n % 3).toNat ≤ 4 := by omega
  by_cases h : n / 3 % 2 = 0
  · rw [if_pos h, if_pos h]
    have a := app_PM (P := P) (r := Row.jump ((P.length : Nat) + 1 + (1 + n % 3))) (by omega)
    have rd : (Row.jump ((P.length : Nat) + 1 + (1 + n % 3))).d = .tup [.str "jump", .int ((P.length : Nat) + 1 + (1 + n % 3))] := rfl
    rw [rd] at a
    obtain ⟨x5, lp⟩ := loop19 (C := C) (n := n) (x1 := some (VM vs)) (x3 := some (.dat (.int (1 + n % 3)))) (x4 := none) (1 + n % 3).toNat 0 (P ++ [Row.jump ((P.length : Nat) + 1 + (1 + n % 3))]) none (by rw [List.length_append]; show _ + 1 + _ ≤ _; omega)
    have rg : fRange1 [.int (1 + n % 3)] = some ((List.range' 0 (1 + n % 3).toNat).map fun k => D.int (0 + (k : Nat))) := by
      have e : fRange1 [.int (1 + n % 3)] = if -(2 ^ 62) ≤ (1 + n % 3) ∧ (1 + n % 3) < 2 ^ 62 then some ((List.range (1 + n % 3).toNat).map fun i => D.int (0 + (i : Nat))) else none := rfl
      rw [e, if_pos (by omega), List.range_eq_range']
    refine ⟨[some (.dat (.int n)), some (.dat (.int (1 + n % 3))), none, x5], ?_⟩
    unfold PM VM at *
    generalize hX : P.map Row.d = X at *
    generalize dm ((P ++ [Row.jump ((P.length : Nat) + 1 + (1 + n % 3))]).map Row.d) = Y at *
    generalize dm ((P ++ [Row.jump ((P.length : Nat) + 1 + (1 + n % 3))] ++ skipL n 0 (1 + n % 3).toNat).map Row.d) = Z at *
    generalize dm (nI vs) = V at *
    have nt : M.noTup.noTups (dm X) = true := noTups_dm X
    unfold fn19
    dsimp! [startE, m3]
    refine ex_one (R := .ret _ _) (ite_t (μ1 := [some (.lst (dm X)), some (.lst V), some (.dat (.int n)), some (.dat (.int (1 + n % 3))), none, none]) (by simp! [d3, m2, h]) ?_) (fun _ z => by cases z)
    refine (ex_nx (μ1 := [some (.lst Y), some (.lst V), some (.dat (.int n)), some (.dat (.int (1 + n % 3))), none, none]) ?_).trans ?_
    · simp! [dm_toDs, lD, fi, fTup_n, a]
    refine (ex_nx (ex_for (xs := (List.range' 0 (1 + n % 3).toNat).map fun k => D.int (0 + (k : Nat))) rfl (ms := [.dat (.int (1 + n % 3))]) (ds := [.int (1 + n % 3)]) (by simp! []) rfl rg lp)).trans ?_
    exact ex_ret rfl
  · rw [if_neg h, if_neg h]
    have a1 := app_PM (P := P) (r := Row.num (n / 6 % 3)) (by omega)
    have a2 := app_PM (P := P ++ [Row.num (n / 6 % 3)]) (r := Row.unl ((P.length : Nat) + 3)) (by rw [List.length_append]; show _ + 1 ≤ _; omega)
    have a3 := app_PM (P := P ++ [Row.num (n / 6 % 3)] ++ [Row.unl ((P.length : Nat) + 3)]) (r := Row.num 5) (by rw [List.length_append, List.length_append]; show _ + 1 + 1 ≤ _; omega)
    have a4 := app_VM (vs := vs) (v := 5) (by omega)
    have r1 : (Row.num (n / 6 % 3)).d = .tup [.str "number", .int (n / 6 % 3)] := rfl
    have r2 : (Row.unl ((P.length : Nat) + 3)).d = .tup [.str "unless", .int ((P.length : Nat) + 3)] := rfl
    have r3 : (Row.num 5).d = .tup [.str "number", .int 5] := rfl
    rw [r1] at a1
    rw [r2] at a2
    rw [r3] at a3
    have lD1 : (((P ++ [Row.num (n / 6 % 3)]).map Row.d).length : Int) + 2 = (P.length : Nat) + 3 := by rw [List.length_map, List.length_append]; show ((P.length + 1 : Nat) : Int) + 2 = _; omega
    have hV : vs ++ [5] = vs ++ [5] := rfl
    generalize n / 6 % 3 = q at *
    by_cases hq : q = 0
    · subst hq
      rw [if_neg (by simp), List.append_nil]
      refine ⟨[some (.dat (.int n)), some (.dat (.int (1 + n % 3))), some (.dat (.int 0)), none], ?_⟩
      unfold PM VM at *
      generalize P.map Row.d = X at *
      generalize (P ++ [Row.num 0]).map Row.d = Y at *
      generalize dm ((P ++ [Row.num 0] ++ [Row.unl ((P.length : Nat) + 3)]).map Row.d) = Z at *
      generalize dm ((P ++ [Row.num 0] ++ [Row.unl ((P.length : Nat) + 3)] ++ [Row.num 5]).map Row.d) = W at *
      generalize dm (nI vs) = V at *
      unfold fn19
      dsimp! [startE, m3]
      dsimp! [d3, m2, h]
      dsimp! [d6, m63]
      dsimp! [fTup_n, a1]
      refine (ex_nx (μ1 := [some (.lst Z), some (.lst V), some (.dat (.int n)), some (.dat (.int (1 + n % 3))), some (.dat (.int 0)), none]) ?_).trans ?_
      · simp! [dm_toDs, lD1, fi, fTup_n, a2]
      dsimp! [fTup_n, a3]
      dsimp! []
      exact ex_ret rfl
    · rw [if_pos hq]
      refine ⟨[some (.dat (.int n)), some (.dat (.int (1 + n % 3))), some (.dat (.int q)), none], ?_⟩
      unfold PM VM at *
      generalize P.map Row.d = X at *
      generalize (P ++ [Row.num q]).map Row.d = Y at *
      generalize dm ((P ++ [Row.num q] ++ [Row.unl ((P.length : Nat) + 3)]).map Row.d) = Z at *
      generalize dm ((P ++ [Row.num q] ++ [Row.unl ((P.length : Nat) + 3)] ++ [Row.num 5]).map Row.d) = W at *
      generalize dm (nI (vs ++ [5])) = V5 at *
      generalize dm (nI vs) = V at *
      unfold fn19
      dsimp! [startE, m3]
      dsimp! [d3, m2, h]
      dsimp! [d6, m63]
      dsimp! [fTup_n, a1]
      refine (ex_nx (μ1 := [some (.lst Z), some (.lst V), some (.dat (.int n)), some (.dat (.int (1 + n % 3))), some (.dat (.int q)), none]) ?_).trans ?_
      · simp! [dm_toDs, lD1, fi, fTup_n, a2]
      dsimp! [fTup_n, a3]
      dsimp! [hq, a4]
      exact ex_ret rfl
end
end K41
namespace K41
open PySem L2 Mi
/-! ### a row -/
inductive Turn (P : List Row) : List Int → List Int → List Row → List Int → List Int → Prop where
  | loc {vs hs : List Int} {i v : Int} (h : atI hs i = some v) : Turn P vs hs (P ++ [Row.loc i]) (vs ++ [v]) hs
  | keep {vs hs : List Int} {v : Int} : Turn P (vs ++ [v]) hs (P ++ [Row.keep]) vs (hs ++ [v])
  | drop {vs hs : List Int} {v : Int} : Turn P vs (hs ++ [v]) (P ++ [Row.drop]) vs hs
  | op {vs hs : List Int} {o : Op} {x y : Int} : Turn P (vs ++ [x, y]) hs (P ++ [Row.op o]) (vs ++ [o.z x y]) hs
  | nul {vs hs : List Int} : Turn P vs hs (P ++ [Row.nil] ++ [Row.isN]) (vs ++ [1]) hs
  | leap {vs hs : List Int} (n : Int) : Turn P vs hs (leapR n P) (leapV n vs) hs
  | num {vs hs : List Int} (n : Int) : Turn P vs hs (P ++ [Row.num (lawN n)]) (vs ++ [lawN n]) hs
def opOf : Nat → Op
  | 0 => .plus
  | 1 => .minus
  | 2 => .times
  | _ => .less
abbrev c2E : E := .view (.and (.op2 fEq (.var 4) (.con (.int 2))) (.op2 fGt (.opN fLen (.cons (.var 2) .nil)) (.con (.int 0))))
abbrev c3E : E := .view (.and (.op2 fEq (.var 4) (.con (.int 3))) (.op2 fGt (.opN fLen (.cons (.var 1) .nil)) (.con (.int 0))))
abbrev c4E : E := .view (.and (.op2 fEq (.var 4) (.con (.int 4))) (.op2 fGt (.opN fLen (.cons (.var 2) .nil)) (.con (.int 0))))
abbrev c5E : E := .view (.and (.op2 fGt (.var 4) (.con (.int 4))) (.and (.op2 fLt (.var 4) (.con (.int 9))) (.op2 fGt (.opN fLen (.cons (.var 1) .nil)) (.con (.int 1)))))
section
variable {C : Nat → List M → Mi.CR} {A : M} {P : List Row} {vs hs : List Int} {n d m : Int}
abbrev E6 (A : M) (vs hs : List Int) (n d m : Int) : Mi.Env := [some A, some (VM vs), some (VM hs), some (.dat (.int n)), some (.dat (.int d)), some (.dat (.int m))]
theorem lenI (vs : List Int) : ((nI vs).length : Int) = (vs.length : Nat) := by rw [nI_len]
theorem view_b {pin : List Nat} {e : E} {b : Bool} {μ μ2 : Mi.Env} (hp : e.pure = true) (h : evalE C pin e (viewE μ) = .ok (.dat (.bl b)) μ2) : evalE C pin (.view e) μ = .ok (.dat (.bl b)) μ := ev_view hp h rfl
theorem view_i {pin : List Nat} {e : E} {i : Int} {μ μ2 : Mi.Env} (hp : e.pure = true) (h : evalE C pin e (viewE μ) = .ok (.dat (.int i)) μ2) : evalE C pin (.view e) μ = .ok (.dat (.int i)) μ := ev_view hp h rfl
theorem c2_w : evalE C [0, 1, 2] c2E (E6 A vs hs n d m) = .ok (.dat (.bl (decide (d = 2) && decide (0 < hs.length)))) (E6 A vs hs n d m) := by
  refine view_b (μ2 := viewE (E6 A vs hs n d m)) rfl ?_
  have l := lenI hs
  unfold E6 VM
  generalize nI vs = V at *
  generalize nI hs = H at *
  by_cases h : d = 2
  · simp! [dm_toDs, l, h]
  · simp! [dm_toDs, l, h]
theorem c3_w : evalE C [0, 1, 2] c3E (E6 A vs hs n d m) = .ok (.dat (.bl (decide (d = 3) && decide (0 < vs.length)))) (E6 A vs hs n d m) := by
  refine view_b (μ2 := viewE (E6 A vs hs n d m)) rfl ?_
  have l := lenI vs
  unfold E6 VM
  generalize nI vs = V at *
  generalize nI hs = H at *
  by_cases h : d = 3
  · simp! [dm_toDs, l, h]
  · simp! [dm_toDs, l, h]
theorem c4_w : evalE C [0, 1, 2] c4E (E6 A vs hs n d m) = .ok (.dat (.bl (decide (d = 4) && decide (0 < hs.length)))) (E6 A vs hs n d m) := by
  refine view_b (μ2 := viewE (E6 A vs hs n d m)) rfl ?_
  have l := lenI hs
  unfold E6 VM
  generalize nI vs = V at *
  generalize nI hs = H at *
  by_cases h : d = 4
  · simp! [dm_toDs, l, h]
  · simp! [dm_toDs, l, h]
theorem c5_w : evalE C [0, 1, 2] c5E (E6 A vs hs n d m) = .ok (.dat (.bl (decide (4 < d) && (decide (d < 9) && decide (1 < vs.length))))) (E6 A vs hs n d m) := by
  refine view_b (μ2 := viewE (E6 A vs hs n d m)) rfl ?_
  have l := lenI vs
  unfold E6 VM
  generalize nI vs = V at *
  generalize nI hs = H at *
  by_cases h : 4 < d
  · by_cases h2 : d < 9
    · simp! [dm_toDs, l, h, h2]
      omega
    · simp! [dm_toDs, l, h, h2]
  · simp! [dm_toDs, l, h]
theorem two_last {vs : List Int} (h : 1 < vs.length) : ∃ vs0 x y, vs = vs0 ++ [x, y] := by
  rcases List.eq_nil_or_concat vs with rfl | ⟨r, y, rfl⟩
  · simp at h
  · rcases List.eq_nil_or_concat r with rfl | ⟨r2, x, rfl⟩
    · simp at h
    · exact ⟨r2, x, y, by simp⟩
theorem one_last {vs : List Int} (h : 0 < vs.length) : ∃ vs0 x, vs = vs0 ++ [x] := by
  rcases List.eq_nil_or_concat vs with rfl | ⟨r, y, rfl⟩
  · simp at h
  · exact ⟨r, y, by simp⟩
theorem row_w {n : Int} (hn : 0 ≤ n) (lp : P.length ≤ 800) (lv : vs.length ≤ 800) (lh : hs.length ≤ 800) (h16 : C 16 [.dat (.int (n / 12))] = .ok (.dat (.int (lawN (n / 12)))) [none])
    (h18 : ∀ (o : Op) (x y : Int) (vs0 : List Int), vs = vs0 ++ [x, y] → C 18 [PM P, VM vs, .dat (.str o.w)] = .ok (.dat .non) [some (PM (P ++ [Row.op o])), some (VM (vs0 ++ [o.z x y])), none])
    (h19 : C 19 [PM P, VM vs, .dat (.int (n / 12))] = .ok (.dat .non) [some (PM (leapR (n / 12) P)), some (VM (leapV (n / 12) vs)), none]) :
    ∃ P' vs' hs', ∃ μ : Mi.Env, Turn P vs hs P' vs' hs' ∧ execSs sub C [0, 1, 2] bigN fn20.body (startE fn20 [PM P, VM vs, VM hs, .dat (.int n)]) = .nx (some (PM P') :: some (VM vs') :: some (VM hs') :: μ) := by
  have m12 : fMod (.int n) (.int 12) = some (.int (n % 12)) := fMod_p (by omega)
  have d12 : fDivW (.int n) (.int 12) = some (.int (n / 12)) := fDivW_p (by omega) (by omega)
  have pre : ∀ R : Mi.Res, execSs sub C [0, 1, 2] bigN (tl (tl fn20.body)) (E6 (PM P) vs hs n (n % 12) (n / 12)) = R → execSs sub C [0, 1, 2] bigN fn20.body (startE fn20 [PM P, VM vs, VM hs, .dat (.int n)]) = R := fun R hR => by
    unfold fn20 at *
    unfold E6 PM VM at *
    generalize dm (P.map Row.d) = X at *
    generalize dm (nI vs) = V at *
    generalize dm (nI hs) = H at *
    dsimp! [startE, m12]
    dsimp! [d12]
    exact hR
  generalize hd : n % 12 = d at *
  have hd0 : 0 ≤ d := by omega
  have hd1 : d < 12 := by omega
  generalize hm : n / 12 = m at *
  have q2 := c2_w (C := C) (A := PM P) (vs := vs) (hs := hs) (n := n) (d := d) (m := m)
  have q3 := c3_w (C := C) (A := PM P) (vs := vs) (hs := hs) (n := n) (d := d) (m := m)
  have q4 := c4_w (C := C) (A := PM P) (vs := vs) (hs := hs) (n := n) (d := d) (m := m)
  have q5 := c5_w (C := C) (A := PM P) (vs := vs) (hs := hs) (n := n) (d := d) (m := m)
  have fin : ∀ {P' vs' hs'} {μ : Mi.Env}, Turn P vs hs P' vs' hs' → execSs sub C [0, 1, 2] bigN (tl (tl fn20.body)) (E6 (PM P) vs hs n d m) = .nx (some (PM P') :: some (VM vs') :: some (VM hs') :: μ) → ∃ P' vs' hs', ∃ μ : Mi.Env, Turn P vs hs P' vs' hs' ∧ execSs sub C [0, 1, 2] bigN fn20.body (startE fn20 [PM P, VM vs, VM hs, .dat (.int n)]) = .nx (some (PM P') :: some (VM vs') :: some (VM hs') :: μ) := fun T h => ⟨_, _, _, _, T, pre _ h⟩
  have aN := app_PM (P := P) (r := Row.num (lawN m)) (by omega)
  have bN := app_VM (vs := vs) (v := lawN m) (by omega)
  by_cases k2 : (decide (d = 2) && decide (0 < hs.length)) = true
  · rw [k2] at q2
    obtain ⟨e1, e2⟩ := (Bool.and_eq_true _ _).mp k2
    have e2 : 0 < hs.length := of_decide_eq_true e2
    have hi : m % (hs.length : Nat) < hs.length := Int.emod_lt_of_pos _ (by omega)
    have hi0 : 0 ≤ m % (hs.length : Nat) := Int.emod_nonneg _ (by omega)
    obtain ⟨i, hii⟩ : ∃ i : Nat, m % (hs.length : Nat) = i := ⟨(m % (hs.length : Nat)).toNat, by omega⟩
    have hil : i < hs.length := by omega
    obtain ⟨v, hv⟩ : ∃ v, hs[i]? = some v := ⟨hs[i], List.getElem?_eq_getElem hil⟩
    have ha : atI hs (i : Int) = some v := atI_nat hv
    refine fin (.loc (i := i) (v := v) ha) ?_ (μ := [some (.dat (.int n)), some (.dat (.int d)), some (.dat (.int m))])
    have a := app_PM (P := P) (r := Row.loc i) (by omega)
    have b := app_VM (vs := vs) (v := v) (by omega)
    have mm : fMod (.int m) (.int (hs.length : Nat)) = some (.int i) := (fMod_p (by omega)).trans (by rw [hii])
    have l := lenI hs
    have an := atI_nI ha
    unfold fn20
    refine ex_one (R := .nx _) (ite_t q2 ?_) (fun _ z => by cases z; exact ex_nil)
    have r1 : (Row.loc (i : Int)).d = .tup [.str "local", .int i] := rfl
    rw [r1] at a
    unfold E6 PM VM at *
    generalize dm (P.map Row.d) = X at *
    generalize dm ((P ++ [Row.loc i]).map Row.d) = Y at *
    generalize nI vs = V at *
    generalize dm (nI (vs ++ [v])) = W at *
    generalize nI hs = H at *
    have v1 : ∀ Z : M, evalE C [0, 1, 2] (.view (.op2 fMod (.var 5) (.opN fLen (.cons (.var 2) .nil)))) [some Z, some (.lst (dm V)), some (.lst (dm H)), some (.dat (.int n)), some (.dat (.int d)), some (.dat (.int m))] = .ok (.dat (.int i)) [some Z, some (.lst (dm V)), some (.lst (dm H)), some (.dat (.int n)), some (.dat (.int d)), some (.dat (.int m))] := fun Z => by
      refine view_i (μ2 := viewE [some Z, some (.lst (dm V)), some (.lst (dm H)), some (.dat (.int n)), some (.dat (.int d)), some (.dat (.int m))]) rfl ?_
      simp! [dm_toDs, l, mm]
    have v2 : ∀ Z : M, evalE C [0, 1, 2] (.view (.op2 fIx (.var 2) (.op2 fMod (.var 5) (.opN fLen (.cons (.var 2) .nil))))) [some Z, some (.lst (dm V)), some (.lst (dm H)), some (.dat (.int n)), some (.dat (.int d)), some (.dat (.int m))] = .ok (.dat (.int v)) [some Z, some (.lst (dm V)), some (.lst (dm H)), some (.dat (.int n)), some (.dat (.int d)), some (.dat (.int m))] := fun Z => by
      refine view_i (μ2 := viewE [some Z, some (.lst (dm V)), some (.lst (dm H)), some (.dat (.int n)), some (.dat (.int d)), some (.dat (.int m))]) rfl ?_
      simp! [dm_toDs, l, mm, an]
    generalize (E.view (.op2 fMod (.var 5) (.opN fLen (.cons (.var 2) .nil)))) = ee1 at *
    generalize (E.view (.op2 fIx (.var 2) (.op2 fMod (.var 5) (.opN fLen (.cons (.var 2) .nil))))) = ee2 at *
    dsimp! [v1, fTup_n, a]
    refine ex_last ?_
    simp! [v2, b]
  have k2 := Bool.eq_false_iff.mpr k2
  rw [k2] at q2
  by_cases k3 : (decide (d = 3) && decide (0 < vs.length)) = true
  · rw [k3] at q3
    obtain ⟨e1, e2⟩ := (Bool.and_eq_true _ _).mp k3
    obtain ⟨vs0, v, rfl⟩ := one_last (of_decide_eq_true e2)
    refine fin (.keep (v := v)) ?_ (μ := [some (.dat (.int n)), some (.dat (.int d)), some (.dat (.int m))])
    have a := app_PM (P := P) (r := Row.keep) (by omega)
    have b := app_VM (vs := hs) (v := v) (by omega)
    have p := pop_VM vs0 v
    unfold fn20
    refine ex_one (R := .nx _) (ite_f q2 (ex_one (R := .nx _) (ite_t q3 ?_) (fun _ z => by cases z; exact ex_nil))) (fun _ z => by cases z; exact ex_nil)
    have r1 : Row.keep.d = .tup [.str "keep"] := rfl
    rw [r1] at a
    unfold E6 PM VM at *
    generalize dm (P.map Row.d) = X at *
    generalize dm ((P ++ [Row.keep]).map Row.d) = Y at *
    generalize dm (nI (vs0 ++ [v])) = V at *
    generalize dm (nI vs0) = V0 at *
    generalize dm (nI (hs ++ [v])) = W at *
    generalize dm (nI hs) = H at *
    dsimp! [fTup_n, a]
    refine ex_last ?_
    simp! [p, b]
  have k3 := Bool.eq_false_iff.mpr k3
  rw [k3] at q3
  by_cases k4 : (decide (d = 4) && decide (0 < hs.length)) = true
  · rw [k4] at q4
    obtain ⟨e1, e2⟩ := (Bool.and_eq_true _ _).mp k4
    obtain ⟨hs0, v, rfl⟩ := one_last (of_decide_eq_true e2)
    refine fin (.drop (v := v)) ?_ (μ := [some (.dat (.int n)), some (.dat (.int d)), some (.dat (.int m))])
    have a := app_PM (P := P) (r := Row.drop) (by omega)
    have p := pop_VM hs0 v
    unfold fn20
    refine ex_one (R := .nx _) (ite_f q2 (ex_one (R := .nx _) (ite_f q3 (ex_one (R := .nx _) (ite_t q4 ?_) (fun _ z => by cases z; exact ex_nil))) (fun _ z => by cases z; exact ex_nil))) (fun _ z => by cases z; exact ex_nil)
    have r1 : Row.drop.d = .tup [.str "drop"] := rfl
    rw [r1] at a
    unfold E6 PM VM at *
    generalize dm (P.map Row.d) = X at *
    generalize dm ((P ++ [Row.drop]).map Row.d) = Y at *
    generalize dm (nI vs) = V at *
    generalize dm (nI (hs0 ++ [v])) = W at *
    generalize dm (nI hs0) = H at *
    dsimp! [fTup_n, a]
    refine ex_last ?_
    simp! [p]
  have k4 := Bool.eq_false_iff.mpr k4
  rw [k4] at q4
  by_cases k5 : (decide (4 < d) && (decide (d < 9) && decide (1 < vs.length))) = true
  · rw [k5] at q5
    obtain ⟨e1, e2⟩ := (Bool.and_eq_true _ _).mp k5
    obtain ⟨e2, e3⟩ := (Bool.and_eq_true _ _).mp e2
    have e1 : 4 < d := of_decide_eq_true e1
    have e2 : d < 9 := of_decide_eq_true e2
    obtain ⟨vs0, x, y, rfl⟩ := two_last (of_decide_eq_true e3)
    obtain ⟨j, hj⟩ : ∃ j : Nat, d - 5 = j := ⟨(d - 5).toNat, by omega⟩
    have hj4 : j < 4 := by omega
    have h := h18 (opOf j) x y vs0 rfl
    have ix : atI [D.str "plus", .str "minus", .str "times", .str "less"] (j : Int) = some (.str (opOf j).w) := by
      rcases (by omega : j = 0 ∨ j = 1 ∨ j = 2 ∨ j = 3) with rfl | rfl | rfl | rfl
      · exact atI_0 _ _
      · exact atI_1 _ _ _
      · exact atI_2 _ _ _ _
      · exact atI_3 _ _ _ _ _
    refine fin (.op (o := opOf j) (x := x) (y := y)) ?_ (μ := [some (.dat (.int n)), some (.dat (.int d)), some (.dat (.int m))])
    unfold fn20
    refine ex_one (R := .nx _) (ite_f q2 (ex_one (R := .nx _) (ite_f q3 (ex_one (R := .nx _) (ite_f q4 (ex_one (R := .nx _) (ite_t q5 ?_) (fun _ z => by cases z; exact ex_nil))) (fun _ z => by cases z; exact ex_nil))) (fun _ z => by cases z; exact ex_nil))) (fun _ z => by cases z; exact ex_nil)
    refine ex_last ?_
    unfold E6 PM VM at *
    generalize dm (P.map Row.d) = X at *
    generalize dm ((P ++ [Row.op (opOf j)]).map Row.d) = Y at *
    generalize dm (nI (vs0 ++ [x, y])) = V at *
    generalize dm (nI (vs0 ++ [(opOf j).z x y])) = W at *
    generalize dm (nI hs) = H at *
    generalize (opOf j).w = w at *
    simp! [fLst_n, fSub_i, hj, ix, h]
  have k5 := Bool.eq_false_iff.mpr k5
  rw [k5] at q5
  have deep : ∀ {P' vs' hs'} {μ : Mi.Env} (T : Turn P vs hs P' vs' hs'), (∀ R : Mi.Res, True) → execS sub C [0, 1, 2] bigN (.ite (.op2 fEq (.var 4) (.con (.int 9))) (.cons (.expr (.mut 0 fAppend .nil (.root 0) (.cons (.opN fTup (.cons (.con (.str "nil")) .nil)) .nil)))
  (.cons (.expr (.mut 0 fAppend .nil (.root 0) (.cons (.opN fTup (.cons (.con (.str "none")) .nil)) .nil)))
  (.cons (.expr (.mut 0 fAppend .nil (.root 1) (.cons (.con (.int 1)) .nil)))
  .nil))) (.cons (.ite (.op2 fGt (.var 4) (.con (.int 9))) (.cons (.expr (.call false 19 (.ref (.root 0) (.ref (.root 1) (.val (.var 5) .nil)))))
  .nil) (.cons (.expr (.mut 0 fAppend .nil (.root 0) (.cons (.opN fTup (.cons (.con (.str "number")) (.cons (.call false 16 (.val (.var 5) .nil)) .nil))) .nil)))
  (.cons (.expr (.mut 0 fAppend .nil (.root 1) (.cons (.call false 16 (.val (.var 5) .nil)) .nil)))
  .nil)))
  .nil)) (E6 (PM P) vs hs n d m) = .nx (some (PM P') :: some (VM vs') :: some (VM hs') :: μ) → ∃ P' vs' hs', ∃ μ : Mi.Env, Turn P vs hs P' vs' hs' ∧ execSs sub C [0, 1, 2] bigN fn20.body (startE fn20 [PM P, VM vs, VM hs, .dat (.int n)]) = .nx (some (PM P') :: some (VM vs') :: some (VM hs') :: μ) := fun T _ h => fin T (by
    unfold fn20
    exact ex_one (R := .nx _) (ite_f q2 (ex_one (R := .nx _) (ite_f q3 (ex_one (R := .nx _) (ite_f q4 (ex_one (R := .nx _) (ite_f q5 (ex_one (R := .nx _) h (fun _ z => by cases z; exact ex_nil))) (fun _ z => by cases z; exact ex_nil))) (fun _ z => by cases z; exact ex_nil))) (fun _ z => by cases z; exact ex_nil))) (fun _ z => by cases z; exact ex_nil))
  by_cases h9 : d = 9
  · subst h9
    refine deep .nul (fun _ => trivial) ?_ (μ := [some (.dat (.int n)), some (.dat (.int 9)), some (.dat (.int m))])
    have a1 := app_PM (P := P) (r := Row.nil) (by omega)
    have a2 := app_PM (P := P ++ [Row.nil]) (r := Row.isN) (by rw [List.length_append]; show _ + 1 ≤ _; omega)
    have b := app_VM (vs := vs) (v := 1) (by omega)
    have r1 : Row.nil.d = .tup [.str "nil"] := rfl
    have r2 : Row.isN.d = .tup [.str "none"] := rfl
    rw [r1] at a1
    rw [r2] at a2
    unfold E6 PM VM at *
    generalize dm (P.map Row.d) = X at *
    generalize dm ((P ++ [Row.nil]).map Row.d) = Y at *
    generalize dm ((P ++ [Row.nil] ++ [Row.isN]).map Row.d) = Z at *
    generalize dm (nI vs) = V at *
    generalize dm (nI (vs ++ [1])) = W at *
    generalize dm (nI hs) = H at *
    refine ite_t (μ1 := [some (.lst X), some (.lst V), some (.lst H), some (.dat (.int n)), some (.dat (.int 9)), some (.dat (.int m))]) (by simp! []) ?_
    dsimp! [fTup_n, a1]
    dsimp! [fTup_n, a2]
    refine ex_last ?_
    simp! [b]
  · by_cases h10 : 9 < d
    · refine deep (.leap m) (fun _ => trivial) ?_ (μ := [some (.dat (.int n)), some (.dat (.int d)), some (.dat (.int m))])
      unfold E6 PM VM at *
      generalize dm (P.map Row.d) = X at *
      generalize dm ((leapR m P).map Row.d) = Y at *
      generalize dm (nI vs) = V at *
      generalize dm (nI (leapV m vs)) = W at *
      generalize dm (nI hs) = H at *
      refine ite_f (μ1 := [some (.lst X), some (.lst V), some (.lst H), some (.dat (.int n)), some (.dat (.int d)), some (.dat (.int m))]) (by simp! [h9]) ?_
      refine ex_last (ite_t (μ1 := [some (.lst X), some (.lst V), some (.lst H), some (.dat (.int n)), some (.dat (.int d)), some (.dat (.int m))]) (by simp! [h10]) ?_)
      refine ex_last ?_
      simp! [h19]
    · refine deep (.num m) (fun _ => trivial) ?_ (μ := [some (.dat (.int n)), some (.dat (.int d)), some (.dat (.int m))])
      have r1 : (Row.num (lawN m)).d = .tup [.str "number", .int (lawN m)] := rfl
      rw [r1] at aN
      unfold E6 PM VM at *
      generalize dm (P.map Row.d) = X at *
      generalize dm ((P ++ [Row.num (lawN m)]).map Row.d) = Y at *
      generalize dm (nI vs) = V at *
      generalize dm (nI (vs ++ [lawN m])) = W at *
      generalize dm (nI hs) = H at *
      generalize lawN m = z at *
      have h10' : d ≤ 9 := by omega
      refine ite_f (μ1 := [some (.lst X), some (.lst V), some (.lst H), some (.dat (.int n)), some (.dat (.int d)), some (.dat (.int m))]) (by simp! [h9]) ?_
      refine ex_last (ite_f (μ1 := [some (.lst X), some (.lst V), some (.lst H), some (.dat (.int n)), some (.dat (.int d)), some (.dat (.int m))]) (by simp! [h10']) ?_)
      dsimp! [h16, fTup_n, aN]
      refine ex_last ?_
      simp! [h16, bN]
end
end K41
namespace K41
open PySem L2 Mi
theorem ev_op2 {C : Nat → List M → Mi.CR} {pin : List Nat} {f : D → D → Option D} {a b : E} {d1 d2 d3 : D} {μ μ1 μ2 : Mi.Env} (h1 : evalE C pin a μ = .ok (.dat d1) μ1) (h2 : evalE C pin b μ1 = .ok (.dat d2) μ2) (h3 : f d1 d2 = some d3) : evalE C pin (.op2 f a b) μ = .ok (.dat d3) μ2 := by
  simp! [h1, h2, h3]
theorem ret_e {C : Nat → List M → Mi.CR} {pin : List Nat} {N : Nat} {e : E} {m : M} {μ μ1 : Mi.Env} (h : evalE C pin e μ = .ok m μ1) : execS sub C pin N (.ret e) μ = .ret m μ1 := by
  simp! [h]
theorem ev_p2 {C : Nat → List M → Mi.CR} {pin : List Nat} {f : D → D → Option D} {a b : E} {d1 d2 d3 : D} {μ : Mi.Env} (h1 : evalE C pin a μ = .ok (.dat d1) μ) (h2 : evalE C pin b μ = .ok (.dat d2) μ) (h3 : f d1 d2 = some d3) : evalE C pin (.op2 f a b) μ = .ok (.dat d3) μ := ev_op2 h1 h2 h3
def okB : Row → Bool
  | .num i => decide (Sm i)
  | .call _ _ hs => decide (hs.length ≤ 900)
  | _ => true
theorem ok_B {r : Row} (h : okB r = true) : r.Ok := by
  cases r with
  | num i => exact (of_decide_eq_true h : Sm i)
  | call t n hs => exact (of_decide_eq_true h : hs.length ≤ 900)
  | _ => trivial
theorem ok_all {rs : List Row} (h : rs.all okB = true) : ∀ r ∈ rs, r.Ok := fun r hr => ok_B (List.all_eq_true.mp h r hr)
section
variable {E : Env0} {c : Nat} {P P' : List Row} {vs hs vs' hs' : List Int}
theorem sm_app {xs : List Int} {x : Int} (h : ∀ v ∈ xs, Sm v) (hx : Sm x) : ∀ v ∈ xs ++ [x], Sm v := mem_app h hx
theorem tb_sm {z : Int} (h : ¬ tooBig z = true) : Sm z := sm_z fun q => h (tb.mpr q)
theorem tb_not {z : Int} (h : tooBig z = true) : ¬ Sm z := fun q => by
  have h1 := tb.mp h
  have : OV = (10 : Int) ^ 60 := by decide
  unfold Sm at q
  omega
theorem leap_reach (R : Reach E c P vs hs) (n : Int) : ∃ c', c' ≤ c + 3 ∧ Reach E c' (leapR n P) (leapV n vs) hs := by
  unfold leapR leapV
  by_cases h : n / 3 % 2 = 0
  · rw [if_pos h, if_pos h]
    exact ⟨c + 1, by omega, R.jump (skipL n 0 (1 + n % 3).toNat) (by rw [skipL_len]; omega)⟩
  · rw [if_neg h, if_neg h]
    exact R.unl (n / 6 % 3) rfl
theorem leapV_sm {n : Int} (h : ∀ v ∈ vs, Sm v) : ∀ v ∈ leapV n vs, Sm v := by
  unfold leapV
  split
  · exact h
  · split
    · exact sm_app h (by decide)
    · rw [List.append_nil]; exact h
theorem turn_ok (T : Turn P vs hs P' vs' hs') (R : Reach E c P vs hs) (sv : ∀ v ∈ vs, Sm v) (sh : ∀ v ∈ hs, Sm v) :
    (∃ c', c' ≤ c + 3 ∧ Reach E c' P' vs' hs' ∧ (∀ v ∈ vs', Sm v) ∧ ∀ v ∈ hs', Sm v) ∨ (∃ c', c' ≤ c + 3 ∧ Great E c' P' ∧ ∃ v ∈ vs', ¬ Sm v) := by
  cases T with
  | loc h => exact .inl ⟨c + 1, by omega, R.loc h, sm_app sv (sh _ (atI_mem h)), sh⟩
  | keep => exact .inl ⟨c + 1, by omega, R.keep, app_l sv, sm_app sh (app_x sv)⟩
  | drop => exact .inl ⟨c + 1, by omega, R.drop, sv, app_l sh⟩
  | op =>
    rename_i vs0 o x y
    by_cases g : tooBig (o.z x y) = true
    · exact .inr ⟨c + 1, by omega, R.great g, _, List.mem_append_right _ (List.mem_singleton.mpr rfl), tb_not g⟩
    · exact .inl ⟨c + 1, by omega, R.op (Bool.eq_false_iff.mpr g), sm_app (app_l sv) (tb_sm g), sh⟩
  | nul => exact .inl ⟨c + 2, by omega, R.nul, sm_app sv (by decide), sh⟩
  | leap n =>
    obtain ⟨c', h1, h2⟩ := leap_reach R n
    exact .inl ⟨c', h1, h2, leapV_sm sv, sh⟩
  | num n => exact .inl ⟨c + 1, by omega, R.num _, sm_app sv (lawN_sm n), sh⟩
theorem turn_len (T : Turn P vs hs P' vs' hs') : P'.length ≤ P.length + 4 ∧ vs'.length ≤ vs.length + 1 ∧ hs'.length ≤ hs.length + 1 := by
  cases T with
  | leap n =>
    refine ⟨?_, ?_, by omega⟩
    · unfold leapR
      split
      · rw [List.length_append, List.length_append, skipL_len]
        show _ + 1 + _ ≤ _
        omega
      · simp
    · unfold leapV
      split
      · omega
      · split <;> simp
  | keep => simp; omega
  | drop => simp; omega
  | _ => simp
theorem ok_sk (n : Int) (i j : Nat) : (skipL n i j).all okB = true := by
  rw [List.all_eq_true]
  intro r hr
  obtain ⟨k, _, rfl⟩ := List.mem_map.mp hr
  generalize ((n / 6 + (k : Nat)) % 3).toNat = q
  match q with
  | 0 => rfl
  | 1 => rfl
  | _ + 2 => rfl
theorem turn_okB (T : Turn P vs hs P' vs' hs') (h : P.all okB = true) : P'.all okB = true := by
  cases T with
  | leap n =>
    unfold leapR
    split
    · rw [List.all_append, List.all_append, h, ok_sk]
      rfl
    · rw [List.all_append, List.all_append, List.all_append, h]
      have : okB (.num (n / 6 % 3)) = true := decide_eq_true (by unfold Sm; omega)
      simp only [List.all_cons, this]
      rfl
  | num n =>
    have : okB (.num (lawN n)) = true := decide_eq_true (lawN_sm n)
    rw [List.all_append, h]
    simp only [List.all_cons, this]
    rfl
  | nul => rw [List.all_append, List.all_append, h]; rfl
  | _ => rw [List.all_append, h]; rfl
end
theorem row_f (k : Nat) {P : List Row} {vs hs : List Int} {n : Int} (hn : Sd n) (lp : P.length ≤ 800) (lv : vs.length ≤ 800) (lh : hs.length ≤ 800) (sv : ∀ v ∈ vs, Sm v) :
    ∃ P' vs' hs', Turn P vs hs P' vs' hs' ∧ callF sub tab bigN (k + 3) 20 [PM P, VM vs, VM hs, .dat (.int n)] = .ok (.dat .non) [some (PM P'), some (VM vs'), some (VM hs'), none] := by
  obtain ⟨μ1, w19⟩ := leap_w (C := callF sub tab bigN (k + 1)) (P := P) (vs := vs) (n := n / 12) lp lv
  have h19 : callF sub tab bigN (k + 2) 19 [PM P, VM vs, .dat (.int (n / 12))] = .ok (.dat .non) [some (PM (leapR (n / 12) P)), some (VM (leapV (n / 12) vs)), none] := (call_ret (fn := fn19) rfl rfl w19).trans rfl
  obtain ⟨P', vs', hs', μ, T, w⟩ := row_w (C := callF sub tab bigN (k + 2)) hn.1 lp lv lh (num_f (k + 1) (hn.div (by omega))) (fun o x y vs0 e => by
    subst e
    exact two_f k (sv x (by simp)) (sv y (by simp)) (by omega) (by rw [List.length_append] at lv; omega)) h19
  exact ⟨P', vs', hs', T, (call_nx (fn := fn20) rfl rfl w).trans rfl⟩
/-! is there a great one? -/
def anyBig (vs : List Int) : Bool := vs.any tooBig
theorem anyBig_not {vs : List Int} (h : ∀ v ∈ vs, Sm v) : anyBig vs = false := by
  unfold anyBig
  rw [List.any_eq_false]
  intro v hv q
  exact tb_not q (h v hv)
theorem anyBig_yes {vs : List Int} {v : Int} (hv : v ∈ vs) (h : ¬ Sm v) : anyBig vs = true := by
  unfold anyBig
  rw [List.any_eq_true]
  refine ⟨v, hv, ?_⟩
  by_cases q : tooBig v = true
  · exact q
  · exact absurd (tb_sm q) h
abbrev bigE : E := .op2 fGe (.opN fAbs (.cons (.var 16) .nil)) (.op2 fPow (.con (.int 10)) (.con (.int 60)))
section
variable {C : Nat → List M → Mi.CR} {y0 y1 y2 y3 y4 y5 y6 y7 y8 y9 y10 y11 y12 y13 y14 y15 : Option M}
theorem comp_big : ∀ (vs : List Int) (acc : List D), compLoop [16] (.one 16) (fun μ => datOf (evalE C [] bigE μ)) (fun μ => datOf (evalE C [] (.var 16) μ)) (nI vs) acc [y0, y1, y2, y3, y4, y5, y6, y7, y8, y9, y10, y11, y12, y13, y14, y15, none] = .ok (acc ++ nI (vs.filter tooBig)) [y0, y1, y2, y3, y4, y5, y6, y7, y8, y9, y10, y11, y12, y13, y14, y15, none]
  | [], acc => by
    show Out.ok acc _ = _
    rw [List.filter_nil, show nI [] = [] from rfl, List.append_nil]
  | v :: vs, acc => by
    have st : setTg (.one 16) (.dat (.int v)) [y0, y1, y2, y3, y4, y5, y6, y7, y8, y9, y10, y11, y12, y13, y14, y15, none] = some [y0, y1, y2, y3, y4, y5, y6, y7, y8, y9, y10, y11, y12, y13, y14, y15, some (.dat (.int v))] := rfl
    have p60 := pow60
    have ge : fGe (.int (v.natAbs : Int)) (.int 1000000000000000000000000000000000000000000000000000000000000) = some (.bl (tooBig v)) := by rw [fGe_i]; rfl
    have c : datOf (evalE C [] bigE [y0, y1, y2, y3, y4, y5, y6, y7, y8, y9, y10, y11, y12, y13, y14, y15, some (.dat (.int v))]) = .ok (.bl (tooBig v)) [y0, y1, y2, y3, y4, y5, y6, y7, y8, y9, y10, y11, y12, y13, y14, y15, some (.dat (.int v))] := by
      have : evalE C [] bigE [y0, y1, y2, y3, y4, y5, y6, y7, y8, y9, y10, y11, y12, y13, y14, y15, some (.dat (.int v))] = .ok (.dat (.bl (tooBig v))) [y0, y1, y2, y3, y4, y5, y6, y7, y8, y9, y10, y11, y12, y13, y14, y15, some (.dat (.int v))] := by
        refine ev_p2 (d1 := .int (v.natAbs : Int)) (d2 := .int 1000000000000000000000000000000000000000000000000000000000000) ?_ ?_ ge
        · simp! [fAbs_n]
        · exact ev_p2 (d1 := .int 10) (d2 := .int 60) rfl rfl p60
      rw [this]
      rfl
    show compLoop [16] (.one 16) _ _ (.int v :: nI vs) acc _ = _
    rw [List.filter_cons]
    cases q : tooBig v with
    | true =>
      rw [q] at c
      rw [if_pos rfl]
      refine (comp_keep (c := fun μ => datOf (evalE C [] bigE μ)) (e := fun μ => datOf (evalE C [] (.var 16) μ)) (x := .int v) st c rfl).trans ?_
      refine (comp_big vs (acc ++ [.int v])).trans ?_
      rw [List.append_assoc]
      rfl
    | false =>
      rw [q] at c
      rw [if_neg Bool.false_ne_true]
      exact (comp_skip (c := fun μ => datOf (evalE C [] bigE μ)) (e := fun μ => datOf (evalE C [] (.var 16) μ)) st c).trans (comp_big vs acc)
end
end K41
namespace K41
open PySem L2 Mi
theorem any_len (vs : List Int) : decide (0 < ((nI (vs.filter tooBig)).length : Int)) = anyBig vs := by
  rw [nI_len]
  unfold anyBig
  by_cases h : vs.any tooBig = true
  · rw [h]
    obtain ⟨v, hv, q⟩ := List.any_eq_true.mp h
    have := List.length_pos_of_mem (List.mem_filter.mpr ⟨hv, q⟩)
    exact decide_eq_true (by omega)
  · have h := Bool.eq_false_iff.mpr h
    rw [h]
    have : vs.filter tooBig = [] := List.filter_eq_nil_iff.mpr fun v hv => by
      have := List.any_eq_false.mp h v hv
      exact this
    rw [this]
    rfl
section
variable {C : Nat → List M → Mi.CR} {y0 y1 y2 y4 y5 y9 y10 y11 y12 y13 y14 y15 : Option M} {P P' : List Row} {vs hs vs' hs' : List Int} {g : Bool} {cell n : Int}
abbrev LE (y0 y1 y2 y4 y5 y9 y10 y11 y12 y13 y14 y15 : Option M) (P : List Row) (vs hs : List Int) (g : Bool) : Mi.Env := [y0, y1, y2, some (PM P), y4, y5, some (VM hs), some (VM vs), some (.dat (.bl g)), y9, y10, y11, y12, y13, y14, y15, none]
abbrev fz (o : Option M) : Option M := o.map fun m => .dat m.toD
theorem viewLE : viewE (LE y0 y1 y2 y4 y5 y9 y10 y11 y12 y13 y14 y15 P vs hs g) = [fz y0, fz y1, fz y2, fz (some (PM P)), fz y4, fz y5, fz (some (VM hs)), some (.dat (.lst (nI vs))), some (.dat (.bl g)), fz y9, fz y10, fz y11, fz y12, fz y13, fz y14, fz y15, none] := by
  have e : M.toD (VM vs) = .lst (nI vs) := dm_toD _
  show [fz y0, fz y1, fz y2, fz (some (PM P)), fz y4, fz y5, fz (some (VM hs)), some (.dat (M.toD (VM vs))), some (.dat (.bl g)), fz y9, fz y10, fz y11, fz y12, fz y13, fz y14, fz y15, none] = _
  rw [e]
theorem great_w (hl : vs.length ≤ 900) : evalE C [] (.view (.op2 fGt (.opN fLen (.cons (.comp false [16] (.one 16) fSeq (.cons (.var 7) .nil) bigE (.var 16)) .nil)) (.con (.int 0)))) (LE y0 y1 y2 y4 y5 y9 y10 y11 y12 y13 y14 y15 P vs hs g) = .ok (.dat (.bl (anyBig vs))) (LE y0 y1 y2 y4 y5 y9 y10 y11 y12 y13 y14 y15 P vs hs g) := by
  refine view_b (μ2 := viewE (LE y0 y1 y2 y4 y5 y9 y10 y11 y12 y13 y14 y15 P vs hs g)) rfl ?_
  rw [viewLE]
  have cb := comp_big (C := C) (y0 := fz y0) (y1 := fz y1) (y2 := fz y2) (y3 := fz (some (PM P))) (y4 := fz y4) (y5 := fz y5) (y6 := fz (some (VM hs))) (y7 := some (.dat (.lst (nI vs)))) (y8 := some (.dat (.bl g))) (y9 := fz y9) (y10 := fz y10) (y11 := fz y11) (y12 := fz y12) (y13 := fz y13) (y14 := fz y14) (y15 := fz y15) vs []
  rw [List.nil_append] at cb
  generalize fz y0 = z0 at *
  generalize fz y1 = z1 at *
  generalize fz y2 = z2 at *
  generalize fz (some (PM P)) = z3 at *
  generalize fz y4 = z4 at *
  generalize fz y5 = z5 at *
  generalize fz (some (VM hs)) = z6 at *
  generalize fz y9 = z9 at *
  generalize fz y10 = z10 at *
  generalize fz y11 = z11 at *
  generalize fz y12 = z12 at *
  generalize fz y13 = z13 at *
  generalize fz y14 = z14 at *
  generalize fz y15 = z15 at *
  have cm := ev_comp (C := C) (pin := []) (own := [16]) (t := .one 16) (f := fSeq) (src := .cons (.var 7) .nil) (c := bigE) (e := .var 16) (μ := [z0, z1, z2, z3, z4, z5, z6, some (.dat (.lst (nI vs))), some (.dat (.bl g)), z9, z10, z11, z12, z13, z14, z15, none]) (μ1 := [z0, z1, z2, z3, z4, z5, z6, some (.dat (.lst (nI vs))), some (.dat (.bl g)), z9, z10, z11, z12, z13, z14, z15, none]) (ms := [.dat (.lst (nI vs))]) (ds := [.lst (nI vs)]) (xs := nI vs) rfl (by simp! []) rfl rfl cb (le_line (by rw [nI_len]; exact Nat.le_trans (List.length_filter_le _ _) (by omega)))
  have ln : evalE C [] (.opN fLen (.cons (.comp false [16] (.one 16) fSeq (.cons (.var 7) .nil) bigE (.var 16)) .nil)) [z0, z1, z2, z3, z4, z5, z6, some (.dat (.lst (nI vs))), some (.dat (.bl g)), z9, z10, z11, z12, z13, z14, z15, none] = .ok (.dat (.int ((nI (vs.filter tooBig)).length : Nat))) [z0, z1, z2, z3, z4, z5, z6, some (.dat (.lst (nI vs))), some (.dat (.bl g)), z9, z10, z11, z12, z13, z14, z15, none] := by
    generalize (E.comp false [16] (.one 16) fSeq (.cons (.var 7) .nil) bigE (.var 16)) = ee at *
    simp! [cm]
  exact ev_p2 (d2 := .int 0) ln rfl ((fGt_i _ _).trans (by rw [any_len]))
theorem turn_b {cell n : Int} (h14 : C 14 [.dat (.int cell)] = .ok (.dat (.int n)) [none]) (h20 : C 20 [PM P, VM vs, VM hs, .dat (.int n)] = .ok (.dat .non) [some (PM P'), some (VM vs'), some (VM hs'), none]) (hl : vs'.length ≤ 900) :
    execSs sub C [] bigN w22_0b (LE y0 y1 y2 y4 y5 (some (.dat (.int cell))) y10 y11 y12 y13 y14 y15 P vs hs false) = .nx (LE y0 y1 y2 y4 y5 (some (.dat (.int cell))) y10 y11 y12 y13 y14 y15 P' vs' hs' (anyBig vs')) := by
  have gw := great_w (C := C) (y0 := y0) (y1 := y1) (y2 := y2) (y4 := y4) (y5 := y5) (y9 := some (.dat (.int cell))) (y10 := y10) (y11 := y11) (y12 := y12) (y13 := y13) (y14 := y14) (y15 := y15) (P := P') (vs := vs') (hs := hs') (g := false) hl
  unfold w22_0b
  refine ex_last (ite_t (μ1 := LE y0 y1 y2 y4 y5 (some (.dat (.int cell))) y10 y11 y12 y13 y14 y15 P vs hs false) ?_ ?_)
  · unfold LE PM VM
    generalize dm (P.map Row.d) = X
    generalize dm (nI vs) = V
    generalize dm (nI hs) = H
    simp! []
  · refine (ex_nx (μ1 := LE y0 y1 y2 y4 y5 (some (.dat (.int cell))) y10 y11 y12 y13 y14 y15 P' vs' hs' false) ?_).trans ?_
    · unfold LE PM VM at *
      generalize dm (P.map Row.d) = X at *
      generalize dm (nI vs) = V at *
      generalize dm (nI hs) = H at *
      generalize dm (P'.map Row.d) = X' at *
      generalize dm (nI vs') = V' at *
      generalize dm (nI hs') = H' at *
      simp! [h14, h20]
    · exact ex_last (set_to (i := 8) rfl gw (by show 8 < 17; decide) rfl)
theorem idle_b {cell : Int} : execSs sub C [] bigN w22_0b (LE y0 y1 y2 y4 y5 (some (.dat (.int cell))) y10 y11 y12 y13 y14 y15 P vs hs true) = .nx (LE y0 y1 y2 y4 y5 (some (.dat (.int cell))) y10 y11 y12 y13 y14 y15 P vs hs true) := by
  unfold w22_0b
  refine ex_last (ite_f (μ1 := LE y0 y1 y2 y4 y5 (some (.dat (.int cell))) y10 y11 y12 y13 y14 y15 P vs hs true) ?_ ex_nil)
  unfold LE PM VM
  generalize dm (P.map Row.d) = X
  generalize dm (nI vs) = V
  generalize dm (nI hs) = H
  simp! []
end
end K41
namespace K41
open PySem L2 Mi
structure Inv4 (E : Env0) (j : Nat) (P : List Row) (vs hs : List Int) (g : Bool) : Prop where
  lp : P.length ≤ 4 * j + 5
  lv : vs.length ≤ j
  lh : hs.length ≤ j + 10
  ok : P.all okB = true
  no : g = false → ∃ c, c ≤ 3 * j ∧ Reach E c P vs hs ∧ (∀ v ∈ vs, Sm v) ∧ ∀ v ∈ hs, Sm v
  yes : g = true → (∃ c, c ≤ 3 * j ∧ Great E c P) ∧ vs ≠ []
theorem Inv4.turn {E : Env0} {j : Nat} {P P' : List Row} {vs hs vs' hs' : List Int} (I : Inv4 E j P vs hs false) (T : Turn P vs hs P' vs' hs') : Inv4 E (j + 1) P' vs' hs' (anyBig vs') := by
  obtain ⟨c, hc, R, sv, sh⟩ := I.no rfl
  obtain ⟨l1, l2, l3⟩ := turn_len T
  have h1 := I.lp
  have h2 := I.lv
  have h3 := I.lh
  refine ⟨by omega, by omega, by omega, turn_okB T I.ok, fun g => ?_, fun g => ?_⟩
  · rcases turn_ok T R sv sh with ⟨c', k1, k2, k3, k4⟩ | ⟨c', k1, k2, v, k3, k4⟩
    · exact ⟨c', by omega, k2, k3, k4⟩
    · rw [anyBig_yes k3 k4] at g
      cases g
  · rcases turn_ok T R sv sh with ⟨c', k1, k2, k3, k4⟩ | ⟨c', k1, k2, v, k3, k4⟩
    · rw [anyBig_not k3] at g
      cases g
    · exact ⟨⟨c', by omega, k2⟩, fun z => by rw [z] at k3; cases k3⟩
section
variable {C : Nat → List M → Mi.CR} {y0 y1 y2 y4 y5 y9 y10 y11 y12 y13 y14 y15 : Option M}
theorem cells_w {E : Env0} (h14 : ∀ c : Int, C 14 [.dat (.int c)] = .ok (.dat (.int (mx c))) [none])
    (h20 : ∀ (P : List Row) (vs hs : List Int) (n : Int), Sd n → P.length ≤ 800 → vs.length ≤ 800 → hs.length ≤ 800 → (∀ v ∈ vs, Sm v) → ∃ P' vs' hs', Turn P vs hs P' vs' hs' ∧ C 20 [PM P, VM vs, VM hs, .dat (.int n)] = .ok (.dat .non) [some (PM P'), some (VM vs'), some (VM hs'), none]) :
    ∀ (cs : List Int) (j : Nat) (P : List Row) (vs hs : List Int) (g : Bool) (y9 : Option M), Inv4 E j P vs hs g → j + cs.length ≤ 40 →
      ∃ P' vs' hs' g' y9', Inv4 E (j + cs.length) P' vs' hs' g' ∧ forLoop (.one 9) (execSs sub C [] bigN w22_0b) (cs.map D.int) (LE y0 y1 y2 y4 y5 y9 y10 y11 y12 y13 y14 y15 P vs hs g) = .nx (LE y0 y1 y2 y4 y5 y9' y10 y11 y12 y13 y14 y15 P' vs' hs' g')
  | [], j, P, vs, hs, g, y9, I, _ => ⟨P, vs, hs, g, y9, I, rfl⟩
  | c :: cs, j, P, vs, hs, g, y9, I, h => by
    have hl : (c :: cs).length = cs.length + 1 := rfl
    have step : ∃ P' vs' hs' g', Inv4 E (j + 1) P' vs' hs' g' ∧ execSs sub C [] bigN w22_0b (LE y0 y1 y2 y4 y5 (some (.dat (.int c))) y10 y11 y12 y13 y14 y15 P vs hs g) = .nx (LE y0 y1 y2 y4 y5 (some (.dat (.int c))) y10 y11 y12 y13 y14 y15 P' vs' hs' g') := by
      cases g with
      | false =>
        obtain ⟨c0, hc, R, sv, sh⟩ := I.no rfl
        have h1 := I.lp
        have h2 := I.lv
        have h3 := I.lh
        obtain ⟨P', vs', hs', T, w⟩ := h20 P vs hs (mx c) (mx_sd c) (by omega) (by omega) (by omega) sv
        have I' := I.turn T
        exact ⟨P', vs', hs', _, I', turn_b (h14 c) w (by have := I'.lv; omega)⟩
      | true =>
        obtain ⟨⟨c1, k1, k2⟩, k3⟩ := I.yes rfl
        have h1 := I.lp
        have h2 := I.lv
        have h3 := I.lh
        exact ⟨P, vs, hs, true, { lp := by omega, lv := by omega, lh := by omega, ok := I.ok, no := fun z => (nomatch z), yes := fun _ => ⟨⟨c1, by omega, k2⟩, k3⟩ }, idle_b⟩
    obtain ⟨P', vs', hs', g', I', w⟩ := step
    obtain ⟨P2, vs2, hs2, g2, y9', I2, w2⟩ := cells_w h14 h20 cs (j + 1) P' vs' hs' g' (some (.dat (.int c))) I' (by omega)
    refine ⟨P2, vs2, hs2, g2, y9', by rw [hl, show j + (cs.length + 1) = j + 1 + cs.length by omega]; exact I2, ?_⟩
    rw [List.map_cons]
    show (match execSs sub C [] bigN w22_0b (LE y0 y1 y2 y4 y5 (some (.dat (.int c))) y10 y11 y12 y13 y14 y15 P vs hs g) with | .nx μ2 => forLoop _ _ _ μ2 | .cont μ2 => forLoop _ _ _ μ2 | .brk μ2 => .nx μ2 | r => r) = _
    rw [w]
    exact w2
/-! the while -/
theorem wc_w {P : List Row} {vs hs : List Int} {g : Bool} : evalE C [] w22_1c (LE y0 y1 y2 y4 y5 y9 y10 y11 y12 y13 y14 y15 P vs hs g) = .ok (.dat (.bl (decide (1 < vs.length) && !g))) (LE y0 y1 y2 y4 y5 y9 y10 y11 y12 y13 y14 y15 P vs hs g) := by
  unfold w22_1c
  refine view_b (μ2 := viewE (LE y0 y1 y2 y4 y5 y9 y10 y11 y12 y13 y14 y15 P vs hs g)) rfl ?_
  rw [viewLE]
  have l := lenI vs
  generalize nI vs = V at *
  generalize fz y0 = z0 at *
  generalize fz y1 = z1 at *
  generalize fz y2 = z2 at *
  generalize fz (some (PM P)) = z3 at *
  generalize fz y4 = z4 at *
  generalize fz y5 = z5 at *
  generalize fz (some (VM hs)) = z6 at *
  generalize fz y9 = z9 at *
  generalize fz y10 = z10 at *
  generalize fz y11 = z11 at *
  generalize fz y12 = z12 at *
  generalize fz y13 = z13 at *
  generalize fz y14 = z14 at *
  generalize fz y15 = z15 at *
  by_cases h : 1 < vs.length
  · have h' : (1 : Int) < (vs.length : Nat) := by omega
    rw [decide_eq_true h]
    simp! [l, h']
  · have h' : ¬ (1 : Int) < (vs.length : Nat) := by omega
    rw [decide_eq_false h]
    simp! [l, h']
def wop (n : Nat) : Op := if n % 2 = 0 then .plus else .minus
theorem wb_w {P : List Row} {vs hs : List Int} {x y : Int} (h18 : C 18 [PM P, VM (vs ++ [x, y]), .dat (.str (wop (vs.length + 2)).w)] = .ok (.dat .non) [some (PM (P ++ [Row.op (wop (vs.length + 2))])), some (VM (vs ++ [(wop (vs.length + 2)).z x y])), none]) :
    execSs sub C [] bigN w22_1b (LE y0 y1 y2 y4 y5 y9 y10 y11 y12 y13 y14 y15 P (vs ++ [x, y]) hs false) = .nx (LE y0 y1 y2 y4 y5 y9 y10 y11 y12 y13 y14 y15 (P ++ [Row.op (wop (vs.length + 2))]) (vs ++ [(wop (vs.length + 2)).z x y]) hs (tooBig ((wop (vs.length + 2)).z x y))) := by
  have ix : atI [D.str "plus", .str "minus"] (((vs.length + 2 : Nat) : Int) % 2) = some (.str (wop (vs.length + 2)).w) := by
    unfold wop
    by_cases h : (vs.length + 2) % 2 = 0
    · rw [if_pos h, show ((vs.length + 2 : Nat) : Int) % 2 = 0 by omega]
      exact atI_0 _ _
    · rw [if_neg h, show ((vs.length + 2 : Nat) : Int) % 2 = 1 by omega]
      exact atI_1 _ _ _
  have eV : evalE C [] (.view (.op2 fIx (.opN fLst (.cons (.con (.str "plus")) (.cons (.con (.str "minus")) .nil))) (.op2 fMod (.opN fLen (.cons (.var 7) .nil)) (.con (.int 2))))) (LE y0 y1 y2 y4 y5 y9 y10 y11 y12 y13 y14 y15 P (vs ++ [x, y]) hs false) = .ok (.dat (.str (wop (vs.length + 2)).w)) (LE y0 y1 y2 y4 y5 y9 y10 y11 y12 y13 y14 y15 P (vs ++ [x, y]) hs false) := by
    refine ev_view (μ2 := viewE (LE y0 y1 y2 y4 y5 y9 y10 y11 y12 y13 y14 y15 P (vs ++ [x, y]) hs false)) rfl ?_ rfl
    rw [viewLE]
    have l : ((nI (vs ++ [x, y])).length : Int) = ((vs.length + 2 : Nat) : Int) := by rw [nI_len, List.length_append]; rfl
    have m2 : fMod (.int ((vs.length + 2 : Nat) : Int)) (.int 2) = some (.int (((vs.length + 2 : Nat) : Int) % 2)) := fMod_p (by omega)
    generalize ((vs.length + 2 : Nat) : Int) = L at *
    generalize nI (vs ++ [x, y]) = V at *
    generalize fz y0 = z0 at *
    generalize fz y1 = z1 at *
    generalize fz y2 = z2 at *
    generalize fz (some (PM P)) = z3 at *
    generalize fz y4 = z4 at *
    generalize fz y5 = z5 at *
    generalize fz (some (VM hs)) = z6 at *
    generalize fz y9 = z9 at *
    generalize fz y10 = z10 at *
    generalize fz y11 = z11 at *
    generalize fz y12 = z12 at *
    generalize fz y13 = z13 at *
    generalize fz y14 = z14 at *
    generalize fz y15 = z15 at *
    simp! [fLst_n, l, m2, ix]
  have p60 := pow60
  generalize hz : (wop (vs.length + 2)).z x y = z at *
  generalize wop (vs.length + 2) = o at *
  have ge : fGe (.int (z.natAbs : Int)) (.int 1000000000000000000000000000000000000000000000000000000000000) = some (.bl (tooBig z)) := by rw [fGe_i]; rfl
  have ix1 : ixN (nI (vs ++ [z])).length (-1) = some vs.length := by
    have := last_ix (nI vs) (D.int z)
    rw [← nI_app, nI_len] at this
    rw [nI_len]
    exact this.trans (by rw [nI_len])
  have at1 : (dm (nI (vs ++ [z])))[vs.length]? = some (.dat (.int z)) := by
    rw [dm_get, nI_app]
    have := last_at (nI vs) (D.int z)
    rw [nI_len] at this
    rw [this]
    rfl
  have ix2 : ixN (dm (nI (vs ++ [z]))).length (-1) = some vs.length := by rw [dm_len]; exact ix1
  unfold w22_1b
  refine (ex_nx (μ1 := LE y0 y1 y2 y4 y5 y9 y10 y11 y12 y13 y14 y15 (P ++ [Row.op o]) (vs ++ [z]) hs false) ?_).trans ?_
  · unfold LE PM VM at *
    generalize dm (P.map Row.d) = X at *
    generalize dm ((P ++ [Row.op o]).map Row.d) = X' at *
    generalize dm (nI (vs ++ [x, y])) = V at *
    generalize dm (nI (vs ++ [z])) = V' at *
    generalize dm (nI hs) = H at *
    generalize (E.view (.op2 fIx (.opN fLst (.cons (.con (.str "plus")) (.cons (.con (.str "minus")) .nil))) (.op2 fMod (.opN fLen (.cons (.var 7) .nil)) (.con (.int 2))))) = ee at *
    simp! [eV, h18]
  · refine ex_last (set_to (i := 8) rfl (ev_p2 (d1 := .int (z.natAbs : Int)) (d2 := .int 1000000000000000000000000000000000000000000000000000000000000) ?_ (ev_p2 (d1 := .int 10) (d2 := .int 60) rfl rfl p60) ge) (by show 8 < 17; decide) rfl)
    unfold LE PM VM at *
    generalize dm ((P ++ [Row.op o]).map Row.d) = X' at *
    generalize dm (nI (vs ++ [z])) = V' at *
    generalize dm (nI hs) = H at *
    simp! [ix2, at1, fAbs_n]
theorem while_stop {P : List Row} {vs hs : List Int} {g : Bool} {N : Nat} (h : (decide (1 < vs.length) && !g) = false) : whLoop (evalE C [] w22_1c) (execSs sub C [] bigN w22_1b) (N + 1) (LE y0 y1 y2 y4 y5 y9 y10 y11 y12 y13 y14 y15 P vs hs g) = .nx (LE y0 y1 y2 y4 y5 y9 y10 y11 y12 y13 y14 y15 P vs hs g) := by
  have w := wc_w (C := C) (y0 := y0) (y1 := y1) (y2 := y2) (y4 := y4) (y5 := y5) (y9 := y9) (y10 := y10) (y11 := y11) (y12 := y12) (y13 := y13) (y14 := y14) (y15 := y15) (P := P) (vs := vs) (hs := hs) (g := g)
  rw [h] at w
  exact whLoop_f w
theorem while_w {E : Env0} (h18 : ∀ (P : List Row) (vs0 : List Int) (o : Op) (x y : Int), P.length ≤ 800 → vs0.length ≤ 800 → Sm x → Sm y → C 18 [PM P, VM (vs0 ++ [x, y]), .dat (.str o.w)] = .ok (.dat .non) [some (PM (P ++ [Row.op o])), some (VM (vs0 ++ [o.z x y])), none]) :
    ∀ (m c N : Nat) (P : List Row) (vs hs : List Int), vs.length ≤ m + 1 → P.length + m ≤ 800 → P.all okB = true → Reach E c P vs hs → (∀ v ∈ vs, Sm v) → m < N → m ≤ 700 →
      ∃ P' vs' g', whLoop (evalE C [] w22_1c) (execSs sub C [] bigN w22_1b) N (LE y0 y1 y2 y4 y5 y9 y10 y11 y12 y13 y14 y15 P vs hs false) = .nx (LE y0 y1 y2 y4 y5 y9 y10 y11 y12 y13 y14 y15 P' vs' hs g') ∧ P'.all okB = true ∧ P'.length ≤ P.length + m ∧
        ((g' = false ∧ vs'.length ≤ 1 ∧ ∃ c', c' ≤ c + m ∧ Reach E c' P' vs' hs ∧ ∀ v ∈ vs', Sm v) ∨ (g' = true ∧ vs' ≠ [] ∧ ∃ c', c' ≤ c + m ∧ Great E c' P'))
  | _, _, 0, _, _, _, _, _, _, _, _, h, _ => (nomatch h)
  | 0, c, N + 1, P, vs, hs, hl, hp, ok, R, sv, _, _ => ⟨P, vs, false, while_stop (by rw [decide_eq_false (by omega)]; rfl), ok, by omega, .inl ⟨rfl, by omega, c, by omega, R, sv⟩⟩
  | m + 1, c, N + 1, P, vs, hs, hl, hp, ok, R, sv, hN, hm => by
    by_cases h1 : 1 < vs.length
    · obtain ⟨vs0, x, y, rfl⟩ := two_last h1
      have hvl : (vs0 ++ [x, y]).length = vs0.length + 2 := by rw [List.length_append]; rfl
      have w := wc_w (C := C) (y0 := y0) (y1 := y1) (y2 := y2) (y4 := y4) (y5 := y5) (y9 := y9) (y10 := y10) (y11 := y11) (y12 := y12) (y13 := y13) (y14 := y14) (y15 := y15) (P := P) (vs := vs0 ++ [x, y]) (hs := hs) (g := false)
      rw [decide_eq_true h1] at w
      have b := wb_w (C := C) (y0 := y0) (y1 := y1) (y2 := y2) (y4 := y4) (y5 := y5) (y9 := y9) (y10 := y10) (y11 := y11) (y12 := y12) (y13 := y13) (y14 := y14) (y15 := y15) (P := P) (vs := vs0) (hs := hs) (h18 P vs0 (wop (vs0.length + 2)) x y (by omega) (by omega) (sv x (by simp)) (sv y (by simp)))
      rw [whLoop_t w b]
      generalize wop (vs0.length + 2) = o at *
      have ok' : (P ++ [Row.op o]).all okB = true := by rw [List.all_append, ok]; rfl
      have pl : (P ++ [Row.op o]).length = P.length + 1 := by rw [List.length_append]; rfl
      by_cases g : tooBig (o.z x y) = true
      · rw [g]
        cases N with
        | zero => omega
        | succ N =>
          refine ⟨_, _, true, while_stop (by rw [Bool.not_true, Bool.and_false]), ok', by omega, .inr ⟨rfl, by simp, c + 1, by omega, R.great g⟩⟩
      · have g := Bool.eq_false_iff.mpr g
        rw [g]
        have sv' : ∀ v ∈ vs0 ++ [o.z x y], Sm v := sm_app (app_l sv) (tb_sm (by rw [g]; exact Bool.false_ne_true))
        obtain ⟨P', vs', g', w', k1, k2, k3⟩ := while_w h18 m (c + 1) N (P ++ [Row.op o]) (vs0 ++ [o.z x y]) hs (by rw [List.length_append]; show _ + 1 ≤ _; omega) (by omega) ok' (R.op g) sv' (by omega) (by omega)
        refine ⟨P', vs', g', w', k1, by omega, ?_⟩
        rcases k3 with ⟨q1, q2, c', q3, q4⟩ | ⟨q1, q2, c', q3, q4⟩
        · exact .inl ⟨q1, q2, c', by omega, q4⟩
        · exact .inr ⟨q1, q2, c', by omega, q4⟩
    · exact ⟨P, vs, false, while_stop (by rw [decide_eq_false h1]; rfl), ok, by omega, .inl ⟨rfl, by omega, c, by omega, R, sv⟩⟩
end
end K41
namespace K41
open PySem L2 Mi
/-! ### a code, run within a try; what comes is owned -/
abbrev RM (d : D) (l : List (Ev × Int)) : M := .tup [.dat d, .lst (dm (l.map evD))]
theorem ran_nx {C : Nat → List M → Mi.CR} {CO NS : D} {m : M} (h : C 13 [.dat CO, .dat NS, .dat (.int 5)] = .ok m [none, none, none]) : execSs sub C [] bigN fn21.body (startE fn21 [.dat CO, .dat NS]) = .ret (.tup [.dat (.str ""), m]) [some (.dat CO), some (.dat NS), some (.dat (.str "")), none] := by
  have l2 : 2 ≤ sizeLine := le_line (Nat.le_of_ble_eq_true rfl)
  have b : execSs sub C [] bigN w21_0b [some (.dat CO), some (.dat NS), some (.dat (.str "")), some (.dat .non)] = .nx [some (.dat CO), some (.dat NS), some (.dat (.str "")), some m] := by
    unfold w21_0b
    refine ex_last ?_
    simp! [h]
  unfold fn21
  dsimp! [startE]
  dsimp! []
  refine (ex_nx (ex_try_nx b)).trans ?_
  refine ex_ret ?_
  simp! [l2]
theorem ran_er {C : Nat → List M → Mi.CR} {CO NS : D} (h : C 13 [.dat CO, .dat NS, .dat (.int 5)] = .err "TooGreat" [none, none, none]) : execSs sub C [] bigN fn21.body (startE fn21 [.dat CO, .dat NS]) = .ret (.tup [.dat (.str "great"), .dat .non]) [some (.dat CO), some (.dat NS), some (.dat (.str "great")), none] := by
  have l2 : 2 ≤ sizeLine := le_line (Nat.le_of_ble_eq_true rfl)
  have b : execSs sub C [] bigN w21_0b [some (.dat CO), some (.dat NS), some (.dat (.str "")), some (.dat .non)] = .err "TooGreat" [some (.dat CO), some (.dat NS), some (.dat (.str "")), some (.dat .non)] := by
    unfold w21_0b
    refine ex_er ?_
    simp! [h]
  unfold fn21
  dsimp! [startE]
  dsimp! []
  refine (ex_nx (μ1 := [some (.dat CO), some (.dat NS), some (.dat (.str "great")), some (.dat .non)]) (ex_try_er b ?_)).trans ?_
  · refine hs_hit (by decide +kernel) (by decide +kernel) ?_
    refine ex_last ?_
    simp! []
  · refine ex_ret ?_
    simp! [l2]
theorem ran_ok {k : Nat} {rows : List Row} {at_ : Int} {ou f tf : Nat} {ns : List Int} {d : D} {l : List (Ev × Int)} (hro : ∀ r ∈ rows, r.Ok) (h1 : ou ≤ 900) (h2 : ns.length ≤ 900) (h3 : ∀ i ∈ ns, Sm i) (hf : f ≤ 700000) (ht : tf ≤ 700000) (hs : runs rows at_ ou ns 5 f tf = .ok d l) :
    callF sub tab bigN (k + tf + 7) 21 [.dat (codeD rows at_ ou), .dat (.lst (nI ns))] = .ok (.tup [.dat (.str ""), RM d l]) [none, none] := by
  have w := run_w (k := k) (rows := rows) (at_ := at_) (mo := 5) (ou := ou) (f := f) (tf := tf) (ns := ns) hro h1 h2 h3 hf ht
  rw [hs] at w
  obtain ⟨m, hm, w⟩ := w
  rw [hm] at w
  exact (call_ret (fn := fn21) rfl rfl (ran_nx w)).trans rfl
theorem ran_gr {k : Nat} {rows : List Row} {at_ : Int} {ou f tf : Nat} {ns : List Int} (hro : ∀ r ∈ rows, r.Ok) (h1 : ou ≤ 900) (h2 : ns.length ≤ 900) (h3 : ∀ i ∈ ns, Sm i) (hf : f ≤ 700000) (ht : tf ≤ 700000) (hs : runs rows at_ ou ns 5 f tf = .er "TooGreat") :
    callF sub tab bigN (k + tf + 7) 21 [.dat (codeD rows at_ ou), .dat (.lst (nI ns))] = .ok (.tup [.dat (.str "great"), .dat .non]) [none, none] := by
  have w := run_w (k := k) (rows := rows) (at_ := at_) (mo := 5) (ou := ou) (f := f) (tf := tf) (ns := ns) hro h1 h2 h3 hf ht
  rw [hs] at w
  have w : callF sub tab bigN (k + tf + 6) 13 _ = .err "TooGreat" _ := w
  exact (call_ret (fn := fn21) rfl rfl (ran_er w)).trans rfl
end K41
namespace K41
open PySem L2 Mi
/-! ### a comprehension over range(n) that makes a table -/
theorem comp_tab {own : List Nat} {t : Tg} {c e : Mi.Env → Out D} {μ : Mi.Env} {st : Nat → Mi.Env} (g : Nat → D) (hst : ∀ k : Nat, setTg t (.dat (.int (0 + (k : Nat)))) μ = some (st k)) (hc : ∀ k, c (st k) = .ok (.bl true) (st k)) (he : ∀ k, e (st k) = .ok (g k) (st k)) (hw : ∀ k, wipeE own (st k) = μ) :
    ∀ (j i : Nat) (acc : List D), compLoop own t c e ((List.range' i j).map fun k => D.int (0 + (k : Nat))) acc μ = .ok (acc ++ (List.range' i j).map g) μ
  | 0, i, acc => by
    rw [show List.range' i 0 = [] from rfl, List.map_nil, List.map_nil, List.append_nil]
    rfl
  | j + 1, i, acc => by
    rw [List.range'_succ, List.map_cons, List.map_cons]
    refine (comp_keep (hst i) (hc i) (he i)).trans ?_
    rw [hw]
    refine (comp_tab g hst hc he hw j (i + 1) (acc ++ [g i])).trans ?_
    rw [List.append_assoc]
    rfl
theorem rg_nat {n : Nat} (h : n ≤ 1000000) : fRange1 [.int n] = some ((List.range' 0 n).map fun k => D.int (0 + (k : Nat))) := by
  have e : fRange1 [.int (n : Int)] = if -(2 ^ 62) ≤ (n : Int) ∧ (n : Int) < 2 ^ 62 then some ((List.range (n : Int).toNat).map fun i => D.int (0 + (i : Nat))) else none := rfl
  rw [e, if_pos (by omega), Int.toNat_natCast, List.range_eq_range']
theorem ev_tab {C : Nat → List M → Mi.CR} {pin own : List Nat} {t : Tg} {src : Es} {e : E} {μ : Mi.Env} {st : Nat → Mi.Env} (n : Nat) (g : Nat → D) (gd : ((own.all fun i => !pin.contains i) = true && (t.slots.all fun i => own.contains i) = true) = true) (hs : evalEs C pin src μ = .ok [.dat (.int n)] μ) (hn : n ≤ 1000)
    (hst : ∀ k : Nat, setTg t (.dat (.int (0 + (k : Nat)))) μ = some (st k)) (he : ∀ k, evalE C pin e (st k) = .ok (.dat (g k)) (st k)) (hw : ∀ k, wipeE own (st k) = μ) (hw0 : wipeE own μ = μ) :
    evalE C pin (.comp false own t fRange1 src (.con (.bl true)) e) μ = .ok (.dat (.lst ((List.range n).map g))) μ := by
  refine ev_comp (ds := [.int n]) gd hs rfl (rg_nat (by omega)) ?_ (le_line (by rw [List.length_map, List.length_range]; omega))
  rw [hw0, List.range_eq_range']
  have := comp_tab (own := own) (t := t) (c := fun μ => datOf (evalE C pin (.con (.bl true)) μ)) (e := fun μ => datOf (evalE C pin e μ)) (μ := μ) g hst (fun k => rfl) (fun k => (congrArg datOf (he k)).trans rfl) hw n 0 []
  rw [List.nil_append] at this
  exact this
def pre1 : Nat → Row
  | 0 => .back
  | 1 => .drop
  | _ => .shut
def preR (q : Nat) : List Row := (List.range q).map fun k => pre1 (k % 3)
def numsL (ns : List Int) (q : Nat) : List Int := (List.range q).map fun k => lawN (cat ns (2 + k))
theorem preR_len (q : Nat) : (preR q).length = q := by unfold preR; rw [List.length_map, List.length_range]
theorem numsL_len (ns : List Int) (q : Nat) : (numsL ns q).length = q := by unfold numsL; rw [List.length_map, List.length_range]
theorem numsL_sm (ns : List Int) (q : Nat) : ∀ v ∈ numsL ns q, Sm v := fun v hv => by
  obtain ⟨k, _, rfl⟩ := List.mem_map.mp hv
  exact lawN_sm _
theorem preR_ok (q : Nat) : (preR q).all okB = true := by
  rw [List.all_eq_true]
  intro r hr
  obtain ⟨k, _, rfl⟩ := List.mem_map.mp hr
  generalize k % 3 = j
  match j with
  | 0 => rfl
  | 1 => rfl
  | _ + 2 => rfl
section
variable {C : Nat → List M → Mi.CR} {y0 y1 y2 y3 y4 y5 y6 : Option M} {ns : List Int}
theorem rows_e {q : Nat} {x : Int} (hq : q ≤ 900) (h15 : C 15 [.dat (.lst (ns.map .int)), .dat (.int 1)] = .ok (.dat (.int x)) [none, none]) (hx : fMod (.int x) (.int 4) = some (.int q)) :
    evalE C [] (.own (.comp false [15] (.one 15) fRange1 (.cons (.op2 fMod (.call false 15 (.val (.var 0) (.val (.con (.int 1)) .nil))) (.con (.int 4))) .nil) (.con (.bl true)) (.op2 fIx (.opN fLst (.cons (.opN fTup (.cons (.con (.str "back")) .nil)) (.cons (.opN fTup (.cons (.con (.str "drop")) .nil)) (.cons (.opN fTup (.cons (.con (.str "shut")) .nil)) .nil)))) (.op2 fMod (.var 15) (.con (.int 3)))))) [some (.dat (.lst (ns.map .int))), y1, y2, none, none, none, none, none, none, none, none, none, none, none, none, none, none] = .ok (PM (preR q)) [some (.dat (.lst (ns.map .int))), y1, y2, none, none, none, none, none, none, none, none, none, none, none, none, none, none] := by
  have e := ev_tab (C := C) (pin := []) (own := [15]) (t := .one 15) (src := .cons (.op2 fMod (.call false 15 (.val (.var 0) (.val (.con (.int 1)) .nil))) (.con (.int 4))) .nil) (e := .op2 fIx (.opN fLst (.cons (.opN fTup (.cons (.con (.str "back")) .nil)) (.cons (.opN fTup (.cons (.con (.str "drop")) .nil)) (.cons (.opN fTup (.cons (.con (.str "shut")) .nil)) .nil)))) (.op2 fMod (.var 15) (.con (.int 3)))) (μ := [some (.dat (.lst (ns.map .int))), y1, y2, none, none, none, none, none, none, none, none, none, none, none, none, none, none])
    (st := fun k => [some (.dat (.lst (ns.map .int))), y1, y2, none, none, none, none, none, none, none, none, none, none, none, none, some (.dat (.int (0 + (k : Nat)))), none]) q (fun k => (pre1 (k % 3)).d) rfl (by
      generalize ns.map D.int = N at *
      simp! [h15, hx]) (by omega) (fun k => rfl) (fun k => by
      have m3 : fMod (.int (0 + (k : Nat))) (.int 3) = some (.int ((k % 3 : Nat) : Int)) := (fMod_p (by omega)).trans (by rw [Int.zero_add, Int.natCast_emod]; rfl)
      have ix : atI [D.tup [.str "back"], .tup [.str "drop"], .tup [.str "shut"]] ((k % 3 : Nat) : Int) = some (pre1 (k % 3)).d := by
        have h3 : k % 3 < 3 := Nat.mod_lt _ (by omega)
        generalize k % 3 = j at *
        rcases (by omega : j = 0 ∨ j = 1 ∨ j = 2) with rfl | rfl | rfl
        · exact atI_0 _ _
        · exact atI_1 _ _ _
        · exact atI_2 _ _ _ _
      generalize ((k % 3 : Nat) : Int) = j at *
      generalize (pre1 (k % 3)).d = d at *
      refine ev_p2 (d1 := .lst [.tup [.str "back"], .tup [.str "drop"], .tup [.str "shut"]]) (d2 := .int j) ?_ (ev_p2 (d1 := .int (0 + (k : Nat))) (d2 := .int 3) rfl rfl m3) ix
      simp! [fTup_n, fLst_n]) (fun k => rfl) rfl
  show (evalE C [] (.comp false _ _ _ _ _ _) _).bind _ = _
  rw [e]
  unfold PM preR
  rw [List.map_map]
  rfl
theorem nums_e {q : Nat} {P : List Row} (hq : q ≤ 900) (src : E) (hs : ∀ z : Mi.Env, z = [some (.dat (.lst (ns.map .int))), y1, y2, some (PM P), y4, none, none, none, none, none, none, none, none, none, none, none, none] → evalE C [] src z = .ok (.dat (.int q)) z) (h15 : ∀ i : Nat, C 15 [.dat (.lst (ns.map .int)), .dat (.int i)] = .ok (.dat (.int (cat ns i))) [none, none]) (h16 : ∀ n : Int, Sd n → C 16 [.dat (.int n)] = .ok (.dat (.int (lawN n))) [none]) :
    evalE C [] (.comp false [15] (.one 15) fRange1 (.cons src .nil) (.con (.bl true)) (.call false 16 (.val (.call false 15 (.val (.var 0) (.val (.op2 fAddX (.con (.int 2)) (.var 15)) .nil))) .nil))) [some (.dat (.lst (ns.map .int))), y1, y2, some (PM P), y4, none, none, none, none, none, none, none, none, none, none, none, none] = .ok (.dat (.lst (nI (numsL ns q)))) [some (.dat (.lst (ns.map .int))), y1, y2, some (PM P), y4, none, none, none, none, none, none, none, none, none, none, none, none] := by
  have e := ev_tab (C := C) (pin := []) (own := [15]) (t := .one 15) (src := .cons src .nil) (e := .call false 16 (.val (.call false 15 (.val (.var 0) (.val (.op2 fAddX (.con (.int 2)) (.var 15)) .nil))) .nil)) (μ := [some (.dat (.lst (ns.map .int))), y1, y2, some (PM P), y4, none, none, none, none, none, none, none, none, none, none, none, none])
    (st := fun k => [some (.dat (.lst (ns.map .int))), y1, y2, some (PM P), y4, none, none, none, none, none, none, none, none, none, none, some (.dat (.int (0 + (k : Nat)))), none]) q (fun k => .int (lawN (cat ns (2 + k)))) rfl (by
      have := hs _ rfl
      show (evalE C [] src _).bind _ = _
      rw [this]
      rfl) (by omega) (fun k => rfl) (fun k => by
      have z : (2 : Int) + (0 + (k : Nat)) = ((2 + k : Nat) : Int) := by omega
      have a := h15 (2 + k)
      have b := h16 _ (cat_sd ns (2 + k))
      have ad : fAddX (.int 2) (.int (0 + (k : Nat))) = some (.int ((2 + k : Nat) : Int)) := by rw [fAddX_i, z]
      generalize ((2 + k : Nat) : Int) = j at *
      generalize cat ns (2 + k) = cc at *
      generalize ns.map D.int = N at *
      unfold PM
      generalize dm (P.map Row.d) = X
      generalize (0 : Int) + (k : Nat) = kk at *
      have eA : evalE C [] (.op2 fAddX (.con (.int 2)) (.var 15)) [some (.dat (.lst N)), y1, y2, some (.lst X), y4, none, none, none, none, none, none, none, none, none, none, some (.dat (.int kk)), none] = .ok (.dat (.int j)) [some (.dat (.lst N)), y1, y2, some (.lst X), y4, none, none, none, none, none, none, none, none, none, none, some (.dat (.int kk)), none] := ev_p2 (d1 := .int 2) (d2 := .int kk) rfl rfl ad
      generalize (E.op2 fAddX (.con (.int 2)) (.var 15)) = ee at *
      simp! [eA, a, b]) (fun k => rfl) rfl
  rw [e]
  unfold nI numsL
  rw [List.map_map]
  rfl
end
end K41
namespace K41
open PySem L2 Mi
def more6 (x : Int) : Int := 6 * (if x / 3 % 8 = 3 then 1 else 0)
theorem more6_b (x : Int) : 0 ≤ more6 x ∧ more6 x ≤ 6 := by unfold more6; split <;> omega
section
variable {C : Nat → List M → Mi.CR} {ns : List Int}
/-- ahead of the loop -/
theorem head_w {ou q nq : Nat} (h15 : ∀ i : Nat, C 15 [.dat (.lst (ns.map .int)), .dat (.int i)] = .ok (.dat (.int (cat ns i))) [none, none]) (h16 : ∀ n : Int, Sd n → C 16 [.dat (.int n)] = .ok (.dat (.int (lawN n))) [none])
    (ho : more6 (cat ns 0) + cat ns 0 % 3 = ou) (hq : cat ns 1 % 4 = q) (hn : more6 (cat ns 0) + cat ns 1 / 4 % 4 = nq) :
    execSs sub C [] bigN fn22.body (startE fn22 [.dat (.lst (ns.map .int))]) = execSs sub C [] bigN (tl (tl (tl (tl (tl (tl (tl (tl fn22.body)))))))) (LE (some (.dat (.lst (ns.map .int)))) (some (.dat (.int (more6 (cat ns 0))))) (some (.dat (.int ou))) (some (.dat (.int q))) (some (.dat (.lst (nI (numsL ns nq))))) none none none none none none none (preR q) [] (numsL ns nq) false) := by
  have c0 : C 15 [.dat (.lst (ns.map .int)), .dat (.int 0)] = .ok (.dat (.int (cat ns 0))) [none, none] := h15 0
  have c1 : C 15 [.dat (.lst (ns.map .int)), .dat (.int 1)] = .ok (.dat (.int (cat ns 1))) [none, none] := h15 1
  have b6 := more6_b (cat ns 0)
  have d3 : fDivW (.int (cat ns 0)) (.int 3) = some (.int (cat ns 0 / 3)) := fDivW_p (by omega) (by omega)
  have d4 : fDivW (.int (cat ns 1)) (.int 4) = some (.int (cat ns 1 / 4)) := fDivW_p (by omega) (by omega)
  have r8 : fMod (.int (cat ns 0 / 3)) (.int 8) = some (.int (cat ns 0 / 3 % 8)) := fMod_p (by omega)
  have r3 : fMod (.int (cat ns 0)) (.int 3) = some (.int (cat ns 0 % 3)) := fMod_p (by omega)
  have r4 : fMod (.int (cat ns 1)) (.int 4) = some (.int q) := (fMod_p (by omega)).trans (by rw [hq])
  have r44 : fMod (.int (cat ns 1 / 4)) (.int 4) = some (.int (cat ns 1 / 4 % 4)) := fMod_p (by omega)
  have fe : fEq (.int (cat ns 0 / 3 % 8)) (.int 3) = some (.bl (decide (cat ns 0 / 3 % 8 = 3))) := fEq_i _ _
  have fm : fMul (.int 6) (.int (if cat ns 0 / 3 % 8 = 3 then 1 else 0)) = some (.int (more6 (cat ns 0))) := fMul_l (by omega) (by omega)
  have fi : fInt [.bl (decide (cat ns 0 / 3 % 8 = 3))] = some (.int (if cat ns 0 / 3 % 8 = 3 then 1 else 0)) := by
    rw [fInt_b]
    by_cases h : cat ns 0 / 3 % 8 = 3
    · rw [decide_eq_true h, if_pos h]; rfl
    · rw [decide_eq_false h, if_neg h]; rfl
  have re := rows_e (C := C) (ns := ns) (y1 := some (.dat (.int (more6 (cat ns 0))))) (y2 := some (.dat (.int ou))) (q := q) (by omega) c1 r4
  have ne := nums_e (C := C) (ns := ns) (y1 := some (.dat (.int (more6 (cat ns 0))))) (y2 := some (.dat (.int ou))) (y4 := some (.dat (.int q))) (q := nq) (P := preR q) (by omega) (.op2 fAddX (.var 1) (.op2 fMod (.op2 fDivW (.call false 15 (.val (.var 0) (.val (.con (.int 1)) .nil))) (.con (.int 4))) (.con (.int 4)))) (fun z hz => by
    subst hz
    have ad : fAddX (.int (more6 (cat ns 0))) (.int (cat ns 1 / 4 % 4)) = some (.int nq) := by rw [fAddX_i, hn]
    generalize ns.map D.int = N at *
    unfold PM
    generalize dm ((preR q).map Row.d) = X
    generalize more6 (cat ns 0) = m6 at *
    refine ev_p2 (d1 := .int m6) (d2 := .int (cat ns 1 / 4 % 4)) rfl ?_ ad
    simp! [c1, d4, r44]) h15 h16
  have l0 : fLst [] = some (.lst []) := rfl
  have li : fList [.lst (nI (numsL ns nq))] = some (.lst (nI (numsL ns nq))) := rfl
  have lD : (((preR q).map Row.d).length : Int) = (q : Nat) := by rw [List.length_map, preR_len]
  unfold fn22
  refine (ex_nx (μ1 := [some (.dat (.lst (ns.map .int))), some (.dat (.int (more6 (cat ns 0)))), none, none, none, none, none, none, none, none, none, none, none, none, none, none, none]) ?_).trans ?_
  · generalize ns.map D.int = N at *
    generalize more6 (cat ns 0) = m6 at *
    generalize (if cat ns 0 / 3 % 8 = 3 then (1 : Int) else 0) = i1 at *
    generalize decide (cat ns 0 / 3 % 8 = 3) = dd at *
    simp! [startE, c0, d3, r8, fe, fi, fm]
  refine (ex_nx (μ1 := [some (.dat (.lst (ns.map .int))), some (.dat (.int (more6 (cat ns 0)))), some (.dat (.int ou)), none, none, none, none, none, none, none, none, none, none, none, none, none, none]) ?_).trans ?_
  · generalize ns.map D.int = N at *
    generalize more6 (cat ns 0) = m6 at *
    simp! [c0, r3, ho]
  refine (ex_nx (set_to (i := 3) rfl re (by show 3 < 17; decide) rfl)).trans ?_
  refine (ex_nx (μ1 := [some (.dat (.lst (ns.map .int))), some (.dat (.int (more6 (cat ns 0)))), some (.dat (.int ou)), some (PM (preR q)), some (.dat (.int q)), none, none, none, none, none, none, none, none, none, none, none, none]) ?_).trans ?_
  · generalize ns.map D.int = N at *
    generalize more6 (cat ns 0) = m6 at *
    unfold PM
    generalize (preR q).map Row.d = X at *
    have eV : evalE C [] (.view (.opN fLen (.cons (.var 3) .nil))) [some (.dat (.lst N)), some (.dat (.int m6)), some (.dat (.int ou)), some (.lst (dm X)), none, none, none, none, none, none, none, none, none, none, none, none, none] = .ok (.dat (.int q)) [some (.dat (.lst N)), some (.dat (.int m6)), some (.dat (.int ou)), some (.lst (dm X)), none, none, none, none, none, none, none, none, none, none, none, none, none] := by
      refine view_i (μ2 := viewE [some (.dat (.lst N)), some (.dat (.int m6)), some (.dat (.int ou)), some (.lst (dm X)), none, none, none, none, none, none, none, none, none, none, none, none, none]) rfl ?_
      simp! [dm_toDs, lD]
    exact set_to (i := 4) rfl eV (by show 4 < 17; decide) rfl
  refine (ex_nx (set_to (i := 5) rfl ne (by show 5 < 17; decide) rfl)).trans ?_
  refine (ex_nx (μ1 := [some (.dat (.lst (ns.map .int))), some (.dat (.int (more6 (cat ns 0)))), some (.dat (.int ou)), some (PM (preR q)), some (.dat (.int q)), some (.dat (.lst (nI (numsL ns nq)))), some (VM (numsL ns nq)), none, none, none, none, none, none, none, none, none, none]) ?_).trans ?_
  · have ow : evalE C [] (.own (.opN fList (.cons (.var 5) .nil))) [some (.dat (.lst (ns.map .int))), some (.dat (.int (more6 (cat ns 0)))), some (.dat (.int ou)), some (PM (preR q)), some (.dat (.int q)), some (.dat (.lst (nI (numsL ns nq)))), none, none, none, none, none, none, none, none, none, none, none] = .ok (VM (numsL ns nq)) [some (.dat (.lst (ns.map .int))), some (.dat (.int (more6 (cat ns 0)))), some (.dat (.int ou)), some (PM (preR q)), some (.dat (.int q)), some (.dat (.lst (nI (numsL ns nq)))), none, none, none, none, none, none, none, none, none, none, none] := rfl
    exact set_to (i := 6) rfl ow (by show 6 < 17; decide) rfl
  refine (ex_nx (μ1 := [some (.dat (.lst (ns.map .int))), some (.dat (.int (more6 (cat ns 0)))), some (.dat (.int ou)), some (PM (preR q)), some (.dat (.int q)), some (.dat (.lst (nI (numsL ns nq)))), some (VM (numsL ns nq)), some (VM []), none, none, none, none, none, none, none, none, none]) ?_).trans ?_
  · exact set_to (i := 7) (m := VM []) rfl rfl (by show 7 < 17; decide) rfl
  exact ex_nx (set_to (i := 8) (m := .dat (.bl false)) rfl rfl (by show 8 < 17; decide) rfl)
theorem slice_5 (ns : List Int) : ∃ cs : List Int, cs.length ≤ 40 ∧ fSlL [.lst (ns.map .int), .int 5, .int 45] = some (.lst (cs.map .int)) := by
  have h1 : HT.sIx (ns.map D.int).length 0 (some 5) = min 5 (ns.map D.int).length := rfl
  have h2 : HT.sIx (ns.map D.int).length (ns.map D.int).length (some 45) = min 45 (ns.map D.int).length := rfl
  refine ⟨(ns.drop (min 5 (ns.map D.int).length)).take (min 45 (ns.map D.int).length - min 5 (ns.map D.int).length), ?_, ?_⟩
  · rw [List.length_take]
    omega
  · show ((optI (.int 5)).bind fun l => (optI (.int 45)).bind fun hh => some (D.lst (cutD (ns.map .int) l hh))) = _
    simp only [optI, Option.bind]
    unfold cutD
    rw [h1, h2, List.map_take, List.map_drop]
end
end K41
namespace K41
open PySem L2 Mi
theorem lay_cons {n : Nat} {d : D} {xs : List D} (h : Lay n d) (hs : ∀ e ∈ xs, Lay n e) : ∀ e ∈ d :: xs, Lay n e := fun e he => by
  rcases List.mem_cons.mp he with rfl | q
  · exact h
  · exact hs e q
theorem lay_nil {n : Nat} : ∀ e ∈ ([] : List D), Lay n e := fun e he => (nomatch he)
theorem lay_wi {n : Nat} (s : Str) (h : PyData.strOk s = true) {i : Int} : Lay (n + 1) (.tup [.str s, .int i]) := Lay.tup (lay_cons (Lay.str h) (lay_cons Lay.int lay_nil))
theorem lay_1w {n : Nat} (s : Str) (h : PyData.strOk s = true) : Lay (n + 1) (.tup [.str s]) := Lay.tup (lay_cons (Lay.str h) lay_nil)
theorem lay_row (r : Row) : Lay 3 r.d := by
  cases r with
  | num i => exact lay_wi _ (by decide +kernel)
  | loc i => exact lay_wi _ (by decide +kernel)
  | keep => exact lay_1w _ (by decide +kernel)
  | drop => exact lay_1w _ (by decide +kernel)
  | nil => exact lay_1w _ (by decide +kernel)
  | isN => exact lay_1w _ (by decide +kernel)
  | jump t => exact lay_wi _ (by decide +kernel)
  | unl t => exact lay_wi _ (by decide +kernel)
  | op o => cases o <;> exact lay_1w _ (by decide +kernel)
  | mk p j => cases p <;> exact lay_wi _ (by decide +kernel)
  | look w => cases w <;> exact lay_1w _ (by decide +kernel)
  | opn => exact lay_1w _ (by decide +kernel)
  | shut => exact lay_1w _ (by decide +kernel)
  | call t n hs => exact Lay.tup (lay_cons (Lay.str (by decide +kernel)) (lay_cons Lay.int (lay_cons Lay.int (lay_cons (Lay.tup fun d hd => by
      obtain ⟨i, _, rfl⟩ := List.mem_map.mp hd
      exact Lay.int) lay_nil))))
  | back => exact lay_1w _ (by decide +kernel)
theorem lay_code (rows : List Row) (at_ : Int) (ou : Nat) : Lay 5 (codeD rows at_ ou) := Lay.tup (lay_cons (Lay.lst fun d hd => by
    obtain ⟨r, _, rfl⟩ := List.mem_map.mp hd
    exact lay_row r) (lay_cons Lay.int (lay_cons Lay.int lay_nil)))
theorem lay_ev (e : Ev × Int) : Lay 1 (evD e) := by
  obtain ⟨w, i⟩ := e
  cases w with
  | opn => exact lay_wi "open" (by decide +kernel)
  | shut => exact lay_wi "shut" (by decide +kernel)
  | lay => exact lay_wi "lay" (by decide +kernel)
  | look => exact lay_wi "look" (by decide +kernel)
theorem lay_told (v : Int) (l : List (Ev × Int)) : Lay 3 (.tup [.int v, lgs l]) := Lay.tup (lay_cons Lay.int (lay_cons (Lay.lst fun d hd => by
    obtain ⟨e, _, rfl⟩ := List.mem_map.mp hd
    exact lay_ev e) lay_nil))
theorem lay_end (v : Int) (l : List (Ev × Int)) : Lay 4 (.tup [.str "", .tup [.int v, lgs l]]) := Lay.tup (lay_cons (Lay.str (by decide +kernel)) (lay_cons (lay_told v l) lay_nil))
theorem lay_ns (ns : List Int) : Lay 1 (.lst (nI ns)) := Lay.ints ns
/-! what is due of the log -/
theorem due_log (ou : Nat) : lgs (opens ou ++ shuts ou) = .lst (((List.range ou).map fun k => D.tup [.str "open", .int (0 + (k : Nat))]) ++ (List.range ou).map fun k => D.tup [.str "shut", .int ((ou : Int) - 1 - (0 + (k : Nat)))]) := by
  unfold lgs opens shuts rgI downs
  rw [List.map_append, List.map_map, List.map_map, List.map_map, List.map_map]
  congr 2
  · refine List.map_congr_left fun k _ => ?_
    show D.tup [.str "open", .int (k : Nat)] = _
    rw [Int.zero_add]
section
variable {C : Nat → List M → Mi.CR} {y0 y1 y4 y5 y9 y10 y11 y13 y14 : Option M} {Z3 Z6 Z7 : M} {g : Bool} {ou : Nat}
theorem due_e (ho : ou ≤ 400) : evalE C [] (.op2 fAddX (.comp false [15] (.one 15) fRange1 (.cons (.var 2) .nil) (.con (.bl true)) (.opN fTup (.cons (.con (.str "open")) (.cons (.var 15) .nil)))) (.comp false [15] (.one 15) fRange1 (.cons (.var 2) .nil) (.con (.bl true)) (.opN fTup (.cons (.con (.str "shut")) (.cons (.op2 fSub (.op2 fSub (.var 2) (.con (.int 1))) (.var 15)) .nil))))) [y0, y1, some (.dat (.int ou)), some Z3, y4, y5, some Z6, some Z7, some (.dat (.bl g)), y9, y10, y11, none, y13, y14, none, none] = .ok (.dat (lgs (opens ou ++ shuts ou))) [y0, y1, some (.dat (.int ou)), some Z3, y4, y5, some Z6, some Z7, some (.dat (.bl g)), y9, y10, y11, none, y13, y14, none, none] := by
  have e1 := ev_tab (C := C) (pin := []) (own := [15]) (t := .one 15) (src := .cons (.var 2) .nil) (e := .opN fTup (.cons (.con (.str "open")) (.cons (.var 15) .nil))) (μ := [y0, y1, some (.dat (.int ou)), some Z3, y4, y5, some Z6, some Z7, some (.dat (.bl g)), y9, y10, y11, none, y13, y14, none, none]) (st := fun k => [y0, y1, some (.dat (.int ou)), some Z3, y4, y5, some Z6, some Z7, some (.dat (.bl g)), y9, y10, y11, none, y13, y14, some (.dat (.int (0 + (k : Nat)))), none]) ou (fun k => .tup [.str "open", .int (0 + (k : Nat))]) rfl (by simp! []) (by omega) (fun k => rfl) (fun k => by
    generalize (0 : Int) + (k : Nat) = kk
    simp! [fTup_n]) (fun k => rfl) rfl
  have e2 := ev_tab (C := C) (pin := []) (own := [15]) (t := .one 15) (src := .cons (.var 2) .nil) (e := .opN fTup (.cons (.con (.str "shut")) (.cons (.op2 fSub (.op2 fSub (.var 2) (.con (.int 1))) (.var 15)) .nil))) (μ := [y0, y1, some (.dat (.int ou)), some Z3, y4, y5, some Z6, some Z7, some (.dat (.bl g)), y9, y10, y11, none, y13, y14, none, none]) (st := fun k => [y0, y1, some (.dat (.int ou)), some Z3, y4, y5, some Z6, some Z7, some (.dat (.bl g)), y9, y10, y11, none, y13, y14, some (.dat (.int (0 + (k : Nat)))), none]) ou (fun k => .tup [.str "shut", .int ((ou : Int) - 1 - (0 + (k : Nat)))]) rfl (by simp! []) (by omega) (fun k => rfl) (fun k => by
    generalize (0 : Int) + (k : Nat) = kk
    simp! [fTup_n, fSub_i]) (fun k => rfl) rfl
  refine (ev_p2 e1 e2 (fAddX_l (le_line (by rw [List.length_map, List.length_map, List.length_range]; omega)))).trans ?_
  rw [due_log]
end
end K41
namespace K41
open PySem L2 Mi
section
variable {C : Nat → List M → Mi.CR} {S NS : D} {m6 q : Int} {ou : Nat} {y9 : Option M} {P : List Row} {vs hs : List Int} {g : Bool} {wd : Str} {F : M}
abbrev FE (S NS : D) (m6 q : Int) (ou : Nat) (y9 : Option M) (rows : List Row) (vs hs : List Int) (g : Bool) (y12 y13 y14 : Option M) : Mi.Env := [some (.dat S), some (.dat (.int m6)), some (.dat (.int ou)), some (.dat (.lst (rows.map Row.d))), some (.dat (.int q)), some (.dat NS), some (VM hs), some (VM vs), some (.dat (.bl g)), y9, some (.dat (codeD rows q ou)), some (.dat NS), y12, y13, y14, none, none]
/-- from the last row to the compare -/
theorem mid_w (lp : P.length ≤ 800) (hN : fList [NS] = some NS) (hL : Lay 5 NS) (h21 : C 21 [.dat (codeD (P ++ [Row.back]) q ou), .dat NS] = .ok (.tup [.dat (.str wd), F]) [none, none]) :
    execSs sub C [] bigN (tl (tl (tl (tl (tl (tl (tl (tl (tl (tl (tl fn22.body))))))))))) (LE (some (.dat S)) (some (.dat (.int m6))) (some (.dat (.int ou))) (some (.dat (.int q))) (some (.dat NS)) y9 none none none none none none P vs hs g) = execSs sub C [] bigN (tl (tl (tl (tl (tl (tl (tl (tl (tl (tl (tl (tl (tl (tl (tl (tl fn22.body)))))))))))))))) (FE S NS m6 q ou y9 (P ++ [Row.back]) vs hs g none (some (.dat (.str wd))) (some F)) := by
  have a := app_PM (P := P) (r := Row.back) (by omega)
  have rb : Row.back.d = .tup [.str "back"] := rfl
  rw [rb] at a
  have ln := fNe_self (lay_code (P ++ [Row.back]) q ou) (by omega)
  have l2 := fNe_self hL (by omega)
  have li : fList [.lst ((P ++ [Row.back]).map Row.d)] = some (.lst ((P ++ [Row.back]).map Row.d)) := rfl
  have cd : codeD (P ++ [Row.back]) q ou = .tup [.lst ((P ++ [Row.back]).map Row.d), .int q, .int ou] := rfl
  unfold FE
  rw [cd] at ln h21 ⊢
  unfold PM at a
  unfold LE PM
  generalize (P ++ [Row.back]).map Row.d = X at *
  generalize VM hs = H at *
  generalize VM vs = V at *
  unfold fn22
  refine (ex_nx (μ1 := [some (.dat S), some (.dat (.int m6)), some (.dat (.int ou)), some (.lst (dm X)), some (.dat (.int q)), some (.dat NS), some H, some V, some (.dat (.bl g)), y9, none, none, none, none, none, none, none]) ?_).trans ?_
  · generalize dm (P.map Row.d) = Y at *
    simp! [fTup_n, a]
  refine (ex_nx (μ1 := [some (.dat S), some (.dat (.int m6)), some (.dat (.int ou)), some (.dat (.lst X)), some (.dat (.int q)), some (.dat NS), some H, some V, some (.dat (.bl g)), y9, some (.dat (.tup [.lst X, .int q, .int ou])), none, none, none, none, none, none]) (ex_frz (m := .lst (dm X)) rfl ?_)).trans ?_
  · rw [dm_toD]
    show execS sub C [] bigN _ [some (.dat S), some (.dat (.int m6)), some (.dat (.int ou)), some (.dat (.lst X)), some (.dat (.int q)), some (.dat NS), some H, some V, some (.dat (.bl g)), y9, none, none, none, none, none, none, none] = _
    simp! [li, fTup_n]
  refine (ex_nx (μ1 := [some (.dat S), some (.dat (.int m6)), some (.dat (.int ou)), some (.dat (.lst X)), some (.dat (.int q)), some (.dat NS), some H, some V, some (.dat (.bl g)), y9, some (.dat (.tup [.lst X, .int q, .int ou])), some (.dat NS), none, none, none, none, none]) ?_).trans ?_
  · simp! [hN]
  refine (ex_nx (μ1 := [some (.dat S), some (.dat (.int m6)), some (.dat (.int ou)), some (.dat (.lst X)), some (.dat (.int q)), some (.dat NS), some H, some V, some (.dat (.bl g)), y9, some (.dat (.tup [.lst X, .int q, .int ou])), some (.dat NS), none, some (.dat (.str wd)), some F, none, none]) ?_).trans ?_
  · simp! [h21]
  refine (ex_nx (ite_f (μ1 := [some (.dat S), some (.dat (.int m6)), some (.dat (.int ou)), some (.dat (.lst X)), some (.dat (.int q)), some (.dat NS), some H, some V, some (.dat (.bl g)), y9, some (.dat (.tup [.lst X, .int q, .int ou])), some (.dat NS), none, some (.dat (.str wd)), some F, none, none]) ?_ ex_nil)).trans rfl
  simp! [fTup_n, ln, l2]
/-- a great number came -/
theorem endG {rows : List Row} : ∃ μ : Mi.Env, execSs sub C [] bigN (tl (tl (tl (tl (tl (tl (tl (tl (tl (tl (tl (tl (tl (tl (tl (tl fn22.body)))))))))))))))) (FE S NS m6 q ou y9 rows vs hs true none (some (.dat (.str "great"))) (some (.dat .non))) = .ret (.dat (.bl true)) μ := by
  refine ⟨FE S NS m6 q ou y9 rows vs hs true none (some (.dat (.str "great"))) (some (.dat .non)), ?_⟩
  unfold FE
  generalize codeD rows q ou = CO at *
  generalize rows.map Row.d = X at *
  generalize VM hs = H at *
  generalize VM vs = V at *
  unfold fn22
  refine ex_one (R := .ret _ _) (ite_t (μ1 := [some (.dat S), some (.dat (.int m6)), some (.dat (.int ou)), some (.dat (.lst X)), some (.dat (.int q)), some (.dat NS), some H, some V, some (.dat (.bl true)), y9, some (.dat CO), some (.dat NS), none, some (.dat (.str "great")), some (.dat .non), none, none]) (by simp! []) (ex_ret ?_)) (fun _ z => by cases z)
  simp! []
theorem told_2D (d : D) (l : List (Ev × Int)) : M.toD (.tup [.dat (.str ""), RM d l]) = .tup [.str "", .tup [d, lgs l]] := by
  show D.tup [.str "", M.toD (RM d l)] = _
  rw [told_D]
  rfl
/-- the value came -/
theorem endV {rows : List Row} {v : Int} (ho : ou ≤ 400) (h21 : C 21 [.dat (codeD rows q ou), .dat NS] = .ok (.tup [.dat (.str ""), RM (.int v) (opens ou ++ shuts ou)]) [none, none]) :
    ∃ μ : Mi.Env, execSs sub C [] bigN (tl (tl (tl (tl (tl (tl (tl (tl (tl (tl (tl (tl (tl (tl (tl (tl fn22.body)))))))))))))))) (FE S NS m6 q ou y9 rows [v] hs false none (some (.dat (.str ""))) (some (RM (.int v) (opens ou ++ shuts ou)))) = .ret (.dat (.bl true)) μ := by
  have de := due_e (C := C) (y0 := some (.dat S)) (y1 := some (.dat (.int m6))) (y4 := some (.dat (.int q))) (y5 := some (.dat NS)) (y9 := y9) (y10 := some (.dat (codeD rows q ou))) (y11 := some (.dat NS)) (y13 := some (.dat (.str ""))) (y14 := some (RM (.int v) (opens ou ++ shuts ou))) (Z3 := .dat (.lst (rows.map Row.d))) (Z6 := VM hs) (Z7 := VM [v]) (g := false) ho
  have tD := told_D (.int v) (opens ou ++ shuts ou)
  have t2 := told_2D (.int v) (opens ou ++ shuts ou)
  have n1 := fNe_self (lay_told v (opens ou ++ shuts ou)) (by omega)
  have q1 := fEq_self (lay_end v (opens ou ++ shuts ou)) (by omega)
  have ll : ((opens ou ++ shuts ou).map evD).length ≤ 900000 := by
    rw [List.length_map, List.length_append, opens_len]
    unfold shuts downs
    rw [List.length_map, List.length_map, List.length_range]
    omega
  have p := fAppend_dm (xs := (opens ou ++ shuts ou).map evD) (d := .int 0) ll
  have it : ∀ xs : List D, fIsi "tuple" (.tup xs) = some (.bl true) := fun _ => rfl
  have il : ∀ xs : List D, fIsi "list" (.lst xs) = some (.bl true) := fun _ => rfl
  have hlg : D.lst ((opens ou ++ shuts ou).map evD) = lgs (opens ou ++ shuts ou) := rfl
  have a0 : ∀ x y : D, atI [x, y] 0 = some x := fun x y => atI_0 x [y]
  have a1 : ∀ x y : D, atI [x, y] 1 = some y := fun x y => atI_1 x y []
  have vD : M.toD (VM [v]) = .lst [.int v] := dm_toD _
  have il2 : ∀ l : List (Ev × Int), fIsi "list" (lgs l) = some (.bl true) := fun _ => rfl
  refine ⟨FE S NS m6 q ou y9 rows [v] hs false (some (.dat (lgs (opens ou ++ shuts ou)))) (some (.dat (.str ""))) (some (.tup [.dat (.int v), .lst (dm ((opens ou ++ shuts ou).map evD ++ [.int 0]))])), ?_⟩
  unfold FE
  have hx : M.toD (RM (.int v) (opens ou ++ shuts ou)) = .tup [.int v, lgs (opens ou ++ shuts ou)] := tD
  generalize codeD rows q ou = CO at *
  generalize rows.map Row.d = X at *
  generalize VM hs = H at *
  unfold fn22
  refine (ex_nx (ite_f (μ1 := [some (.dat S), some (.dat (.int m6)), some (.dat (.int ou)), some (.dat (.lst X)), some (.dat (.int q)), some (.dat NS), some H, some (VM [v]), some (.dat (.bl false)), y9, some (.dat CO), some (.dat NS), none, some (.dat (.str "")), some (RM (.int v) (opens ou ++ shuts ou)), none, none]) (by
    generalize RM (.int v) (opens ou ++ shuts ou) = R
    generalize VM [v] = V
    simp! []) ex_nil)).trans ?_
  refine (ex_nx (set_to (i := 12) rfl de (by show 12 < 17; decide) rfl)).trans ?_
  have hL : fIsi "list" (lgs (opens ou ++ shuts ou)) = some (.bl true) := rfl
  generalize lgs (opens ou ++ shuts ou) = L at *
  have view : ∀ (e : E), e.pure = true → (∀ z3 z6 : D, evalE C [] e [some (.dat S), some (.dat (.int m6)), some (.dat (.int ou)), some (.dat z3), some (.dat (.int q)), some (.dat NS), some (.dat z6), some (.dat (.lst [.int v])), some (.dat (.bl false)), fz y9, some (.dat CO), some (.dat NS), some (.dat L), some (.dat (.str "")), some (.dat (.tup [.int v, L])), none, none] = .ok (.dat (.bl false)) [some (.dat S), some (.dat (.int m6)), some (.dat (.int ou)), some (.dat z3), some (.dat (.int q)), some (.dat NS), some (.dat z6), some (.dat (.lst [.int v])), some (.dat (.bl false)), fz y9, some (.dat CO), some (.dat NS), some (.dat L), some (.dat (.str "")), some (.dat (.tup [.int v, L])), none, none]) →
      evalE C [] (.view e) [some (.dat S), some (.dat (.int m6)), some (.dat (.int ou)), some (.dat (.lst X)), some (.dat (.int q)), some (.dat NS), some H, some (VM [v]), some (.dat (.bl false)), y9, some (.dat CO), some (.dat NS), some (.dat L), some (.dat (.str "")), some (RM (.int v) (opens ou ++ shuts ou)), none, none] = .ok (.dat (.bl false)) [some (.dat S), some (.dat (.int m6)), some (.dat (.int ou)), some (.dat (.lst X)), some (.dat (.int q)), some (.dat NS), some H, some (VM [v]), some (.dat (.bl false)), y9, some (.dat CO), some (.dat NS), some (.dat L), some (.dat (.str "")), some (RM (.int v) (opens ou ++ shuts ou)), none, none] := fun e hp he => by
    have h := he (.lst X) (M.toD H)
    rw [← vD, ← hx] at h
    exact view_b hp h
  refine (ex_nx (ite_f (view _ rfl fun z3 z6 => ?_) ex_nil)).trans ?_
  · simp! [it, a0, fTup_n, n1, atI_0]
  refine (ex_nx (ite_f (view _ rfl fun z3 z6 => ?_) ex_nil)).trans ?_
  · simp! [a0, a1, hL]
  have e20 : execS sub C [] bigN (.expr (.mut 0 fAppend .nil (.idx (.root 14) (.con (.int 1))) (.cons (.con (.int 0)) .nil))) [some (.dat S), some (.dat (.int m6)), some (.dat (.int ou)), some (.dat (.lst X)), some (.dat (.int q)), some (.dat NS), some H, some (VM [v]), some (.dat (.bl false)), y9, some (.dat CO), some (.dat NS), some (.dat L), some (.dat (.str "")), some (RM (.int v) (opens ou ++ shuts ou)), none, none] = .nx [some (.dat S), some (.dat (.int m6)), some (.dat (.int ou)), some (.dat (.lst X)), some (.dat (.int q)), some (.dat NS), some H, some (VM [v]), some (.dat (.bl false)), y9, some (.dat CO), some (.dat NS), some (.dat L), some (.dat (.str "")), some (.tup [.dat (.int v), .lst (dm ((opens ou ++ shuts ou).map evD ++ [.int 0]))]), none, none] := by
    unfold RM
    generalize VM [v] = V
    generalize dm ((opens ou ++ shuts ou).map evD ++ [.int 0]) = Y2 at *
    generalize dm ((opens ou ++ shuts ou).map evD) = Y at *
    have i1 : ixN 2 1 = some 1 := by decide
    simp! [i1, p]
  refine (ex_nx e20).trans ?_
  generalize (M.tup [.dat (.int v), .lst (dm ((opens ou ++ shuts ou).map evD ++ [.int 0]))]) = RR2
  have i0 : ixN 1 0 = some 0 := by decide
  have eP : evalE C [] (.pth (.idx (.root 7) (.con (.int 0)))) [some (.dat S), some (.dat (.int m6)), some (.dat (.int ou)), some (.dat (.lst X)), some (.dat (.int q)), some (.dat NS), some H, some (VM [v]), some (.dat (.bl false)), y9, some (.dat CO), some (.dat NS), some (.dat L), some (.dat (.str "")), some RR2, none, none] = .ok (.dat (.int v)) [some (.dat S), some (.dat (.int m6)), some (.dat (.int ou)), some (.dat (.lst X)), some (.dat (.int q)), some (.dat NS), some H, some (VM [v]), some (.dat (.bl false)), y9, some (.dat CO), some (.dat NS), some (.dat L), some (.dat (.str "")), some RR2, none, none] := rfl
  refine ex_ret (ret_e (ev_p2 (d1 := .tup [.str "", .tup [.int v, L]]) (d2 := .tup [.str "", .tup [.int v, L]]) ?_ ?_ q1))
  · generalize (M.tup [.dat (.str ""), RM (.int v) (opens ou ++ shuts ou)]) = W at *
    generalize VM [v] = V
    simp! [h21, t2]
  · generalize VM [v] = V at *
    generalize (E.pth (.idx (.root 7) (.con (.int 0)))) = ee at *
    simp! [eP, fTup_n]
end
end K41
namespace K41
open PySem L2 Mi
section
variable {C : Nat → List M → Mi.CR} {y0 y1 y2 y4 y5 y9 y10 y11 y12 y13 y14 y15 : Option M} {P : List Row} {vs hs : List Int} {g : Bool}
theorem ec_w : evalE C [] (.view (.op2 fEq (.opN fLen (.cons (.var 7) .nil)) (.con (.int 0)))) (LE y0 y1 y2 y4 y5 y9 y10 y11 y12 y13 y14 y15 P vs hs g) = .ok (.dat (.bl (decide (vs.length = 0)))) (LE y0 y1 y2 y4 y5 y9 y10 y11 y12 y13 y14 y15 P vs hs g) := by
  refine view_b (μ2 := viewE (LE y0 y1 y2 y4 y5 y9 y10 y11 y12 y13 y14 y15 P vs hs g)) rfl ?_
  rw [viewLE]
  have l := lenI vs
  generalize nI vs = V at *
  generalize fz y0 = z0 at *
  generalize fz y1 = z1 at *
  generalize fz y2 = z2 at *
  generalize fz (some (PM P)) = z3 at *
  generalize fz y4 = z4 at *
  generalize fz y5 = z5 at *
  generalize fz (some (VM hs)) = z6 at *
  generalize fz y9 = z9 at *
  generalize fz y10 = z10 at *
  generalize fz y11 = z11 at *
  generalize fz y12 = z12 at *
  generalize fz y13 = z13 at *
  generalize fz y14 = z14 at *
  generalize fz y15 = z15 at *
  have e : fEq (.int (V.length : Nat)) (.int 0) = some (.bl (decide (vs.length = 0))) := by
    rw [fEq_i, l]
    congr 2
    by_cases h : vs.length = 0
    · rw [decide_eq_true h, decide_eq_true (by omega)]
    · rw [decide_eq_false h, decide_eq_false (by omega)]
  refine ev_p2 (d1 := .int (V.length : Nat)) (d2 := .int 0) ?_ rfl e
  simp! []
abbrev emS : Mi.S := .ite (.view (.op2 fEq (.opN fLen (.cons (.var 7) .nil)) (.con (.int 0)))) (.cons (.expr (.mut 0 fAppend .nil (.root 3) (.cons (.opN fTup (.cons (.con (.str "number")) (.cons (.con (.int 0)) .nil))) .nil)))
  (.cons (.expr (.mut 0 fAppend .nil (.root 7) (.cons (.con (.int 0)) .nil)))
  .nil)) .nil
theorem em_no (h : vs ≠ []) : execS sub C [] bigN emS (LE y0 y1 y2 y4 y5 y9 y10 y11 y12 y13 y14 y15 P vs hs g) = .nx (LE y0 y1 y2 y4 y5 y9 y10 y11 y12 y13 y14 y15 P vs hs g) := by
  have w := ec_w (C := C) (y0 := y0) (y1 := y1) (y2 := y2) (y4 := y4) (y5 := y5) (y9 := y9) (y10 := y10) (y11 := y11) (y12 := y12) (y13 := y13) (y14 := y14) (y15 := y15) (P := P) (vs := vs) (hs := hs) (g := g)
  rw [decide_eq_false (fun z => h (List.eq_nil_of_length_eq_zero z))] at w
  exact ite_f w ex_nil
theorem em_yes (lp : P.length ≤ 800) : execS sub C [] bigN emS (LE y0 y1 y2 y4 y5 y9 y10 y11 y12 y13 y14 y15 P [] hs g) = .nx (LE y0 y1 y2 y4 y5 y9 y10 y11 y12 y13 y14 y15 (P ++ [Row.num 0]) [0] hs g) := by
  have w := ec_w (C := C) (y0 := y0) (y1 := y1) (y2 := y2) (y4 := y4) (y5 := y5) (y9 := y9) (y10 := y10) (y11 := y11) (y12 := y12) (y13 := y13) (y14 := y14) (y15 := y15) (P := P) (vs := []) (hs := hs) (g := g)
  have a := app_PM (P := P) (r := Row.num 0) (by omega)
  have b := app_VM (vs := []) (v := 0) (by decide)
  have r1 : (Row.num 0).d = .tup [.str "number", .int 0] := rfl
  rw [r1] at a
  rw [List.nil_append] at b
  refine ite_t w ?_
  clear w
  unfold LE PM VM at *
  generalize dm (P.map Row.d) = X at *
  generalize dm ((P ++ [Row.num 0]).map Row.d) = X2 at *
  generalize dm (nI []) = V at *
  generalize dm (nI [0]) = V2 at *
  generalize dm (nI hs) = H at *
  dsimp! [fTup_n, a]
  refine ex_last ?_
  simp! [b]
end
theorem law_w {C : Nat → List M → Mi.CR} {ns : List Int} (h15 : ∀ i : Nat, C 15 [.dat (.lst (ns.map .int)), .dat (.int i)] = .ok (.dat (.int (cat ns i))) [none, none]) (h16 : ∀ n : Int, Sd n → C 16 [.dat (.int n)] = .ok (.dat (.int (lawN n))) [none]) (h14 : ∀ c : Int, C 14 [.dat (.int c)] = .ok (.dat (.int (mx c))) [none])
    (h20 : ∀ (P : List Row) (vs hs : List Int) (n : Int), Sd n → P.length ≤ 800 → vs.length ≤ 800 → hs.length ≤ 800 → (∀ v ∈ vs, Sm v) → ∃ P' vs' hs', Turn P vs hs P' vs' hs' ∧ C 20 [PM P, VM vs, VM hs, .dat (.int n)] = .ok (.dat .non) [some (PM P'), some (VM vs'), some (VM hs'), none])
    (h18 : ∀ (P : List Row) (vs0 : List Int) (o : Op) (x y : Int), P.length ≤ 800 → vs0.length ≤ 800 → Sm x → Sm y → C 18 [PM P, VM (vs0 ++ [x, y]), .dat (.str o.w)] = .ok (.dat .non) [some (PM (P ++ [Row.op o])), some (VM (vs0 ++ [o.z x y])), none])
    (h21 : ∀ (rows : List Row) (q : Int) (ou f : Nat) (nums : List Int) (d : D) (l : List (Ev × Int)), (∀ r ∈ rows, r.Ok) → ou ≤ 900 → nums.length ≤ 900 → (∀ i ∈ nums, Sm i) → f ≤ 700000 → runs rows q ou nums 5 f 2 = .ok d l → C 21 [.dat (codeD rows q ou), .dat (.lst (nI nums))] = .ok (.tup [.dat (.str ""), RM d l]) [none, none])
    (h21g : ∀ (rows : List Row) (q : Int) (ou f : Nat) (nums : List Int), (∀ r ∈ rows, r.Ok) → ou ≤ 900 → nums.length ≤ 900 → (∀ i ∈ nums, Sm i) → f ≤ 700000 → runs rows q ou nums 5 f 2 = .er "TooGreat" → C 21 [.dat (codeD rows q ou), .dat (.lst (nI nums))] = .ok (.tup [.dat (.str "great"), .dat .non]) [none, none]) :
    ∃ μ : Mi.Env, execSs sub C [] bigN fn22.body (startE fn22 [.dat (.lst (ns.map .int))]) = .ret (.dat (.bl true)) μ := by
  have b6 := more6_b (cat ns 0)
  obtain ⟨ou, ho⟩ : ∃ ou : Nat, more6 (cat ns 0) + cat ns 0 % 3 = ou := ⟨(more6 (cat ns 0) + cat ns 0 % 3).toNat, by omega⟩
  obtain ⟨q, hq⟩ : ∃ q : Nat, cat ns 1 % 4 = q := ⟨(cat ns 1 % 4).toNat, by omega⟩
  obtain ⟨nq, hn⟩ : ∃ nq : Nat, more6 (cat ns 0) + cat ns 1 / 4 % 4 = nq := ⟨(more6 (cat ns 0) + cat ns 1 / 4 % 4).toNat, by omega⟩
  have hd := head_w h15 h16 ho hq hn
  have snm := numsL_sm ns nq
  have lnm := numsL_len ns nq
  generalize numsL ns nq = nums at *
  let EE : Env0 := ⟨q, ou, nums⟩
  have R0 : Reach EE 0 (preR q) [] nums := reach0 (by show (q : Int) = _; rw [preR_len])
  have I0 : Inv4 EE 0 (preR q) [] nums false := { lp := by rw [preR_len]; omega, lv := by decide, lh := by omega, ok := preR_ok q, no := fun _ => ⟨0, by omega, R0, fun v hv => (nomatch hv), snm⟩, yes := fun z => (nomatch z) }
  obtain ⟨cs, hcs, hsl⟩ := slice_5 ns
  obtain ⟨P1, vs1, hs1, g1, y9, I1, cw⟩ := cells_w (y0 := some (.dat (.lst (ns.map .int)))) (y1 := some (.dat (.int (more6 (cat ns 0))))) (y2 := some (.dat (.int ou))) (y4 := some (.dat (.int q))) (y5 := some (.dat (.lst (nI nums)))) (y10 := none) (y11 := none) (y12 := none) (y13 := none) (y14 := none) (y15 := none) h14 h20 cs 0 (preR q) [] nums false none I0 (by omega)
  rw [Nat.zero_add] at I1
  have l1 := I1.lp
  have l2 := I1.lv
  have wl : ∃ P2 vs2 g2, whLoop (evalE C [] w22_1c) (execSs sub C [] bigN w22_1b) bigN (LE (some (.dat (.lst (ns.map .int)))) (some (.dat (.int (more6 (cat ns 0))))) (some (.dat (.int ou))) (some (.dat (.int q))) (some (.dat (.lst (nI nums)))) y9 none none none none none none P1 vs1 hs1 g1) = .nx (LE (some (.dat (.lst (ns.map .int)))) (some (.dat (.int (more6 (cat ns 0))))) (some (.dat (.int ou))) (some (.dat (.int q))) (some (.dat (.lst (nI nums)))) y9 none none none none none none P2 vs2 hs1 g2) ∧ P2.all okB = true ∧ P2.length ≤ 300 ∧
      ((g2 = false ∧ vs2.length ≤ 1 ∧ ∃ c', c' ≤ 300 ∧ Reach EE c' P2 vs2 hs1) ∨ (g2 = true ∧ vs2 ≠ [] ∧ ∃ c', c' ≤ 300 ∧ Great EE c' P2)) := by
    cases g1 with
    | true =>
      obtain ⟨⟨c, k1, k2⟩, k3⟩ := I1.yes rfl
      exact ⟨P1, vs1, true, while_stop (N := 999999) (by rw [Bool.not_true, Bool.and_false]), I1.ok, by omega, .inr ⟨rfl, k3, c, by omega, k2⟩⟩
    | false =>
      obtain ⟨c, k1, k2, k3, k4⟩ := I1.no rfl
      obtain ⟨P2, vs2, g2, w, o1, o2, o3⟩ := while_w h18 40 c bigN P1 vs1 hs1 (by omega) (by omega) I1.ok k2 k3 (by show 40 < 1000000; omega) (by omega)
      refine ⟨P2, vs2, g2, w, o1, by omega, ?_⟩
      rcases o3 with ⟨q1, q2, c', q3, q4, _⟩ | ⟨q1, q2, c', q3, q4⟩
      · exact .inl ⟨q1, q2, c', by omega, q4⟩
      · exact .inr ⟨q1, q2, c', by omega, q4⟩
  obtain ⟨P2, vs2, g2, ww, o1, o2, o3⟩ := wl
  have front : ∀ (R : Mi.Res), execSs sub C [] bigN (tl (tl (tl (tl (tl (tl (tl (tl (tl (tl fn22.body)))))))))) (LE (some (.dat (.lst (ns.map .int)))) (some (.dat (.int (more6 (cat ns 0))))) (some (.dat (.int ou))) (some (.dat (.int q))) (some (.dat (.lst (nI nums)))) y9 none none none none none none P2 vs2 hs1 g2) = R → execSs sub C [] bigN fn22.body (startE fn22 [.dat (.lst (ns.map .int))]) = R := fun R hR => by
    rw [hd]
    have src : evalEs C [] (.cons (.opN fSlL (.cons (.var 0) (.cons (.op1 fI (.con (.int 5))) (.cons (.op1 fI (.con (.int 45))) .nil)))) .nil) (LE (some (.dat (.lst (ns.map .int)))) (some (.dat (.int (more6 (cat ns 0))))) (some (.dat (.int ou))) (some (.dat (.int q))) (some (.dat (.lst (nI nums)))) none none none none none none none (preR q) [] nums false) = .ok [.dat (.lst (cs.map .int))] (LE (some (.dat (.lst (ns.map .int)))) (some (.dat (.int (more6 (cat ns 0))))) (some (.dat (.int ou))) (some (.dat (.int q))) (some (.dat (.lst (nI nums)))) none none none none none none none (preR q) [] nums false) := by
      unfold LE
      generalize ns.map D.int = N at *
      generalize PM (preR q) = X
      generalize VM [] = V
      generalize VM nums = H
      simp! [fI, hsl]
    unfold fn22 at *
    refine (ex_nx (ex_for (f := fSeq) (xs := cs.map .int) rfl src rfl rfl cw)).trans ?_
    exact (ex_nx (ex_wh ww)).trans hR
  have hL := (lay_ns nums).up (show 1 ≤ 5 by omega)
  have okR : ∀ P : List Row, P.all okB = true → ∀ r ∈ P ++ [Row.back], r.Ok := fun P h => ok_all (by rw [List.all_append, h]; rfl)
  rcases o3 with ⟨rfl, q2, c', q3, R⟩ | ⟨rfl, q2, c', q3, G⟩
  · have fin : ∀ (P3 : List Row) (v : Int) (c3 : Nat), P3.length ≤ 800 → P3.all okB = true → c3 ≤ 400 → Reach EE c3 P3 [v] hs1 → ∃ μ : Mi.Env, execSs sub C [] bigN (tl (tl (tl (tl (tl (tl (tl (tl (tl (tl (tl fn22.body))))))))))) (LE (some (.dat (.lst (ns.map .int)))) (some (.dat (.int (more6 (cat ns 0))))) (some (.dat (.int ou))) (some (.dat (.int q))) (some (.dat (.lst (nI nums)))) y9 none none none none none none P3 [v] hs1 false) = .ret (.dat (.bl true)) μ := fun P3 v c3 k1 k2 k3 R3 => by
      have run := R3.fin (tf := 1)
      have c21 := h21 (P3 ++ [Row.back]) q ou (2 + c3) nums _ _ (okR P3 k2) (by omega) (by omega) snm (by omega) run
      obtain ⟨μ, e⟩ := endV (S := .lst (ns.map .int)) (m6 := more6 (cat ns 0)) (y9 := y9) (hs := hs1) (by omega) c21
      exact ⟨μ, (mid_w k1 rfl hL c21).trans e⟩
    cases vs2 with
    | nil =>
      obtain ⟨μ, e⟩ := fin (P2 ++ [Row.num 0]) 0 (c' + 1) (by rw [List.length_append]; show _ + 1 ≤ _; omega) (by rw [List.all_append, o1]; decide +kernel) (by omega) (R.num 0)
      refine ⟨μ, front _ ?_⟩
      unfold fn22 at *
      exact (ex_nx (em_yes (by omega))).trans e
    | cons v r =>
      have : r = [] := List.eq_nil_of_length_eq_zero (by have : (v :: r).length = r.length + 1 := rfl; omega)
      subst this
      obtain ⟨μ, e⟩ := fin P2 v c' (by omega) o1 (by omega) R
      refine ⟨μ, front _ ?_⟩
      unfold fn22 at *
      exact (ex_nx (em_no (List.cons_ne_nil _ _))).trans e
  · have c21 := h21g (P2 ++ [Row.back]) q ou (0 + c') nums (okR P2 o1) (by omega) (by omega) snm (by omega) (G.fin (f := 0) (tf := 2))
    obtain ⟨μ, e⟩ := endG (C := C) (S := .lst (ns.map .int)) (NS := .lst (nI nums)) (m6 := more6 (cat ns 0)) (q := q) (ou := ou) (y9 := y9) (vs := vs2) (hs := hs1) (rows := P2 ++ [Row.back])
    refine ⟨μ, front _ ?_⟩
    have m := mid_w (S := .lst (ns.map .int)) (m6 := more6 (cat ns 0)) (y9 := y9) (vs := vs2) (hs := hs1) (g := true) (by omega : P2.length ≤ 800) rfl hL c21
    have m2 := m.trans e
    unfold fn22 at *
    exact (ex_nx (em_no q2)).trans m2
theorem law_true (ns : List Int) (h : ns.length ≤ 63) : ∃ outs, callF sub tab bigN 40 22 [.dat (.lst (ns.map .int))] = .ok (.dat (.bl true)) outs := by
  obtain ⟨μ, w⟩ := law_w (C := callF sub tab bigN 39) (ns := ns) (fun i => cat_f 37 ns i) (fun n hn => num_f 38 hn) (fun c => mixed_ok 38 c) (fun P vs hs n hn lp lv lh sv => row_f 36 hn lp lv lh sv) (fun P vs0 o x y lp lv hx hy => two_f 37 hx hy (by omega) lv)
    (fun rows q ou f nums d l k1 k2 k3 k4 k5 k6 => ran_ok (k := 30) (tf := 2) k1 k2 k3 k4 k5 (by omega) k6) (fun rows q ou f nums k1 k2 k3 k4 k5 k6 => ran_gr (k := 30) (tf := 2) k1 k2 k3 k4 k5 (by omega) k6)
  exact ⟨[none], (call_ret (fn := fn22) rfl rfl w).trans rfl⟩
end K41
namespace K41
open PySem L2 Mi
set_option maxHeartbeats 0 in
theorem all_mk {l : PySem.W.OpenLaw} {w : World} {K : PySem.W.Frag} {h : Heap} {mg : Str → Option Value} {fa f0 f1 f2 f3 f4 f5 f6 f7 f8 f9 f10 f11 f12 f13 f14 f15 f16 f17 f18 f19 f20 f21 f22 C0 C1 C2 C3 C4 C5 C6 C7 : Addr} (X : K.In h) (G : h.Ns mainGlobals mg) (hfa : mg "law" = some (.ref fa))
    {tv_GREATEST : Nat}
    {tv_MOST_DEEP : Nat}
    {tv_MOST_SIZE : Nat}
    {tD13 : Addr} {toc13 : Value} {tod13 : Option Addr} {tt13 tn13 : Nat} {tsl13 : Array (Option Value)}
    {od0 an0 od1 an1 od2 an2 od3 an3 od4 an4 od5 an5 od6 an6 od7 an7 od8 an8 od9 an9 od10 an10 od11 an11 od12 an12 od13 an13 od14 an14 od15 an15 od16 an16 od17 an17 od18 an18 od19 an19 od20 an20 od21 an21 od22 an22 : Option Addr} {sl0 sl1 sl2 sl3 sl4 sl5 sl6 sl7 sl8 sl9 sl10 sl11 sl12 sl13 sl14 sl15 sl16 sl17 sl18 sl19 sl20 sl21 sl22 : Array (Option Value)} {oc0 kV0 dc0 pm0 cd0 ct0 oc1 kV1 dc1 pm1 cd1 ct1 oc2 kV2 dc2 pm2 cd2 ct2 oc3 kV3 dc3 pm3 cd3 ct3 oc4 kV4 dc4 pm4 cd4 ct4 oc5 kV5 dc5 pm5 cd5 ct5 oc6 kV6 dc6 pm6 cd6 ct6 oc7 kV7 dc7 pm7 cd7 ct7 oc8 kV8 dc8 pm8 cd8 ct8 oc9 kV9 dc9 pm9 cd9 ct9 oc10 kV10 dc10 pm10 cd10 ct10 oc11 kV11 dc11 pm11 cd11 ct11 oc12 kV12 dc12 pm12 cd12 ct12 oc13 kV13 dc13 pm13 cd13 ct13 oc14 kV14 dc14 pm14 cd14 ct14 oc15 kV15 dc15 pm15 cd15 ct15 oc16 kV16 dc16 pm16 cd16 ct16 oc17 kV17 dc17 pm17 cd17 ct17 oc18 kV18 dc18 pm18 cd18 ct18 oc19 kV19 dc19 pm19 cd19 ct19 oc20 kV20 dc20 pm20 cd20 ct20 oc21 kV21 dc21 pm21 cd21 ct21 oc22 kV22 dc22 pm22 cd22 ct22 : Value}
    (aC0 : PySem.W.nsIn K mainGlobals "Frame" = some (some (.ref C0)))
    (aC1 : PySem.W.nsIn K mainGlobals "Machine" = some (some (.ref C1)))
    (aC2 : PySem.W.nsIn K mainGlobals "GateError" = some (some (.ref C2)))
    (aC3 : PySem.W.nsIn K mainGlobals "TooGreat" = some (some (.ref C3)))
    (aC4 : PySem.W.nsIn K mainGlobals "Empty" = some (some (.ref C4)))
    (aC5 : PySem.W.nsIn K mainGlobals "TooLong" = some (some (.ref C5)))
    (aC6 : PySem.W.nsIn K mainGlobals "TooDeep" = some (some (.ref C6)))
    (aC7 : PySem.W.nsIn K mainGlobals "Gone" = some (some (.ref C7)))
    (v_GREATEST : PySem.W.nsIn K mainGlobals "GREATEST" = some (some (.int 1000000000000000000000000000000000000000000000000000000000000 tv_GREATEST)))
    (v_MOST_DEEP : PySem.W.nsIn K mainGlobals "MOST_DEEP" = some (some (.int 12 tv_MOST_DEEP)))
    (v_MOST_SIZE : PySem.W.nsIn K mainGlobals "MOST_SIZE" = some (some (.int 1000 tv_MOST_SIZE)))
    (xq2 : PySem.W.excIn K C2 [.type "ValueError", .type "Exception", .type "BaseException", .type "object"] "ValueError.__new__" = true)
    (xk2 : PySem.W.keepIn K (.ref C2) = true)
    (xs2 : PySem.W.subIn K (.ref C2) (.type "BaseException") = some true)
    (xt2 : PySem.W.typeIn K (.ref C2) = some (.type "type"))
    (xd2 : PySem.W.hasDictIn K C2 = true)
    (xp2_2 : PySem.W.subIn K (.ref C2) (.ref C2) = some true)
    (xp2_3 : PySem.W.subIn K (.ref C2) (.ref C3) = some false)
    (xp2_4 : PySem.W.subIn K (.ref C2) (.ref C4) = some false)
    (xp2_5 : PySem.W.subIn K (.ref C2) (.ref C5) = some false)
    (xp2_6 : PySem.W.subIn K (.ref C2) (.ref C6) = some false)
    (xp2_7 : PySem.W.subIn K (.ref C2) (.ref C7) = some false)
    (xq3 : PySem.W.excIn K C3 [.type "ValueError", .type "Exception", .type "BaseException", .type "object"] "ValueError.__new__" = true)
    (xk3 : PySem.W.keepIn K (.ref C3) = true)
    (xs3 : PySem.W.subIn K (.ref C3) (.type "BaseException") = some true)
    (xt3 : PySem.W.typeIn K (.ref C3) = some (.type "type"))
    (xd3 : PySem.W.hasDictIn K C3 = true)
    (xp3_2 : PySem.W.subIn K (.ref C3) (.ref C2) = some true)
    (xp3_3 : PySem.W.subIn K (.ref C3) (.ref C3) = some true)
    (xp3_4 : PySem.W.subIn K (.ref C3) (.ref C4) = some false)
    (xp3_5 : PySem.W.subIn K (.ref C3) (.ref C5) = some false)
    (xp3_6 : PySem.W.subIn K (.ref C3) (.ref C6) = some false)
    (xp3_7 : PySem.W.subIn K (.ref C3) (.ref C7) = some false)
    (xq4 : PySem.W.excIn K C4 [.type "ValueError", .type "Exception", .type "BaseException", .type "object"] "ValueError.__new__" = true)
    (xk4 : PySem.W.keepIn K (.ref C4) = true)
    (xs4 : PySem.W.subIn K (.ref C4) (.type "BaseException") = some true)
    (xt4 : PySem.W.typeIn K (.ref C4) = some (.type "type"))
    (xd4 : PySem.W.hasDictIn K C4 = true)
    (xp4_2 : PySem.W.subIn K (.ref C4) (.ref C2) = some true)
    (xp4_3 : PySem.W.subIn K (.ref C4) (.ref C3) = some false)
    (xp4_4 : PySem.W.subIn K (.ref C4) (.ref C4) = some true)
    (xp4_5 : PySem.W.subIn K (.ref C4) (.ref C5) = some false)
    (xp4_6 : PySem.W.subIn K (.ref C4) (.ref C6) = some false)
    (xp4_7 : PySem.W.subIn K (.ref C4) (.ref C7) = some false)
    (xq5 : PySem.W.excIn K C5 [.type "ValueError", .type "Exception", .type "BaseException", .type "object"] "ValueError.__new__" = true)
    (xk5 : PySem.W.keepIn K (.ref C5) = true)
    (xs5 : PySem.W.subIn K (.ref C5) (.type "BaseException") = some true)
    (xt5 : PySem.W.typeIn K (.ref C5) = some (.type "type"))
    (xd5 : PySem.W.hasDictIn K C5 = true)
    (xp5_2 : PySem.W.subIn K (.ref C5) (.ref C2) = some true)
    (xp5_3 : PySem.W.subIn K (.ref C5) (.ref C3) = some false)
    (xp5_4 : PySem.W.subIn K (.ref C5) (.ref C4) = some false)
    (xp5_5 : PySem.W.subIn K (.ref C5) (.ref C5) = some true)
    (xp5_6 : PySem.W.subIn K (.ref C5) (.ref C6) = some false)
    (xp5_7 : PySem.W.subIn K (.ref C5) (.ref C7) = some false)
    (xq6 : PySem.W.excIn K C6 [.type "ValueError", .type "Exception", .type "BaseException", .type "object"] "ValueError.__new__" = true)
    (xk6 : PySem.W.keepIn K (.ref C6) = true)
    (xs6 : PySem.W.subIn K (.ref C6) (.type "BaseException") = some true)
    (xt6 : PySem.W.typeIn K (.ref C6) = some (.type "type"))
    (xd6 : PySem.W.hasDictIn K C6 = true)
    (xp6_2 : PySem.W.subIn K (.ref C6) (.ref C2) = some true)
    (xp6_3 : PySem.W.subIn K (.ref C6) (.ref C3) = some false)
    (xp6_4 : PySem.W.subIn K (.ref C6) (.ref C4) = some false)
    (xp6_5 : PySem.W.subIn K (.ref C6) (.ref C5) = some false)
    (xp6_6 : PySem.W.subIn K (.ref C6) (.ref C6) = some true)
    (xp6_7 : PySem.W.subIn K (.ref C6) (.ref C7) = some false)
    (xq7 : PySem.W.excIn K C7 [.type "ValueError", .type "Exception", .type "BaseException", .type "object"] "ValueError.__new__" = true)
    (xk7 : PySem.W.keepIn K (.ref C7) = true)
    (xs7 : PySem.W.subIn K (.ref C7) (.type "BaseException") = some true)
    (xt7 : PySem.W.typeIn K (.ref C7) = some (.type "type"))
    (xd7 : PySem.W.hasDictIn K C7 = true)
    (xp7_2 : PySem.W.subIn K (.ref C7) (.ref C2) = some true)
    (xp7_3 : PySem.W.subIn K (.ref C7) (.ref C3) = some false)
    (xp7_4 : PySem.W.subIn K (.ref C7) (.ref C4) = some false)
    (xp7_5 : PySem.W.subIn K (.ref C7) (.ref C5) = some false)
    (xp7_6 : PySem.W.subIn K (.ref C7) (.ref C6) = some false)
    (xp7_7 : PySem.W.subIn K (.ref C7) (.ref C7) = some true)
    (a0 : PySem.W.findIn K (.ref C0) "__init__" = some (some (.ref f0)))
    (i0 : PySem.W.isFn K (.ref f0) = true)
    (l0 : K.lookup f0 = some ⟨oc0, od0, .func (PySem.W.fnOf "__init__" "Frame.__init__" (defArgs s0) (defBody s0) (defScope s0) .none kV0 dc0 pm0 an0 cd0 ct0), sl0⟩)
    (c0 : PySem.W.codeIn K cd0 "Frame.__init__" = true)
    (k0 : PySem.W.keepIn K (.ref f0) = true)
    (a1 : PySem.W.findIn K (.ref C1) "__init__" = some (some (.ref f1)))
    (i1 : PySem.W.isFn K (.ref f1) = true)
    (l1 : K.lookup f1 = some ⟨oc1, od1, .func (PySem.W.fnOf "__init__" "Machine.__init__" (defArgs s1) (defBody s1) (defScope s1) .none kV1 dc1 pm1 an1 cd1 ct1), sl1⟩)
    (c1 : PySem.W.codeIn K cd1 "Machine.__init__" = true)
    (k1 : PySem.W.keepIn K (.ref f1) = true)
    (a2 : PySem.W.findIn K (.ref C1) "one_more" = some (some (.ref f2)))
    (i2 : PySem.W.isFn K (.ref f2) = true)
    (l2 : K.lookup f2 = some ⟨oc2, od2, .func (PySem.W.fnOf "one_more" "Machine.one_more" (defArgs s2) (defBody s2) (defScope s2) .none kV2 dc2 pm2 an2 cd2 ct2), sl2⟩)
    (c2 : PySem.W.codeIn K cd2 "Machine.one_more" = true)
    (k2 : PySem.W.keepIn K (.ref f2) = true)
    (a3 : PySem.W.findIn K (.ref C1) "cell_at" = some (some (.ref f3)))
    (i3 : PySem.W.isFn K (.ref f3) = true)
    (l3 : K.lookup f3 = some ⟨oc3, od3, .func (PySem.W.fnOf "cell_at" "Machine.cell_at" (defArgs s3) (defBody s3) (defScope s3) .none kV3 dc3 pm3 an3 cd3 ct3), sl3⟩)
    (c3 : PySem.W.codeIn K cd3 "Machine.cell_at" = true)
    (k3 : PySem.W.keepIn K (.ref f3) = true)
    (a4 : PySem.W.findIn K (.ref C1) "size_of" = some (some (.ref f4)))
    (i4 : PySem.W.isFn K (.ref f4) = true)
    (l4 : K.lookup f4 = some ⟨oc4, od4, .func (PySem.W.fnOf "size_of" "Machine.size_of" (defArgs s4) (defBody s4) (defScope s4) .none kV4 dc4 pm4 an4 cd4 ct4), sl4⟩)
    (c4 : PySem.W.codeIn K cd4 "Machine.size_of" = true)
    (k4 : PySem.W.keepIn K (.ref f4) = true)
    (a5 : PySem.W.findIn K (.ref C1) "reckon" = some (some (.ref f5)))
    (i5 : PySem.W.isFn K (.ref f5) = true)
    (l5 : K.lookup f5 = some ⟨oc5, od5, .func (PySem.W.fnOf "reckon" "Machine.reckon" (defArgs s5) (defBody s5) (defScope s5) .none kV5 dc5 pm5 an5 cd5 ct5), sl5⟩)
    (c5 : PySem.W.codeIn K cd5 "Machine.reckon" = true)
    (k5 : PySem.W.keepIn K (.ref f5) = true)
    (a6 : PySem.W.findIn K (.ref C1) "lay" = some (some (.ref f6)))
    (i6 : PySem.W.isFn K (.ref f6) = true)
    (l6 : K.lookup f6 = some ⟨oc6, od6, .func (PySem.W.fnOf "lay" "Machine.lay" (defArgs s6) (defBody s6) (defScope s6) .none kV6 dc6 pm6 an6 cd6 ct6), sl6⟩)
    (c6 : PySem.W.codeIn K cd6 "Machine.lay" = true)
    (k6 : PySem.W.keepIn K (.ref f6) = true)
    (a7 : PySem.W.findIn K (.ref C1) "look" = some (some (.ref f7)))
    (i7 : PySem.W.isFn K (.ref f7) = true)
    (l7 : K.lookup f7 = some ⟨oc7, od7, .func (PySem.W.fnOf "look" "Machine.look" (defArgs s7) (defBody s7) (defScope s7) .none kV7 dc7 pm7 an7 cd7 ct7), sl7⟩)
    (c7 : PySem.W.codeIn K cd7 "Machine.look" = true)
    (k7 : PySem.W.keepIn K (.ref f7) = true)
    (a8 : PySem.W.findIn K (.ref C1) "call" = some (some (.ref f8)))
    (i8 : PySem.W.isFn K (.ref f8) = true)
    (l8 : K.lookup f8 = some ⟨oc8, od8, .func (PySem.W.fnOf "call" "Machine.call" (defArgs s8) (defBody s8) (defScope s8) .none kV8 dc8 pm8 an8 cd8 ct8), sl8⟩)
    (c8 : PySem.W.codeIn K cd8 "Machine.call" = true)
    (k8 : PySem.W.keepIn K (.ref f8) = true)
    (a9 : PySem.W.findIn K (.ref C1) "told" = some (some (.ref f9)))
    (i9 : PySem.W.isFn K (.ref f9) = true)
    (l9 : K.lookup f9 = some ⟨oc9, od9, .func (PySem.W.fnOf "told" "Machine.told" (defArgs s9) (defBody s9) (defScope s9) .none kV9 dc9 pm9 an9 cd9 ct9), sl9⟩)
    (c9 : PySem.W.codeIn K cd9 "Machine.told" = true)
    (k9 : PySem.W.keepIn K (.ref f9) = true)
    (a10 : PySem.W.nsIn K mainGlobals "plain_row" = some (some (.ref f10)))
    (l10 : K.lookup f10 = some ⟨oc10, od10, .func (PySem.W.fnOf "plain_row" "plain_row" (defArgs s10) (defBody s10) (defScope s10) .none kV10 dc10 pm10 an10 cd10 ct10), sl10⟩)
    (c10 : PySem.W.codeIn K cd10 "plain_row" = true)
    (k10 : PySem.W.keepIn K (.ref f10) = true)
    (a11 : PySem.W.nsIn K mainGlobals "gate_row" = some (some (.ref f11)))
    (l11 : K.lookup f11 = some ⟨oc11, od11, .func (PySem.W.fnOf "gate_row" "gate_row" (defArgs s11) (defBody s11) (defScope s11) .none kV11 dc11 pm11 an11 cd11 ct11), sl11⟩)
    (c11 : PySem.W.codeIn K cd11 "gate_row" = true)
    (k11 : PySem.W.keepIn K (.ref f11) = true)
    (a12 : PySem.W.nsIn K mainGlobals "do_row" = some (some (.ref f12)))
    (l12 : K.lookup f12 = some ⟨oc12, od12, .func (PySem.W.fnOf "do_row" "do_row" (defArgs s12) (defBody s12) (defScope s12) .none kV12 dc12 pm12 an12 cd12 ct12), sl12⟩)
    (c12 : PySem.W.codeIn K cd12 "do_row" = true)
    (k12 : PySem.W.keepIn K (.ref f12) = true)
    (lt13 : K.lookup tD13 = some ⟨toc13, tod13, .seq #[.int 200 tt13] tn13, tsl13⟩)
    (a13 : PySem.W.nsIn K mainGlobals "run" = some (some (.ref f13)))
    (l13 : K.lookup f13 = some ⟨oc13, od13, .func (PySem.W.fnOf "run" "run" (defArgs s13) (defBody s13) (defScope s13) (.ref tD13) kV13 dc13 pm13 an13 cd13 ct13), sl13⟩)
    (c13 : PySem.W.codeIn K cd13 "run" = true)
    (k13 : PySem.W.keepIn K (.ref f13) = true)
    (a14 : PySem.W.nsIn K mainGlobals "_law_mixed" = some (some (.ref f14)))
    (l14 : K.lookup f14 = some ⟨oc14, od14, .func (PySem.W.fnOf "_law_mixed" "_law_mixed" (defArgs s14) (defBody s14) (defScope s14) .none kV14 dc14 pm14 an14 cd14 ct14), sl14⟩)
    (c14 : PySem.W.codeIn K cd14 "_law_mixed" = true)
    (k14 : PySem.W.keepIn K (.ref f14) = true)
    (a15 : PySem.W.nsIn K mainGlobals "_law_cell_at" = some (some (.ref f15)))
    (l15 : K.lookup f15 = some ⟨oc15, od15, .func (PySem.W.fnOf "_law_cell_at" "_law_cell_at" (defArgs s15) (defBody s15) (defScope s15) .none kV15 dc15 pm15 an15 cd15 ct15), sl15⟩)
    (c15 : PySem.W.codeIn K cd15 "_law_cell_at" = true)
    (k15 : PySem.W.keepIn K (.ref f15) = true)
    (a16 : PySem.W.nsIn K mainGlobals "_law_number" = some (some (.ref f16)))
    (l16 : K.lookup f16 = some ⟨oc16, od16, .func (PySem.W.fnOf "_law_number" "_law_number" (defArgs s16) (defBody s16) (defScope s16) .none kV16 dc16 pm16 an16 cd16 ct16), sl16⟩)
    (c16 : PySem.W.codeIn K cd16 "_law_number" = true)
    (k16 : PySem.W.keepIn K (.ref f16) = true)
    (a17 : PySem.W.nsIn K mainGlobals "_law_reckoned" = some (some (.ref f17)))
    (l17 : K.lookup f17 = some ⟨oc17, od17, .func (PySem.W.fnOf "_law_reckoned" "_law_reckoned" (defArgs s17) (defBody s17) (defScope s17) .none kV17 dc17 pm17 an17 cd17 ct17), sl17⟩)
    (c17 : PySem.W.codeIn K cd17 "_law_reckoned" = true)
    (k17 : PySem.W.keepIn K (.ref f17) = true)
    (a18 : PySem.W.nsIn K mainGlobals "_law_two" = some (some (.ref f18)))
    (l18 : K.lookup f18 = some ⟨oc18, od18, .func (PySem.W.fnOf "_law_two" "_law_two" (defArgs s18) (defBody s18) (defScope s18) .none kV18 dc18 pm18 an18 cd18 ct18), sl18⟩)
    (c18 : PySem.W.codeIn K cd18 "_law_two" = true)
    (k18 : PySem.W.keepIn K (.ref f18) = true)
    (a19 : PySem.W.nsIn K mainGlobals "_law_leap" = some (some (.ref f19)))
    (l19 : K.lookup f19 = some ⟨oc19, od19, .func (PySem.W.fnOf "_law_leap" "_law_leap" (defArgs s19) (defBody s19) (defScope s19) .none kV19 dc19 pm19 an19 cd19 ct19), sl19⟩)
    (c19 : PySem.W.codeIn K cd19 "_law_leap" = true)
    (k19 : PySem.W.keepIn K (.ref f19) = true)
    (a20 : PySem.W.nsIn K mainGlobals "_law_row" = some (some (.ref f20)))
    (l20 : K.lookup f20 = some ⟨oc20, od20, .func (PySem.W.fnOf "_law_row" "_law_row" (defArgs s20) (defBody s20) (defScope s20) .none kV20 dc20 pm20 an20 cd20 ct20), sl20⟩)
    (c20 : PySem.W.codeIn K cd20 "_law_row" = true)
    (k20 : PySem.W.keepIn K (.ref f20) = true)
    (a21 : PySem.W.nsIn K mainGlobals "_law_ran" = some (some (.ref f21)))
    (l21 : K.lookup f21 = some ⟨oc21, od21, .func (PySem.W.fnOf "_law_ran" "_law_ran" (defArgs s21) (defBody s21) (defScope s21) .none kV21 dc21 pm21 an21 cd21 ct21), sl21⟩)
    (c21 : PySem.W.codeIn K cd21 "_law_ran" = true)
    (k21 : PySem.W.keepIn K (.ref f21) = true)
    (a22 : PySem.W.nsIn K mainGlobals "law" = some (some (.ref f22)))
    (l22 : K.lookup f22 = some ⟨oc22, od22, .func (PySem.W.fnOf "law" "law" (defArgs s22) (defBody s22) (defScope s22) .none kV22 dc22 pm22 an22 cd22 ct22), sl22⟩)
    (c22 : PySem.W.codeIn K cd22 "law" = true)
    (k22 : PySem.W.keepIn K (.ref f22) = true)
    (pg0 : PySem.W.plainGet K C0 Str.empty = true)
    (hd0 : PySem.W.hasDictIn K C0 = true)
    (po0 : PySem.W.plainOver K C0 = true)
    (sa0 : PySem.W.findIn K (.ref C0) "__setattr__" = some (some (.builtin "object.__setattr__")))
    (mk0 : PySem.W.makesIn K C0 = true)
    (kc0 : PySem.W.keepIn K (.ref C0) = true)
    (n0_back : PySem.W.findIn K (.ref C0) "back" = some none)
    (n0_fields : PySem.W.findIn K (.ref C0) "fields" = some none)
    (n0_held : PySem.W.findIn K (.ref C0) "held" = some none)
    (pg1 : PySem.W.plainGet K C1 Str.empty = true)
    (hd1 : PySem.W.hasDictIn K C1 = true)
    (po1 : PySem.W.plainOver K C1 = true)
    (sa1 : PySem.W.findIn K (.ref C1) "__setattr__" = some (some (.builtin "object.__setattr__")))
    (mk1 : PySem.W.makesIn K C1 = true)
    (kc1 : PySem.W.keepIn K (.ref C1) = true)
    (n1_at : PySem.W.findIn K (.ref C1) "at" = some none)
    (n1_calls : PySem.W.findIn K (.ref C1) "calls" = some none)
    (n1_cells : PySem.W.findIn K (.ref C1) "cells" = some none)
    (n1_frames : PySem.W.findIn K (.ref C1) "frames" = some none)
    (n1_log : PySem.W.findIn K (.ref C1) "log" = some none)
    (n1_most : PySem.W.findIn K (.ref C1) "most" = some none)
    (n1_opened : PySem.W.findIn K (.ref C1) "opened" = some none)
    (n1_outer : PySem.W.findIn K (.ref C1) "outer" = some none)
    (n1_pile : PySem.W.findIn K (.ref C1) "pile" = some none)
    (n1_rows : PySem.W.findIn K (.ref C1) "rows" = some none)
    (n1_stack : PySem.W.findIn K (.ref C1) "stack" = some none)
    (z_abs : PySem.W.nsIn K mainGlobals "abs" = some none)
    (z_bool : PySem.W.nsIn K mainGlobals "bool" = some none)
    (z_int : PySem.W.nsIn K mainGlobals "int" = some none)
    (z_isinstance : PySem.W.nsIn K mainGlobals "isinstance" = some none)
    (z_len : PySem.W.nsIn K mainGlobals "len" = some none)
    (z_list : PySem.W.nsIn K mainGlobals "list" = some none)
    (z_range : PySem.W.nsIn K mainGlobals "range" = some none)
    (z_tuple : PySem.W.nsIn K mainGlobals "tuple" = some none)
    (hlaw : ∀ ns : List Int, ns.length ≤ 63 → ∃ outs, callF sub tab bigN 40 22 [.dat (.lst (ns.map .int))] = .ok (.dat (.bl true)) outs) :
    ∃ fd : FuncData, (∀ (s : Shared) (v : Value), BindsTo s fd ⟨[v], []⟩ [("script", v)]) ∧ ∀ base : Heap, K.In base → base.Ns mainGlobals mg → FnOk l.prog w K mg base (L2.CX l.prog w) 80 fa fd ["script"] (spLaw K) := by
  have e := hfa.symm.trans (PySem.W.mg_of X G a22)
  cases e
  have F0 := fun_mk (st := s0) l0 c0 k0
  have b0 := F0.binds (ps := ["self", "held", "fields", "back"]) fun _ _ _ _ _ _ us hl => match us, hl with | [_, _, _, _], _ => rfl
  have F1 := fun_mk (st := s1) l1 c1 k1
  have b1 := F1.binds (ps := ["self", "code", "numbers", "most"]) fun _ _ _ _ _ _ us hl => match us, hl with | [_, _, _, _], _ => rfl
  have F2 := fun_mk (st := s2) l2 c2 k2
  have b2 := F2.binds (ps := ["self"]) fun _ _ _ _ _ _ us hl => match us, hl with | [_], _ => rfl
  have F3 := fun_mk (st := s3) l3 c3 k3
  have b3 := F3.binds (ps := ["self", "value"]) fun _ _ _ _ _ _ us hl => match us, hl with | [_, _], _ => rfl
  have F4 := fun_mk (st := s4) l4 c4 k4
  have b4 := F4.binds (ps := ["self", "value"]) fun _ _ _ _ _ _ us hl => match us, hl with | [_, _], _ => rfl
  have F5 := fun_mk (st := s5) l5 c5 k5
  have b5 := F5.binds (ps := ["self", "word"]) fun _ _ _ _ _ _ us hl => match us, hl with | [_, _], _ => rfl
  have F6 := fun_mk (st := s6) l6 c6 k6
  have b6 := F6.binds (ps := ["self", "word", "field"]) fun _ _ _ _ _ _ us hl => match us, hl with | [_, _, _], _ => rfl
  have F7 := fun_mk (st := s7) l7 c7 k7
  have b7 := F7.binds (ps := ["self", "word"]) fun _ _ _ _ _ _ us hl => match us, hl with | [_, _], _ => rfl
  have F8 := fun_mk (st := s8) l8 c8 k8
  have b8 := F8.binds (ps := ["self", "to", "many", "handed"]) fun _ _ _ _ _ _ us hl => match us, hl with | [_, _, _, _], _ => rfl
  have F9 := fun_mk (st := s9) l9 c9 k9
  have b9 := F9.binds (ps := ["self", "value"]) fun _ _ _ _ _ _ us hl => match us, hl with | [_, _], _ => rfl
  have F10 := fun_mk (st := s10) l10 c10 k10
  have b10 := F10.binds (ps := ["machine", "row"]) fun _ _ _ _ _ _ us hl => match us, hl with | [_, _], _ => rfl
  have F11 := fun_mk (st := s11) l11 c11 k11
  have b11 := F11.binds (ps := ["machine", "row"]) fun _ _ _ _ _ _ us hl => match us, hl with | [_, _], _ => rfl
  have F12 := fun_mk (st := s12) l12 c12 k12
  have b12 := F12.binds (ps := ["machine", "row"]) fun _ _ _ _ _ _ us hl => match us, hl with | [_, _], _ => rfl
  have F13 : FunD K "run" "run" (defArgs s13) (defBody s13) (defScope s13) [.int 200] [] f13 _ := ⟨⟨_, _, _, _, _, _, _, _, _, _, rfl, l13, c13, .inr ⟨by simp, _, _, _, _, rfl, lt13, rfl, vals_i⟩, .inl rfl⟩, k13⟩
  obtain ⟨ds13, vd13, b13⟩ := F13.binds1 (ps := ["code", "numbers", "most"]) 3 1 (by simp) rfl fun _ _ _ _ _ _ _ us its hu hi => match us, its, hu, hi with | [_, _, _], [_], _, _ => ⟨_, rfl, rfl⟩
  cases vd13
  have bd13 := F13.binds1 (ps := ["code", "numbers", "most"]) 2 0 (by simp) rfl fun _ _ _ _ _ _ _ us its hu hi => match us, its, hu, hi with | [_, _], [_], _, _ => ⟨_, rfl, rfl⟩
  have F14 := fun_mk (st := s14) l14 c14 k14
  have b14 := F14.binds (ps := ["cell"]) fun _ _ _ _ _ _ us hl => match us, hl with | [_], _ => rfl
  have F15 := fun_mk (st := s15) l15 c15 k15
  have b15 := F15.binds (ps := ["script", "k"]) fun _ _ _ _ _ _ us hl => match us, hl with | [_, _], _ => rfl
  have F16 := fun_mk (st := s16) l16 c16 k16
  have b16 := F16.binds (ps := ["number"]) fun _ _ _ _ _ _ us hl => match us, hl with | [_], _ => rfl
  have F17 := fun_mk (st := s17) l17 c17 k17
  have b17 := F17.binds (ps := ["word", "one", "other"]) fun _ _ _ _ _ _ us hl => match us, hl with | [_, _, _], _ => rfl
  have F18 := fun_mk (st := s18) l18 c18 k18
  have b18 := F18.binds (ps := ["rows", "values", "word"]) fun _ _ _ _ _ _ us hl => match us, hl with | [_, _, _], _ => rfl
  have F19 := fun_mk (st := s19) l19 c19 k19
  have b19 := F19.binds (ps := ["rows", "values", "number"]) fun _ _ _ _ _ _ us hl => match us, hl with | [_, _, _], _ => rfl
  have F20 := fun_mk (st := s20) l20 c20 k20
  have b20 := F20.binds (ps := ["rows", "values", "held", "number"]) fun _ _ _ _ _ _ us hl => match us, hl with | [_, _, _, _], _ => rfl
  have F21 := fun_mk (st := s21) l21 c21 k21
  have b21 := F21.binds (ps := ["code", "numbers"]) fun _ _ _ _ _ _ us hl => match us, hl with | [_, _], _ => rfl
  have F22 := fun_mk (st := s22) l22 c22 k22
  have b22 := F22.binds (ps := ["script"]) fun _ _ _ _ _ _ us hl => match us, hl with | [_], _ => rfl
  have T : Txt K mg (fun i => match i with | 0 => f0 | 1 => f1 | 2 => f2 | 3 => f3 | 4 => f4 | 5 => f5 | 6 => f6 | 7 => f7 | 8 => f8 | 9 => f9 | 10 => f10 | 11 => f11 | 12 => f12 | 13 => f13 | 14 => f14 | 15 => f15 | 16 => f16 | 17 => f17 | 18 => f18 | 19 => f19 | 20 => f20 | 21 => f21 | 22 => fa | _ => fa) (fun i => match i with | 0 => (PySem.W.fnOf "__init__" "Frame.__init__" (defArgs s0) (defBody s0) (defScope s0) .none kV0 dc0 pm0 an0 cd0 ct0) | 1 => (PySem.W.fnOf "__init__" "Machine.__init__" (defArgs s1) (defBody s1) (defScope s1) .none kV1 dc1 pm1 an1 cd1 ct1) | 2 => (PySem.W.fnOf "one_more" "Machine.one_more" (defArgs s2) (defBody s2) (defScope s2) .none kV2 dc2 pm2 an2 cd2 ct2) | 3 => (PySem.W.fnOf "cell_at" "Machine.cell_at" (defArgs s3) (defBody s3) (defScope s3) .none kV3 dc3 pm3 an3 cd3 ct3) | 4 => (PySem.W.fnOf "size_of" "Machine.size_of" (defArgs s4) (defBody s4) (defScope s4) .none kV4 dc4 pm4 an4 cd4 ct4) | 5 => (PySem.W.fnOf "reckon" "Machine.reckon" (defArgs s5) (defBody s5) (defScope s5) .none kV5 dc5 pm5 an5 cd5 ct5) | 6 => (PySem.W.fnOf "lay" "Machine.lay" (defArgs s6) (defBody s6) (defScope s6) .none kV6 dc6 pm6 an6 cd6 ct6) | 7 => (PySem.W.fnOf "look" "Machine.look" (defArgs s7) (defBody s7) (defScope s7) .none kV7 dc7 pm7 an7 cd7 ct7) | 8 => (PySem.W.fnOf "call" "Machine.call" (defArgs s8) (defBody s8) (defScope s8) .none kV8 dc8 pm8 an8 cd8 ct8) | 9 => (PySem.W.fnOf "told" "Machine.told" (defArgs s9) (defBody s9) (defScope s9) .none kV9 dc9 pm9 an9 cd9 ct9) | 10 => (PySem.W.fnOf "plain_row" "plain_row" (defArgs s10) (defBody s10) (defScope s10) .none kV10 dc10 pm10 an10 cd10 ct10) | 11 => (PySem.W.fnOf "gate_row" "gate_row" (defArgs s11) (defBody s11) (defScope s11) .none kV11 dc11 pm11 an11 cd11 ct11) | 12 => (PySem.W.fnOf "do_row" "do_row" (defArgs s12) (defBody s12) (defScope s12) .none kV12 dc12 pm12 an12 cd12 ct12) | 13 => (PySem.W.fnOf "run" "run" (defArgs s13) (defBody s13) (defScope s13) (.ref tD13) kV13 dc13 pm13 an13 cd13 ct13) | 14 => (PySem.W.fnOf "_law_mixed" "_law_mixed" (defArgs s14) (defBody s14) (defScope s14) .none kV14 dc14 pm14 an14 cd14 ct14) | 15 => (PySem.W.fnOf "_law_cell_at" "_law_cell_at" (defArgs s15) (defBody s15) (defScope s15) .none kV15 dc15 pm15 an15 cd15 ct15) | 16 => (PySem.W.fnOf "_law_number" "_law_number" (defArgs s16) (defBody s16) (defScope s16) .none kV16 dc16 pm16 an16 cd16 ct16) | 17 => (PySem.W.fnOf "_law_reckoned" "_law_reckoned" (defArgs s17) (defBody s17) (defScope s17) .none kV17 dc17 pm17 an17 cd17 ct17) | 18 => (PySem.W.fnOf "_law_two" "_law_two" (defArgs s18) (defBody s18) (defScope s18) .none kV18 dc18 pm18 an18 cd18 ct18) | 19 => (PySem.W.fnOf "_law_leap" "_law_leap" (defArgs s19) (defBody s19) (defScope s19) .none kV19 dc19 pm19 an19 cd19 ct19) | 20 => (PySem.W.fnOf "_law_row" "_law_row" (defArgs s20) (defBody s20) (defScope s20) .none kV20 dc20 pm20 an20 cd20 ct20) | 21 => (PySem.W.fnOf "_law_ran" "_law_ran" (defArgs s21) (defBody s21) (defScope s21) .none kV21 dc21 pm21 an21 cd21 ct21) | 22 => (PySem.W.fnOf "law" "law" (defArgs s22) (defBody s22) (defScope s22) .none kV22 dc22 pm22 an22 cd22 ct22) | _ => (PySem.W.fnOf "law" "law" (defArgs s22) (defBody s22) (defScope s22) .none kV22 dc22 pm22 an22 cd22 ct22)) (fun i => match i with | 0 => C0 | 1 => C1 | 2 => C2 | 3 => C3 | 4 => C4 | 5 => C5 | 6 => C6 | 7 => C7 | _ => C0) := {
    f0 := F0
    b0 := b0
    f1 := F1
    b1 := b1
    f2 := F2
    b2 := b2
    mt2 := ⟨a2, i2, k2⟩
    f3 := F3
    b3 := b3
    mt3 := ⟨a3, i3, k3⟩
    f4 := F4
    b4 := b4
    mt4 := ⟨a4, i4, k4⟩
    f5 := F5
    b5 := b5
    mt5 := ⟨a5, i5, k5⟩
    f6 := F6
    b6 := b6
    mt6 := ⟨a6, i6, k6⟩
    f7 := F7
    b7 := b7
    mt7 := ⟨a7, i7, k7⟩
    f8 := F8
    b8 := b8
    mt8 := ⟨a8, i8, k8⟩
    f9 := F9
    b9 := b9
    mt9 := ⟨a9, i9, k9⟩
    f10 := F10
    b10 := b10
    m10 := PySem.W.mg_of X G a10
    f11 := F11
    b11 := b11
    m11 := PySem.W.mg_of X G a11
    f12 := F12
    b12 := b12
    m12 := PySem.W.mg_of X G a12
    f13 := F13
    b13 := b13
    bd13 := bd13
    m13 := PySem.W.mg_of X G a13
    f14 := F14
    b14 := b14
    m14 := PySem.W.mg_of X G a14
    f15 := F15
    b15 := b15
    m15 := PySem.W.mg_of X G a15
    f16 := F16
    b16 := b16
    m16 := PySem.W.mg_of X G a16
    f17 := F17
    b17 := b17
    m17 := PySem.W.mg_of X G a17
    f18 := F18
    b18 := b18
    m18 := PySem.W.mg_of X G a18
    f19 := F19
    b19 := b19
    m19 := PySem.W.mg_of X G a19
    f20 := F20
    b20 := b20
    m20 := PySem.W.mg_of X G a20
    f21 := F21
    b21 := b21
    m21 := PySem.W.mg_of X G a21
    f22 := F22
    b22 := b22
    m22 := PySem.W.mg_of X G a22
    c0 := PySem.W.mg_of X G aC0
    cl0 := ⟨pg0, hd0, po0, sa0⟩
    mk0 := ⟨mk0, a0, i0, kc0⟩
    na0_back := n0_back
    na0_fields := n0_fields
    na0_held := n0_held
    c1 := PySem.W.mg_of X G aC1
    cl1 := ⟨pg1, hd1, po1, sa1⟩
    mk1 := ⟨mk1, a1, i1, kc1⟩
    na1_at := n1_at
    na1_calls := n1_calls
    na1_cells := n1_cells
    na1_frames := n1_frames
    na1_log := n1_log
    na1_most := n1_most
    na1_opened := n1_opened
    na1_outer := n1_outer
    na1_pile := n1_pile
    na1_rows := n1_rows
    na1_stack := n1_stack
    z_abs := PySem.W.mg_none_of X G z_abs
    z_bool := PySem.W.mg_none_of X G z_bool
    z_int := PySem.W.mg_none_of X G z_int
    z_isinstance := PySem.W.mg_none_of X G z_isinstance
    z_len := PySem.W.mg_none_of X G z_len
    z_list := PySem.W.mg_none_of X G z_list
    z_range := PySem.W.mg_none_of X G z_range
    z_tuple := PySem.W.mg_none_of X G z_tuple
    v_GREATEST := ⟨_, PySem.W.mg_of X G v_GREATEST⟩
    v_MOST_DEEP := ⟨_, PySem.W.mg_of X G v_MOST_DEEP⟩
    v_MOST_SIZE := ⟨_, PySem.W.mg_of X G v_MOST_SIZE⟩
    c2 := PySem.W.mg_of X G aC2
    xc2 := ⟨xq2, xk2, xs2, xt2⟩
    c3 := PySem.W.mg_of X G aC3
    xc3 := ⟨xq3, xk3, xs3, xt3⟩
    c4 := PySem.W.mg_of X G aC4
    xc4 := ⟨xq4, xk4, xs4, xt4⟩
    c5 := PySem.W.mg_of X G aC5
    xc5 := ⟨xq5, xk5, xs5, xt5⟩
    c6 := PySem.W.mg_of X G aC6
    xc6 := ⟨xq6, xk6, xs6, xt6⟩
    c7 := PySem.W.mg_of X G aC7
    xc7 := ⟨xq7, xk7, xs7, xt7⟩
    so := so_mk fun c hc d hd C D mc md => by
      simp only [exN, List.mem_cons, List.not_mem_nil, or_false] at hc hd
      rcases hc with rfl | rfl | rfl | rfl | rfl | rfl <;> rcases hd with rfl | rfl | rfl | rfl | rfl | rfl
      · exact so_e (PySem.W.mg_of X G aC2) (PySem.W.mg_of X G aC2) (PySem.W.exm_ref xs2 xd2 xt2 xp2_2) (by decide +kernel) mc md
      · exact so_e (PySem.W.mg_of X G aC2) (PySem.W.mg_of X G aC3) (PySem.W.exm_ref xs3 xd3 xt3 xp2_3) (by decide +kernel) mc md
      · exact so_e (PySem.W.mg_of X G aC2) (PySem.W.mg_of X G aC4) (PySem.W.exm_ref xs4 xd4 xt4 xp2_4) (by decide +kernel) mc md
      · exact so_e (PySem.W.mg_of X G aC2) (PySem.W.mg_of X G aC5) (PySem.W.exm_ref xs5 xd5 xt5 xp2_5) (by decide +kernel) mc md
      · exact so_e (PySem.W.mg_of X G aC2) (PySem.W.mg_of X G aC6) (PySem.W.exm_ref xs6 xd6 xt6 xp2_6) (by decide +kernel) mc md
      · exact so_e (PySem.W.mg_of X G aC2) (PySem.W.mg_of X G aC7) (PySem.W.exm_ref xs7 xd7 xt7 xp2_7) (by decide +kernel) mc md
      · exact so_e (PySem.W.mg_of X G aC3) (PySem.W.mg_of X G aC2) (PySem.W.exm_ref xs2 xd2 xt2 xp3_2) (by decide +kernel) mc md
      · exact so_e (PySem.W.mg_of X G aC3) (PySem.W.mg_of X G aC3) (PySem.W.exm_ref xs3 xd3 xt3 xp3_3) (by decide +kernel) mc md
      · exact so_e (PySem.W.mg_of X G aC3) (PySem.W.mg_of X G aC4) (PySem.W.exm_ref xs4 xd4 xt4 xp3_4) (by decide +kernel) mc md
      · exact so_e (PySem.W.mg_of X G aC3) (PySem.W.mg_of X G aC5) (PySem.W.exm_ref xs5 xd5 xt5 xp3_5) (by decide +kernel) mc md
      · exact so_e (PySem.W.mg_of X G aC3) (PySem.W.mg_of X G aC6) (PySem.W.exm_ref xs6 xd6 xt6 xp3_6) (by decide +kernel) mc md
      · exact so_e (PySem.W.mg_of X G aC3) (PySem.W.mg_of X G aC7) (PySem.W.exm_ref xs7 xd7 xt7 xp3_7) (by decide +kernel) mc md
      · exact so_e (PySem.W.mg_of X G aC4) (PySem.W.mg_of X G aC2) (PySem.W.exm_ref xs2 xd2 xt2 xp4_2) (by decide +kernel) mc md
      · exact so_e (PySem.W.mg_of X G aC4) (PySem.W.mg_of X G aC3) (PySem.W.exm_ref xs3 xd3 xt3 xp4_3) (by decide +kernel) mc md
      · exact so_e (PySem.W.mg_of X G aC4) (PySem.W.mg_of X G aC4) (PySem.W.exm_ref xs4 xd4 xt4 xp4_4) (by decide +kernel) mc md
      · exact so_e (PySem.W.mg_of X G aC4) (PySem.W.mg_of X G aC5) (PySem.W.exm_ref xs5 xd5 xt5 xp4_5) (by decide +kernel) mc md
      · exact so_e (PySem.W.mg_of X G aC4) (PySem.W.mg_of X G aC6) (PySem.W.exm_ref xs6 xd6 xt6 xp4_6) (by decide +kernel) mc md
      · exact so_e (PySem.W.mg_of X G aC4) (PySem.W.mg_of X G aC7) (PySem.W.exm_ref xs7 xd7 xt7 xp4_7) (by decide +kernel) mc md
      · exact so_e (PySem.W.mg_of X G aC5) (PySem.W.mg_of X G aC2) (PySem.W.exm_ref xs2 xd2 xt2 xp5_2) (by decide +kernel) mc md
      · exact so_e (PySem.W.mg_of X G aC5) (PySem.W.mg_of X G aC3) (PySem.W.exm_ref xs3 xd3 xt3 xp5_3) (by decide +kernel) mc md
      · exact so_e (PySem.W.mg_of X G aC5) (PySem.W.mg_of X G aC4) (PySem.W.exm_ref xs4 xd4 xt4 xp5_4) (by decide +kernel) mc md
      · exact so_e (PySem.W.mg_of X G aC5) (PySem.W.mg_of X G aC5) (PySem.W.exm_ref xs5 xd5 xt5 xp5_5) (by decide +kernel) mc md
      · exact so_e (PySem.W.mg_of X G aC5) (PySem.W.mg_of X G aC6) (PySem.W.exm_ref xs6 xd6 xt6 xp5_6) (by decide +kernel) mc md
      · exact so_e (PySem.W.mg_of X G aC5) (PySem.W.mg_of X G aC7) (PySem.W.exm_ref xs7 xd7 xt7 xp5_7) (by decide +kernel) mc md
      · exact so_e (PySem.W.mg_of X G aC6) (PySem.W.mg_of X G aC2) (PySem.W.exm_ref xs2 xd2 xt2 xp6_2) (by decide +kernel) mc md
      · exact so_e (PySem.W.mg_of X G aC6) (PySem.W.mg_of X G aC3) (PySem.W.exm_ref xs3 xd3 xt3 xp6_3) (by decide +kernel) mc md
      · exact so_e (PySem.W.mg_of X G aC6) (PySem.W.mg_of X G aC4) (PySem.W.exm_ref xs4 xd4 xt4 xp6_4) (by decide +kernel) mc md
      · exact so_e (PySem.W.mg_of X G aC6) (PySem.W.mg_of X G aC5) (PySem.W.exm_ref xs5 xd5 xt5 xp6_5) (by decide +kernel) mc md
      · exact so_e (PySem.W.mg_of X G aC6) (PySem.W.mg_of X G aC6) (PySem.W.exm_ref xs6 xd6 xt6 xp6_6) (by decide +kernel) mc md
      · exact so_e (PySem.W.mg_of X G aC6) (PySem.W.mg_of X G aC7) (PySem.W.exm_ref xs7 xd7 xt7 xp6_7) (by decide +kernel) mc md
      · exact so_e (PySem.W.mg_of X G aC7) (PySem.W.mg_of X G aC2) (PySem.W.exm_ref xs2 xd2 xt2 xp7_2) (by decide +kernel) mc md
      · exact so_e (PySem.W.mg_of X G aC7) (PySem.W.mg_of X G aC3) (PySem.W.exm_ref xs3 xd3 xt3 xp7_3) (by decide +kernel) mc md
      · exact so_e (PySem.W.mg_of X G aC7) (PySem.W.mg_of X G aC4) (PySem.W.exm_ref xs4 xd4 xt4 xp7_4) (by decide +kernel) mc md
      · exact so_e (PySem.W.mg_of X G aC7) (PySem.W.mg_of X G aC5) (PySem.W.exm_ref xs5 xd5 xt5 xp7_5) (by decide +kernel) mc md
      · exact so_e (PySem.W.mg_of X G aC7) (PySem.W.mg_of X G aC6) (PySem.W.exm_ref xs6 xd6 xt6 xp7_6) (by decide +kernel) mc md
      · exact so_e (PySem.W.mg_of X G aC7) (PySem.W.mg_of X G aC7) (PySem.W.exm_ref xs7 xd7 xt7 xp7_7) (by decide +kernel) mc md
  }
  exact ⟨_, fun s v => .of_eq rfl, fun base _ _ => law_end (all_ok (P := l.prog) (w := w) (base := base) (NN := bigN) T 40 22) hlaw⟩
theorem walk {l : PySem.W.OpenLaw} {q : Program} {loose : List Str} {XP : (Str → Option Value) → Heap → Prop} {YP : World → Heap → Prop} {d : DefRec} {K : Params → PySem.W.Frag} (hn : l.most = some 63) (hdf : d.params.defaults = [])
    (hY : ∀ (w : World) (h : Heap), YP w h → (K w.params).In h)
    (F : ∀ (w : World) (mg : Str → Option Value) (fa : Addr) (h : Heap), (K w.params).In h → h.Ns mainGlobals mg → mg d.name = some (.ref fa) →
      ∃ fd : FuncData, (∀ (s : Shared) (u : Value), BindsTo s fd ⟨[u], []⟩ [("script", u)]) ∧ ∀ base : Heap, (K w.params).In base → base.Ns mainGlobals mg → FnOk l.prog w (K w.params) mg base (L2.CX l.prog w) 80 fa fd ["script"] (spLaw (K w.params))) :
    PySem.W.WalkO q loose XP YP l.row.toRowW d [] (fun f vs => PySem.call f vs) :=
  L2.walk_of (n := 63) (k := 80) (x := "script") (CX := fun w => L2.CX l.prog w) (sp := fun w => spLaw (K w.params)) hn (by decide) hdf ⟨rfl, by decide, by decide⟩ hY F (fun _ _ a ns hl _ hS => ⟨a, ns, rfl, hS, hl, fun _ => rfl⟩) cx_none
end K41
open PySem PySem.W PyProof.Rows
set_option maxRecDepth 100000 in
set_option maxHeartbeats 0 in
theorem PySem.Challenge.cw_fieldgate_k41_rows_of_numbers_holds : PySem.Challenge.rw_fieldgate_k41_rows_of_numbers.Holds := by
  w_on; o_law; k_head; (case hw => w_witness2)
  k_fill
  refine K41.walk (l := PySem.Challenge.rw_fieldgate_k41_rows_of_numbers) rfl rfl (fun w h Y => PySem.W.kIn_of Y) ?F
  case F =>
    intro w mg fa h KX G hmg
    refine' K41.all_mk KX G hmg ?aC0 ?aC1 ?aC2 ?aC3 ?aC4 ?aC5 ?aC6 ?aC7 ?v_GREATEST ?v_MOST_DEEP ?v_MOST_SIZE ?xq2 ?xk2 ?xs2 ?xt2 ?xd2 ?xp2_2 ?xp2_3 ?xp2_4 ?xp2_5 ?xp2_6 ?xp2_7 ?xq3 ?xk3 ?xs3 ?xt3 ?xd3 ?xp3_2 ?xp3_3 ?xp3_4 ?xp3_5 ?xp3_6 ?xp3_7 ?xq4 ?xk4 ?xs4 ?xt4 ?xd4 ?xp4_2 ?xp4_3 ?xp4_4 ?xp4_5 ?xp4_6 ?xp4_7 ?xq5 ?xk5 ?xs5 ?xt5 ?xd5 ?xp5_2 ?xp5_3 ?xp5_4 ?xp5_5 ?xp5_6 ?xp5_7 ?xq6 ?xk6 ?xs6 ?xt6 ?xd6 ?xp6_2 ?xp6_3 ?xp6_4 ?xp6_5 ?xp6_6 ?xp6_7 ?xq7 ?xk7 ?xs7 ?xt7 ?xd7 ?xp7_2 ?xp7_3 ?xp7_4 ?xp7_5 ?xp7_6 ?xp7_7 ?a0 ?i0 ?l0 ?c0 ?k0 ?a1 ?i1 ?l1 ?c1 ?k1 ?a2 ?i2 ?l2 ?c2 ?k2 ?a3 ?i3 ?l3 ?c3 ?k3 ?a4 ?i4 ?l4 ?c4 ?k4 ?a5 ?i5 ?l5 ?c5 ?k5 ?a6 ?i6 ?l6 ?c6 ?k6 ?a7 ?i7 ?l7 ?c7 ?k7 ?a8 ?i8 ?l8 ?c8 ?k8 ?a9 ?i9 ?l9 ?c9 ?k9 ?a10 ?l10 ?c10 ?k10 ?a11 ?l11 ?c11 ?k11 ?a12 ?l12 ?c12 ?k12 ?lt13 ?a13 ?l13 ?c13 ?k13 ?a14 ?l14 ?c14 ?k14 ?a15 ?l15 ?c15 ?k15 ?a16 ?l16 ?c16 ?k16 ?a17 ?l17 ?c17 ?k17 ?a18 ?l18 ?c18 ?k18 ?a19 ?l19 ?c19 ?k19 ?a20 ?l20 ?c20 ?k20 ?a21 ?l21 ?c21 ?k21 ?a22 ?l22 ?c22 ?k22 ?pg0 ?hd0 ?po0 ?sa0 ?mk0 ?kc0 ?n0_back ?n0_fields ?n0_held ?pg1 ?hd1 ?po1 ?sa1 ?mk1 ?kc1 ?n1_at ?n1_calls ?n1_cells ?n1_frames ?n1_log ?n1_most ?n1_opened ?n1_outer ?n1_pile ?n1_rows ?n1_stack ?z_abs ?z_bool ?z_int ?z_isinstance ?z_len ?z_list ?z_range ?z_tuple K41.law_true
    (case aC0 => k_is)
    (case aC1 => k_is)
    (case aC2 => k_is)
    (case aC3 => k_is)
    (case aC4 => k_is)
    (case aC5 => k_is)
    (case aC6 => k_is)
    (case aC7 => k_is)
    (case v_GREATEST => k_is)
    (case v_MOST_DEEP => k_is)
    (case v_MOST_SIZE => k_is)
    (case xq2 => first | k_is | k_exc | kit_is)
    (case xk2 => first | k_is | k_exc | kit_is)
    (case xs2 => first | k_is | k_exc | kit_is)
    (case xt2 => first | k_is | k_exc | kit_is)
    (case xd2 => first | k_is | k_exc | kit_is)
    (case xp2_2 => first | k_is | k_exc | kit_is)
    (case xp2_3 => first | k_is | k_exc | kit_is)
    (case xp2_4 => first | k_is | k_exc | kit_is)
    (case xp2_5 => first | k_is | k_exc | kit_is)
    (case xp2_6 => first | k_is | k_exc | kit_is)
    (case xp2_7 => first | k_is | k_exc | kit_is)
    (case xq3 => first | k_is | k_exc | kit_is)
    (case xk3 => first | k_is | k_exc | kit_is)
    (case xs3 => first | k_is | k_exc | kit_is)
    (case xt3 => first | k_is | k_exc | kit_is)
    (case xd3 => first | k_is | k_exc | kit_is)
    (case xp3_2 => first | k_is | k_exc | kit_is)
    (case xp3_3 => first | k_is | k_exc | kit_is)
    (case xp3_4 => first | k_is | k_exc | kit_is)
    (case xp3_5 => first | k_is | k_exc | kit_is)
    (case xp3_6 => first | k_is | k_exc | kit_is)
    (case xp3_7 => first | k_is | k_exc | kit_is)
    (case xq4 => first | k_is | k_exc | kit_is)
    (case xk4 => first | k_is | k_exc | kit_is)
    (case xs4 => first | k_is | k_exc | kit_is)
    (case xt4 => first | k_is | k_exc | kit_is)
    (case xd4 => first | k_is | k_exc | kit_is)
    (case xp4_2 => first | k_is | k_exc | kit_is)
    (case xp4_3 => first | k_is | k_exc | kit_is)
    (case xp4_4 => first | k_is | k_exc | kit_is)
    (case xp4_5 => first | k_is | k_exc | kit_is)
    (case xp4_6 => first | k_is | k_exc | kit_is)
    (case xp4_7 => first | k_is | k_exc | kit_is)
    (case xq5 => first | k_is | k_exc | kit_is)
    (case xk5 => first | k_is | k_exc | kit_is)
    (case xs5 => first | k_is | k_exc | kit_is)
    (case xt5 => first | k_is | k_exc | kit_is)
    (case xd5 => first | k_is | k_exc | kit_is)
    (case xp5_2 => first | k_is | k_exc | kit_is)
    (case xp5_3 => first | k_is | k_exc | kit_is)
    (case xp5_4 => first | k_is | k_exc | kit_is)
    (case xp5_5 => first | k_is | k_exc | kit_is)
    (case xp5_6 => first | k_is | k_exc | kit_is)
    (case xp5_7 => first | k_is | k_exc | kit_is)
    (case xq6 => first | k_is | k_exc | kit_is)
    (case xk6 => first | k_is | k_exc | kit_is)
    (case xs6 => first | k_is | k_exc | kit_is)
    (case xt6 => first | k_is | k_exc | kit_is)
    (case xd6 => first | k_is | k_exc | kit_is)
    (case xp6_2 => first | k_is | k_exc | kit_is)
    (case xp6_3 => first | k_is | k_exc | kit_is)
    (case xp6_4 => first | k_is | k_exc | kit_is)
    (case xp6_5 => first | k_is | k_exc | kit_is)
    (case xp6_6 => first | k_is | k_exc | kit_is)
    (case xp6_7 => first | k_is | k_exc | kit_is)
    (case xq7 => first | k_is | k_exc | kit_is)
    (case xk7 => first | k_is | k_exc | kit_is)
    (case xs7 => first | k_is | k_exc | kit_is)
    (case xt7 => first | k_is | k_exc | kit_is)
    (case xd7 => first | k_is | k_exc | kit_is)
    (case xp7_2 => first | k_is | k_exc | kit_is)
    (case xp7_3 => first | k_is | k_exc | kit_is)
    (case xp7_4 => first | k_is | k_exc | kit_is)
    (case xp7_5 => first | k_is | k_exc | kit_is)
    (case xp7_6 => first | k_is | k_exc | kit_is)
    (case xp7_7 => first | k_is | k_exc | kit_is)
    (case a0 => k_is)
    (case i0 => k_is)
    (case l0 => k_is)
    (case c0 => k_is)
    (case k0 => k_is)
    (case a1 => k_is)
    (case i1 => k_is)
    (case l1 => k_is)
    (case c1 => k_is)
    (case k1 => k_is)
    (case a2 => k_is)
    (case i2 => k_is)
    (case l2 => k_is)
    (case c2 => k_is)
    (case k2 => k_is)
    (case a3 => k_is)
    (case i3 => k_is)
    (case l3 => k_is)
    (case c3 => k_is)
    (case k3 => k_is)
    (case a4 => k_is)
    (case i4 => k_is)
    (case l4 => k_is)
    (case c4 => k_is)
    (case k4 => k_is)
    (case a5 => k_is)
    (case i5 => k_is)
    (case l5 => k_is)
    (case c5 => k_is)
    (case k5 => k_is)
    (case a6 => k_is)
    (case i6 => k_is)
    (case l6 => k_is)
    (case c6 => k_is)
    (case k6 => k_is)
    (case a7 => k_is)
    (case i7 => k_is)
    (case l7 => k_is)
    (case c7 => k_is)
    (case k7 => k_is)
    (case a8 => k_is)
    (case i8 => k_is)
    (case l8 => k_is)
    (case c8 => k_is)
    (case k8 => k_is)
    (case a9 => k_is)
    (case i9 => k_is)
    (case l9 => k_is)
    (case c9 => k_is)
    (case k9 => k_is)
    (case a10 => k_is)
    (case l10 => k_is)
    (case c10 => k_is)
    (case k10 => k_is)
    (case a11 => k_is)
    (case l11 => k_is)
    (case c11 => k_is)
    (case k11 => k_is)
    (case a12 => k_is)
    (case l12 => k_is)
    (case c12 => k_is)
    (case k12 => k_is)
    (case a13 => k_is)
    (case l13 => k_is)
    (case c13 => k_is)
    (case k13 => k_is)
    (case a14 => k_is)
    (case l14 => k_is)
    (case c14 => k_is)
    (case k14 => k_is)
    (case a15 => k_is)
    (case l15 => k_is)
    (case c15 => k_is)
    (case k15 => k_is)
    (case a16 => k_is)
    (case l16 => k_is)
    (case c16 => k_is)
    (case k16 => k_is)
    (case a17 => k_is)
    (case l17 => k_is)
    (case c17 => k_is)
    (case k17 => k_is)
    (case a18 => k_is)
    (case l18 => k_is)
    (case c18 => k_is)
    (case k18 => k_is)
    (case a19 => k_is)
    (case l19 => k_is)
    (case c19 => k_is)
    (case k19 => k_is)
    (case a20 => k_is)
    (case l20 => k_is)
    (case c20 => k_is)
    (case k20 => k_is)
    (case a21 => k_is)
    (case l21 => k_is)
    (case c21 => k_is)
    (case k21 => k_is)
    (case a22 => k_is)
    (case l22 => k_is)
    (case c22 => k_is)
    (case k22 => k_is)
    (case pg0 => k_is)
    (case hd0 => k_is)
    (case po0 => k_is)
    (case sa0 => k_is)
    (case mk0 => k_is)
    (case kc0 => k_is)
    (case n0_back => k_is)
    (case n0_fields => k_is)
    (case n0_held => k_is)
    (case pg1 => k_is)
    (case hd1 => k_is)
    (case po1 => k_is)
    (case sa1 => k_is)
    (case mk1 => k_is)
    (case kc1 => k_is)
    (case n1_at => k_is)
    (case n1_calls => k_is)
    (case n1_cells => k_is)
    (case n1_frames => k_is)
    (case n1_log => k_is)
    (case n1_most => k_is)
    (case n1_opened => k_is)
    (case n1_outer => k_is)
    (case n1_pile => k_is)
    (case n1_rows => k_is)
    (case n1_stack => k_is)
    (case z_abs => k_is)
    (case z_bool => k_is)
    (case z_int => k_is)
    (case z_isinstance => k_is)
    (case z_len => k_is)
    (case z_list => k_is)
    (case z_range => k_is)
    (case z_tuple => k_is)
    (case lt13 => k_is)
#print axioms PySem.Challenge.cw_fieldgate_k41_rows_of_numbers_holds
