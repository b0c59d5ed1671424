import PyProof.Rows.All
import Wide.All
import OpenK.AllK
import Wide.FinOn
import HandS.ForMost
import HandS.IsInst
import HandS.DictComp
import HandS.TupAny
import HandS.Text
import HandS.Iter
import HandS.Exc
import HandS.ExcOwn
import KE.KExcSuper
import HandS.Deep
import PyProof.ListStr
import KE.KDictPairs
import HandS.TryOnly
import HandS.Small
import HandS.Defaults
import HandS.HeadHook2
import HandS.Head0
import HandS.Head1
import HandS.Head2
import HandS.HeadEnd
import HandS.HeadHook1
import PySem.Challenge.RW_termtide_k64_whole_texts_of_sets
set_option Elab.async false
set_option linter.all false
set_option maxRecDepth 100000
set_option maxHeartbeats 4000000
section
/-! A list comprehension whose element may raise. -/
namespace Tt
open PySem PySem.Spec PyProof.Rows L2

theorem note_eq {e : Value} {a b : Env} (h : a.frame = b.frame) : noteFrame e a = noteFrame e b := by
  unfold noteFrame PySem.frameOf
  rw [h]

section
variable {M : Model} {A : Around} {E : Value → Shared → Prop} {s : Shared} {env : Env}
/-- what stands behind the block: ce is its env -/
def cpost (M : Model) (A : Around) (E : Value → Shared → Prop) (use : Option (Value → Sem Unit)) (Q : Value → Shared → Prop) (acc : Value) (ce : Env) : Result → Shared → Prop
  | .ok _, s1 => (match use with
    | none => ∃ m, s1.heap.Ns ce.locals m ∧ ∀ g, Heap.SameBut ce.locals s1.heap g → Q acc { s1 with heap := g }
    | some u => wpAny M A (u acc) (fun _ s2 => ∃ m, s2.heap.Ns ce.locals m ∧ ∀ g, Heap.SameBut ce.locals s2.heap g → Q .none { s2 with heap := g }) E s1)
  | .error x, s1 => ∃ m, s1.heap.Ns ce.locals m ∧ ∀ g, Heap.SameBut ce.locals s1.heap g →
      wpAny M A (passOn "comprehension.variables-let-go" x ce : Sem Value) (fun _ _ => False) E { s1 with heap := g }
theorem compr_at {e : Expr} {scope : Scope} {pos : Pos} {mk src : Sem Value} {g : Comprehension} {gs : List Comprehension} {cl : List (Str × Addr)} {use : Option (Value → Sem Unit)} {Q : Value → Shared → Prop}
    (h1 : clausesOf e = g :: gs) (h2 : ∀ x, foldedSetIterable g.iter env x = pure x) (h3 : closureFor scope env = pure cl) (h4 : scope.kind = .function)
    (h5 : ∀ x ∈ scope.names, x.2 = .local → scope.names.lookup x.1 = some .local)
    (h : wpAny M A src (fun x t1 => wpAny M A (pyIter x) (fun it t2 => wpAny M A mk (fun acc t3 =>
      wpAny M A (newFunctionEnv scope env.globals cl [] env.qual none .none (some env)) (fun c t4 =>
        codeAny M A (.compStart e 0 it acc { c with scope := relabel scope env }) (cpost M A E use Q acc { c with scope := relabel scope env }) t4) E t3) E t2) E t1) E s) :
    wpAny M A (comprehension e scope env pos mk false src use) Q E s := by
  have id' : ∀ (x : Value) (t : Shared), E x t → E x t := fun _ _ z => z
  unfold comprehension
  rw [h3, h1]
  refine wpAny_bind (wpAny_mono h (fun x t1 g1 => ?_) id')
  refine wpAny_bind (wpAny_standAt (wpAny_bind (wpAny_of_eq (h2 x) (wpAny_bind (wpAny_holding (wpAny_mono g1 (fun it t2 g2 => ?_) id'))))))
  refine wpAny_standIf (wpAny_bind (wpAny_mono g2 (fun acc t3 g3 => ?_) id'))
  refine wpAny_bind (wpAny_pure (wpAny_bind (wpAny_mono g3 (fun c t4 g4 => ?_) id')))
  dsimp only
  have hk : ({ c with scope := relabel scope env } : Env).scope.kind = .function := h4
  have loc : ∀ x ∈ scope.names, x.2 = .local → Env.kindOf { c with scope := relabel scope env } x.1 = some .local := fun x hx hl => lookup_relabel_local (h5 x hx hl)
  have in1 : ∀ {x : Str × NameKind} {l : List (Str × NameKind)} {p : Str × NameKind → Bool}, x ∈ (l.filter p).reverse → x ∈ l := fun hx => (List.mem_filter.mp (List.mem_reverse.mp hx)).1
  refine wpAny_holding (wpAny_bind (wpAny_attempt (wpAny_holding (wpAny_run (codeAny_mono g4 fun r t5 hr => ?_)))))
  cases r with
  | ok f =>
    cases use with
    | none =>
      obtain ⟨m, hn, hq⟩ := hr
      exact wpAny_bind (wpAny_holding (wpAny_comp_letGo (cenv := { c with scope := relabel scope env }) hk _ t5 m (fun x hx => loc x (in1 hx)) hn fun g' _ _ sb => wpAny_pure (hq g' sb)))
    | some u =>
      refine wpAny_bind (wpAny_rule (wpAny_bind (wpAny_holding (wpAny_mono hr (fun _ t6 hq => ?_) id'))))
      obtain ⟨m, hn, hq⟩ := hq
      refine wpAny_bind (wpAny_comp_letGo (cenv := { c with scope := relabel scope env }) hk _ t6 m (fun x hx => loc x ?_) hn fun g' _ _ sb => wpAny_pure (hq g' sb))
      rcases List.mem_append.mp hx with z | z
      · exact in1 (List.mem_of_mem_drop z)
      · exact in1 (List.mem_of_mem_take z)
  | error x =>
    obtain ⟨m, hn, hq⟩ := hr
    exact wpAny_bind (wpAny_holding (wpAny_comp_letGo (cenv := { c with scope := relabel scope env }) hk _ t5 m (fun x hx => loc x (in1 hx)) hn fun g' _ _ sb =>
      wpAny_mono (hq g' sb) (fun _ _ z => z.elim) id'))
end
end Tt
end

section
/-! An exception leaves a comprehension's block. -/
namespace Tt
open PySem PySem.Spec PyProof.Rows L2

theorem frames_as {h g base base' : Heap} : ∀ {l : List Env}, h.FunFrames base l → (∀ L ∈ frs l, g.get? L = h.get? L) → (∀ L ∈ frs l, base'.get? L = none) → g.FunFrames base' l
  | [], _, _, _ => trivial
  | env :: l, x, hg, hb => by
    obtain ⟨x1, ⟨L, o, x2, x3, x4, x5⟩, x6⟩ := x
    have hm : L ∈ frs (env :: l) := List.mem_filterMap.mpr ⟨env, List.mem_cons_self, x2⟩
    have up : ∀ {b}, b ∈ frs l → b ∈ frs (env :: l) := fun hb => by
      obtain ⟨y, hy, q⟩ := List.mem_filterMap.mp hb
      exact List.mem_filterMap.mpr ⟨y, List.mem_cons_of_mem _ hy, q⟩
    exact ⟨x1, ⟨L, o, x2, hb L hm, (hg L hm).trans x4, x5⟩, frames_as x6 (fun b z => hg b (up z)) fun b z => hb b (up z)⟩
section
variable {X : Cx} {pins : List (Addr × Obj)} {σ : L2.St} {H H' : Hp} {s s' : Shared} {B : Heap} {W : WX} {E : XK} {a : Addr} {cls : Value} {d : Option Addr}
/-- held by this frame's hand: in our air -/
theorem XE_held (J : Inv X pins σ H s) (hh : HandSPX.HeldZ B X.stack a (Zc cls d) X.env.locals s'.heap) (hok : HOk X.prog X.w H' B) (ub : UB (frs X.stack) H H' s.heap B s'.heap)
    (na : H' a = none) (os : s'.os = s.os) (ag : AllBare s'.gens) (w : W cls d σ H') : XE X W (.ref a) s' := by
  obtain ⟨G, in1, out1⟩ := restrict s'.heap fun b => decide (b ∈ frs X.stack) || (B.get? b).isSome
  have ofB : ∀ {b : Addr} {o : Obj}, B.get? b = some o → G.get? b = some o := fun {b o} e => (in1 b (by simp [e])).trans (hh.1 b o e)
  have ofF : ∀ {b : Addr}, b ∈ frs X.stack → G.get? b = s'.heap.get? b := fun {b} hb => in1 b (by simp [hb])
  have back : ∀ {b : Addr} {o : Obj}, G.get? b = some o → s'.heap.get? b = some o ∧ (b ∉ frs X.stack → B.get? b = some o) := fun {b o} e => by
    by_cases hb : b ∈ frs X.stack
    · exact ⟨(ofF hb).symm.trans e, fun z => absurd hb z⟩
    · cases q : B.get? b with
      | none =>
        have := out1 b (by simp [hb, q])
        rw [e] at this; cases this
      | some u =>
        have := ofB q
        rw [e] at this; cases this
        exact ⟨hh.1 b _ q, fun _ => rfl⟩
  have JG : Inv X pins σ H' { s with heap := G, gens := s'.gens, drawn := s'.drawn, toks := s'.toks } := by
    refine J.call (ch := []) ?_ (hok.kept fun b o e => ofB e) ag (fun _ z => nomatch z)
    refine ⟨fun b o e n hb _ => ofB (ub.keep b o e n hb), fun b o e n hb _ => ?_, fun b o e n _ => ub.free b o e n, fun b o e _ => ?_, ub.tups, ub.frzs, ub.tbls⟩
    · obtain ⟨sl, q⟩ := ub.slot b o e hb
      exact ⟨sl, (ofF hb).trans q⟩
    · by_cases hb : b ∈ frs X.stack
      · obtain ⟨sl, q⟩ := ub.slot b o e hb
        exact ⟨_, (ofF hb).trans q⟩
      · obtain ⟨u, q⟩ := ub.there b o e hb
        exact ⟨u, ofB q⟩
  exact ⟨a, B, _, pins, σ, H', cls, d, rfl, JG, fun b o e hb => (back e).2 hb, Heap.UpToSlots.of_keeps fun b o e => (back e).1, .inr (.inr hh), na, os, ag, w⟩
/-- a callee's exception, noted in the block and passed on behind it -/
theorem comp_raise {ce : Env} {m : Str → Option Value} {use : Option (Value → Sem Unit)} {Q : Value → Shared → Prop} {acc : Value} (J : Inv X pins σ H s) (hs : X.stack = X.env :: X.outer) (hf : X.env.frame = some X.env.locals)
    (tk : Takes X fun cls d _ H => E cls d H) (hfr : ce.frame = X.env.frame) (hn : s.heap.Ns ce.locals m) (fC : FpOk X pins H ce.locals) {u : Value} (c : L2.CX X.prog X.w X.stack H s E u s') :
    notedBy (model X.prog X.w) X.A ce (fun e s1 => cpost (model X.prog X.w) X.A X.xe use Q acc ce (.error e) s1) u s' := by
  obtain ⟨a, B, H', cls, d, rfl, fl, hok, ub, na, os, ag, hE⟩ := c
  generalize hC : ce.locals = C at hn fC
  obtain ⟨f0, f1, f2, f3, f4, f5⟩ := fC
  obtain ⟨oC, es, ep, hoC, hdC, rC⟩ := hn
  have nC : C ∉ frs X.stack := fun z => by
    rw [hs] at z
    obtain ⟨y, hy, q⟩ := List.mem_filterMap.mp z
    rcases List.mem_cons.mp hy with e | e
    · subst e
      rw [hf] at q; cases q
      exact f1 rfl
    · exact f2 (List.mem_filterMap.mpr ⟨y, e, q⟩)
  have BC : B.get? C = some oC := ub.keep C oC hoC f0 nC
  have nC' : H' C = none := ub.free C oC hoC f0
  unfold notedBy
  rw [note_eq hfr]
  have hframes : X.A.frames = some (X.env :: X.outer) := by rw [J.ok.frames, hs]
  refine HandSPX.looks_onZ Zc.steady hframes hf (by rw [← hs]; exact fl) fun h1 hh up => ?_
  show cpost _ _ _ _ _ _ _ _ _
  rw [← hs] at hh
  unfold cpost
  rw [hC]
  have h1C : h1.get? C = some oC := hh.1 C oC BC
  refine ⟨m, ⟨oC, es, ep, h1C, hdC, rC⟩, fun g sb => ?_⟩
  have hid : ∀ {h : Heap} {b : Addr} {o : Obj}, (PySem.W.hideAll h [C]).get? b = some o → h.get? b = some o ∧ b ≠ C := fun {h b o} e => ⟨PySem.W.of_hideAll _ e, fun z => by
    have := PySem.W.hideAll_none (h := h) [C] (b := b) (by simp [z])
    rw [e] at this; cases this⟩
  have unh : ∀ {h : Heap} {b : Addr} {o : Obj}, h.get? b = some o → b ≠ C → (PySem.W.hideAll h [C]).get? b = some o := fun e n => PySem.W.hideAll_get _ e (by simpa using n)
  have non : ∀ {h : Heap} {b : Addr}, h.get? b = none → (PySem.W.hideAll h [C]).get? b = none := fun {h b} e => by
    cases q : (PySem.W.hideAll h [C]).get? b with
    | none => rfl
    | some o =>
      have := (hid q).1
      rw [e] at this; cases this
  have frC : ∀ L ∈ frs X.stack, L ≠ C := fun L hL z => nC (z ▸ hL)
  have hg : HandSPX.HeldZ (PySem.W.hideAll B [C]) X.stack a (Zc cls d) X.env.locals g := by
    obtain ⟨y1, y2, y3, oe, vs, T, oT, ts, z1, z2, z3, z4, z5, z6, z7, z8, z9⟩ := hh
    refine ⟨fun b o e => (sb.2 b (hid e).2).trans (y1 b o (hid e).1), non y2, frames_as y3 (fun L hL => sb.2 L (frC L hL)) (fun L hL => non (y3.mem hL).1), oe, vs, T, oT, ts, (sb.2 a fun z => ?_).trans z1, z2, z3, z4, non z5, z6, (sb.2 T fun z => ?_).trans z7, z8, z9⟩
    · rw [z, h1C] at z1
      cases z1
      rw [hdC] at z3; cases z3
    · rw [z, h1C] at z7
      cases z7
      rw [hdC] at z8; cases z8
  obtain ⟨y1, y2, y3, oe, vs, T, oT, ts, z1, z2, z3, z4, zr⟩ := id hg
  unfold PySem.passOn
  refine wpAny_bind (wpAny_field z1 z3 z4 ?_)
  rw [if_neg (show ¬ ((Value.ref T == Value.none) = true) from by simp)]
  have last : wpAny (model X.prog X.w) X.A (setFlight (.ref a) ce.frame) (fun _ s4 => wpAny (model X.prog X.w) X.A (throw (.ref a) : Sem Value) (fun _ _ => False) X.xe s4) X.xe { s' with heap := g } := by
    rw [hfr, hf]
    refine HandSPX.setFlight_onZ (s := { s' with heap := g }) hg fun g2 hg2 up2 => wpAny_throw (tk _ _ ?_)
    have JC : Inv X pins σ H { s with heap := PySem.W.hideAll s.heap [C], toks := s.toks } := J.turned (fun b o n e => unh e n) f0 f1 f3 f4 f5
    refine XE_held (B := PySem.W.hideAll B [C]) (H' := H') JC hg2 (fun b ob e => (hok b ob e).stay (fun c u hc q => unh q fun z => ?_) (fun _ z => z) fun _ _ z => z) ?_ na os ag hE
    · rcases hc with q2 | q2
      · rw [← q2, z] at e
        rw [nC'] at e; cases e
      · rw [z, nC'] at q2; cases q2
    · refine ⟨fun b o e n hb => unh (ub.keep b o (hid e).1 n hb) (hid e).2, fun b o e hb => ?_, fun b o e n => ub.free b o (hid e).1 n, fun b o e hb => ?_, ub.tups, ub.frzs, ub.tbls⟩
      · obtain ⟨sl, q⟩ := ub.slot b o (hid e).1 hb
        obtain ⟨_, o1, q1, nf⟩ := fl.2.2.1.mem hb
        rw [q] at q1; cases q1
        obtain ⟨sl2, q2⟩ := up b _ q nf
        have q3 := (sb.2 b (hid e).2).trans q2
        obtain ⟨sl3, q4⟩ := up2 b _ q3 nf
        exact ⟨sl3, q4⟩
      · obtain ⟨o1, q⟩ := ub.there b o (hid e).1 hb
        exact ⟨o1, unh q (hid e).2⟩
  first
    | exact wpAny_bind (wpAny_pure (wpAny_bind last))
    | exact wpAny_bind last
end
end Tt
end

section
/-! The rule of such a comprehension. -/
namespace Tt
open PySem PySem.Spec PyProof.Rows L2
section
variable {X : Cx}
abbrev BlkAll (X : Cx) (scope : Scope) (f : Cx → Prop) : Prop :=
  ∀ (s : Shared) (H : Hp) (C : Addr) (cl : List (Str × Addr)) (fp : List Addr), f (X.blk s H scope (compEnvC scope cl C X.env) fp)
theorem lcx_core {pins : List (Addr × Obj)} {s : Shared} {σ : L2.St} {H : Hp} {Q : VK} {E : XK} {elt tg iter : Expr} {ifs : List Expr} {scope : Scope} {own : List (Str × Nat)} {pos pos' : Pos} {wi : TI} {g : TG} {tt : TT} {te : TE} {use : Option (Value → Sem Unit)} {Qf : Value → Shared → Prop}
    (hc : X.calm = true) (hs : X.stack = X.env :: X.outer) (hf : X.env.frame = some X.env.locals) (tk : Takes X fun cls d _ H => E cls d H) (hN : X.N.Nodup) (I : Inv X pins σ H s) (hi : PI X tg iter wi) (ok : BlkOk X.N X.env.scope scope own)
    (hg : BlkAll X scope fun Y => PG Y tg g) (ht : BlkAll X scope fun Y => PTs Y ifs tt)
    (he : BlkAll X scope fun Y => ∀ xe, Passes (L2.CX X.prog X.w) (Y.wish xe) E → PE (Y.wish xe) elt te) (hfold : ∀ x, foldedSetIterable iter X.env x = pure x)
    (h : tLc wi g tt te (own.map (·.2)) σ H Q)
    (last : ∀ D (ce : Env) s' m H', Inv X pins σ H' s' → Q (.ref D) H' → s'.heap.Ns ce.locals m → FpOk X pins H' ce.locals → cpost (model X.prog X.w) X.A X.xe use Qf (.ref D) ce (.ok .next) s') :
    wpAny (model X.prog X.w) X.A (comprehension (.ListComp elt [⟨tg, iter, ifs, 0⟩] scope pos) scope X.env pos' (newList []) false (eval iter X.env) use) Qf X.xe s := by
  have cells : ∀ y ∈ scope.names, y.2 = .free → ∃ c, X.env.cells.lookup y.1 = some c := fun y hy e => (ok.free y hy e).elim (fun k => I.ok.has _ (.inl k)) fun k => I.ok.has _ (.inr k)
  refine compr_at (use := use) rfl hfold (closure_ok cells) ok.kind (fun y hy e => (ok.uniq y hy).trans (by rw [e])) ?_
  refine thn (hi.run pins s σ H _ I h) fun xv s1 g1 => thn g1 fun itv s2 ⟨it, fp, tn, J, H2, e2, I2, T, st2, f2, q2⟩ => ?_
  subst e2
  refine wpAny_newObj_type (newEnv_comp ?_) (Nat.zero_le _)
  obtain ⟨D, hD⟩ : ∃ D, D = s2.heap.objs.size := ⟨_, rfl⟩
  rw [← hD]
  have free : H2 D = none := I2.hok.fresh (by rw [hD]; exact Nat.le_refl _)
  obtain ⟨W, ⟨m0, w0⟩, turn⟩ := q2 D free
  generalize hH3 : upd H2 D (.lst []) = H3 at w0
  obtain ⟨s3, hs3⟩ : ∃ s3 : Shared, s3 = { s2 with heap := s2.heap.push { cls := .type "list", data := .seq ([] : List Value).toArray } } := ⟨_, rfl⟩
  have hh3 : s3.heap = s2.heap.push { cls := .type "list", data := .seq ([] : List Value).toArray } := by rw [hs3]
  have I3 : Inv X pins σ H3 s3 := by
    rw [hs3, ← hH3]
    refine I2.laid (t' := s2.toks) (fun b o e => Heap.get?_push_of_some _ e) (by rw [hD]; exact Nat.le_refl _) ⟨Nat.zero_le _, [], 0, .nil, ?_⟩
    rw [hD]
    exact Heap.get?_push_size _ rfl
  have f3 : ∀ b ∈ fp, FpOk X pins H3 b ∧ b < s3.heap.objs.size := fun b hb => by
    obtain ⟨o, e, _⟩ := T.obj _ _ st2 b hb
    have lt := Heap.lt_size e
    refine ⟨⟨?_, (f2 b hb).2⟩, by rw [hh3, Heap.size_push]; exact Nat.lt_succ_of_lt lt⟩
    rw [← hH3, upd_ne (by rw [hD]; exact Nat.ne_of_lt lt)]
    exact (f2 b hb).1
  have st3 : tn 0 s3.heap := T.keep _ _ _ st2 fun b _ o e => by rw [hh3]; exact Heap.get?_push_of_some _ e
  have I4 := block_start I3 ok hN f3
  rw [← hs3]
  have pg := hg s3 H3 s3.heap.objs.size (cellsFrom (s3.heap.objs.size + 1) scope.names (cloFrom X.env.cells scope.names [])) fp
  have pt := ht s3 H3 s3.heap.objs.size (cellsFrom (s3.heap.objs.size + 1) scope.names (cloFrom X.env.cells scope.names [])) fp
  have pe := he s3 H3 s3.heap.objs.size (cellsFrom (s3.heap.objs.size + 1) scope.names (cloFrom X.env.cells scope.names [])) fp
  show codeAny _ _ (.compStart (.ListComp elt [⟨tg, iter, ifs, 0⟩] scope pos) 0 (.ref it) (.ref D) (compEnvC scope (cellsFrom (s3.heap.objs.size + 1) scope.names (cloFrom X.env.cells scope.names [])) s3.heap.objs.size X.env))
    (cpost (model X.prog X.w) X.A X.xe use Qf (.ref D) (compEnvC scope (cellsFrom (s3.heap.objs.size + 1) scope.names (cloFrom X.env.cells scope.names [])) s3.heap.objs.size X.env)) { s3 with heap := pushCells (s3.heap.push { cls := .type "dict", data := .dict #[] }) scope.names }
  generalize hce : compEnvC scope (cellsFrom (s3.heap.objs.size + 1) scope.names (cloFrom X.env.cells scope.names [])) s3.heap.objs.size X.env = ce at I4 pg pt pe ⊢
  have cL : ce.locals = s3.heap.objs.size := by rw [← hce]; rfl
  have cF : ce.frame = X.env.frame := by rw [← hce]; rfl
  generalize hs4 : ({ s3 with heap := pushCells (s3.heap.push { cls := .type "dict", data := .dict #[] }) scope.names } : Shared) = s4 at I4 ⊢
  have st4 : tn 0 s4.heap := T.keep _ _ _ st3 fun b _ o e => by rw [← hs4]; exact pushCells_keeps _ _ _ _ (Heap.get?_push_of_some _ e)
  have zero : ∀ b ∈ fp, H3 b = none := fun b hb => (f3 b hb).1.1
  -- back in the def's own context
  have home : ∀ {p' : List (Addr × Obj)} {σ' : L2.St} {H' : Hp} {s' : Shared}, Inv (X.blk s3 H3 scope ce fp) p' σ' H' s' → Inv X pins σ H' s' ∧ FpOk X pins H' ce.locals := fun {p' σ' H' s'} I' =>
    ⟨I3.call' (ch := fp) I'.os I'.base I'.hok I'.bare fun b hb => ⟨(f3 b hb).1.2.2.2.1, (f3 b hb).1.2.1, (f3 b hb).1.2.2.2.2.1, (f3 b hb).1.2.2.2.2.2⟩,
      I3.fpOk (by rw [cL]; exact Nat.le_refl _) (show H' ce.locals = none from I'.free)⟩
  have stat : ∀ {σ' : L2.St} {H' : Hp} {s' : Shared}, Inv (X.blk s3 H3 scope ce fp) [] σ' H' s' → (∀ b ∈ fp, H' b = none) → ∀ b ∈ fp, FpOk (X.blk s3 H3 scope ce fp) [] H' b := fun {σ' H' s'} I' hn b hb =>
    ⟨hn b hb, (I'.ok.exf b hb).1, I'.ok.exfs b hb, .inl hb, fun x c e => (I'.ok.exf b hb).2 x c e, fun p hp => nomatch (show p ∈ ([] : List (Addr × Obj)) from hp)⟩
  have out : Passes (L2.CX X.prog X.w) ((X.blk s3 H3 scope ce fp).wish (notedBy (model X.prog X.w) X.A ce fun e s1 => cpost (model X.prog X.w) X.A X.xe use Qf (.ref D) ce (.error e) s1)) E := by
    intro p' σ' H' s' u t' I' c
    obtain ⟨J', fC⟩ := home I'.unwish
    obtain ⟨m, hn, _⟩ := I'.loc
    exact comp_raise J' hs hf tk cF hn fC c
  have loop : codeAny (model X.prog X.w) X.A (.compLoop (.ListComp elt [⟨tg, iter, ifs, 0⟩] scope pos) 0 (.ref it) (.ref D) ce) (cpost (model X.prog X.w) X.A X.xe use Qf (.ref D) ce) s4 := by
    refine compLoop_any (fun n s' => ∃ i H', Inv (X.blk s3 H3 scope ce fp) [] (wipe σ (own.map (·.2))) H' s' ∧ tn i s'.heap ∧ (∀ b ∈ fp, H' b = none) ∧ W i n H') ?_ m0 ⟨0, H3, I4, st4, zero, w0⟩
    rintro n s5 ⟨i, H5, I5, st5, n5, w5⟩
    rcases turn i n H5 w5 with ⟨stop, qq⟩ | ⟨go, Nx, hNx, step⟩
    · refine thnF (T.done (X.blk s3 H3 scope ce fp) rfl rfl rfl hc i [] s5 _ H5 (fun _ _ => False) I5 (stat I5 n5) st5 stop) fun r s6 ⟨hr, I6⟩ => ?_
      subst hr
      obtain ⟨J6, fC⟩ := home I6
      obtain ⟨m, hn, _⟩ := I6.loc
      exact last D ce s6 m H5 J6 qq hn fC
    · refine thnF (T.item (X.blk s3 H3 scope ce fp) rfl rfl rfl hc i [] s5 _ H5 (fun _ _ => False) I5 (stat I5 n5) st5 go) fun r s6 ⟨u, hr, h6⟩ => ?_
      subst hr
      refine thnF h6 fun _ s7 ⟨x, H7, I7, r7, y7, st7, n7⟩ => ?_
      have P7 := I7.pinned (stat I7 n7) (T.obj _ _ st7)
      refine thnF (pg.run _ s7 _ H7 x u _ P7 r7 (step x H7 y7)) fun _ s8 ⟨σ8, H8, I8, hw8, q8⟩ => ?_
      refine thnF (pt.run _ s8 σ8 H8 _ I8 q8) fun b s9 ⟨H9, I9, q9⟩ => ?_
      have close : ∀ {s' : Shared} {H' : Hp}, Inv (X.blk s3 H3 scope ce fp) ([] ++ pinsAt fp s7.heap) σ8 H' s' → Nx H' → ∃ m, m < n ∧ ∃ i H', Inv (X.blk s3 H3 scope ce fp) [] (wipe σ (own.map (·.2))) H' s' ∧ tn i s'.heap ∧ (∀ b ∈ fp, H' b = none) ∧ W i m H' := fun {s' H'} I' nx => by
        obtain ⟨m', hm, w'⟩ := hNx H' nx
        have still : ∀ b ∈ fp, ∀ o, s7.heap.get? b = some o → s'.heap.get? b = some o ∧ H' b = none := fun b hb o e => by
          have z := I'.pin (b, o) (List.mem_append_right _ (List.mem_append_right _ (mem_pinsAt hb e)))
          exact ⟨z.1, z.2.1⟩
        refine ⟨m', hm, i + 1, H', (I'.unpinned (pins := [])).weak (by rw [← hw8, wipe_length]) (fun j v e => (wipe_some (by rw [hw8]; exact e)).1), T.keep _ _ _ st7 fun b hb o e => (still b hb o e).1, fun b hb => ?_, w'⟩
        obtain ⟨o, e, _⟩ := T.obj _ _ st7 b hb
        exact (still b hb o e).2
      cases b with
      | false => exact close I9 (by simpa using q9)
      | true =>
        have q9 : te σ8 H9 fun y H4 => ∃ acc, H4 D = some (.lst acc) ∧ acc.length < sizeLine ∧ Nx (upd H4 D (.lst (acc ++ [y]))) := by simpa using q9
        rw [if_pos rfl]
        refine wpAny_mono ((pe _ out).run _ s9 σ8 H9 _ (I9.wish _) q9) (fun z s10 ⟨yv, H10, I10, r10, acc, hD10, hz10, nx⟩ => ?_) fun _ _ z => z
        exact app_ok (X := X.blk s3 H3 scope ce fp) I10.unwish hD10 hz10 r10 fun s11 I11 => close I11 nx
  exact codeAny_compStart_list loop (T.self X.A 0 _ _ _ st4 loop)
/-- as a value -/
theorem pe_lcx {E : XK} {elt tg iter : Expr} {ifs : List Expr} {scope : Scope} {own : List (Str × Nat)} {pos : Pos} {wi : TI} {g : TG} {tt : TT} {te : TE} (hc : X.calm = true) (hs : X.stack = X.env :: X.outer) (hf : X.env.frame = some X.env.locals)
    (tk : Takes X fun cls d _ H => E cls d H) (hN : X.N.Nodup) (hi : PI X tg iter wi) (ok : BlkOk X.N X.env.scope scope own) (hg : BlkAll X scope fun Y => PG Y tg g) (ht : BlkAll X scope fun Y => PTs Y ifs tt)
    (he : BlkAll X scope fun Y => ∀ xe, Passes (L2.CX X.prog X.w) (Y.wish xe) E → PE (Y.wish xe) elt te) (hfold : ∀ x, foldedSetIterable iter X.env x = pure x) :
    PE X (.ListComp elt [⟨tg, iter, ifs, 0⟩] scope pos) (tLc wi g tt te (own.map (·.2))) := by
  refine ⟨fun pins s σ H Q I h => ?_⟩
  rw [eval_ListComp]
  refine lcx_core hc hs hf tk hN I hi ok hg ht he hfold h fun D ce s' m H' I' q hn ⟨f0, f1, f2, f3, f4, f5⟩ => ⟨m, hn, fun gg sb => ?_⟩
  exact ⟨.ref D, H', I'.turned (t' := s'.toks) (fun b o hb e => (sb.2 b hb).trans e) f0 f1 f3 f4 f5, rfl, q⟩
/-- into a local name -/
theorem ps_setLcx {E : XK} {i : Nat} {y : Str} {py : Pos} {elt tg iter : Expr} {ifs : List Expr} {scope : Scope} {own : List (Str × Nat)} {pos spos : Pos} {wi : TI} {g : TG} {tt : TT} {te : TE} (hc : X.calm = true) (hs : X.stack = X.env :: X.outer)
    (hf : X.env.frame = some X.env.locals) (tk : Takes X fun cls d _ H => E cls d H) (hN : X.N.Nodup) (hy : X.N[i]? = some y) (hyl : X.env.scope.names.lookup y = some .local)
    (hsw : swapsWith (.ListComp elt [⟨tg, iter, ifs, 0⟩] scope pos) (some (.Name y py)) spos.line X.env = pure true) (hi : PI X tg iter wi) (ok : BlkOk X.N X.env.scope scope own)
    (hg : BlkAll X scope fun Y => PG Y tg g) (ht : BlkAll X scope fun Y => PTs Y ifs tt)
    (he : BlkAll X scope fun Y => ∀ xe, Passes (L2.CX X.prog X.w) (Y.wish xe) E → PE (Y.wish xe) elt te) (hfold : ∀ x, foldedSetIterable iter X.env x = pure x) :
    PS X (.Assign [.Name y py] (.ListComp elt [⟨tg, iter, ifs, 0⟩] scope pos) spos) (tAsg (tLc wi g tt te (own.map (·.2))) (gName i)) := by
  refine ⟨fun pins s σ H D I h => ?_⟩
  rw [exec_Assign_Name_used _ _ _ _ hsw]
  refine wpAny_bind (wpAny_standAt (wpAny_bind ?_))
  have h : tLc wi g tt te (own.map (·.2)) σ H (fun x H1 => gName i x σ H1 D.nx) := h
  refine wpAny_bind (thn (lcx_core (use := some (assign (.Name y py) X.env)) (Qf := fun _ s' => SP X pins D .next s') hc hs hf tk hN I hi ok hg ht he hfold h fun L ce s' m H' I' q hn ⟨f0, f1, f2, f3, f4, f5⟩ => ?_) fun _ s' hq => wpAny_pure (wpAny_pure hq))
  show wpAny _ _ (assign (.Name y py) X.env (.ref L)) _ _ _
  refine wpAny_assign_Name (store_ok2 (v := V.ref L) I' hN hy (.inl hyl) rfl (fun s2 I2 ⟨a, sb, ha⟩ => ?_) (.inr hyl))
  have na : ce.locals ≠ a := ha.elim (fun z => by rw [z]; exact f1) fun z e => f4 y a z e.symm
  refine ⟨m, hn.sameBut sb na, fun h3 sb3 => ?_⟩
  exact ⟨_, H', I2.turned (t' := s2.toks) (fun b o hb e => (sb3.2 b hb).trans e) f0 f1 f3 f4 f5, q⟩
end
end Tt
end

section
/-! TextError(line): its own __init__, which calls super's. -/
namespace Tt.TE
open PySem PySem.W PySem.Calls PyProof.Rows PySem.HandSPX

def iA : Arguments := { posonlyargs := [], args := [{ arg := "self", annotation := none, pos := ⟨6, 17, 6, 21⟩ }, { arg := "line", annotation := none, pos := ⟨6, 23, 6, 27⟩ }], vararg := none, kwonlyargs := [], kw_defaults := [], kwarg := none, defaults := [] }
def iB : List Stmt := [.Expr (.Call (.Attribute (.Call (.Name "super" ⟨7, 8, 7, 13⟩) [] [] ⟨7, 8, 7, 15⟩) "__init__" ⟨7, 8, 7, 24⟩) [.Constant (.str "a line has no meaning") 0 ⟨7, 25, 7, 48⟩] [] ⟨7, 8, 7, 49⟩) ⟨7, 8, 7, 49⟩,
  .Assign [.Attribute (.Name "self" ⟨8, 8, 8, 12⟩) "line" ⟨8, 8, 8, 17⟩] (.Name "line" ⟨8, 20, 8, 24⟩) ⟨8, 8, 8, 24⟩]
def iS : Scope := { kind := .function, names := [(Str.ofString "self", .local), (Str.ofString "line", .local), (Str.ofString "__class__", .free), (Str.ofString "super", .globalImplicit)], isGenerator := false, isCoroutine := false, more := [] }
/-- what the written part says of TextError, at C, and of its __init__, at fI -/
structure Txt (P : Program) (K : Frag) (mg : Str → Option Value) (C fI cc cda : Addr) : Prop where
  gC : mg "TextError" = some (.ref C)
  cls : ∃ nm q N bs bm sn sub ab col dd k0 k1 k2 k3 k5, K.lookup C = some (excClassObj nm q C N bs bm true sn sub ab col dd k0 k1 k2 k3 k5 "ValueError.__new__") ∧ refsVE bm = true ∧ alongIn K "__init__" (((Value.ref C :: bm).dropWhile (· != .ref C)).drop 1) = some (some (.builtin "ValueError.__init__"))
  sa : findIn K (.ref C) "__setattr__" = some (some (.builtin "object.__setattr__"))
  ga : findIn K (.ref C) "__getattribute__" = some (some (.builtin "BaseException.__getattribute__"))
  gg : findIn K (.ref C) "__getattr__" = some none
  noN : findIn K (.ref C) "line" = some none
  iC : findIn K (.ref C) "__init__" = some (some (.ref fI))
  tC : typeIn K (.ref fI) = some (.type "function")
  kC : keepIn K (.ref C) = true
  exC : subIn K (.ref C) (.type "BaseException") = some true
  veC : subIn K (.ref C) (.type "ValueError") = some true
  tyC : typeIn K (.ref C) = some (.type "type")
  hdC : hasDictIn K C = true
  te : exmOne K (.ref C) (.ref C) = some true
  me : mroIn K C (.ref C) = some true
  st : nsIn K cStatics "thirdparty.any" = some none
  sup : nsIn K mainGlobals "super" = some none
  cell : ∃ cl cld csl, K.lookup cc = some ⟨cl, cld, .cell (some (.ref C)), csl⟩
  fn : ∃ (oc : Value) (od : Option Addr) (doc pm : Value) (an : Option Addr) (ct : Value) (osl : Array (Option Value)),
    K.lookup fI = some ⟨oc, od, .func (ksFn "__init__" "TextError.__init__" iA iB iS .none .none doc pm an (.ref cda) ct cc), osl⟩ ∧ codeIn K (.ref cda) "TextError.__init__" = true
  code : ∃ ccl cdd vs ccs file tf, K.lookup cda = some ⟨ccl, cdd, .fields vs, ccs⟩ ∧ vs[2]? = some (.str file tf) ∧ ((P.main.file : Str) == file) = true
  top : (P.main.scope.names.lookup ("super" : Str)).isSome = false
theorem one_fits (v : Value) : [v].length ≤ sizeLine := by
  rw [sizeLine_eq]
  exact (by decide : 1 ≤ 16777216)
theorem in_but {K : Frag} {h h' : Heap} {x : Addr} (X : K.In h) (hx : K.lookup x = none) (k : ∀ b o, b ≠ x → h.get? b = some o → h'.get? b = some o) : K.In h' := fun a o e =>
  k a o (fun z => by rw [z, hx] at e; cases e) (X a o e)
/-- what __init__ leaves of a fresh exception at x -/
structure Left (h h' : Heap) (x C dx t1 : Addr) (v : Value) : Prop where
  keep : ∀ b o, b ≠ x → h.get? b = some o → h'.get? b = some o
  obj : h'.get? x = some { cls := .ref C, dict := some dx, data := .fields #[.ref t1, .none, .none, .none, .bool false, .none] }
  dbig : h.objs.size ≤ dx
  dne : dx ≠ x
  ns : h'.Ns1 dx (fun y => if y = "line" then some v else none)
section
variable {P : Program} {w : World} {A : Around} {E : Value → Shared → Prop} {R : Result → Shared → Prop} {s : Shared} {K : Frag} {mg mb : Str → Option Value} {C fI cc cda : Addr}
theorem init_runs (T : Txt P K mg C fI cc cda) {x t0 : Addr} {v : Value} (X : K.In s.heap) (G : s.heap.Ns mainGlobals mg) (B : s.heap.Ns builtinsNs mb) (hmb : mb "super" = some (.type "super")) (hlim : s.heap.NoLimit)
    (hx : s.heap.get? x = some (excO C t0)) (hnx : K.lookup x = none) (hroom : A.depth < recursionLimit)
    (hq : ∀ h' tk dx t1, Left s.heap h' x C dx t1 v → R (.ok (.ret .none)) { s with heap := h', toks := tk }) :
    codeAny (model P w) A (.call (.ref fI) ⟨[.ref x, v], []⟩) R s := by
  obtain ⟨oc, od, doc, pm, an, ct, osl, ho, hcd⟩ := T.fn
  obtain ⟨nm, q, N, bs, bm, sn, sub, ab, col, dd, k0, k1, k2, k3, k5, hC, hbm, hal⟩ := T.cls
  obtain ⟨cl, cld, csl, hcell⟩ := T.cell
  obtain ⟨ccl, cdd, vs, ccs, file, tf, hcode, hvs, hfile⟩ := T.code
  have hcl : clsIn K C = some { name := nm, bases := bs, mro := .ref C :: bm, ns := N, qualname := q, hasDict := true, slotNames := sn, subclasses := sub, abstract := ab, collection := col, hasDel := false } := by unfold clsIn; rw [hC] <;> rfl
  have hb : BindsTo s (ksFn "__init__" "TextError.__init__" iA iB iS .none .none doc pm an (.ref cda) ct cc) ⟨[.ref x, v], []⟩ [("self", .ref x), ("line", v)] := BindsTo.of_eq (by first | rfl | with_unfolding_all rfl)
  have hl : ∀ y ∈ ([("self", .ref x), ("line", v)] : List (Str × Value)), iS.names.lookup y.1 = some .local := fun y hy => by
    rcases List.mem_cons.mp hy with z | z
    · subst z; rfl
    · have z : y = (("line" : Str), v) := by simpa using z
      subst z; rfl
  refine ks_codeAny_call_defAt (fd := ksFn "__init__" "TextError.__init__" iA iB iS .none .none doc pm an (.ref cda) ct cc) (body := iB) hroom (X _ _ ho) rfl hlim (codeRec_of X hcd) rfl hb (by show ∀ y ∈ iS.names, y.2 ≠ .cell; decide) hl (fun h1 hns k1 => ?_) rfl rfl rfl
  have X1 : K.In h1 := X.keeps k1
  have hx1 := k1 _ _ hx
  generalize hA2 : A.deeper (callEnv (ksFn "__init__" "TextError.__init__" iA iB iS .none .none doc pm an (.ref cda) ct cc) s.heap.objs.size fI) = A2
  generalize hs1 : ({ s with heap := h1, toks := s.toks + ([("self", .ref x), ("line", v)] : List (Str × Value)).length } : Shared) = s1
  have e1 : s1.heap = h1 := by rw [← hs1]
  obtain ⟨hh, g, d, t, os⟩ := s1
  dsimp only at e1
  subst e1
  have G1 := G.keeps k1
  have B1 := B.keeps k1
  have hD := X1 _ _ hC
  refine ks_wpAt_execs_cons (ks_wpAt_Expr_any (ks_wpAt_MethodCall ?_ (by rfl)) (by rfl) (by rfl))
  refine ks_wpAt_super_base (env := ksEnv "TextError.__init__" iS s.heap.objs.size fI (.ref cda) cc) (by rfl) (by rfl) rfl rfl (X1 _ _ ho) rfl rfl rfl (X1 _ _ hcode) rfl hvs hfile T.top ?_
  refine ks_loadName_global rfl (by rfl) (loadGlobal_builtin (env := ksEnv "TextError.__init__" iS s.heap.objs.size fI (.ref cda) cc) G1 (mg_none_of X1 G1 T.sup) B1 hmb ⟨rfl, ?_⟩)
  refine wpAny_loadName_free rfl (by rfl) rfl ⟨_, X1 _ _ hcell, rfl⟩ ?_
  refine wpAny_loadName_local rfl (by rfl) hns (by rfl) ?_
  refine ks_wpAny_isType_cls hD rfl ⟨rfl, ?_⟩
  refine ks_wpAny_call_super hD rfl hx1 rfl (fun c e => by cases e) (looks_mroIn X1 T.me) (fun h2 e2 k2 => ?_)
  have X2 : K.In h2 := X1.keeps k2
  have hx2 := k2 _ _ hx1
  have I2 : InstAt h2 x (excO C t0) C none := ⟨hx2, rfl, rfl, trivial⟩
  refine kxs_getMethod kxs_ValueError e2 (looks_opaque X2 T.st) (l₀ := .ref C :: bm) ((looks_clsIn X2 hcl).andThen .now) rfl X2 hal (I2.type.andThen (looks_subIn X2 T.veC)) (ks_ne X2 I2 hcl) (by decide) ?_
  generalize hh3 : h2.push (kxs_mw "ValueError.__init__" x) = h3
  have k3 : ∀ b o, h2.get? b = some o → h3.get? b = some o := fun b o e => by rw [← hh3]; exact Heap.get?_push_of_some _ e
  have hu : h3.get? h2.objs.size = some (kxs_mw "ValueError.__init__" x) := by rw [← hh3]; exact Heap.get?_push_size _ rfl
  have X3 : K.In h3 := X2.keeps k3
  have hx3 := k3 _ _ hx2
  refine kxs_callWith (i := "ValueError.__init__") (x := x) rfl (evalArgs_plain (Calls.spliced_cons (Calls.Constant_str (pos := ⟨7, 25, 7, 48⟩) (k := 0) (Calls.spliced_nil ⟨hu, ?_⟩))))
  refine wpAny_call (codeAny_of_tree ?_)
  show wpAny _ A2.in1 (callAny (.ref h2.objs.size) ⟨[.str "a line has no meaning" _], []⟩) _ _ _
  simp only [callAny]
  refine wpAny_bind (wpAny_load hu ?_)
  simp only [kxs_mw, show (Value.type "method-wrapper" == Value.type "method" || Value.type "method-wrapper" == Value.type "builtin_function_or_method" || Value.type "method-wrapper" == Value.type "method-wrapper") = true by decide, if_true]
  refine KFB.if_so (by decide) ?_
  refine wpAny_bind (check_bound_init PySem.F.excBase_ValueError.toExcCallFacts (X3 _ _ hC) hx3 rfl ?_)
  refine wpAny_bind (wpAny_pure (wpAny_pure ?_))
  refine ⟨plainId_quiet PySem.F.excBase_ValueError.init.plain _, codeAny_builtin PySem.F.excBase_ValueError.initEntry ?_⟩
  refine exc_init_tree (cls := .ref C) (t0 := t0) (dv := none) (c2 := .none) (c3 := .none) (b4 := .bool false) hx3 (one_fits _) (fun h4 k4 hx4 _ => ?_)
  have X4 : K.In h4 := in_but X3 hnx k4
  obtain ⟨oL, es, ep, hL, rL⟩ := id hns
  have Lx : s.heap.objs.size ≠ x := Nat.ne_of_gt (Heap.lt_size hx)
  have n4 : h4.Ns s.heap.objs.size (fun y => ([("self", .ref x), ("line", v)] : List (Str × Value)).reverse.lookup y) := ⟨oL, es, ep, k4 _ _ Lx (k3 _ _ (k2 _ _ hL)), rL⟩
  refine wpAt_of_wpAny (wpAny_execs_cons (plainObj_wpAny_Assign_Attribute ?_ (by rfl)))
  refine wpAny_Name (wpAny_loadName_local rfl (by rfl) n4 (by rfl) ?_) (by decide)
  refine wpAny_Name (wpAny_loadName_local rfl (by rfl) n4 (by rfl) ?_) (by decide)
  refine set_plain X4 (ox := excO C h3.objs.size) (od := none) ⟨hx4, rfl, rfl, trivial⟩ T.sa ?_
  refine exc_osa X4 hx4 hcl (show refsVE (.ref C :: bm) = true from hbm) rfl T.noN (fun h5 tk5 dx k5 dn dne hx5 hn5 => ?_)
  show wpAny _ _ (execs _ _) _ _ _
  have big : s.heap.objs.size ≤ dx := by
    have z : s.heap.objs.size < h4.objs.size := n4.lt
    exact Nat.le_trans (Nat.le_of_lt z) dn
  have all : ∀ b o, b ≠ x → s.heap.get? b = some o → h5.get? b = some o := fun b o hb e => k5 b o hb (k4 b o hb (k3 _ _ (k2 _ _ (k1 b o e))))
  have fin := hq h5 tk5 dx _ ⟨all, hx5, big, dne, hn5⟩
  have q1 : s.gens = g := congrArg Shared.gens hs1
  have q2 : s.drawn = d := congrArg Shared.drawn hs1
  have q3 : s.os = os := congrArg Shared.os hs1
  rw [← q1, ← q2, ← q3]
  exact wpAny_execs_nil fin
/-- a made TextError -/
structure Made (h h' : Heap) (e C d : Addr) (v : Value) : Prop where
  keep : ∀ b o, h.get? b = some o → h'.get? b = some o
  new : h.objs.size ≤ e
  obj : ∃ oe vs, h'.get? e = some oe ∧ oe.cls = .ref C ∧ oe.dict = some d ∧ oe.data = .fields vs ∧ vs[1]? = some .none
  dbig : h.objs.size ≤ d
  dne : d ≠ e
  ns : h'.Ns1 d (fun y => if y = "line" then some v else none)
theorem made (T : Txt P K mg C fI cc cda) {v : Value} (X : K.In s.heap) (G : s.heap.Ns mainGlobals mg) (B : s.heap.Ns builtinsNs mb) (hmb : mb "super" = some (.type "super")) (hlim : s.heap.NoLimit) (hroom : A.depth + 1 < recursionLimit)
    (hq : ∀ h' tk e d, Made s.heap h' e C d v → R (.ok (.ret (.ref e))) { s with heap := h', toks := tk }) :
    codeAny (model P w) A (.call (.ref C) ⟨[v], []⟩) R s := by
  obtain ⟨nm, q, N, bs, bm, sn, sub, ab, col, dd, k0, k1, k2, k3, k5, hC, hbm, hal⟩ := T.cls
  obtain ⟨hp, g, dr, tk, os⟩ := s
  generalize hg : (hp.push (kdv_tup [v])).push (excO C hp.objs.size) = gp
  have up : ∀ b o, hp.get? b = some o → gp.get? b = some o := fun b o e => by rw [← hg]; exact Heap.get?_push_of_some _ (Heap.get?_push_of_some _ e)
  have at1 : gp.get? (hp.objs.size + 1) = some (excO C hp.objs.size) := by
    rw [← hg]
    heap_get
  have sz : gp.objs.size = hp.objs.size + 1 + 1 := by rw [← hg, Heap.size_push, Heap.size_push]
  have fresh : K.lookup (hp.objs.size + 1) = none := by
    cases e : K.lookup (hp.objs.size + 1) with
    | none => rfl
    | some o => exact absurd (Nat.lt_of_succ_lt (Heap.lt_size (X _ _ e))) (Nat.lt_irrefl _)
  refine call_own PySem.F.excBase_ValueError (fun X => refsVE_contains X bm hbm) (X _ _ hC) (looks_findIn X T.iC) (fun self => bind_fn X self T.tC) (one_fits v) ?_
  rw [hg]
  refine init_runs (s := ⟨gp, g, dr, tk, os⟩) T (X.keeps up) (G.keeps up) (B.keeps up) hmb (hlim.keeps up) at1 fresh hroom fun h' tk' dx t1 ⟨z1, z2, z3, z4, z5⟩ => ?_
  have all : ∀ b o, hp.get? b = some o → h'.get? b = some o := fun b o e => z1 b o (Nat.ne_of_lt (Nat.lt_succ_of_lt (Heap.lt_size e))) (up b o e)
  have z3 : hp.objs.size + 1 + 1 ≤ dx := by rw [← sz]; exact z3
  exact ⟨rfl, hq h' tk' (hp.objs.size + 1) dx ⟨all, Nat.le_succ _, ⟨_, _, z2, rfl, rfl, rfl, rfl⟩, Nat.le_trans (Nat.le_trans (Nat.le_succ _) (Nat.le_succ _)) z3, z4, z5⟩⟩
end
end Tt.TE
end

section
/-! A small Python over plain data: its values, its store, its evaluation. -/
namespace Tt
open PySem

inductive D where
  | non | bl (b : Bool) | int (i : Int) | str (s : Str) | tup (l : List D) | lst (l : List D) | fzl (l : List D) | ref (n : Nat)
  deriving Inhabited

inductive O where
  | lst (l : List D) | dic (kvs : List (L2.Key × D)) | dead
  deriving Inhabited

abbrev Sto := List O
abbrev En := List (Option D)

inductive Bop | add | sub | mul | fdiv | mod
  deriving DecidableEq
inductive Cop | eq | ne | lt | le | gt | ge | isN | notN | inn | notIn
  deriving DecidableEq
inductive Ty | int | bool | str | tuple | list | dict
  deriving DecidableEq
inductive Blt | len | abs | int | sorted | list | tuple | dict | all | any | sum | str | min | max
  deriving DecidableEq
inductive Mth | append | pop | extend | endswith | count | split | join | upper
  deriving DecidableEq
/-- a target: one name, or some names of a tuple -/
inductive Tg | one (i : Nat) | many (is : List Nat)
mutual
inductive E where
  | var (i : Nat) | cst (d : D) | glob (x : Str) (d : D)
  | tup (es : List E) | lst (fz : Bool) (es : List E)
  | and (a b : E) | or (a b : E) | not (a : E) | ite (c : T) (a b : E)
  | bin (op : Bop) (a b : E) | neg (a : E)
  | cmp (op : Cop) (a b : E) | chain (op op' : Cop) (a b c : E)
  | ix (a b : E) | slice (a : E) (lo hi : Option E)
  | call (f : Nat) (es : List E)
  | isi (a : E) (t : Ty)
  | blt (fz : Bool) (b : Blt) (es : List E)
  | meth (m : Mth) (o : E) (es : List E)
  | comp (fz : Bool) (own : List Nat) (tg : Tg) (src : Sr) (ifs : List T) (elt : E)
  | dcomp (own : List Nat) (tg : Tg) (src : Sr) (ifs : List T) (k v : E)
inductive T where
  | val (e : E) | cmp (op : Cop) (a b : E) | chain (op op' : Cop) (a b c : E) | not (t : T) | and (a b : T) | or (a b : T)
inductive Sr where
  | seq (e : E) | rng (a : E) | rng2 (a b : E) | enum (e : E) | zip (a b : E) | keys (e : E)
end
/-- what may raise: a def's call, a tuple of such, a comprehension of calls, a tuple of that, one of two calls -/
inductive RC where
  | pure (e : E) | call (f : Nat) (es : List E)
inductive R where
  | c (x : RC) | tup (xs : List RC) | tupC (own : List Nat) (tg : Tg) (src : Sr) (x : RC) | ite (t : T) (a b : RC)
inductive Sm where
  | raise (e : E) | setR (i : Nat) (r : R) | setC (i : Nat) (own : List Nat) (tg : Tg) (src : Sr) (x : RC) | retR (r : R) | appR (o : E) (r : R) | tryE (body : List Sm) (n : Nat)
  | set (i : Nat) (e : E) | unpack (is : List Nat) (e : E) | setIx (o ix v : E) | aug (i : Nat) (op : Bop) (e : E)
  | expr (e : E) | ret (e : E) | retN | ifs (c : T) (a b : List Sm) | for_ (tg : Tg) (src : Sr) (body : List Sm) | while_ (c : T) (body : List Sm)
  | never | pass | brk | cont
end Tt
end

section
/-! The evaluation. -/
namespace Tt
open PySem

/-! ### values -/
mutual
def pyD : D → Option PyData
  | .non => some .none
  | .bl b => some (.bool b)
  | .int i => some (.int i)
  | .str s => some (.str s)
  | .tup l => (pyL l).map .tuple
  | .lst l => (pyL l).map .list
  | .fzl _ => none
  | .ref _ => none
def pyL : List D → Option (List PyData)
  | [] => some []
  | d :: r => (pyD d).bind fun x => (pyL r).map fun y => x :: y
end
def eqD (a b : D) : Option Bool :=
  (pyD a).bind fun x => (pyD b).bind fun y => if (SeqAt.shaped x && SeqAt.shaped y) = true then some (PyData.eqv x y) else none
def kD : D → Option L2.Key
  | .int i => some (.inl i)
  | .str s => some (.inr s)
  | _ => none
def lookK (kvs : List (L2.Key × D)) (k : L2.Key) : Option D := (kvs.find? fun p => decide (p.1 = k)).map (·.2)
def putK (kvs : List (L2.Key × D)) (k : L2.Key) (v : D) : List (L2.Key × D) :=
  if (kvs.any fun kv => decide (kv.1 = k)) = true then kvs.map (fun kv => if kv.1 = k then (kv.1, v) else kv) else kvs ++ [(k, v)]
def mergeK (kvs more : List (L2.Key × D)) : List (L2.Key × D) := more.foldl (fun acc kv => putK acc kv.1 kv.2) kvs
/-- what may be walked -/
def items (S : Sto) : D → Option (List D)
  | .tup l => some l
  | .lst l => some l
  | .fzl l => some l
  | .ref n => match S[n]? with
    | some (.lst l) => some l
    | _ => none
  | _ => none
/-- .. a list alone -/
def litems (S : Sto) : D → Option (List D)
  | .lst l => some l
  | .ref n => match S[n]? with
    | some (.lst l) => some l
    | _ => none
  | _ => none
def truth (S : Sto) : D → Option Bool
  | .non => some false
  | .bl b => some b
  | .int i => some (i != 0)
  | .str s => if s.length ≤ sizeLine then some ((s.length : Int) != 0) else none
  | .tup l => some (!l.isEmpty)
  | .lst l => some (!l.isEmpty)
  | .fzl _ => none
  | .ref n => match S[n]? with
    | some (.lst l) => some (!l.isEmpty)
    | some (.dic kvs) => some (!kvs.isEmpty)
    | _ => none
/-- a new list: a value, or an object of the store -/
def mkL (fz : Bool) (l : List D) (S : Sto) : Option (D × Sto) :=
  if l.length ≤ sizeLine then (if fz = true then some (.lst l, S) else some (.ref S.length, S ++ [.lst l])) else none

/-! ### operators -/
def opB (op : Bop) (a b : D) (S : Sto) : Option (D × Sto) :=
  match op, a, b with
  | .add, .int i, .int j => some (.int (i + j), S)
  | .sub, .int i, .int j => some (.int (i - j), S)
  | .mul, .int i, .int j => if (-(2 ^ 64) < i ∧ i < 2 ^ 64) ∨ (-(2 ^ 64) < j ∧ j < 2 ^ 64) then some (.int (i * j), S) else none
  | .fdiv, .int i, .int j => if 0 < j ∧ j < 1073741824 then some (.int (i / j), S) else none
  | .mod, .int i, .int j => if 0 < j then some (.int (i % j), S) else none
  | .add, .str i, .str j => if i.length + j.length ≤ sizeLine then some (.str (i ++ j), S) else none
  | .add, .tup x, .tup y => if x.length + y.length ≤ sizeLine then some (.tup (x ++ y), S) else none
  | .add, x, y => (litems S x).bind fun l => (litems S y).bind fun r => mkL true (l ++ r) S
  | _, _, _ => none
def flatD : D → Bool
  | .non => true | .bl _ => true | .int _ => true | .str _ => true | _ => false
def toV : D → L2.V
  | .non => .non | .bl b => .bl b | .int i => .int i | .str s => .str s | _ => .non
def inD (a : D) (l : List D) : Option Bool :=
  if (flatD a && l.all flatD) = true then some (L2.inV (toV a) (l.map toV)) else none
/-- .. in a list, whatever it holds -/
def inL (a : D) (l : List D) : Option Bool :=
  if (flatD a && l.all flatD) = true then some (L2.inV (toV a) (l.map toV)) else
    (pyD a).bind fun x => (pyL l).bind fun ys => if (SeqAt.shaped x && SeqAt.shaped (.list ys)) = true then some (ys.any fun z => PyData.eqv z x) else none
def isIn (a b : D) (S : Sto) : Option Bool :=
  match a, b with
  | .str c, .str z => match c.cps.toList with
    | [x] => some (decide (x ∈ z.cps.toList))
    | _ => none
  | a, .ref n => match S[n]? with
    | some (.dic kvs) => (kD a).map fun k => (lookK kvs k).isSome
    | some (.lst l) => inD a l
    | _ => none
  | a, .tup l => inD a l
  | a, .lst l => inL a l
  | _, _ => none
def isNon : D → Bool
  | .non => true
  | _ => false
def cmpD (op : Cop) (a b : D) (S : Sto) : Option Bool :=
  match op, a, b with
  | .eq, a, b => eqD a b
  | .ne, a, b => (eqD a b).map (!·)
  | .lt, .int i, .int j => some (decide (i < j))
  | .le, .int i, .int j => some (decide (i ≤ j))
  | .gt, .int i, .int j => some (decide (j < i))
  | .ge, .int i, .int j => some (decide (j ≤ i))
  | .isN, a, .non => some (isNon a)
  | .notN, a, .non => some (!isNon a)
  | .inn, a, b => isIn a b S
  | .notIn, a, b => (isIn a b S).map (!·)
  | _, _, _ => none
def ixD (a b : D) (S : Sto) : Option D :=
  match a, b with
  | .str z, .int i => if z.length ≤ sizeLine then (L2.atI z.cps.toList i).map fun c => .str ⟨#[c]⟩ else none
  | .tup l, .int i => L2.atI l i
  | .lst l, .int i => L2.atI l i
  | .ref n, b => match S[n]?, b with
    | some (.lst l), .int i => L2.atI l i
    | some (.dic kvs), b => (kD b).bind fun k => lookK kvs k
    | _, _ => none
  | _, _ => none
def cutD {α : Type} (xs : List α) (lo hi : Option Int) : List α := (xs.drop (HT.sIx xs.length 0 lo)).take (HT.sIx xs.length xs.length hi - HT.sIx xs.length 0 lo)
def slD (a : D) (lo hi : Option Int) (S : Sto) : Option (D × Sto) :=
  match a with
  | .tup l => some (.tup (cutD l lo hi), S)
  | .str z => if z.length ≤ sizeLine then some (.str (L2.cutS z lo hi), S) else none
  | a => (litems S a).map fun l => (.lst (cutD l lo hi), S)
def isiD (S : Sto) (t : Ty) : D → Option Bool
  | .non => some false
  | .bl _ => some (t == .bool || t == .int)
  | .int _ => some (t == .int)
  | .str _ => some (t == .str)
  | .tup _ => some (t == .tuple)
  | .lst _ => some (t == .list)
  | .fzl _ => none
  | .ref n => match S[n]? with
    | some (.lst _) => some (t == .list)
    | some (.dic _) => some (t == .dict)
    | _ => none
def bools : List D → Option (List Bool)
  | [] => some []
  | .bl b :: r => (bools r).map (b :: ·)
  | _ => none
def intsD : List D → Option (List Int)
  | [] => some []
  | .int i :: r => (intsD r).map (i :: ·)
  | _ => none
def strsD : List D → Option (List Str)
  | [] => some []
  | .str s :: r => (strsD r).map (s :: ·)
  | _ => none
def kpairs : List D → Option (List (L2.Key × D))
  | [] => some []
  | .tup [k, v] :: r => (kD k).bind fun k => (kpairs r).map ((k, v) :: ·)
  | _ => none
def insI (x : Int) : List Int → List Int
  | [] => [x]
  | y :: r => if x ≤ y then x :: y :: r else y :: insI x r
def sortI : List Int → List Int
  | [] => []
  | x :: r => insI x (sortI r)
def keysI : List (L2.Key × D) → Option (List Int)
  | [] => some []
  | (.inl i, _) :: r => (keysI r).map (i :: ·)
  | _ => none
def chars (s : Str) : List D := s.cps.toList.map fun c => .str ⟨#[c]⟩
def bltD (fz : Bool) (b : Blt) (ds : List D) (S : Sto) : Option (D × Sto) :=
  match b, ds with
  | .len, [.str s] => if s.length ≤ sizeLine then some (.int s.length, S) else none
  | .len, [.ref n] => match S[n]? with
    | some (.lst l) => some (.int l.length, S)
    | some (.dic kvs) => some (.int kvs.length, S)
    | _ => none
  | .len, [d] => (items S d).map fun l => (.int l.length, S)
  | .abs, [.int i] => some (.int (if i < 0 then -i else i), S)
  | .int, [.int i] => some (.int i, S)
  | .int, [.bl b] => some (.int (if b = true then 1 else 0), S)
  | .list, [.str s] => mkL fz (chars s) S
  | .list, [d] => (items S d).bind fun l => mkL fz l S
  | .tuple, [d] => (items S d).map fun l => (.tup l, S)
  | .int, [.str s] => if s.length ≤ 640 then (intText? s).map fun i => (.int i, S) else none
  | .str, [.int i] => if i.natAbs.log2 < 1920 then some (.str (toString i), S) else none
  | .dict, [d] => (items S d).bind fun l => (kpairs l).map fun kvs => (.ref S.length, S ++ [.dic (mergeK [] kvs)])
  | .all, [d] => (litems S d).bind fun l => (bools l).map fun bs => (.bl (bs.all id), S)
  | .any, [d] => (litems S d).bind fun l => (bools l).map fun bs => (.bl (bs.any id), S)
  | .sum, [d] => (litems S d).bind fun l => (intsD l).map fun ns => (.int ns.sum, S)
  | .sorted, [.ref n] => match S[n]? with
    | some (.dic kvs) => (keysI kvs).bind fun ks => if ks.length < 64 then mkL fz ((sortI ks).map .int) S else none
    | some (.lst l) => (intsD l).bind fun ks => if ks.length < 64 then mkL fz ((sortI ks).map .int) S else none
    | _ => none
  | .sorted, [.lst l] => (intsD l).bind fun ks => if ks.length < 64 then mkL fz ((sortI ks).map .int) S else none
  | _, _ => none
def mthD (m : Mth) (o : D) (ds : List D) (S : Sto) : Option (D × Sto) :=
  match m, o, ds with
  | .append, .ref n, [x] => match S[n]? with
    | some (.lst l) => if l.length < sizeLine then some (.non, S.set n (.lst (l ++ [x]))) else none
    | _ => none
  | .pop, .ref n, [] => match S[n]? with
    | some (.lst l) => match l[l.length - 1]? with
      | some x => some (x, S.set n (.lst l.dropLast))
      | none => none
    | _ => none
  | .pop, .ref n, [.int i] => match S[n]? with
    | some (.lst l) => if 0 ≤ i ∧ i < 2 ^ 63 then (match l[i.toNat]? with
      | some x => some (x, S.set n (.lst (l.eraseIdx i.toNat)))
      | none => none) else none
    | _ => none
  | .extend, .ref n, [y] => match S[n]? with
    | some (.lst l) => (litems S y).bind fun r => if l.length + r.length ≤ sizeLine then some (.non, S.set n (.lst (l ++ r))) else none
    | _ => none
  | .endswith, .str a, [.str b] => some (.bl (Txt.endswith a b), S)
  | .split, .str a, [.str b] => if (b.length == 0) = false ∧ a.length + 2 ≤ sizeLine then some (.lst ((Txt.split a b).map .str), S) else none
  | .join, .str a, [d] => (litems S d).bind fun l => (strsD l).bind fun ys => if (ys.map (·.length)).sum + ys.length * a.length ≤ 16777216 then some (.str (Txt.join a ys), S) else none
  | .upper, .str a, [] => if a.length ≤ 5592405 then some (.str (Txt.upper a), S) else none
  | .count, d, [x] => (litems S d).bind fun l => if (flatD x && l.all flatD) = true then some (.int (((l.map toV).countP fun y => L2.eqV y (toV x) : Nat)), S) else none
  | _, _, _ => none

/-- the receiver is of the method's type -/
def mthChk (m : Mth) (o : D) (S : Sto) : Bool :=
  match m, o with
  | .endswith, .str _ => true
  | .endswith, _ => false
  | .split, .str _ => true
  | .split, _ => false
  | .join, .str _ => true
  | .join, _ => false
  | .upper, .str _ => true
  | .upper, _ => false
  | _, o => (litems S o).isSome

/-! ### targets -/
def setAll : List Nat → List D → En → Option En
  | [], [], env => some env
  | i :: is, d :: ds, env => setAll is ds (env.set i (some d))
  | _, _, _ => none
def bindT : Tg → D → En → Option En
  | .one i, d, env => some (env.set i (some d))
  | .many is, .tup ds, env => setAll is ds env
  | _, _, _ => none
def wipeD (env : En) : List Nat → En
  | [] => env
  | v :: vs => (wipeD env vs).set v none

/-! ### loops -/
/-- a statement's end; rs: an error with a line is raised -/
inductive Fl | nx | rt (d : D) | bk | ct | rs (l : Int)
/-- what a call comes to -/
inductive Rz | ok (d : D) | er (l : Int)
abbrev Cal := Nat → List D → Sto → Option (Rz × Sto)
/-- a call that may not raise -/
def okB (f : List D → Sto → Option (Rz × Sto)) (ds : List D) (S : Sto) : Option (D × Sto) := (f ds S).bind fun q => match q.1 with
  | .ok d => some (d, q.2)
  | .er _ => none
def evs (f : E → En → Sto → Option (D × Sto)) : List E → En → Sto → Option (List D × Sto)
  | [], _, S => some ([], S)
  | e :: es, env, S => (f e env S).bind fun p => (evs f es env p.2).bind fun q => some (p.1 :: q.1, q.2)
def evTs (f : T → En → Sto → Option (Bool × Sto)) : List T → En → Sto → Option (Bool × Sto)
  | [], _, S => some (true, S)
  | t :: ts, env, S => (f t env S).bind fun p => if p.1 = true then evTs f ts env p.2 else some (false, p.2)
/-- a source: what is walked at each turn; how many turns -/
structure Src where
  rd : Sto → Option (List D)
  n : Nat
def loopL (s : Src) (tg : Tg) (body : En → Sto → Option (Fl × En × Sto)) : Nat → Nat → En → Sto → Option (Fl × En × Sto)
  | 0, _, env, S => (s.rd S).bind fun l => if l.length = s.n then some (.nx, env, S) else none
  | m + 1, i, env, S => (s.rd S).bind fun l => if l.length = s.n then l[i]?.bind fun x => (bindT tg x env).bind fun env1 => (body env1 S).bind fun r => match r with
    | (.nx, e2, S2) => loopL s tg body m (i + 1) e2 S2
    | (.ct, e2, S2) => loopL s tg body m (i + 1) e2 S2
    | (.bk, e2, S2) => some (.nx, e2, S2)
    | (.rt d, e2, S2) => some (.rt d, e2, S2)
    | (.rs z, e2, S2) => some (.rs z, e2, S2) else none
/-- a comprehension: the items made so far -/
def loopC (s : Src) (tg : Tg) (env : En) (body : En → Sto → Option (Option D × Sto)) : Nat → Nat → List D → Sto → Option (List D × Sto)
  | 0, _, acc, S => (s.rd S).bind fun l => if l.length = s.n then some (acc, S) else none
  | m + 1, i, acc, S => (s.rd S).bind fun l => if l.length = s.n then l[i]?.bind fun x => (bindT tg x env).bind fun env1 => (body env1 S).bind fun r => match r with
    | (some d, S2) => if acc.length < sizeLine then loopC s tg env body m (i + 1) (acc ++ [d]) S2 else none
    | (none, S2) => loopC s tg env body m (i + 1) acc S2 else none
def loopD (s : Src) (tg : Tg) (env : En) (body : En → Sto → Option (Option (D × D) × Sto)) : Nat → Nat → List (L2.Key × D) → Sto → Option (List (L2.Key × D) × Sto)
  | 0, _, acc, S => (s.rd S).bind fun l => if l.length = s.n then some (acc, S) else none
  | m + 1, i, acc, S => (s.rd S).bind fun l => if l.length = s.n then l[i]?.bind fun x => (bindT tg x env).bind fun env1 => (body env1 S).bind fun r => match r with
    | (some (k, v), S2) => (kD k).bind fun k => if acc.length < sizeLine then loopD s tg env body m (i + 1) (putK acc k v) S2 else none
    | (none, S2) => loopD s tg env body m (i + 1) acc S2 else none
def whL (c : En → Sto → Option (Bool × Sto)) (body : En → Sto → Option (Fl × En × Sto)) : Nat → En → Sto → Option (Fl × En × Sto)
  | 0, _, _ => none
  | m + 1, env, S => (c env S).bind fun p => if p.1 = true then (body env p.2).bind fun r => match r with
    | (.nx, e2, S2) => whL c body m e2 S2
    | (.ct, e2, S2) => whL c body m e2 S2
    | (.bk, e2, S2) => some (.nx, e2, S2)
    | (.rt d, e2, S2) => some (.rt d, e2, S2)
    | (.rs z, e2, S2) => some (.rs z, e2, S2) else some (.nx, env, p.2)
def rngL (lo : Int) (n : Nat) : List D := (List.range n).map fun (i : Nat) => .int (lo + (i : Int))

/-! ### expressions -/
def evOpt (f : E → En → Sto → Option (D × Sto)) : Option E → En → Sto → Option (Option Int × Sto)
  | none, _, S => some (none, S)
  | some e, env, S => (f e env S).bind fun p => match p.1 with
    | .int i => some (some i, p.2)
    | _ => none
def srcOf (S : Sto) : D → Option Src
  | .str s => some ⟨fun _ => some (chars s), s.cps.size⟩
  | d => (items S d).map fun l => ⟨fun S' => items S' d, l.length⟩
/-- each item with its number -/
def numbered : Nat → List D → List D
  | _, [] => []
  | i, d :: r => .tup [.int i, d] :: numbered (i + 1) r
def evSr (f : E → En → Sto → Option (D × Sto)) (s : Sr) (env : En) (S : Sto) : Option (Src × Sto) :=
  match s with
  | .seq e => (f e env S).bind fun p => (srcOf p.2 p.1).map fun s => (s, p.2)
  | .rng a => (f a env S).bind fun p => match p.1 with
    | .int j => if -(2 ^ 62) ≤ j ∧ j < 2 ^ 62 then some (⟨fun _ => some (rngL 0 j.toNat), j.toNat⟩, p.2) else none
    | _ => none
  | .rng2 a b => (f a env S).bind fun p => (f b env p.2).bind fun q => match p.1, q.1 with
    | .int i, .int j => if -(2 ^ 62) ≤ i ∧ i < 2 ^ 62 ∧ -(2 ^ 62) ≤ j ∧ j < 2 ^ 62 then some (⟨fun _ => some (rngL i (j - i).toNat), (j - i).toNat⟩, q.2) else none
    | _, _ => none
  | .enum e => (f e env S).bind fun p => (litems p.2 p.1).map fun l => (⟨fun S' => (litems S' p.1).map (numbered 0), l.length⟩, p.2)
  | _ => none
def evCmp (f : E → En → Sto → Option (D × Sto)) (op : Cop) (a b : E) (env : En) (S : Sto) : Option (Bool × Sto) :=
  (f a env S).bind fun p => (f b env p.2).bind fun q => (cmpD op p.1 q.1 q.2).map fun r => (r, q.2)
def evChain (f : E → En → Sto → Option (D × Sto)) (op op' : Cop) (a b c : E) (env : En) (S : Sto) : Option (Bool × Sto) :=
  (f a env S).bind fun p => (f b env p.2).bind fun q => (cmpD op p.1 q.1 q.2).bind fun r =>
      if r = true then (f c env q.2).bind fun u => (cmpD op' q.1 u.1 u.2).map fun r' => (r', u.2) else some (false, q.2)
mutual
def ev (cal : Cal) : Nat → E → En → Sto → Option (D × Sto)
  | 0, _, _, _ => none
  | d + 1, e, env, S =>
    match e with
    | .var i => match env[i]? with
      | some (some x) => some (x, S)
      | _ => none
    | .cst x => some (x, S)
    | .glob _ x => some (x, S)
    | .tup es => (evs (ev cal d) es env S).bind fun p => if p.1.length ≤ sizeLine then some (.tup p.1, p.2) else none
    | .lst fz es => (evs (ev cal d) es env S).bind fun p => mkL fz p.1 p.2
    | .and a b => (ev cal d a env S).bind fun p => match p.1 with
      | .bl true => ev cal d b env p.2
      | .bl false => some (.bl false, p.2)
      | _ => none
    | .or a b => (ev cal d a env S).bind fun p => match p.1 with
      | .bl true => some (.bl true, p.2)
      | .bl false => ev cal d b env p.2
      | _ => none
    | .not a => (ev cal d a env S).bind fun p => match p.1 with
      | .bl b => some (.bl (!b), p.2)
      | _ => none
    | .ite c a b => (evT cal d c env S).bind fun p => if p.1 = true then ev cal d a env p.2 else ev cal d b env p.2
    | .bin op a b => (ev cal d a env S).bind fun p => (ev cal d b env p.2).bind fun q => opB op p.1 q.1 q.2
    | .neg a => (ev cal d a env S).bind fun p => match p.1 with
      | .int i => some (.int (-i), p.2)
      | _ => none
    | .cmp op a b => (evCmp (ev cal d) op a b env S).map fun p => (.bl p.1, p.2)
    | .chain op op' a b c => (evChain (ev cal d) op op' a b c env S).map fun p => (.bl p.1, p.2)
    | .ix a b => (ev cal d a env S).bind fun p => (ev cal d b env p.2).bind fun q => (ixD p.1 q.1 q.2).map fun r => (r, q.2)
    | .slice a lo hi => (ev cal d a env S).bind fun p => (evOpt (ev cal d) lo env p.2).bind fun q => (evOpt (ev cal d) hi env q.2).bind fun r => slD p.1 q.1 r.1 r.2
    | .call f es => (evs (ev cal d) es env S).bind fun p => okB (cal f) p.1 p.2
    | .isi a t => (ev cal d a env S).bind fun p => (isiD p.2 t p.1).map fun r => (.bl r, p.2)
    | .blt fz b es => (evs (ev cal d) es env S).bind fun p => bltD fz b p.1 p.2
    | .meth m o es => (ev cal d o env S).bind fun p => if mthChk m p.1 p.2 = true then (evs (ev cal d) es env p.2).bind fun q => mthD m p.1 q.1 q.2 else none
    | .comp fz own tg src ifs elt => (evSr (ev cal d) src env S).bind fun s =>
      (loopC s.1 tg (wipeD env own) (fun env1 S1 => (evTs (evT cal d) ifs env1 S1).bind fun c => if c.1 = true then (ev cal d elt env1 c.2).map fun r => (some r.1, r.2) else some (none, c.2)) s.1.n 0 [] s.2).bind fun r =>
        mkL fz r.1 r.2
    | .dcomp own tg src ifs k v => (evSr (ev cal d) src env S).bind fun s =>
      (loopD s.1 tg (wipeD env own) (fun env1 S1 => (evTs (evT cal d) ifs env1 S1).bind fun c => if c.1 = true then
        (ev cal d k env1 c.2).bind fun rk => (ev cal d v env1 rk.2).map fun r => (some (rk.1, r.1), r.2) else some (none, c.2)) s.1.n 0 [] s.2).bind fun r =>
        some (.ref r.2.length, r.2 ++ [.dic r.1])
def evT (cal : Cal) : Nat → T → En → Sto → Option (Bool × Sto)
  | 0, _, _, _ => none
  | d + 1, t, env, S =>
    match t with
    | .val e => (ev cal d e env S).bind fun p => (truth p.2 p.1).map fun b => (b, p.2)
    | .cmp op a b => evCmp (ev cal d) op a b env S
    | .chain op op' a b c => evChain (ev cal d) op op' a b c env S
    | .not t => (evT cal d t env S).map fun p => (!p.1, p.2)
    | .and a b => (evT cal d a env S).bind fun p => if p.1 = true then evT cal d b env p.2 else some (false, p.2)
    | .or a b => (evT cal d a env S).bind fun p => if p.1 = true then some (true, p.2) else evT cal d b env p.2
end

/-! ### statements -/
/-- how often a while may turn -/
def WH : Nat := 1000000
def exs (f : Sm → En → Sto → Option (Fl × En × Sto)) : List Sm → En → Sto → Option (Fl × En × Sto)
  | [], env, S => some (.nx, env, S)
  | s :: ss, env, S => (f s env S).bind fun r => match r with
    | (.nx, e2, S2) => exs f ss e2 S2
    | r => some r
def setIxD (o i v : D) (S : Sto) : Option Sto :=
  match o with
  | .ref n => match S[n]? with
    | some (.lst l) => match i with
      | .int k => (L2.ixN l.length k).map fun j => S.set n (.lst (l.set j v))
      | _ => none
    | some (.dic kvs) => (kD i).bind fun k => if kvs.length < sizeLine then some (S.set n (.dic (putK kvs k v))) else none
    | _ => none
  | _ => none
def augD (op : Bop) (a b : D) : Option D :=
  match op, a, b with
  | .add, .int a, .int b => some (.int (a + b))
  | .sub, .int a, .int b => some (.int (a - b))
  | _, _, _ => none
/-! what may raise -/
/-- a comprehension whose element may raise -/
def loopX (s : Src) (tg : Tg) (env : En) (body : En → Sto → Option (Rz × Sto)) : Nat → Nat → List D → Sto → Option ((List D ⊕ Int) × Sto)
  | 0, _, acc, S => (s.rd S).bind fun l => if l.length = s.n then some (.inl acc, S) else none
  | m + 1, i, acc, S => (s.rd S).bind fun l => if l.length = s.n then l[i]?.bind fun x => (bindT tg x env).bind fun env1 => (body env1 S).bind fun r => match r with
    | (.ok d, S2) => if acc.length < sizeLine then loopX s tg env body m (i + 1) (acc ++ [d]) S2 else none
    | (.er z, S2) => some (.inr z, S2) else none
def evRC (cal : Cal) (d : Nat) : RC → En → Sto → Option (Rz × Sto)
  | .pure e, env, S => (ev cal d e env S).map fun p => (.ok p.1, p.2)
  | .call f es, env, S => (evs (ev cal d) es env S).bind fun p => cal f p.1 p.2
def evRs (f : RC → En → Sto → Option (Rz × Sto)) : List RC → En → Sto → Option ((List D ⊕ Int) × Sto)
  | [], _, S => some (.inl [], S)
  | x :: xs, env, S => (f x env S).bind fun p => match p.1 with
    | .ok d => (evRs f xs env p.2).map fun q => match q.1 with
      | .inl ds => (.inl (d :: ds), q.2)
      | .inr z => (.inr z, q.2)
    | .er z => some (.inr z, p.2)
def evX (cal : Cal) (d : Nat) (own : List Nat) (tg : Tg) (src : Sr) (x : RC) (env : En) (S : Sto) : Option ((List D ⊕ Int) × Sto) :=
  (evSr (ev cal d) src env S).bind fun s => loopX s.1 tg (wipeD env own) (evRC cal d x) s.1.n 0 [] s.2
def evR (cal : Cal) (d : Nat) : R → En → Sto → Option (Rz × Sto)
  | .c x, env, S => evRC cal d x env S
  | .tup xs, env, S => (evRs (evRC cal d) xs env S).bind fun p => match p.1 with
    | .inl ds => if ds.length ≤ sizeLine then some (.ok (.tup ds), p.2) else none
    | .inr z => some (.er z, p.2)
  | .tupC own tg src x, env, S => (evX cal d own tg src x env S).bind fun p => match p.1 with
    | .inl ds => if ds.length ≤ sizeLine then some (.ok (.tup ds), p.2) else none
    | .inr z => some (.er z, p.2)
  | .ite t a b, env, S => (evT cal d t env S).bind fun p => if p.1 = true then evRC cal d a env p.2 else evRC cal d b env p.2
def ex (cal : Cal) : Nat → Sm → En → Sto → Option (Fl × En × Sto)
  | 0, _, _, _ => none
  | d + 1, s, env, S =>
    match s with
    | .set i e => (ev cal d e env S).map fun p => (.nx, env.set i (some p.1), p.2)
    | .unpack is e => (ev cal d e env S).bind fun p => match p.1 with
      | .tup ds => (setAll is ds env).map fun env1 => (.nx, env1, p.2)
      | _ => none
    | .setIx o ix v => (ev cal d v env S).bind fun p => (ev cal d o env p.2).bind fun q => (ev cal d ix env q.2).bind fun r => (setIxD q.1 r.1 p.1 r.2).map fun S' => (.nx, env, S')
    | .aug i op e => match env[i]? with
      | some (some x) => (ev cal d e env S).bind fun p => (augD op x p.1).map fun y => (.nx, env.set i (some y), p.2)
      | _ => none
    | .expr e => (ev cal d e env S).map fun p => (.nx, env, p.2)
    | .ret e => (ev cal d e env S).map fun p => (.rt p.1, env, p.2)
    | .retN => some (.rt .non, env, S)
    | .ifs c a b => (evT cal d c env S).bind fun p => if p.1 = true then exs (ex cal d) a env p.2 else exs (ex cal d) b env p.2
    | .for_ tg src body => (evSr (ev cal d) src env S).bind fun s => loopL s.1 tg (exs (ex cal d) body) s.1.n 0 env s.2
    | .while_ c body => whL (evT cal d c) (exs (ex cal d) body) WH env S
    | .raise e => (ev cal d e env S).bind fun p => match p.1 with
      | .int z => some (.rs z, env, p.2)
      | _ => none
    | .setR i r => (evR cal d r env S).map fun p => match p.1 with
      | .ok y => (.nx, env.set i (some y), p.2)
      | .er z => (.rs z, env, p.2)
    | .setC i own tg src x => (evX cal d own tg src x env S).bind fun p => match p.1 with
      | .inl ds => if ds.length ≤ sizeLine then some (.nx, env.set i (some (.lst ds)), p.2) else none
      | .inr z => some (.rs z, env, p.2)
    | .retR r => (evR cal d r env S).map fun p => match p.1 with
      | .ok y => (.rt y, env, p.2)
      | .er z => (.rs z, env, p.2)
    | .appR o r => (ev cal d o env S).bind fun q => if mthChk .append q.1 q.2 = true then (evR cal d r env q.2).bind fun p => match p.1 with
      | .ok y => (mthD .append q.1 [y] p.2).map fun u => (.nx, env, u.2)
      | .er z => some (.rs z, env, p.2) else none
    | .tryE body _ => (exs (ex cal d) body env S).map fun r => match r with
      | (.rs z, e2, S2) => (.rt (.int z), e2, S2)
      | r => r
    | .never => none
    | .pass => some (.nx, env, S)
    | .brk => some (.bk, env, S)
    | .cont => some (.ct, env, S)

/-! ### defs -/
structure Df where
  ps : Nat
  n : Nat
  body : List Sm
  keep : Bool := false
mutual
/-- all references lie below n -/
def clD (n : Nat) : D → Bool
  | .ref i => decide (i < n)
  | .tup l => clL n l
  | .lst l => clL n l
  | .fzl l => clL n l
  | _ => true
def clL (n : Nat) : List D → Bool
  | [] => true
  | d :: r => clD n d && clL n r
end
def clO (n : Nat) : O → Bool
  | .lst l => clL n l
  | .dic kvs => clL n (kvs.map (·.2))
  | .dead => true
/-- a new list that leaves its def is a value from then on -/
def leave (S : Sto) (n : Nat) (d : D) : Option D :=
  if clD n d = true then some d else match d with
    | .ref i => match S[i]? with
      | some (.lst l) => if clL n l = true then some (.lst l) else none
      | _ => none
    | _ => none
def fin (df : Df) (n : Nat) (d : D) (S : Sto) : Option (D × Sto) :=
  if df.keep = true then some (d, S) else
    (leave S n d).bind fun d' => if ((S.take n).all (clO n)) = true then some (d', S.take n) else none
/-- how deep a body's text may nest -/
def DP : Nat := 60
def finX (df : Df) (n : Nat) (z : Int) (S : Sto) : Option (Rz × Sto) :=
  if df.keep = true then some (.er z, S) else if ((S.take n).all (clO n)) = true then some (.er z, S.take n) else none
def okR (o : Option (D × Sto)) : Option (Rz × Sto) := o.map fun p => (.ok p.1, p.2)
def run (cal : Cal) (df : Df) (args : List D) (S : Sto) : Option (Rz × Sto) :=
  if args.length = df.ps then
    match exs (ex cal DP) df.body (args.map some ++ List.replicate (df.n - args.length) none) S with
    | some (.rt d, _, S') => okR (fin df S.length d S')
    | some (.nx, _, S') => okR (fin df S.length .non S')
    | some (.rs z, _, S') => finX df S.length z S'
    | _ => none
  else none
def calls (pg : List Df) : Nat → Cal
  | 0 => fun _ _ _ => none
  | k + 1 => fun f args S => match pg[f]? with
    | some df => run (calls pg k) df args S
    | none => none
end Tt
end

section
/-! How plain data stands in the abstract heap. -/
namespace Tt
open PySem PySem.Spec PyProof.Rows L2

/-- where the objects of the store lie, and what else is held back for the time being -/
structure Ad where
  r : List Addr
  h : List Addr
abbrev Ad.push (ι : Ad) (p : Addr) : Ad := ⟨ι.r ++ [p], ι.h⟩
abbrev Ad.hide (ι : Ad) (p : Addr) : Ad := ⟨ι.r, p :: ι.h⟩
/-- a tuple that is known whole: it has no dict of its own -/
def SqS (K : PySem.W.Frag) (H : Hp) (a : Addr) (xs : List V) : Prop :=
  (∃ ob : Obj, ob.dict = none ∧ H a = some (.frz ob (.tup xs))) ∨
    ∃ (o : Obj) (its : Array Value) (n : Nat), K.lookup a = some o ∧ o.cls = .type "tuple" ∧ o.dict = none ∧ o.data = .seq its n ∧ its.size ≤ sizeLine ∧ Vals xs its.toList
theorem SqS.t {K : PySem.W.Frag} {H : Hp} {a : Addr} {xs : List V} (h : SqS K H a xs) : SqT K H a xs := by
  rcases h with ⟨ob, _, h⟩ | ⟨o, its, n, h1, h2, _, h3, h4, h5⟩
  · exact .inl (.inr ⟨ob, h⟩)
  · exact .inr ⟨o, its, n, h1, h2, h3, h4, h5⟩
/-- a list handed in from outside -/
def SqF (K : PySem.W.Frag) (H : Hp) (a : Addr) (xs : List V) : Prop :=
  (∃ ob : Obj, H a = some (.frz ob (.lst xs))) ∨
    ∃ (o : Obj) (its : Array Value) (n : Nat), K.lookup a = some o ∧ o.cls = .type "list" ∧ o.dict = none ∧ o.data = .seq its n ∧ its.size ≤ sizeLine ∧ Vals xs its.toList
theorem SqF.l {K : PySem.W.Frag} {H : Hp} {a : Addr} {xs : List V} (h : SqF K H a xs) : SqL K H a xs := by
  rcases h with ⟨ob, h⟩ | h
  · exact .inl (.inr ⟨ob, h⟩)
  · exact .inr h
mutual
/-- v is the data d: ι tells where the store's objects lie -/
def Rep (K : PySem.W.Frag) (ι : Ad) (H : Hp) : D → V → Prop
  | .non, v => v = .non
  | .bl b, v => v = .bl b
  | .int i, v => v = .int i
  | .str s, v => v = .str s
  | .tup l, v => ∃ a vs, v = .ref a ∧ SqS K H a vs ∧ Reps K ι H l vs
  | .lst l, v => ∃ a vs, v = .ref a ∧ H a = some (.lst vs) ∧ (a ∉ ι.r ∧ a ∉ ι.h) ∧ Reps K ι H l vs
  | .fzl l, v => ∃ a vs, v = .ref a ∧ SqF K H a vs ∧ Reps K ι H l vs
  | .ref n, v => ∃ a, v = .ref a ∧ ι.r[n]? = some a
def Reps (K : PySem.W.Frag) (ι : Ad) (H : Hp) : List D → List V → Prop
  | [], vs => vs = []
  | d :: r, vs => ∃ v ws, vs = v :: ws ∧ Rep K ι H d v ∧ Reps K ι H r ws
end
def Krep (K : PySem.W.Frag) (ι : Ad) (H : Hp) : List (Key × D) → List (Key × V) → Prop
  | [], vs => vs = []
  | p :: r, vs => ∃ v ws, vs = (p.1, v) :: ws ∧ Rep K ι H p.2 v ∧ Krep K ι H r ws
def Oat (K : PySem.W.Frag) (ι : Ad) (H : Hp) (a : Addr) : O → Prop
  | .lst l => ∃ vs, H a = some (.lst vs) ∧ Reps K ι H l vs
  | .dic kvs => ∃ ws, H a = some (.dK ws) ∧ Krep K ι H kvs ws
  | .dead => True
structure Sat (K : PySem.W.Frag) (ι : Ad) (H : Hp) (S : Sto) : Prop where
  len : ι.r.length = S.length
  nd : ι.r.Nodup
  at_ : ∀ (i : Nat) (o : O) (a : Addr), S[i]? = some o → ι.r[i]? = some a → Oat K ι H a o
  there : ∀ a, a ∈ ι.r ∨ a ∈ ι.h → H a ≠ none
  apart : ∀ a ∈ ι.h, a ∉ ι.r
structure Eat (K : PySem.W.Frag) (ι : Ad) (H : Hp) (env : En) (σ : L2.St) : Prop where
  len : σ.length = env.length
  at_ : ∀ (i : Nat) (d : D), env[i]? = some (some d) → ∃ v, σ[i]? = some (some v) ∧ Rep K ι H d v
/-- what has come stands on what was -/
structure Ext (K : PySem.W.Frag) (ι : Ad) (H : Hp) (ι' : Ad) (H' : Hp) : Prop where
  pre : ∃ t, ι'.r = ι.r ++ t
  hid : ι'.h = ι.h
  fresh : ∀ a ∈ ι'.r, a ∉ ι.r → H a = none
  tup : ∀ a xs, SqS K H a xs → SqS K H' a xs
  lst : ∀ a xs, a ∉ ι.r → H a = some (.lst xs) → H' a = some (.lst xs)
  dk : ∀ a xs, a ∉ ι.r → H a = some (.dK xs) → H' a = some (.dK xs)
  frz : ∀ a o u, H a = some (.frz o u) → H' a = some (.frz o u)
  keep : ∀ a, H a ≠ none → H' a ≠ none
/-- .. where more may be held back -/
structure ExtW (K : PySem.W.Frag) (ι : Ad) (H : Hp) (ι' : Ad) (H' : Hp) : Prop where
  pre : ∃ t, ι'.r = ι.r ++ t
  hid : ∀ a ∈ ι'.h, a ∈ ι.h ∨ H a = none
  fresh : ∀ a ∈ ι'.r, a ∉ ι.r → H a = none
  tup : ∀ a xs, SqS K H a xs → SqS K H' a xs
  lst : ∀ a xs, a ∉ ι.r → H a = some (.lst xs) → H' a = some (.lst xs)
  sqf : ∀ a xs, SqF K H a xs → SqF K H' a xs

section
variable {K : PySem.W.Frag} {ι ι' ι1 : Ad} {H H' H1 : Hp} {S S' : Sto}
theorem Ext.sqf (x : Ext K ι H ι' H') : ∀ a xs, SqF K H a xs → SqF K H' a xs := fun a xs h => h.imp (fun ⟨ob, e⟩ => ⟨ob, x.frz a ob _ e⟩) id
theorem Ext.w (x : Ext K ι H ι' H') : ExtW K ι H ι' H' := ⟨x.pre, fun a h => .inl (by rw [← x.hid]; exact h), x.fresh, x.tup, x.lst, x.sqf⟩
theorem Ext.refl : Ext K ι H ι H := ⟨⟨[], by simp⟩, rfl, fun a h n => absurd h n, fun _ _ h => h, fun _ _ _ h => h, fun _ _ _ h => h, fun _ _ _ h => h, fun _ h => h⟩
theorem Ext.get (x : Ext K ι H ι' H') {n : Nat} {a : Addr} (h : ι.r[n]? = some a) : ι'.r[n]? = some a := by
  obtain ⟨t, e⟩ := x.pre
  rw [e, List.getElem?_append_left (List.getElem?_eq_some_iff.mp h).1]
  exact h
theorem Ext.notIn (x : Ext K ι H ι' H') {a : Addr} (h : a ∉ ι.r) (hh : H a ≠ none) : a ∉ ι'.r := fun z => hh (x.fresh a z h)
theorem Ext.trans (x : Ext K ι H ι1 H1) (y : Ext K ι1 H1 ι' H') : Ext K ι H ι' H' := by
  refine ⟨?_, y.hid.trans x.hid, fun a h n => ?_, fun a xs h => y.tup a xs (x.tup a xs h), fun a xs n h => y.lst a xs (x.notIn n (by rw [h]; simp)) (x.lst a xs n h), fun a xs n h => y.dk a xs (x.notIn n (by rw [h]; simp)) (x.dk a xs n h), fun a o u h => y.frz a o u (x.frz a o u h), fun a h => y.keep a (x.keep a h)⟩
  · obtain ⟨t, e⟩ := x.pre
    obtain ⟨t', e'⟩ := y.pre
    exact ⟨t ++ t', by rw [e', e, List.append_assoc]⟩
  · by_cases h1 : a ∈ ι1.r
    · exact x.fresh a h1 n
    · have h2 := y.fresh a h h1
      cases q : H a with
      | none => rfl
      | some o => exact absurd h2 (x.keep a (by rw [q]; simp))
theorem ExtW.get (x : ExtW K ι H ι' H') {n : Nat} {a : Addr} (h : ι.r[n]? = some a) : ι'.r[n]? = some a := by
  obtain ⟨t, e⟩ := x.pre
  rw [e, List.getElem?_append_left (List.getElem?_eq_some_iff.mp h).1]
  exact h
theorem ExtW.trans (x : ExtW K ι H ι1 H1) (k : ∀ a, H a ≠ none → H1 a ≠ none) (y : ExtW K ι1 H1 ι' H') : ExtW K ι H ι' H' := by
  have up : ∀ a, H1 a = none → H a = none := fun a h => by
    cases q : H a with
    | none => rfl
    | some o => exact absurd h (k a (by rw [q]; simp))
  refine ⟨?_, fun a h => ?_, fun a h n => ?_, fun a xs h => y.tup a xs (x.tup a xs h), fun a xs n h => ?_, fun a xs h => y.sqf a xs (x.sqf a xs h)⟩
  · obtain ⟨t, e⟩ := x.pre
    obtain ⟨t', e'⟩ := y.pre
    exact ⟨t ++ t', by rw [e', e, List.append_assoc]⟩
  · rcases y.hid a h with h | h
    · exact x.hid a h
    · exact .inr (up a h)
  · by_cases h1 : a ∈ ι1.r
    · exact x.fresh a h1 n
    · exact up a (y.fresh a h h1)
  · exact y.lst a xs (fun z => by have := x.fresh a z n; rw [h] at this; cases this) (x.lst a xs n h)
mutual
theorem Rep.extW (x : ExtW K ι H ι' H') : ∀ {d : D} {v : V}, Rep K ι H d v → Rep K ι' H' d v
  | .non, v, h => by simp only [Rep] at h ⊢; exact h
  | .bl b, v, h => by simp only [Rep] at h ⊢; exact h
  | .int b, v, h => by simp only [Rep] at h ⊢; exact h
  | .str b, v, h => by simp only [Rep] at h ⊢; exact h
  | .tup l, v, h => by
    simp only [Rep] at h ⊢
    obtain ⟨a, vs, e, t, r⟩ := h
    exact ⟨a, vs, e, x.tup _ _ t, Reps.extW x r⟩
  | .lst l, v, h => by
    simp only [Rep] at h ⊢
    obtain ⟨a, vs, e, t, n, r⟩ := h
    have nn : H a ≠ none := by rw [t]; simp
    exact ⟨a, vs, e, x.lst _ _ n.1 t, ⟨fun z => nn (x.fresh a z n.1), fun z => (x.hid a z).elim n.2 nn⟩, Reps.extW x r⟩
  | .fzl l, v, h => by
    simp only [Rep] at h ⊢
    obtain ⟨a, vs, e, t, r⟩ := h
    exact ⟨a, vs, e, x.sqf _ _ t, Reps.extW x r⟩
  | .ref n, v, h => by
    simp only [Rep] at h ⊢
    obtain ⟨a, e, t⟩ := h
    exact ⟨a, e, x.get t⟩
theorem Reps.extW (x : ExtW K ι H ι' H') : ∀ {l : List D} {vs : List V}, Reps K ι H l vs → Reps K ι' H' l vs
  | [], vs, h => by simp only [Reps] at h ⊢; exact h
  | d :: r, vs, h => by
    simp only [Reps] at h ⊢
    obtain ⟨v, ws, e, h1, h2⟩ := h
    exact ⟨v, ws, e, Rep.extW x h1, Reps.extW x h2⟩
end
theorem Rep.ext (x : Ext K ι H ι' H') {d : D} {v : V} (h : Rep K ι H d v) : Rep K ι' H' d v := h.extW x.w
theorem Reps.ext (x : Ext K ι H ι' H') {l : List D} {vs : List V} (h : Reps K ι H l vs) : Reps K ι' H' l vs := h.extW x.w
theorem Krep.extW (x : ExtW K ι H ι' H') : ∀ {l : List (Key × D)} {vs : List (Key × V)}, Krep K ι H l vs → Krep K ι' H' l vs
  | [], vs, h => by simp only [Krep] at h ⊢; exact h
  | d :: r, vs, h => by
    simp only [Krep] at h ⊢
    obtain ⟨v, ws, e, h1, h2⟩ := h
    exact ⟨v, ws, e, Rep.extW x h1, Krep.extW x h2⟩
theorem Oat.extW {a : Addr} {o : O} (x : ExtW K ι H ι' H') (h : Oat K ι H a o) (he : H' a = H a) : Oat K ι' H' a o := by
  cases o with
  | lst l => obtain ⟨vs, e, r⟩ := h; exact ⟨vs, by rw [he]; exact e, r.extW x⟩
  | dic kvs => obtain ⟨vs, e, r⟩ := h; exact ⟨vs, by rw [he]; exact e, r.extW x⟩
  | dead => trivial
theorem Krep.ext (x : Ext K ι H ι' H') : ∀ {l : List (Key × D)} {vs : List (Key × V)}, Krep K ι H l vs → Krep K ι' H' l vs
  | [], vs, h => by simp only [Krep] at h ⊢; exact h
  | d :: r, vs, h => by
    simp only [Krep] at h ⊢
    obtain ⟨v, ws, e, h1, h2⟩ := h
    exact ⟨v, ws, e, Rep.ext x h1, Krep.ext x h2⟩
theorem Eat.extW {env : En} {σ : L2.St} (x : ExtW K ι H ι' H') (h : Eat K ι H env σ) : Eat K ι' H' env σ := ⟨h.len, fun i d e => by
  obtain ⟨v, e1, r⟩ := h.at_ i d e
  exact ⟨v, e1, r.extW x⟩⟩
theorem Eat.ext {env : En} {σ : L2.St} (x : Ext K ι H ι' H') (h : Eat K ι H env σ) : Eat K ι' H' env σ := ⟨h.len, fun i d e => by
  obtain ⟨v, e1, r⟩ := h.at_ i d e
  exact ⟨v, e1, r.ext x⟩⟩
theorem Reps.length : ∀ {l : List D} {vs : List V}, Reps K ι H l vs → vs.length = l.length
  | [], vs, h => by simp only [Reps] at h; rw [h]; rfl
  | d :: r, vs, h => by
    simp only [Reps] at h
    obtain ⟨v, ws, e, h1, h2⟩ := h
    rw [e, List.length_cons, List.length_cons, Reps.length h2]
theorem Reps.get : ∀ {l : List D} {vs : List V} {i : Nat} {d : D}, Reps K ι H l vs → l[i]? = some d → ∃ v, vs[i]? = some v ∧ Rep K ι H d v
  | [], _, _, _, _, e => by simp at e
  | d :: r, vs, i, d', h, e => by
    simp only [Reps] at h
    obtain ⟨v, ws, rfl, h1, h2⟩ := h
    cases i with
    | zero => simp at e; subst e; exact ⟨v, rfl, h1⟩
    | succ i => simpa using Reps.get (i := i) h2 (by simpa using e)
theorem Reps.get' : ∀ {l : List D} {vs : List V} {i : Nat} {v : V}, Reps K ι H l vs → vs[i]? = some v → ∃ d, l[i]? = some d ∧ Rep K ι H d v
  | [], _, _, _, h, e => by simp only [Reps] at h; subst h; simp at e
  | d :: r, vs, i, d', h, e => by
    simp only [Reps] at h
    obtain ⟨v, ws, rfl, h1, h2⟩ := h
    cases i with
    | zero => simp at e; subst e; exact ⟨d, rfl, h1⟩
    | succ i => simpa using Reps.get' (i := i) h2 (by simpa using e)
theorem Reps.nil : Reps K ι H [] [] := by simp [Reps]
theorem Reps.cons {d : D} {v : V} {l : List D} {vs : List V} (h : Rep K ι H d v) (h2 : Reps K ι H l vs) : Reps K ι H (d :: l) (v :: vs) := by
  simp only [Reps]; exact ⟨v, vs, rfl, h, h2⟩
theorem Reps.append : ∀ {l m : List D} {vs ws : List V}, Reps K ι H l vs → Reps K ι H m ws → Reps K ι H (l ++ m) (vs ++ ws)
  | [], m, vs, ws, h, g => by simp only [Reps] at h; subst h; exact g
  | d :: r, m, vs, ws, h, g => by
    simp only [Reps] at h
    obtain ⟨v, us, rfl, h1, h2⟩ := h
    exact .cons h1 (Reps.append h2 g)
theorem Reps.take : ∀ {l : List D} {vs : List V} (n : Nat), Reps K ι H l vs → Reps K ι H (l.take n) (vs.take n)
  | _, _, 0, _ => by simp [Reps]
  | [], vs, n + 1, h => by simp only [Reps] at h; subst h; simp [Reps]
  | d :: r, vs, n + 1, h => by
    simp only [Reps] at h
    obtain ⟨v, us, rfl, h1, h2⟩ := h
    exact .cons h1 (Reps.take n h2)
theorem Reps.drop : ∀ {l : List D} {vs : List V} (n : Nat), Reps K ι H l vs → Reps K ι H (l.drop n) (vs.drop n)
  | _, _, 0, h => by simpa using h
  | [], vs, n + 1, h => by simp only [Reps] at h; subst h; simp [Reps]
  | d :: r, vs, n + 1, h => by
    simp only [Reps] at h
    obtain ⟨v, us, rfl, h1, h2⟩ := h
    exact Reps.drop n h2
theorem Reps.set : ∀ {l : List D} {vs : List V} (n : Nat) {d : D} {v : V}, Reps K ι H l vs → Rep K ι H d v → Reps K ι H (l.set n d) (vs.set n v)
  | [], vs, n, _, _, h, g => by simp only [Reps] at h; subst h; simp [Reps]
  | _ :: r, vs, 0, d, v, h, g => by
    simp only [Reps] at h
    obtain ⟨v, us, rfl, h1, h2⟩ := h
    exact .cons g h2
  | _ :: r, vs, n + 1, d, v, h, g => by
    simp only [Reps] at h
    obtain ⟨v, us, rfl, h1, h2⟩ := h
    exact .cons h1 (Reps.set n h2 g)
theorem Reps.eraseIdx : ∀ {l : List D} {vs : List V} (n : Nat), Reps K ι H l vs → Reps K ι H (l.eraseIdx n) (vs.eraseIdx n)
  | [], vs, n, h => by simp only [Reps] at h; subst h; simp [Reps]
  | _ :: r, vs, 0, h => by
    simp only [Reps] at h
    obtain ⟨v, us, rfl, h1, h2⟩ := h
    exact h2
  | _ :: r, vs, n + 1, h => by
    simp only [Reps] at h
    obtain ⟨v, us, rfl, h1, h2⟩ := h
    exact .cons h1 (Reps.eraseIdx n h2)
theorem Reps.dropLast {l : List D} {vs : List V} (h : Reps K ι H l vs) : Reps K ι H l.dropLast vs.dropLast := by
  rw [List.dropLast_eq_take, List.dropLast_eq_take, h.length]
  exact h.take _
/-- a new object, not of the store -/
theorem Ext.new {p : Addr} {o : HO} (hp : H p = none) : Ext K ι H ι (upd H p o) := by
  refine ⟨⟨[], by simp⟩, rfl, fun a h n => absurd h n, fun a xs h => ?_, fun a xs _ h => ?_, fun a xs _ h => ?_, fun a o u h => ?_, fun a h => ?_⟩
  · rcases h with ⟨ob, h0, h⟩ | h
    · exact .inl ⟨ob, h0, by rw [upd_ne (ne_of_none h hp)]; exact h⟩
    · exact .inr h
  · rw [upd_ne (ne_of_none h hp)]; exact h
  · rw [upd_ne (ne_of_none h hp)]; exact h
  · rw [upd_ne (ne_of_none h hp)]; exact h
  · by_cases e : a = p
    · subst e; exact absurd hp h
    · rw [upd_ne e]; exact h
/-- a new object of the store -/
theorem Ext.push {p : Addr} {o : HO} (hp : H p = none) : Ext K ι H (ι.push p) (upd H p o) := by
  have x : Ext K ι H ι (upd H p o) := Ext.new hp
  refine ⟨⟨[p], rfl⟩, rfl, fun a h n => ?_, x.tup, x.lst, x.dk, x.frz, x.keep⟩
  rcases List.mem_append.mp h with h | h
  · exact absurd h n
  · have e : a = p := by simpa using h
    subst e; exact hp
/-- an object of the store is written -/
theorem Ext.write {a : Addr} {o : HO} (h : a ∈ ι.r) (hm : Mut (H a)) : Ext K ι H ι (upd H a o) := by
  have nt : ∀ b u, H b = some u → ¬ Mut (some u) → b ≠ a := fun b u q n z => by subst z; rw [q] at hm; exact n hm
  refine ⟨⟨[], by simp⟩, rfl, fun b h n => absurd h n, fun b xs h => ?_, fun b xs n h => ?_, fun b xs n h => ?_, fun b o u h => ?_, fun b h => ?_⟩
  · rcases h with ⟨ob, h0, h⟩ | h
    · exact .inl ⟨ob, h0, by rw [upd_ne (nt b _ h fun z => z)]; exact h⟩
    · exact .inr h
  · rw [upd_ne (fun z => n (by rw [z]; exact (by assumption)))]; exact h
  · rw [upd_ne (fun z => n (by rw [z]; exact (by assumption)))]; exact h
  · rw [upd_ne (nt b _ h fun z => z)]; exact h
  · by_cases e : b = a
    · subst e; rw [upd_same]; simp
    · rw [upd_ne e]; exact h
theorem Oat.ext {a : Addr} {o : O} (x : Ext K ι H ι' H') (h : Oat K ι H a o) (he : H' a = H a) : Oat K ι' H' a o := h.extW x.w he
theorem Sat.get (s : Sat K ι H S) {n : Nat} {o : O} (h : S[n]? = some o) : ∃ a, ι.r[n]? = some a ∧ Oat K ι H a o := by
  have hn : n < ι.r.length := by rw [s.len]; exact (List.getElem?_eq_some_iff.mp h).1
  exact ⟨ι.r[n], List.getElem?_eq_getElem hn, s.at_ n o _ h (List.getElem?_eq_getElem hn)⟩
theorem Sat.new (s : Sat K ι H S) {p : Addr} {o : HO} (hp : H p = none) : Sat K ι (upd H p o) S := by
  refine ⟨s.len, s.nd, fun i ob a h1 h2 => (s.at_ i ob a h1 h2).ext (Ext.new hp) ?_, fun a h => (Ext.new (K := K) (ι := ι) hp).keep a (s.there a h), s.apart⟩
  have : a ≠ p := fun z => s.there a (.inl (List.mem_of_getElem? h2)) (by rw [z]; exact hp)
  rw [upd_ne this]
theorem Sat.notIn (s : Sat K ι H S) {p : Addr} (hp : H p = none) : p ∉ ι.r ∧ p ∉ ι.h := ⟨fun z => s.there p (.inl z) hp, fun z => s.there p (.inr z) hp⟩
theorem Sat.last (s : Sat K ι H S) (p : Addr) : (ι.push p).r[S.length]? = some p := by
  show (ι.r ++ [p])[S.length]? = some p
  rw [← s.len, List.getElem?_append_right (Nat.le_refl _)]
  simp
theorem Sat.push (s : Sat K ι H S) {p : Addr} {o : HO} {ob : O} (hp : H p = none) (h : Oat K (ι.push p) (upd H p o) p ob) : Sat K (ι.push p) (upd H p o) (S ++ [ob]) := by
  have hn := s.notIn hp
  refine ⟨by show (ι.r ++ [p]).length = _; rw [List.length_append, List.length_append, s.len]; rfl, ?_, fun i o' a h1 h2 => ?_, fun a h => ?_, fun a ha hr => ?_⟩
  · show (ι.r ++ [p]).Nodup
    rw [List.nodup_append]
    exact ⟨s.nd, by simp, fun a ha b hb => by
      have e : b = p := by simpa using hb
      subst e; exact fun z => hn.1 (by rw [← z]; exact ha)⟩
  · by_cases hi : i < S.length
    · rw [List.getElem?_append_left hi] at h1
      have h2' : (ι.r ++ [p])[i]? = some a := h2
      rw [List.getElem?_append_left (by rw [s.len]; exact hi)] at h2'
      refine (s.at_ i o' a h1 h2').ext (Ext.push hp) ?_
      rw [upd_ne (fun z => hn.1 (by rw [← z]; exact List.mem_of_getElem? h2'))]
    · have hi' : i = S.length := by
        have := (List.getElem?_eq_some_iff.mp h1).1
        simp at this; omega
      subst hi'
      rw [List.getElem?_append_right (Nat.le_refl _)] at h1
      rw [s.last p] at h2
      simp at h1 h2
      subst h1 h2
      exact h
  · have x : Ext K ι H ι (upd H p o) := Ext.new hp
    rcases h with h | h
    · rcases List.mem_append.mp h with h | h
      · exact x.keep a (s.there a (.inl h))
      · have e : a = p := by simpa using h
        subst e; rw [upd_same]; simp
    · exact x.keep a (s.there a (.inr h))
  · rcases List.mem_append.mp hr with h | h
    · exact s.apart a ha h
    · have e : a = p := by simpa using h
      subst e; exact hn.2 ha
theorem Sat.write (s : Sat K ι H S) {n : Nat} {a : Addr} {o : HO} {ob : O} (h : ι.r[n]? = some a) (hm : Mut (H a)) (hn : Oat K ι (upd H a o) a ob) : Sat K ι (upd H a o) (S.set n ob) := by
  have x : Ext K ι H ι (upd H a o) := Ext.write (List.mem_of_getElem? h) hm
  refine ⟨by rw [List.length_set]; exact s.len, s.nd, fun i o' b h1 h2 => ?_, fun b hb => x.keep b (s.there b hb), s.apart⟩
  by_cases e : n = i
  · subst e
    rw [h] at h2; cases h2
    have hl : n < S.length := by rw [← s.len]; exact (List.getElem?_eq_some_iff.mp h).1
    rw [List.getElem?_set_self hl] at h1
    cases h1
    exact hn
  · rw [List.getElem?_set_ne e] at h1
    refine (s.at_ i o' b h1 h2).ext x ?_
    rw [upd_ne]
    intro z
    subst z
    obtain ⟨l1, e1⟩ := List.getElem?_eq_some_iff.mp h
    obtain ⟨l2, e2⟩ := List.getElem?_eq_some_iff.mp h2
    exact e ((List.getElem_inj s.nd).mp (e1.trans e2.symm))

/-! ### an object held back -/
/-- a new object, held back, changes: what stood ahead of it does not see it -/
theorem Ext.side (x : Ext K ι H ι' H') {D : Addr} {o : HO} (hD : H D = none) : Ext K ι H ι' (upd H' D o) := by
  have ne : ∀ a, H a ≠ none → a ≠ D := fun a h z => h (by rw [z]; exact hD)
  refine ⟨x.pre, x.hid, x.fresh, fun a xs h => ?_, fun a xs n h => ?_, fun a xs n h => ?_, fun a o u h => ?_, fun a h => ?_⟩
  · rcases x.tup a xs h with ⟨ob, h0, h1⟩ | h1
    · rcases h with ⟨ob2, h2, h3⟩ | h3
      · exact .inl ⟨ob, h0, by rw [upd_ne (ne a (by rw [h3]; simp))]; exact h1⟩
      · exact .inr h3
    · exact .inr h1
  · rw [upd_ne (ne a (by rw [h]; simp))]; exact x.lst a xs n h
  · rw [upd_ne (ne a (by rw [h]; simp))]; exact x.dk a xs n h
  · rw [upd_ne (ne a (by rw [h]; simp))]; exact x.frz a o u h
  · rw [upd_ne (ne a h)]; exact x.keep a h
/-- within: what is held back is held back all the time -/
theorem Ext.unhide {D : Addr} (x : Ext K (ι.hide D) H (ι'.hide D) H') : Ext K ι H ι' H' :=
  ⟨x.pre, by have := x.hid; exact (List.cons.inj this).2, x.fresh, x.tup, x.lst, x.dk, x.frz, x.keep⟩
theorem Ext.hidden {D : Addr} (x : Ext K (ι.hide D) H ι' H') : ∃ κ : Ad, ι' = κ.hide D := ⟨⟨ι'.r, ι.h⟩, by
  cases ι' with
  | mk r h => have e : h = D :: ι.h := x.hid; subst e; rfl⟩
mutual
theorem Rep.side {D : Addr} {o : HO} (hD : ∀ ob u, H D ≠ some (.frz ob u)) : ∀ {d : Tt.D} {v : V}, Rep K (ι.hide D) H d v → Rep K (ι.hide D) (upd H D o) d v
  | .non, v, h => by simp only [Rep] at h ⊢; exact h
  | .bl b, v, h => by simp only [Rep] at h ⊢; exact h
  | .int b, v, h => by simp only [Rep] at h ⊢; exact h
  | .str b, v, h => by simp only [Rep] at h ⊢; exact h
  | .tup l, v, h => by
    simp only [Rep] at h ⊢
    obtain ⟨a, vs, e, t, r⟩ := h
    refine ⟨a, vs, e, ?_, Reps.side hD r⟩
    rcases t with ⟨ob, h0, t⟩ | t
    · exact .inl ⟨ob, h0, by rw [upd_ne (fun z => hD _ _ (by rw [← z]; exact t))]; exact t⟩
    · exact .inr t
  | .lst l, v, h => by
    simp only [Rep] at h ⊢
    obtain ⟨a, vs, e, t, n, r⟩ := h
    exact ⟨a, vs, e, by rw [upd_ne (fun z => n.2 (by rw [z]; exact List.mem_cons_self))]; exact t, n, Reps.side hD r⟩
  | .fzl l, v, h => by
    simp only [Rep] at h ⊢
    obtain ⟨a, vs, e, t, r⟩ := h
    refine ⟨a, vs, e, ?_, Reps.side hD r⟩
    rcases t with ⟨ob, t⟩ | t
    · exact .inl ⟨ob, by rw [upd_ne (fun z => hD _ _ (by rw [← z]; exact t))]; exact t⟩
    · exact .inr t
  | .ref n, v, h => by
    simp only [Rep] at h ⊢
    exact h
theorem Reps.side {D : Addr} {o : HO} (hD : ∀ ob u, H D ≠ some (.frz ob u)) : ∀ {l : List Tt.D} {vs : List V}, Reps K (ι.hide D) H l vs → Reps K (ι.hide D) (upd H D o) l vs
  | [], vs, h => by simp only [Reps] at h ⊢; exact h
  | d :: r, vs, h => by
    simp only [Reps] at h ⊢
    obtain ⟨v, ws, e, h1, h2⟩ := h
    exact ⟨v, ws, e, Rep.side hD h1, Reps.side hD h2⟩
end
mutual
/-- no longer held back: a value, or an object of the store -/
theorem Rep.shown {D : Addr} {κ : Ad} (hr : ∀ (n : Nat) a, ι.r[n]? = some a → κ.r[n]? = some a) (hk : ∀ a, a ∉ ι.r → a ∉ (ι.hide D).h → a ∉ κ.r ∧ a ∉ κ.h) : ∀ {d : Tt.D} {v : V}, Rep K (ι.hide D) H d v → Rep K κ H d v
  | .non, v, h => by simp only [Rep] at h ⊢; exact h
  | .bl b, v, h => by simp only [Rep] at h ⊢; exact h
  | .int b, v, h => by simp only [Rep] at h ⊢; exact h
  | .str b, v, h => by simp only [Rep] at h ⊢; exact h
  | .tup l, v, h => by
    simp only [Rep] at h ⊢
    obtain ⟨a, vs, e, t, r⟩ := h
    exact ⟨a, vs, e, t, Reps.shown hr hk r⟩
  | .lst l, v, h => by
    simp only [Rep] at h ⊢
    obtain ⟨a, vs, e, t, n, r⟩ := h
    exact ⟨a, vs, e, t, hk a n.1 n.2, Reps.shown hr hk r⟩
  | .fzl l, v, h => by
    simp only [Rep] at h ⊢
    obtain ⟨a, vs, e, t, r⟩ := h
    exact ⟨a, vs, e, t, Reps.shown hr hk r⟩
  | .ref n, v, h => by
    simp only [Rep] at h ⊢
    obtain ⟨a, e, t⟩ := h
    exact ⟨a, e, hr n a t⟩
theorem Reps.shown {D : Addr} {κ : Ad} (hr : ∀ (n : Nat) a, ι.r[n]? = some a → κ.r[n]? = some a) (hk : ∀ a, a ∉ ι.r → a ∉ (ι.hide D).h → a ∉ κ.r ∧ a ∉ κ.h) : ∀ {l : List Tt.D} {vs : List V}, Reps K (ι.hide D) H l vs → Reps K κ H l vs
  | [], vs, h => by simp only [Reps] at h ⊢; exact h
  | d :: r, vs, h => by
    simp only [Reps] at h ⊢
    obtain ⟨v, ws, e, h1, h2⟩ := h
    exact ⟨v, ws, e, Rep.shown hr hk h1, Reps.shown hr hk h2⟩
end
theorem Krep.side {D : Addr} {o : HO} (hD : ∀ ob u, H D ≠ some (.frz ob u)) : ∀ {l : List (Key × Tt.D)} {vs : List (Key × V)}, Krep K (ι.hide D) H l vs → Krep K (ι.hide D) (upd H D o) l vs
  | [], vs, h => by simp only [Krep] at h ⊢; exact h
  | d :: r, vs, h => by
    simp only [Krep] at h ⊢
    obtain ⟨v, ws, e, h1, h2⟩ := h
    exact ⟨v, ws, e, Rep.side hD h1, Krep.side hD h2⟩
theorem Krep.shown {D : Addr} {κ : Ad} (hr : ∀ (n : Nat) a, ι.r[n]? = some a → κ.r[n]? = some a) (hk : ∀ a, a ∉ ι.r → a ∉ (ι.hide D).h → a ∉ κ.r ∧ a ∉ κ.h) : ∀ {l : List (Key × Tt.D)} {vs : List (Key × V)}, Krep K (ι.hide D) H l vs → Krep K κ H l vs
  | [], vs, h => by simp only [Krep] at h ⊢; exact h
  | d :: r, vs, h => by
    simp only [Krep] at h ⊢
    obtain ⟨v, ws, e, h1, h2⟩ := h
    exact ⟨v, ws, e, Rep.shown hr hk h1, Krep.shown hr hk h2⟩
theorem Oat.shown {D a : Addr} {κ : Ad} {o : O} (hr : ∀ (n : Nat) a, ι.r[n]? = some a → κ.r[n]? = some a) (hk : ∀ a, a ∉ ι.r → a ∉ (ι.hide D).h → a ∉ κ.r ∧ a ∉ κ.h) (h : Oat K (ι.hide D) H a o) : Oat K κ H a o := by
  cases o with
  | lst l => obtain ⟨vs, e, r⟩ := h; exact ⟨vs, e, r.shown hr hk⟩
  | dic kvs => obtain ⟨vs, e, r⟩ := h; exact ⟨vs, e, r.shown hr hk⟩
  | dead => trivial
end
section
variable {K : PySem.W.Frag} {ι ι' ι1 : Ad} {H H' H1 : Hp} {S S' : Sto}
/-- a new object is held back -/
theorem ExtW.hide (x : Ext K ι H ι' H') {p : Addr} (hp : H p = none) : ExtW K ι H (ι'.hide p) H' :=
  ⟨x.pre, fun a h => by
    rcases List.mem_cons.mp h with e | h
    · subst e; exact .inr hp
    · exact .inl (by rw [← x.hid]; exact h), x.fresh, x.tup, x.lst, x.sqf⟩
theorem Sat.hide (s : Sat K ι H S) {p : Addr} {o : HO} (hp : H p = none) : Sat K (ι.hide p) (upd H p o) S := by
  have hn := s.notIn hp
  have x : ExtW K ι H (ι.hide p) (upd H p o) := ExtW.hide (Ext.new hp) hp
  refine ⟨s.len, s.nd, fun i ob a h1 h2 => (s.at_ i ob a h1 h2).extW x ?_, fun a h => ?_, fun a ha => ?_⟩
  · rw [upd_ne (fun z => hn.1 (by rw [← z]; exact List.mem_of_getElem? h2))]
  · have x : Ext K ι H ι (upd H p o) := Ext.new hp
    rcases h with h | h
    · exact x.keep a (s.there a (.inl h))
    · rcases List.mem_cons.mp h with e | h
      · subst e; rw [upd_same]; simp
      · exact x.keep a (s.there a (.inr h))
  · rcases List.mem_cons.mp ha with e | h
    · subst e; exact hn.1
    · exact s.apart a h
theorem Sat.side {D : Addr} (s : Sat K (ι.hide D) H S) {o : HO} (hD : ∀ ob u, H D ≠ some (.frz ob u)) : Sat K (ι.hide D) (upd H D o) S := by
  have ne : ∀ a, a ∈ ι.r → a ≠ D := fun a h z => s.apart D List.mem_cons_self (by rw [← z]; exact h)
  refine ⟨s.len, s.nd, fun i ob a h1 h2 => ?_, fun a h => ?_, s.apart⟩
  · have e : upd H D o a = H a := upd_ne (ne a (List.mem_of_getElem? h2))
    have h := s.at_ i ob a h1 h2
    cases ob with
    | lst l => obtain ⟨vs, e1, r⟩ := h; exact ⟨vs, by rw [e]; exact e1, r.side hD⟩
    | dic l => obtain ⟨vs, e1, r⟩ := h; exact ⟨vs, by rw [e]; exact e1, r.side hD⟩
    | dead => trivial
  · by_cases e : a = D
    · subst e; rw [upd_same]; simp
    · rw [upd_ne e]; exact s.there a h
theorem Sat.show {D : Addr} (s : Sat K (ι.hide D) H S) : Sat K ι H S :=
  ⟨s.len, s.nd, fun i o a h1 h2 => (s.at_ i o a h1 h2).shown (fun _ _ h => h) fun a h1 h2 => ⟨h1, fun z => h2 (List.mem_cons_of_mem _ z)⟩, fun a h => s.there a (h.imp id fun z => List.mem_cons_of_mem _ z), fun a h => s.apart a (List.mem_cons_of_mem _ h)⟩
/-- what was held back becomes an object of the store -/
theorem push_shown {D : Addr} (hD : D ∉ ι.h) : (∀ (n : Nat) a, ι.r[n]? = some a → (ι.push D).r[n]? = some a) ∧ ∀ a, a ∉ ι.r → a ∉ (ι.hide D).h → a ∉ (ι.push D).r ∧ a ∉ (ι.push D).h := by
  refine ⟨fun n a h => ?_, fun a h1 h2 => ⟨fun z => ?_, fun z => h2 (List.mem_cons_of_mem _ z)⟩⟩
  · show (ι.r ++ [D])[n]? = some a
    rw [List.getElem?_append_left (List.getElem?_eq_some_iff.mp h).1]
    exact h
  · rcases List.mem_append.mp z with z | z
    · exact h1 z
    · exact h2 (by rw [show a = D by simpa using z]; exact List.mem_cons_self)
theorem Sat.pushed {D : Addr} {ob : O} (s : Sat K (ι.hide D) H S) (hD : D ∉ ι.h) (h : Oat K (ι.push D) H D ob) : Sat K (ι.push D) H (S ++ [ob]) := by
  have hr : D ∉ ι.r := s.apart D List.mem_cons_self
  obtain ⟨p1, p2⟩ := push_shown (ι := ι) hD
  refine ⟨by show (ι.r ++ [D]).length = _; rw [List.length_append, List.length_append, show ι.r.length = S.length from s.len]; rfl, ?_, fun i o' a h1 h2 => ?_, fun a h => ?_, fun a ha hm => ?_⟩
  · show (ι.r ++ [D]).Nodup
    rw [List.nodup_append]
    exact ⟨s.nd, by simp, fun a ha b hb => by
      have e : b = D := by simpa using hb
      subst e; exact fun z => hr (by rw [← z]; exact ha)⟩
  · by_cases hi : i < S.length
    · rw [List.getElem?_append_left hi] at h1
      have h2' : (ι.r ++ [D])[i]? = some a := h2
      rw [List.getElem?_append_left (by rw [show ι.r.length = S.length from s.len]; exact hi)] at h2'
      exact (s.at_ i o' a h1 h2').shown p1 p2
    · have hi' : i = S.length := by
        have := (List.getElem?_eq_some_iff.mp h1).1
        simp at this; omega
      subst hi'
      rw [List.getElem?_append_right (Nat.le_refl _)] at h1
      rw [(s.show).last D] at h2
      simp at h1 h2
      subst h1 h2
      exact h
  · rcases h with h | h
    · rcases List.mem_append.mp h with h | h
      · exact s.there a (.inl h)
      · exact s.there a (.inr (by rw [show a = D by simpa using h]; exact List.mem_cons_self))
    · exact s.there a (.inr (List.mem_cons_of_mem _ h))
  · rcases List.mem_append.mp hm with h | h
    · exact s.apart a (List.mem_cons_of_mem _ ha) h
    · exact hD (by rw [← show a = D by simpa using h]; exact ha)
theorem Ext.pushed (x : Ext K ι H ι' H') {D : Addr} (hD : H D = none) : Ext K ι H (ι'.push D) H' := by
  refine ⟨?_, x.hid, fun a h n => ?_, x.tup, x.lst, x.dk, x.frz, x.keep⟩
  · obtain ⟨t, e⟩ := x.pre
    exact ⟨t ++ [D], by show ι'.r ++ [D] = _; rw [e, List.append_assoc]⟩
  · rcases List.mem_append.mp h with h | h
    · exact x.fresh a h n
    · rw [show a = D by simpa using h]; exact hD
end

/-! ### rules whose new tuples are known whole -/
section
variable {X : Cx} {pins : List (Addr × Obj)} {σ : L2.St} {H : Hp} {s : Shared}
theorem laidS {h : Heap} {its : List Value} {xs : List V} {t : Nat} (I : Inv X pins σ H { s with heap := h, toks := t }) (r : Vals xs its) (hz : xs.length ≤ sizeLine) :
    Inv X pins σ (upd H h.objs.size (.frz { cls := .type "tuple", data := .seq its.toArray } (.tup xs))) { s with heap := h.push { cls := .type "tuple", data := .seq its.toArray }, toks := t } ∧ H h.objs.size = none :=
  ⟨I.laid (t' := t) (fun b o e => Heap.get?_push_of_some _ e) (Nat.le_refl _) ⟨Heap.get?_push_size _ rfl, hz, its, r, IsTup.new _ _⟩, I.hok.fresh (Nat.le_refl _)⟩
def tTupS (t : TA) : TE := fun σ H Q => t σ H fun xs H1 => xs.length ≤ sizeLine ∧ ∀ p ob, ob.dict = none → H1 p = none → Q (.ref p) (upd H1 p (.frz ob (.tup xs)))
theorem pe_tupS {es : List Expr} {t : TA} {x1 : Nat} {pos : Pos} (h : PA X es t) : PE X (.Tuple es x1 pos) (tTupS t) := by
  refine ⟨fun pins s σ H Q I hq => ?_⟩
  refine wpAny_Tuple_spliced (thn (h.run pos pins s σ H _ I hq) fun us s1 ⟨xs, H1, I1, r, z, q⟩ => ⟨by rw [← r.length]; exact z, ?_⟩)
  obtain ⟨I2, hn⟩ := laidS (h := s1.heap) (t := s1.toks) I1 r z
  exact ⟨.ref s1.heap.objs.size, _, I2, rfl, q _ _ rfl hn⟩
theorem call_tuple_ofS : CallR X (.type "tuple") (fun xs H Q => ∃ p ys, xs = [.ref p] ∧ ((SqL X.K H p ys ∧ ∀ l ob, ob.dict = none → H l = none → Q (.ref l) (upd H l (.frz ob (.tup ys)))) ∨ (SqT X.K H p ys ∧ Q (.ref p) H))) := by
  intro pins s σ H xs us Q I r h
  obtain ⟨p, ys, rfl, h⟩ := h
  obtain ⟨u, rfl, rx⟩ := vals1 r
  cases rx
  rcases h with ⟨hq, q⟩ | ⟨hq, q⟩
  · obtain ⟨its, r', pl, hz⟩ := I.list hq
    have hlen := r'.length
    refine call_tuple_list pl.isList (fun h' kp => ?_) (by simp only [List.size_toArray] <;> omega)
    have I1 : Inv X pins σ H { s with heap := h' } := I.kept (t' := s.toks) kp
    obtain ⟨I2, hn⟩ := laidS (h := h') (t := s.toks) I1 r' hz
    exact ⟨.ref h'.objs.size, _, I2, rfl, q _ _ rfl hn⟩
  · obtain ⟨its, r', pl, hz⟩ := I.tuple hq
    exact call_tuple_same pl ⟨.ref p, H, I, rfl, q⟩
def rCatS (K : PySem.W.Frag) : R2 := fun x y H Q => ∃ a b xs ys, x = .ref a ∧ y = .ref b ∧ SqT K H a xs ∧ SqT K H b ys ∧ xs.length + ys.length ≤ sizeLine ∧
  (xs = [] → Q (.ref b) H) ∧ (xs ≠ [] → ys = [] → Q (.ref a) H) ∧ (xs ≠ [] → ys ≠ [] → ∀ p ob, ob.dict = none → H p = none → Q (.ref p) (upd H p (.frz ob (.tup (xs ++ ys)))))
theorem op_catS : OpR X (binaryOp .Add) (rCatS X.K) := by
  intro pins s σ H x y v u Q I rx ry h
  obtain ⟨a, b, xs, ys, rfl, rfl, ha, hb, hz, q0, q1, q2⟩ := h
  cases rx
  cases ry
  obtain ⟨its, r1, p1, _⟩ := I.tuple ha
  obtain ⟨its2, r2, p2, _⟩ := I.tuple hb
  by_cases hx : xs = []
  · subst hx
    cases r1
    exact cat_tup0 p1 p2 ⟨.ref b, H, I, rfl, q0 rfl⟩
  · refine HT.cat_tup p1 p2 (fun z => hx (r1.nil_iff.mp z)) (fun z => ⟨.ref a, H, I, rfl, q1 hx (r2.nil_iff.mp z)⟩) (fun z => ?_) (by rw [← r1.length, ← r2.length]; exact hz)
    obtain ⟨I2, hn⟩ := laidS (h := s.heap) (t := s.toks) I (r1.append r2) (by rw [List.length_append]; exact hz)
    exact ⟨.ref s.heap.objs.size, _, I2, rfl, q2 hx (fun w => z (r2.nil_iff.mpr w)) _ _ rfl hn⟩
def rSlS (K : PySem.W.Frag) : V → Option Int → Option Int → Hp → VK → Prop := fun x lo hi H Q => ∃ a xs, x = .ref a ∧ SqT K H a xs ∧
  (HT.sIx xs.length 0 lo = 0 ∧ HT.sIx xs.length xs.length hi = xs.length → Q (.ref a) H) ∧ (¬ (HT.sIx xs.length 0 lo = 0 ∧ HT.sIx xs.length xs.length hi = xs.length) → ∀ p ob, ob.dict = none → H p = none → Q (.ref p) (upd H p (.frz ob (.tup (cutV xs lo hi)))))
theorem sl_tupS : SlR X (rSlS X.K) := by
  intro pins s σ H x v vl vu lo hi sl Q I rx hs pl pu h
  obtain ⟨a, xs, rfl, hx, q1, q2⟩ := h
  cases rx
  obtain ⟨its, r, ht, hz⟩ := I.tuple hx
  have hlen : its.toArray.size = xs.length := by rw [List.size_toArray]; exact r.length.symm
  refine ⟨"tuple", _, PyProof.Rows.slot_tuple_getitem.lookup, ht.typeIs, ?_⟩
  by_cases hw : HT.sIx xs.length 0 lo = 0 ∧ HT.sIx xs.length xs.length hi = xs.length
  · exact getItem_tuple_whole ht hs pl pu (by rw [hlen]; exact hw) ⟨.ref a, H, I, rfl, q1 hw⟩
  · refine HT.getItem_tuple_cut ht hs pl pu (by rw [hlen]; exact hw) ?_ (by rw [hlen]; exact hz)
    rw [hlen]
    obtain ⟨I2, hn⟩ := laidS (h := s.heap) (t := s.toks) I ((r.drop (HT.sIx xs.length 0 lo)).take (HT.sIx xs.length xs.length hi - HT.sIx xs.length 0 lo)) (Nat.le_trans (cutV_length xs lo hi) hz)
    exact ⟨.ref s.heap.objs.size, _, I2, rfl, q2 hw _ _ rfl hn⟩
end
end Tt
end

section
/-! Each form of an expression keeps to its evaluation. -/
namespace Tt
open PySem PySem.Spec PyProof.Rows L2

/-- what an evaluation asks: an expression's, a list's, a test's -/
def sE (K : PySem.W.Frag) (m : En → Sto → Option (D × Sto)) : TE := fun σ H Q => ∃ ι env S d S', Sat K ι H S ∧ Eat K ι H env σ ∧ m env S = some (d, S') ∧
  ∀ ι' H' v, Ext K ι H ι' H' → Sat K ι' H' S' → Rep K ι' H' d v → Q v H'
def sA (K : PySem.W.Frag) (m : En → Sto → Option (List D × Sto)) : TA := fun σ H Q => ∃ ι env S d S', Sat K ι H S ∧ Eat K ι H env σ ∧ m env S = some (d, S') ∧
  ∀ ι' H' v, Ext K ι H ι' H' → Sat K ι' H' S' → Reps K ι' H' d v → Q v H'
def sT (K : PySem.W.Frag) (m : En → Sto → Option (Bool × Sto)) : TT := fun σ H Q => ∃ ι env S d S', Sat K ι H S ∧ Eat K ι H env σ ∧ m env S = some (d, S') ∧
  ∀ ι' H', Ext K ι H ι' H' → Sat K ι' H' S' → Q d H'

section
variable {X : Cx}
theorem PE.imp {e : Expr} {t t' : TE} (h : PE X e t) (w : ∀ σ H Q, t' σ H Q → t σ H Q) : PE X e t' := ⟨fun pins s σ H Q I q => h.run pins s σ H Q I (w σ H Q q)⟩
theorem PT.imp {e : Expr} {t t' : TT} (h : PT X e t) (w : ∀ σ H Q, t' σ H Q → t σ H Q) : PT X e t' := ⟨fun pins s σ H Q I q => h.run pins s σ H Q I (w σ H Q q)⟩
theorem PW.imp {e : Expr} {t t' : TT} (h : PW X e t) (w : ∀ σ H Q, t' σ H Q → t σ H Q) : PW X e t' := ⟨fun wh pins s σ H Q I q => h.run wh pins s σ H Q I (w σ H Q q)⟩
theorem PA.imp {e : List Expr} {t t' : TA} (h : PA X e t) (w : ∀ σ H Q, t' σ H Q → t σ H Q) : PA X e t' := ⟨fun pos pins s σ H Q I q => h.run pos pins s σ H Q I (w σ H Q q)⟩
theorem PS.imp {e : Stmt} {t t' : TS} (h : PS X e t) (w : ∀ D σ H, t' D σ H → t D σ H) : PS X e t' := ⟨fun pins s σ H D I q => h.run pins s σ H D I (w D σ H q)⟩
theorem PSs.imp {e : List Stmt} {t t' : TS} (h : PSs X e t) (w : ∀ D σ H, t' D σ H → t D σ H) : PSs X e t' := ⟨fun pins s σ H D I q => h.run pins s σ H D I (w D σ H q)⟩
end

/-! ### operators over data -/
/-- a rule of the layer serves an operator over data -/
def OpD (K : PySem.W.Frag) (r : R2) (f : D → D → Sto → Option (D × Sto)) : Prop :=
  ∀ ι H S a b x y d S' (Q : VK), Sat K ι H S → Rep K ι H a x → Rep K ι H b y → f a b S = some (d, S') →
    (∀ ι' H' v, Ext K ι H ι' H' → Sat K ι' H' S' → Rep K ι' H' d v → Q v H') → r x y H Q
theorem op_use {K : PySem.W.Frag} {r : R2} {f : D → D → Sto → Option (D × Sto)} (o : OpD K r f) {ma mb : En → Sto → Option (D × Sto)} {σ : L2.St} {H : Hp} {Q : VK}
    (h : sE K (fun env S => (ma env S).bind fun p => (mb env p.2).bind fun q => f p.1 q.1 q.2) σ H Q) : tOp r (sE K ma) (sE K mb) σ H Q := by
  obtain ⟨ι, env, S, d, S', hs, he, hm, q⟩ := h
  simp only [Option.bind_eq_some_iff] at hm
  obtain ⟨⟨a, S1⟩, h1, ⟨b, S2⟩, h2, h3⟩ := hm
  refine ⟨ι, env, S, a, S1, hs, he, h1, fun ι1 H1 x x1 s1 r1 => ?_⟩
  refine ⟨ι1, env, S1, b, S2, s1, he.ext x1, h2, fun ι2 H2 y x2 s2 r2 => ?_⟩
  exact o ι2 H2 S2 a b x y d S' Q s2 (r1.ext x2) r2 h3 fun ι' H' v x' s' r' => q ι' H' v ((x1.trans x2).trans x') s' r'

section
variable {K : PySem.W.Frag} {ι : Ad} {H : Hp} {S : Sto}
theorem rep_int {i : Int} {v : V} : Rep K ι H (.int i) v ↔ v = .int i := by simp only [Rep]
theorem rep_bl {i : Bool} {v : V} : Rep K ι H (.bl i) v ↔ v = .bl i := by simp only [Rep]
theorem rep_str {i : Str} {v : V} : Rep K ι H (.str i) v ↔ v = .str i := by simp only [Rep]
theorem rep_non {v : V} : Rep K ι H .non v ↔ v = .non := by simp only [Rep]
theorem rep_tup {l : List D} {v : V} : Rep K ι H (.tup l) v ↔ ∃ a vs, v = .ref a ∧ SqS K H a vs ∧ Reps K ι H l vs := by simp only [Rep]
theorem rep_lst {l : List D} {v : V} : Rep K ι H (.lst l) v ↔ ∃ a vs, v = .ref a ∧ H a = some (.lst vs) ∧ (a ∉ ι.r ∧ a ∉ ι.h) ∧ Reps K ι H l vs := by simp only [Rep]
theorem rep_fzl {l : List D} {v : V} : Rep K ι H (.fzl l) v ↔ ∃ a vs, v = .ref a ∧ SqF K H a vs ∧ Reps K ι H l vs := by simp only [Rep]
theorem rep_ref {n : Nat} {v : V} : Rep K ι H (.ref n) v ↔ ∃ a, v = .ref a ∧ ι.r[n]? = some a := by simp only [Rep]
/-- a list at hand -/
theorem litems_at (s : Sat K ι H S) {d : D} {v : V} {l : List D} (r : Rep K ι H d v) (h : litems S d = some l) : ∃ a vs, v = .ref a ∧ H a = some (.lst vs) ∧ Reps K ι H l vs := by
  cases d with
  | lst m =>
    simp only [litems, Option.some.injEq] at h
    subst h
    obtain ⟨a, vs, e, h1, _, h2⟩ := rep_lst.mp r
    exact ⟨a, vs, e, h1, h2⟩
  | ref n =>
    simp only [litems] at h
    obtain ⟨a, e, ha⟩ := rep_ref.mp r
    cases q : S[n]? with
    | none => rw [q] at h; cases h
    | some o =>
      rw [q] at h
      cases o with
      | lst m =>
        simp only [Option.some.injEq] at h
        subst h
        obtain ⟨vs, h1, h2⟩ := s.at_ n _ a q ha
        exact ⟨a, vs, e, h1, h2⟩
      | _ => cases h
  | _ => simp [litems] at h
theorem items_at (s : Sat K ι H S) {d : D} {v : V} {l : List D} (r : Rep K ι H d v) (h : items S d = some l) : ∃ a vs, v = .ref a ∧ (SqL K H a vs ∨ SqT K H a vs) ∧ Reps K ι H l vs := by
  cases d with
  | tup m =>
    simp only [items, Option.some.injEq] at h
    subst h
    obtain ⟨a, vs, e, h1, h2⟩ := rep_tup.mp r
    exact ⟨a, vs, e, .inr h1.t, h2⟩
  | fzl m =>
    simp only [items, Option.some.injEq] at h
    subst h
    obtain ⟨a, vs, e, h1, h2⟩ := rep_fzl.mp r
    exact ⟨a, vs, e, .inl h1.l, h2⟩
  | lst m =>
    obtain ⟨a, vs, e, h1, h2⟩ := litems_at s r (show litems S (.lst m) = some l from h)
    exact ⟨a, vs, e, .inl (SqL.of h1), h2⟩
  | ref n =>
    obtain ⟨a, vs, e, h1, h2⟩ := litems_at s r (show litems S (.ref n) = some l from h)
    exact ⟨a, vs, e, .inl (SqL.of h1), h2⟩
  | _ => simp [items] at h
/-- a new list -/
theorem mkL_at {fz : Bool} {l : List D} {d : D} {S' : Sto} {vs : List V} {Q : VK} (s : Sat K ι H S) (h : mkL fz l S = some (d, S')) (r : Reps K ι H l vs)
    (q : ∀ ι' H' v, Ext K ι H ι' H' → Sat K ι' H' S' → Rep K ι' H' d v → Q v H') : vs.length ≤ sizeLine ∧ ∀ p, H p = none → Q (.ref p) (upd H p (.lst vs)) := by
  unfold mkL at h
  split at h
  · rename_i hz
    refine ⟨by rw [r.length]; exact hz, fun p hp => ?_⟩
    split at h
    · cases h
      refine q ι _ _ (Ext.new hp) (s.new hp) (rep_lst.mpr ⟨p, vs, rfl, upd_same, s.notIn hp, r.ext (Ext.new hp)⟩)
    · cases h
      refine q (ι.push p) _ _ (Ext.push hp) (s.push hp ⟨vs, upd_same, r.ext (Ext.push hp)⟩) (rep_ref.mpr ⟨p, rfl, s.last p⟩)
  · cases h
theorem tup_at {l : List D} {vs : List V} {Q : VK} (s : Sat K ι H S) (r : Reps K ι H l vs)
    (q : ∀ ι' H' v, Ext K ι H ι' H' → Sat K ι' H' S → Rep K ι' H' (.tup l) v → Q v H') : ∀ p ob, ob.dict = none → H p = none → Q (.ref p) (upd H p (.frz ob (.tup vs))) := fun p ob h0 hp =>
  q ι _ _ (Ext.new hp) (s.new hp) (rep_tup.mpr ⟨p, vs, rfl, .inl ⟨ob, h0, upd_same⟩, r.ext (Ext.new hp)⟩)
end

/-! ### binary operators -/
theorem opd_int {K : PySem.W.Frag} {C : Int → Int → Prop} {g : Int → Int → Int} {f : D → D → Sto → Option (D × Sto)} (hf : ∀ a b S d S', f a b S = some (d, S') → ∃ i j, a = .int i ∧ b = .int j ∧ C i j ∧ d = .int (g i j) ∧ S' = S) :
    OpD K (rI C fun i j => .int (g i j)) f := by
  intro ι H S a b x y d S' Q s r1 r2 h q
  obtain ⟨i, j, rfl, rfl, c, rfl, rfl⟩ := hf _ _ _ _ _ h
  exact ⟨i, j, rep_int.mp r1, rep_int.mp r2, c, q ι H _ .refl s (rep_int.mpr rfl)⟩
def rAddAll (K : PySem.W.Frag) : R2 := fun x y H Q => (rI0 fun i j => .int (i + j)) x y H Q ∨ (∃ i j, x = .str i ∧ y = .str j ∧ i.length + j.length ≤ sizeLine ∧ Q (.str (i ++ j)) H) ∨ rCatS K x y H Q ∨ rCat x y H Q
theorem op_addAll {X : Cx} : OpR X (binaryOp .Add) (rAddAll X.K) := op_add.or (op_add_str.or (op_catS.or op_cat))
theorem opd_add {K : PySem.W.Frag} : OpD K (rAddAll K) (opB .add) := by
  intro ι H S a b x y d S' Q s r1 r2 h q
  have lists : ∀ a b, ((litems S a).bind fun l => (litems S b).bind fun r => mkL true (l ++ r) S) = some (d, S') → Rep K ι H a x → Rep K ι H b y → rAddAll K x y H Q := by
    intro a b h r1 r2
    simp only [Option.bind_eq_some_iff] at h
    obtain ⟨l, h1, r, h2, h3⟩ := h
    obtain ⟨p1, vs, e1, g1, q1⟩ := litems_at s r1 h1
    obtain ⟨p2, ws, e2, g2, q2⟩ := litems_at s r2 h2
    obtain ⟨hz, go⟩ := mkL_at (Q := Q) s h3 (q1.append q2) q
    exact .inr (.inr (.inr ⟨p1, p2, vs, ws, e1, e2, g1, g2, by rw [← List.length_append]; exact hz, go⟩))
  cases a with
  | int i =>
    cases b with
    | int j =>
      simp only [opB, Option.some.injEq, Prod.mk.injEq] at h
      obtain ⟨rfl, rfl⟩ := h
      exact .inl ⟨i, j, rep_int.mp r1, rep_int.mp r2, q ι H _ .refl s (rep_int.mpr rfl)⟩
    | _ => simp [opB, litems] at h
  | str i =>
    cases b with
    | str j =>
      simp only [opB] at h
      split at h
      · cases h
        exact .inr (.inl ⟨i, j, rep_str.mp r1, rep_str.mp r2, by assumption, q ι H _ .refl s (rep_str.mpr rfl)⟩)
      · cases h
    | _ => simp [opB, litems] at h
  | tup l =>
    cases b with
    | tup m =>
      simp only [opB] at h
      split at h
      · cases h
        obtain ⟨a1, vs, e1, g1, q1⟩ := rep_tup.mp r1
        obtain ⟨a2, ws, e2, g2, q2⟩ := rep_tup.mp r2
        refine .inr (.inr (.inl ⟨a1, a2, vs, ws, e1, e2, g1.t, g2.t, by rw [q1.length, q2.length]; assumption, fun z => ?_, fun z1 z2 => ?_, fun z1 z2 => tup_at s (q1.append q2) q⟩))
        · subst z
          have : l = [] := List.eq_nil_of_length_eq_zero (by rw [← q1.length]; rfl)
          subst this
          exact q ι H _ .refl s (rep_tup.mpr ⟨a2, ws, rfl, g2, q2⟩)
        · subst z2
          have : m = [] := List.eq_nil_of_length_eq_zero (by rw [← q2.length]; rfl)
          subst this
          rw [List.append_nil] at q
          exact q ι H _ .refl s (rep_tup.mpr ⟨a1, vs, rfl, g1, q1⟩)
      · cases h
    | _ => simp [opB, litems] at h
  | lst l => exact lists (.lst l) b (by simpa [opB] using h) r1 r2
  | ref n => exact lists (.ref n) b (by simpa [opB] using h) r1 r2
  | _ => simp [opB, litems] at h
theorem opd_sub {K : PySem.W.Frag} : OpD K (rI0 fun i j => .int (i - j)) (opB .sub) := by
  intro ι H S a b x y d S' Q s r1 r2 h q
  cases a <;> first
    | (simp [opB, litems] at h; done)
    | (cases b <;> first
        | (simp [opB, litems] at h; done)
        | (simp only [opB, Option.some.injEq, Prod.mk.injEq] at h; obtain ⟨rfl, rfl⟩ := h; exact ⟨_, _, rep_int.mp r1, rep_int.mp r2, q ι H _ .refl s (rep_int.mpr rfl)⟩))
theorem opd_mul {K : PySem.W.Frag} : OpD K (rI CMul fun i j => .int (i * j)) (opB .mul) := by
  refine opd_int (g := fun i j => i * j) fun a b S d S' h => ?_
  cases a <;> first
    | (simp [opB, litems] at h; done)
    | (cases b <;> first
        | (simp [opB, litems] at h; done)
        | (simp only [opB] at h; split at h <;> first | (cases h; exact ⟨_, _, rfl, rfl, by assumption, rfl, rfl⟩) | cases h))
theorem opd_fdiv {K : PySem.W.Frag} : OpD K (rI CDiv fun i j => .int (i / j)) (opB .fdiv) := by
  refine opd_int (g := fun i j => i / j) fun a b S d S' h => ?_
  cases a <;> first
    | (simp [opB, litems] at h; done)
    | (cases b <;> first
        | (simp [opB, litems] at h; done)
        | (simp only [opB] at h; split at h <;> first | (cases h; exact ⟨_, _, rfl, rfl, by assumption, rfl, rfl⟩) | cases h))
theorem opd_mod {K : PySem.W.Frag} : OpD K (rI (fun _ j => 0 < j) fun i j => .int (i % j)) (opB .mod) := by
  refine opd_int (g := fun i j => i % j) fun a b S d S' h => ?_
  cases a <;> first
    | (simp [opB, litems] at h; done)
    | (cases b <;> first
        | (simp [opB, litems] at h; done)
        | (simp only [opB] at h; split at h <;> first | (cases h; exact ⟨_, _, rfl, rfl, by assumption, rfl, rfl⟩) | cases h))
end Tt
end

section
/-! Comparisons, subscripts, slices. -/
namespace Tt
open PySem PySem.Spec PyProof.Rows L2

section
variable {K : PySem.W.Frag} {ι : Ad} {H : Hp} {S : Sto}
mutual
theorem dp_of : ∀ {d : D} {v : V} {x : PyData}, Rep K ι H d v → pyD d = some x → Dp K H v x
  | .non, v, x, r, h => by
    have := rep_non.mp r; subst this
    simp only [pyD, Option.some.injEq] at h; subst h; exact .non
  | .bl b, v, x, r, h => by
    have := rep_bl.mp r; subst this
    simp only [pyD, Option.some.injEq] at h; subst h; exact .bl b
  | .int b, v, x, r, h => by
    have := rep_int.mp r; subst this
    simp only [pyD, Option.some.injEq] at h; subst h; exact .int b
  | .str b, v, x, r, h => by
    have := rep_str.mp r; subst this
    simp only [pyD, Option.some.injEq] at h; subst h; exact .str b
  | .tup l, v, x, r, h => by
    obtain ⟨a, vs, rfl, h1, h2⟩ := rep_tup.mp r
    simp only [pyD, Option.map_eq_some_iff] at h
    obtain ⟨y, h, rfl⟩ := h
    exact .tup h1.t (dps_of h2 h)
  | .lst l, v, x, r, h => by
    obtain ⟨a, vs, rfl, h1, _, h2⟩ := rep_lst.mp r
    simp only [pyD, Option.map_eq_some_iff] at h
    obtain ⟨y, h, rfl⟩ := h
    exact .lst (SqL.of h1) (dps_of h2 h)
  | .fzl n, v, x, r, h => by simp [pyD] at h
  | .ref n, v, x, r, h => by simp [pyD] at h
theorem dps_of : ∀ {l : List D} {vs : List V} {xs : List PyData}, Reps K ι H l vs → pyL l = some xs → DpAll K H vs xs
  | [], vs, xs, r, h => by
    simp only [Reps] at r; subst r
    simp only [pyL, Option.some.injEq] at h; subst h; exact .nil
  | d :: l, vs, xs, r, h => by
    simp only [Reps] at r
    obtain ⟨v, ws, rfl, r1, r2⟩ := r
    simp only [pyL, Option.bind_eq_some_iff, Option.map_eq_some_iff] at h
    obtain ⟨x, h1, y, h2, rfl⟩ := h
    exact .cons (dp_of r1 h1) (dps_of r2 h2)
end
theorem flat_rep {d : D} {v : V} (f : flatD d = true) (r : Rep K ι H d v) : v = toV d ∧ flatV v = true := by
  cases d <;> first
    | (have e := rep_non.mp r; subst e; exact ⟨rfl, rfl⟩)
    | (have e := rep_bl.mp r; subst e; exact ⟨rfl, rfl⟩)
    | (have e := rep_int.mp r; subst e; exact ⟨rfl, rfl⟩)
    | (have e := rep_str.mp r; subst e; exact ⟨rfl, rfl⟩)
    | (simp [flatD] at f)
theorem flat_reps : ∀ {l : List D} {vs : List V}, l.all flatD = true → Reps K ι H l vs → vs = l.map toV ∧ vs.all flatV = true
  | [], vs, f, r => by simp only [Reps] at r; subst r; exact ⟨rfl, rfl⟩
  | d :: l, vs, f, r => by
    simp only [Reps] at r
    obtain ⟨v, ws, rfl, r1, r2⟩ := r
    rw [List.all_cons, Bool.and_eq_true] at f
    obtain ⟨e1, f1⟩ := flat_rep f.1 r1
    obtain ⟨e2, f2⟩ := flat_reps f.2 r2
    exact ⟨by rw [List.map_cons, ← e1, ← e2], by rw [List.all_cons, f1, f2]; rfl⟩
theorem krep_look : ∀ {kvs : List (Key × D)} {ws : List (Key × V)} (k : Key), Krep K ι H kvs ws →
    (∀ d, lookK kvs k = some d → ∃ v, valV ws k = some v ∧ Rep K ι H d v) ∧ (lookK kvs k).isSome = (valV ws k).isSome
  | [], ws, k, r => by simp only [Krep] at r; subst r; exact ⟨fun d h => by simp [lookK] at h, rfl⟩
  | p :: kvs, ws, k, r => by
    simp only [Krep] at r
    obtain ⟨v, us, rfl, r1, r2⟩ := r
    obtain ⟨ih1, ih2⟩ := krep_look k r2
    by_cases e : p.1 = k
    · have h1 : lookK (p :: kvs) k = some p.2 := by simp [lookK, List.find?_cons, e]
      have h2 : valV ((p.1, v) :: us) k = some v := valV_pos e
      rw [h1, h2]
      exact ⟨fun d h => by cases h; exact ⟨v, rfl, r1⟩, rfl⟩
    · have h1 : lookK (p :: kvs) k = lookK kvs k := by simp [lookK, List.find?_cons, e]
      have h2 : valV ((p.1, v) :: us) k = valV us k := valV_neg e
      rw [h1, h2]
      exact ⟨ih1, ih2⟩
theorem kd_rep {d : D} {v : V} {k : Key} (r : Rep K ι H d v) (h : kD d = some k) : v = kV k := by
  cases d <;> simp only [kD, Option.some.injEq] at h <;> first
    | (subst h; exact rep_int.mp r)
    | (subst h; exact rep_str.mp r)
    | cases h
theorem dic_at (s : Sat K ι H S) {n : Nat} {v : V} {kvs : List (Key × D)} (r : Rep K ι H (.ref n) v) (h : S[n]? = some (.dic kvs)) : ∃ a ws, v = .ref a ∧ ι.r[n]? = some a ∧ H a = some (.dK ws) ∧ Krep K ι H kvs ws := by
  obtain ⟨a, e, ha⟩ := rep_ref.mp r
  obtain ⟨ws, h1, h2⟩ := s.at_ n _ a h ha
  exact ⟨a, ws, e, ha, h1, h2⟩
end

/-! ### comparisons -/
/-- a comparison's rule serves it over data -/
def CmpOk (K : PySem.W.Frag) (r : R2) (op : Cop) : Prop :=
  ∀ ι H S a b x y c (Q : VK), Sat K ι H S → Rep K ι H a x → Rep K ι H b y → cmpD op a b S = some c → Q (.bl c) H → r x y H Q
theorem cmp_eq {K : PySem.W.Frag} : CmpOk K (rEqD K) .eq := by
  intro ι H S a b x y c Q s r1 r2 h q
  simp only [cmpD, eqD, Option.bind_eq_some_iff] at h
  obtain ⟨u, h1, w, h2, h3⟩ := h
  split at h3
  · rename_i hs
    cases h3
    rw [Bool.and_eq_true] at hs
    exact ⟨u, w, dp_of r1 h1, dp_of r2 h2, hs.1, hs.2, q⟩
  · cases h3
theorem cmp_ne {K : PySem.W.Frag} : CmpOk K (rNeD K) .ne := by
  intro ι H S a b x y c Q s r1 r2 h q
  simp only [cmpD, eqD, Option.map_eq_some_iff, Option.bind_eq_some_iff] at h
  obtain ⟨c', ⟨u, h1, w, h2, h3⟩, rfl⟩ := h
  split at h3
  · rename_i hs
    cases h3
    rw [Bool.and_eq_true] at hs
    exact ⟨u, w, dp_of r1 h1, dp_of r2 h2, hs.1, hs.2, q⟩
  · cases h3
theorem cmp_lt {K : PySem.W.Frag} : CmpOk K (rI0 fun i j => .bl (decide (i < j))) .lt := by
  intro ι H S a b x y c Q s r1 r2 h q
  cases a <;> first
    | (simp [cmpD] at h; done)
    | (cases b <;> first
        | (simp [cmpD] at h; done)
        | (simp only [cmpD, Option.some.injEq] at h; subst h; exact ⟨_, _, rep_int.mp r1, rep_int.mp r2, q⟩))
theorem cmp_le {K : PySem.W.Frag} : CmpOk K (rI0 fun i j => .bl (decide (i ≤ j))) .le := by
  intro ι H S a b x y c Q s r1 r2 h q
  cases a <;> first
    | (simp [cmpD] at h; done)
    | (cases b <;> first
        | (simp [cmpD] at h; done)
        | (simp only [cmpD, Option.some.injEq] at h; subst h; exact ⟨_, _, rep_int.mp r1, rep_int.mp r2, q⟩))
theorem cmp_gt {K : PySem.W.Frag} : CmpOk K (rI0 fun i j => .bl (decide (j < i))) .gt := by
  intro ι H S a b x y c Q s r1 r2 h q
  cases a <;> first
    | (simp [cmpD] at h; done)
    | (cases b <;> first
        | (simp [cmpD] at h; done)
        | (simp only [cmpD, Option.some.injEq] at h; subst h; exact ⟨_, _, rep_int.mp r1, rep_int.mp r2, q⟩))
theorem cmp_ge {K : PySem.W.Frag} : CmpOk K (rI0 fun i j => .bl (decide (j ≤ i))) .ge := by
  intro ι H S a b x y c Q s r1 r2 h q
  cases a <;> first
    | (simp [cmpD] at h; done)
    | (cases b <;> first
        | (simp [cmpD] at h; done)
        | (simp only [cmpD, Option.some.injEq] at h; subst h; exact ⟨_, _, rep_int.mp r1, rep_int.mp r2, q⟩))
theorem isnon_rep {K : PySem.W.Frag} {ι : Ad} {H : Hp} {a : D} {x : V} (r : Rep K ι H a x) : decide (x = .non) = isNon a := by
  cases a with
  | non => have e := rep_non.mp r; subst e; rfl
  | bl b => have e := rep_bl.mp r; subst e; rfl
  | int b => have e := rep_int.mp r; subst e; rfl
  | str b => have e := rep_str.mp r; subst e; rfl
  | tup l => obtain ⟨a, vs, rfl, _⟩ := rep_tup.mp r; rfl
  | lst l => obtain ⟨a, vs, rfl, _⟩ := rep_lst.mp r; rfl
  | fzl l => obtain ⟨a, vs, rfl, _⟩ := rep_fzl.mp r; rfl
  | ref n => obtain ⟨a, rfl, _⟩ := rep_ref.mp r; rfl
theorem cmp_isN {K : PySem.W.Frag} : CmpOk K (fun x y H Q => y = .non ∧ Q (.bl (decide (x = .non))) H) .isN := by
  intro ι H S a b x y c Q s r1 r2 h q
  cases b <;> first
    | (simp [cmpD] at h; done)
    | (simp only [cmpD, Option.some.injEq] at h; subst h; exact ⟨rep_non.mp r2, by rw [isnon_rep r1]; exact q⟩)
theorem cmp_notN {K : PySem.W.Frag} : CmpOk K (fun x y H Q => y = .non ∧ Q (.bl (!decide (x = .non))) H) .notN := by
  intro ι H S a b x y c Q s r1 r2 h q
  cases b <;> first
    | (simp [cmpD] at h; done)
    | (simp only [cmpD, Option.some.injEq] at h; subst h; exact ⟨rep_non.mp r2, by rw [isnon_rep r1]; exact q⟩)
/-- in: a sign of a text, an item of a list, a key -/
def rInAll (K : PySem.W.Frag) (neg : Bool) : R2 := fun x y H Q =>
  (∃ (c : Nat) (z : Str), x = .str ⟨#[c]⟩ ∧ y = .str z ∧ Q (.bl (if neg then !decide (c ∈ z.cps.toList) else decide (c ∈ z.cps.toList))) H) ∨
  rIn K neg x y H Q ∨ (∃ a o, y = .ref a ∧ DGet H a x o ∧ Q (.bl (if neg then !o.isSome else o.isSome)) H) ∨
  ∃ d ds, Dp K H x d ∧ Dp K H y (.list ds) ∧ SeqAt.shaped d = true ∧ SeqAt.shaped (.list ds) = true ∧ Q (.bl (if neg then !ds.any fun z => PyData.eqv z d else ds.any fun z => PyData.eqv z d)) H
theorem op_inAll {X : Cx} (hu : X.A.units + 65 < cLine) : OpR X (compareOp .In) (rInAll X.K false) := by
  refine op_in_sign.or (op_in_seq.or (OpR.or ?_ (op_inD hu)))
  intro pins s σ H x y v u Q I rx ry h
  obtain ⟨a, o, rfl, g, q⟩ := h
  cases ry
  exact d_in (by omega) I g rx fun s3 I3 => ⟨.bl o.isSome, H, I3, rfl, q⟩
theorem op_notInAll {X : Cx} (hu : X.A.units + 65 < cLine) : OpR X (compareOp .NotIn) (rInAll X.K true) := by
  refine op_notIn_sign.or (op_notIn_seq.or (OpR.or ?_ (op_notInD hu)))
  intro pins s σ H x y v u Q I rx ry h
  obtain ⟨a, o, rfl, g, q⟩ := h
  cases ry
  exact d_notIn (by omega) I g rx fun s3 I3 => ⟨.bl (!o.isSome), H, I3, rfl, q⟩
theorem in_all {K : PySem.W.Frag} (neg : Bool) {ι : Ad} {H : Hp} {S : Sto} {a b : D} {x y : V} {c : Bool} {Q : VK} (s : Sat K ι H S) (r1 : Rep K ι H a x) (r2 : Rep K ι H b y) (h : isIn a b S = some c) (q : Q (.bl (if neg then !c else c)) H) : rInAll K neg x y H Q := by
  have seq : ∀ {l : List D} {p : Addr} {vs : List V}, inD a l = some c → y = .ref p → (SqL K H p vs ∨ SqT K H p vs) → Reps K ι H l vs → rInAll K neg x y H Q := by
    intro l p vs h e hs r
    unfold inD at h
    split at h
    · rename_i f
      rw [Bool.and_eq_true] at f
      cases h
      obtain ⟨e1, f1⟩ := flat_rep f.1 r1
      obtain ⟨e2, f2⟩ := flat_reps f.2 r
      exact .inr (.inl ⟨p, vs, e, hs, f1, f2, by rw [e1, e2]; exact q⟩)
    · cases h
  cases b with
  | str z =>
    cases a <;> first
      | (simp [isIn] at h; done)
      | skip
    rename_i ch
    simp only [isIn] at h
    split at h
    · rename_i g e
      cases h
      refine .inl ⟨g, z, ?_, rep_str.mp r2, q⟩
      rw [rep_str.mp r1]
      congr 1
      cases ch
      simp only at e
      congr 1
      exact Array.ext' (by simpa using e)
    · cases h
  | tup l =>
    obtain ⟨p, vs, e, g, r⟩ := rep_tup.mp r2
    exact seq (l := l) (by cases a <;> simpa [isIn] using h) e (.inr g.t) r
  | lst l =>
    obtain ⟨p, vs, e, g, _, r⟩ := rep_lst.mp r2
    have h' : inL a l = some c := by cases a <;> simpa [isIn] using h
    unfold inL at h'
    split at h'
    · rename_i f
      exact seq (l := l) (by unfold inD; rw [if_pos f]; exact h') e (.inl (SqL.of g)) r
    · simp only [Option.bind_eq_some_iff] at h'
      obtain ⟨xd, h1, ys, h2, h3⟩ := h'
      split at h3
      · rename_i f
        rw [Bool.and_eq_true] at f
        cases h3
        exact .inr (.inr (.inr ⟨xd, ys, dp_of r1 h1, by rw [e]; exact .lst (SqL.of g) (dps_of r h2), f.1, f.2, q⟩))
      · cases h3
  | ref n =>
    cases e : S[n]? with
    | none => cases a <;> simp [isIn, e] at h
    | some o =>
      cases o with
      | lst l =>
        obtain ⟨p, e1, ha⟩ := rep_ref.mp r2
        obtain ⟨vs, g1, g2⟩ := s.at_ n _ p e ha
        exact seq (l := l) (by cases a <;> simpa [isIn, e] using h) e1 (.inl (SqL.of g1)) g2
      | dic kvs =>
        have h' : (kD a).map (fun k => (lookK kvs k).isSome) = some c := by cases a <;> simpa [isIn, e] using h
        rw [Option.map_eq_some_iff] at h'
        obtain ⟨k, hk, rfl⟩ := h'
        obtain ⟨p, ws, e1, _, g1, g2⟩ := dic_at s r2 e
        obtain ⟨_, l2⟩ := krep_look k g2
        refine .inr (.inr (.inl ⟨p, valV ws k, e1, ?_, by rw [← l2]; exact q⟩))
        rw [kd_rep r1 hk]
        exact DGet.k g1
      | dead => cases a <;> simp [isIn, e] at h
  | _ => cases a <;> simp [isIn] at h
theorem cmp_in {K : PySem.W.Frag} : CmpOk K (rInAll K false) .inn := by
  intro ι H S a b x y c Q s r1 r2 h q
  exact in_all false s r1 r2 (by cases a <;> cases b <;> simpa [cmpD] using h) q
theorem cmp_notIn {K : PySem.W.Frag} : CmpOk K (rInAll K true) .notIn := by
  intro ι H S a b x y c Q s r1 r2 h q
  have h' : (isIn a b S).map (!·) = some c := by cases a <;> cases b <;> simpa [cmpD] using h
  rw [Option.map_eq_some_iff] at h'
  obtain ⟨c', h1, rfl⟩ := h'
  exact in_all true s r1 r2 h1 q
/-- all comparisons -/
def copOf : Cop → CmpOp
  | .eq => .Eq | .ne => .NotEq | .lt => .Lt | .le => .LtE | .gt => .Gt | .ge => .GtE | .isN => .Is | .notN => .IsNot | .inn => .In | .notIn => .NotIn
theorem cmp_all {X : Cx} (hu : X.A.units + 65 < cLine) (op : Cop) : ∃ r, OpR X (compareOp (copOf op)) r ∧ CmpOk X.K r op := by
  cases op with
  | eq => exact ⟨_, op_eqD (by omega), cmp_eq⟩
  | ne => exact ⟨_, op_neD (by omega), cmp_ne⟩
  | lt => exact ⟨_, op_lt, cmp_lt⟩
  | le => exact ⟨_, op_le, cmp_le⟩
  | gt => exact ⟨_, op_gt, cmp_gt⟩
  | ge => exact ⟨_, op_ge, cmp_ge⟩
  | isN => exact ⟨_, op_isN, cmp_isN⟩
  | notN => exact ⟨_, op_notN, cmp_notN⟩
  | inn => exact ⟨_, op_inAll (by omega), cmp_in⟩
  | notIn => exact ⟨_, op_notInAll (by omega), cmp_notIn⟩
theorem bop_all {X : Cx} (op : Bop) : ∃ o r, (o = match op with | .add => Operator.Add | .sub => .Sub | .mul => .Mult | .fdiv => .FloorDiv | .mod => .Mod) ∧ OpR X (binaryOp o) r ∧ OpD X.K r (opB op) := by
  cases op with
  | add => exact ⟨_, _, rfl, op_addAll, opd_add⟩
  | sub => exact ⟨_, _, rfl, op_sub, opd_sub⟩
  | mul => exact ⟨_, _, rfl, op_mul, opd_mul⟩
  | fdiv => exact ⟨_, _, rfl, op_fdiv, opd_fdiv⟩
  | mod => exact ⟨_, _, rfl, op_mod, opd_mod⟩

/-! ### subscripts -/
theorem ix_dict {X : Cx} (hu : X.A.units + 1 < cLine) : IxR X (fun x y H Q => ∃ a v, x = .ref a ∧ DGet H a y (some v) ∧ Q v H) := by
  intro value slice pins s σ H x y v u Q I rx ry h hs
  obtain ⟨a, z, rfl, g, q⟩ := h
  obtain rfl : v = Value.ref a := rx
  exact tail_any (dict_typeIs I g) PySem.F.slot_dict_getitem.lookup (d_getItem hu I g ry fun w' s3 I3 rw' => ⟨z, H, I3, rw', q⟩) hs
def rIxAll (K : PySem.W.Frag) : R2 := fun x y H Q => rIx K x y H Q ∨ ∃ a v, x = .ref a ∧ DGet H a y (some v) ∧ Q v H
theorem ix_all {X : Cx} (hu : X.A.units + 1 < cLine) : IxR X (rIxAll X.K) := ix_seq.or (ix_dict hu)
theorem atI_rep {K : PySem.W.Frag} {ι : Ad} {H : Hp} {l : List D} {vs : List V} {i : Int} {d : D} (r : Reps K ι H l vs) (h : atI l i = some d) : ∃ v, atI vs i = some v ∧ Rep K ι H d v := by
  unfold atI at h ⊢
  rw [r.length]
  cases e : ixN l.length i with
  | none => rw [e] at h; cases h
  | some j =>
    rw [e] at h
    exact r.get h
theorem ix_use {K : PySem.W.Frag} {ι : Ad} {H : Hp} {S : Sto} {a b : D} {x y : V} {d : D} {Q : VK} (s : Sat K ι H S) (r1 : Rep K ι H a x) (r2 : Rep K ι H b y) (h : ixD a b S = some d) (q : ∀ v, Rep K ι H d v → Q v H) : rIxAll K x y H Q := by
  cases a with
  | str z =>
    cases b <;> first
      | (simp [ixD] at h; done)
      | skip
    rename_i i
    simp only [ixD] at h
    split at h
    · rw [Option.map_eq_some_iff] at h
      obtain ⟨c, hc, rfl⟩ := h
      exact .inl (.inr (.inr ⟨z, i, c, rep_str.mp r1, rep_int.mp r2, by assumption, hc, q _ (rep_str.mpr rfl)⟩))
    · cases h
  | tup l =>
    cases b <;> first
      | (simp [ixD] at h; done)
      | skip
    obtain ⟨p, vs, e, g, r⟩ := rep_tup.mp r1
    obtain ⟨v, hv, rv⟩ := atI_rep r (by simpa [ixD] using h)
    exact .inl (.inr (.inl ⟨p, vs, _, v, e, rep_int.mp r2, g.t, hv, q v rv⟩))
  | lst l =>
    cases b <;> first
      | (simp [ixD] at h; done)
      | skip
    obtain ⟨p, vs, e, g, _, r⟩ := rep_lst.mp r1
    obtain ⟨v, hv, rv⟩ := atI_rep r (by simpa [ixD] using h)
    exact .inl (.inl ⟨p, vs, _, v, e, rep_int.mp r2, SqL.of g, hv, q v rv⟩)
  | ref n =>
    simp only [ixD] at h
    cases e : S[n]? with
    | none => rw [e] at h; simp at h
    | some o =>
      rw [e] at h
      cases o with
      | lst l =>
        cases b <;> first
          | (simp at h; done)
          | skip
        obtain ⟨p, e1, ha⟩ := rep_ref.mp r1
        obtain ⟨vs, g1, g2⟩ := s.at_ n _ p e ha
        obtain ⟨v, hv, rv⟩ := atI_rep g2 (by simpa using h)
        exact .inl (.inl ⟨p, vs, _, v, e1, rep_int.mp r2, SqL.of g1, hv, q v rv⟩)
      | dic kvs =>
        have h' : ((kD b).bind fun k => lookK kvs k) = some d := by cases b <;> simpa using h
        rw [Option.bind_eq_some_iff] at h'
        obtain ⟨k, hk, hl⟩ := h'
        obtain ⟨p, ws, e1, _, g1, g2⟩ := dic_at s r1 e
        obtain ⟨l1, _⟩ := krep_look k g2
        obtain ⟨v, hv, rv⟩ := l1 d hl
        refine .inr ⟨p, v, e1, ?_, q v rv⟩
        rw [kd_rep r2 hk, ← hv]
        exact DGet.k g1
      | dead => simp at h
  | _ => simp [ixD] at h

/-! ### slices -/
theorem cut_rep {K : PySem.W.Frag} {ι : Ad} {H : Hp} {l : List D} {vs : List V} (r : Reps K ι H l vs) (lo hi : Option Int) : Reps K ι H (cutD l lo hi) (cutV vs lo hi) := by
  unfold cutD cutV
  rw [r.length]
  exact (r.drop _).take _
def rSlSll (K : PySem.W.Frag) : V → Option Int → Option Int → Hp → VK → Prop := fun x lo hi H Q => (rSlS K x lo hi H Q ∨ rSlL K x lo hi H Q) ∨ L2.rSlS x lo hi H Q
theorem sl_all {X : Cx} : SlR X (rSlSll X.K) := (sl_tupS.or sl_list).or sl_str
theorem cutD_whole {α : Type} {l : List α} {lo hi : Option Int} (h : HT.sIx l.length 0 lo = 0 ∧ HT.sIx l.length l.length hi = l.length) : cutD l lo hi = l := by
  unfold cutD
  rw [h.1, h.2]
  simp
theorem sl_use {K : PySem.W.Frag} {ι : Ad} {H : Hp} {S : Sto} {a : D} {x : V} {lo hi : Option Int} {d : D} {S' : Sto} {Q : VK} (s : Sat K ι H S) (r1 : Rep K ι H a x) (h : slD a lo hi S = some (d, S'))
    (q : ∀ ι' H' v, Ext K ι H ι' H' → Sat K ι' H' S' → Rep K ι' H' d v → Q v H') : rSlSll K x lo hi H Q := by
  have lists : ((litems S a).map fun l => (D.lst (cutD l lo hi), S)) = some (d, S') → rSlSll K x lo hi H Q := by
    intro h
    rw [Option.map_eq_some_iff] at h
    obtain ⟨l, h1, h2⟩ := h
    cases h2
    obtain ⟨p, vs, e, g, r⟩ := litems_at s r1 h1
    refine .inl <| .inr ⟨p, vs, e, SqL.of g, fun t ht => q ι _ _ (Ext.new ht) (s.new ht) (rep_lst.mpr ⟨t, _, rfl, upd_same, s.notIn ht, (cut_rep r lo hi).ext (Ext.new ht)⟩)⟩
  cases a with
  | tup l =>
    simp only [slD, Option.some.injEq, Prod.mk.injEq] at h
    obtain ⟨rfl, rfl⟩ := h
    obtain ⟨p, vs, e, g, r⟩ := rep_tup.mp r1
    refine .inl <| .inl ⟨p, vs, e, g.t, fun z => ?_, fun z => tup_at s (cut_rep r lo hi) q⟩
    rw [r.length] at z
    have := cutD_whole z
    rw [this] at q
    exact q ι H _ .refl s (rep_tup.mpr ⟨p, vs, rfl, g, r⟩)
  | str z =>
    simp only [slD] at h
    split at h
    · cases h
      exact .inr ⟨z, rep_str.mp r1, by assumption, q ι H _ .refl s (rep_str.mpr rfl)⟩
    · cases h
  | _ => exact lists (by simpa [slD] using h)
end Tt
end

section
/-! Built-in functions and methods. -/
namespace Tt
open PySem PySem.Spec PyProof.Rows L2

/-- a built-in's rule serves it over data -/
def BltOk (K : PySem.W.Frag) (r : List V → Hp → VK → Prop) (f : List D → Sto → Option (D × Sto)) : Prop :=
  ∀ ι H S ds vs d S' (Q : VK), Sat K ι H S → Reps K ι H ds vs → f ds S = some (d, S') →
    (∀ ι' H' v, Ext K ι H ι' H' → Sat K ι' H' S' → Rep K ι' H' d v → Q v H') → r vs H Q
theorem reps1 {K : PySem.W.Frag} {ι : Ad} {H : Hp} {d : D} {vs : List V} (r : Reps K ι H [d] vs) : ∃ v, vs = [v] ∧ Rep K ι H d v := by
  simp only [Reps] at r
  obtain ⟨v, ws, rfl, r1, rfl⟩ := r
  exact ⟨v, rfl, r1⟩
theorem reps2 {K : PySem.W.Frag} {ι : Ad} {H : Hp} {d e : D} {vs : List V} (r : Reps K ι H [d, e] vs) : ∃ v w, vs = [v, w] ∧ Rep K ι H d v ∧ Rep K ι H e w := by
  simp only [Reps] at r
  obtain ⟨v, ws, rfl, r1, w, us, rfl, r2, rfl⟩ := r
  exact ⟨v, w, rfl, r1, r2⟩
section
variable {K : PySem.W.Frag} {ι : Ad} {H : Hp} {S : Sto}
theorem ints_rep : ∀ {l : List D} {ns : List Int} {vs : List V}, intsD l = some ns → Reps K ι H l vs → vs = ns.map V.int
  | [], ns, vs, h, r => by
    simp only [intsD, Option.some.injEq] at h; subst h
    simp only [Reps] at r; subst r; rfl
  | d :: l, ns, vs, h, r => by
    cases d <;> first
      | (simp [intsD] at h; done)
      | skip
    simp only [intsD, Option.map_eq_some_iff] at h
    obtain ⟨m, h, rfl⟩ := h
    simp only [Reps] at r
    obtain ⟨v, ws, rfl, r1, r2⟩ := r
    rw [rep_int] at r1
    rw [r1, ints_rep h r2, List.map_cons]
theorem bools_rep : ∀ {l : List D} {ns : List Bool} {vs : List V}, bools l = some ns → Reps K ι H l vs → vs = ns.map V.bl
  | [], ns, vs, h, r => by
    simp only [bools, Option.some.injEq] at h; subst h
    simp only [Reps] at r; subst r; rfl
  | d :: l, ns, vs, h, r => by
    cases d <;> first
      | (simp [bools] at h; done)
      | skip
    simp only [bools, Option.map_eq_some_iff] at h
    obtain ⟨m, h, rfl⟩ := h
    simp only [Reps] at r
    obtain ⟨v, ws, rfl, r1, r2⟩ := r
    rw [rep_bl] at r1
    rw [r1, bools_rep h r2, List.map_cons]
theorem rep_ints : ∀ ns : List Int, Reps K ι H (ns.map D.int) (ns.map V.int)
  | [] => .nil
  | i :: r => .cons (rep_int.mpr rfl) (rep_ints r)
theorem keys_rep : ∀ {kvs : List (Key × D)} {ks : List Int} {ws : List (Key × V)}, keysI kvs = some ks → Krep K ι H kvs ws → ws.map (·.1) = ks.map Sum.inl
  | [], ks, ws, h, r => by
    simp only [keysI, Option.some.injEq] at h; subst h
    simp only [Krep] at r; subst r; rfl
  | (.inl i, d) :: kvs, ks, ws, h, r => by
    simp only [keysI, Option.map_eq_some_iff] at h
    obtain ⟨m, h, rfl⟩ := h
    simp only [Krep] at r
    obtain ⟨v, us, rfl, _, r2⟩ := r
    rw [List.map_cons, keys_rep h r2, List.map_cons]
  | (.inr i, d) :: kvs, ks, ws, h, r => by simp [keysI] at h
theorem Krep.length : ∀ {l : List (Key × D)} {vs : List (Key × V)}, Krep K ι H l vs → vs.length = l.length
  | [], vs, h => by simp only [Krep] at h; rw [h]; rfl
  | d :: r, vs, h => by
    simp only [Krep] at h
    obtain ⟨v, ws, e, h1, h2⟩ := h
    rw [e, List.length_cons, List.length_cons, Krep.length h2]
end
theorem insI_perm (x : Int) : ∀ l, (insI x l).Perm (x :: l)
  | [] => .refl _
  | y :: r => by
    unfold insI
    split
    · exact .refl _
    · exact ((insI_perm x r).cons y).trans (.swap x y r)
theorem sortI_perm : ∀ l, (sortI l).Perm l
  | [] => .refl _
  | x :: r => (insI_perm x _).trans ((sortI_perm r).cons x)
theorem insI_sorted (x : Int) : ∀ l : List Int, l.Pairwise (· ≤ ·) → (insI x l).Pairwise (· ≤ ·)
  | [], _ => by simp [insI]
  | y :: r, h => by
    unfold insI
    rw [List.pairwise_cons] at h
    split
    · rename_i hx
      rw [List.pairwise_cons]
      refine ⟨fun z hz => ?_, by rw [List.pairwise_cons]; exact h⟩
      rcases List.mem_cons.mp hz with e | e
      · subst e; exact hx
      · exact Int.le_trans hx (h.1 z e)
    · rename_i hx
      rw [List.pairwise_cons]
      refine ⟨fun z hz => ?_, insI_sorted x r h.2⟩
      rcases List.mem_cons.mp ((insI_perm x r).mem_iff.mp hz) with e | e
      · omega
      · exact h.1 z e
theorem sortI_sorted : ∀ l : List Int, (sortI l).Pairwise (· ≤ ·)
  | [] => .nil
  | x :: r => insI_sorted x _ (sortI_sorted r)
theorem sortI_eq {l m : List Int} (hp : m.Perm l) (hs : m.Pairwise (· ≤ ·)) : m = sortI l := PySem.W.ksm_same (hp.trans (sortI_perm l).symm) hs (sortI_sorted l)

/-! ### each built-in -/
theorem blt_len {X : Cx} {fz : Bool} : ∃ r, CallR X (.builtin "len") r ∧ BltOk X.K r (bltD fz .len) := by
  refine ⟨_, call_len.or call_lenD, ?_⟩
  intro ι H S ds vs d S' Q s r h q
  match ds, h with
  | [x], h =>
    obtain ⟨v, rfl, r1⟩ := reps1 r
    have seq : (items S x).map (fun l => (D.int l.length, S)) = some (d, S') → (∃ x n, [v] = [x] ∧ LenV X.K x H n ∧ Q (.int n) H) := by
      intro h
      rw [Option.map_eq_some_iff] at h
      obtain ⟨l, h1, h2⟩ := h
      cases h2
      obtain ⟨a, us, rfl, hs, ru⟩ := items_at s r1 h1
      refine ⟨_, us.length, rfl, hs.elim (fun z => .inl ⟨us, z, rfl⟩) (fun z => .inr ⟨us, z, rfl⟩), ?_⟩
      rw [ru.length]
      exact q ι H _ .refl s (rep_int.mpr rfl)
    cases x with
    | str z =>
      simp only [bltD] at h
      split at h
      · cases h
        rw [rep_str] at r1; subst r1
        exact .inl ⟨_, _, rfl, ⟨by assumption, rfl⟩, q ι H _ .refl s (rep_int.mpr rfl)⟩
      · cases h
    | ref n =>
      simp only [bltD] at h
      cases e : S[n]? with
      | none => rw [e] at h; cases h
      | some o =>
        rw [e] at h
        cases o with
        | lst l => exact .inl (seq (by simp only [items, e]; exact h))
        | dic kvs =>
          simp only [Option.some.injEq, Prod.mk.injEq] at h
          obtain ⟨rfl, rfl⟩ := h
          obtain ⟨a, ws, e1, _, g1, g2⟩ := dic_at s r1 e
          exact .inr ⟨a, ws, by rw [e1], g1, by rw [g2.length]; exact q ι H _ .refl s (rep_int.mpr rfl)⟩
        | dead => cases h
    | _ => exact .inl (seq (by simpa [bltD] using h))
  | [], h => simp [bltD] at h
  | _ :: _ :: _, h => simp [bltD] at h
theorem blt_abs {X : Cx} {fz : Bool} : ∃ r, CallR X (.builtin "abs") r ∧ BltOk X.K r (bltD fz .abs) := by
  refine ⟨_, call_abs, ?_⟩
  intro ι H S ds vs d S' Q s r h q
  match ds, h with
  | [.int i], h =>
    obtain ⟨v, rfl, r1⟩ := reps1 r
    rw [rep_int] at r1; subst r1
    simp only [bltD, Option.some.injEq, Prod.mk.injEq] at h
    obtain ⟨rfl, rfl⟩ := h
    exact ⟨i, rfl, q ι H _ .refl s (rep_int.mpr rfl)⟩
theorem blt_int {X : Cx} {fz : Bool} : ∃ r, CallR X (.type "int") r ∧ BltOk X.K r (bltD fz .int) := by
  refine ⟨_, call_int1.or call_int_str, ?_⟩
  intro ι H S ds vs d S' Q s r h q
  match ds, h with
  | [.int i], h =>
    obtain ⟨v, rfl, r1⟩ := reps1 r
    rw [rep_int] at r1; subst r1
    simp only [bltD, Option.some.injEq, Prod.mk.injEq] at h
    obtain ⟨rfl, rfl⟩ := h
    exact .inl (.inl ⟨i, rfl, q ι H _ .refl s (rep_int.mpr rfl)⟩)
  | [.bl i], h =>
    obtain ⟨v, rfl, r1⟩ := reps1 r
    rw [rep_bl] at r1; subst r1
    simp only [bltD, Option.some.injEq, Prod.mk.injEq] at h
    obtain ⟨rfl, rfl⟩ := h
    exact .inl (.inr ⟨i, rfl, q ι H _ .refl s (rep_int.mpr rfl)⟩)
  | [.str z], h =>
    obtain ⟨v, rfl, r1⟩ := reps1 r
    rw [rep_str] at r1; subst r1
    simp only [bltD] at h
    split at h
    · rw [Option.map_eq_some_iff] at h
      obtain ⟨n, h1, h2⟩ := h
      cases h2
      exact .inr ⟨z, n, rfl, h1, by assumption, q ι H _ .refl s (rep_int.mpr rfl)⟩
    · cases h
theorem blt_str {X : Cx} {fz : Bool} : ∃ r, CallR X (.type "str") r ∧ BltOk X.K r (bltD fz .str) := by
  refine ⟨_, call_str_int, ?_⟩
  intro ι H S ds vs d S' Q s r h q
  match ds, h with
  | [.int i], h =>
    obtain ⟨v, rfl, r1⟩ := reps1 r
    rw [rep_int] at r1; subst r1
    simp only [bltD] at h
    split at h
    · cases h
      exact ⟨i, rfl, by assumption, q ι H _ .refl s (rep_str.mpr rfl)⟩
    · cases h
theorem vals_chars (cs : List Nat) : ∀ (acc : List Value), acc.length = cs.length → (∀ (j : Nat) v, acc[j]? = some v → ∃ c u, cs[j]? = some c ∧ v = .str ⟨#[c]⟩ u) → Vals (cs.map fun c => V.str ⟨#[c]⟩) acc := by
  induction cs with
  | nil => intro acc h _; cases acc with
    | nil => exact .nil
    | cons a r => cases h
  | cons c cs ih => intro acc h h2; cases acc with
    | nil => cases h
    | cons a r =>
      obtain ⟨c', u, e1, e2⟩ := h2 0 a rfl
      cases e1
      exact .cons ⟨u, e2⟩ (ih r (by simpa using h) fun j v hv => h2 (j + 1) v hv)
/-- list(text), or list(list or tuple) -/
theorem call_list_any (hc : X.calm = true) : CallR X (.type "list") (fun xs H Q => (∃ z : Str, xs = [.str z] ∧ z.cps.size ≤ sizeLine ∧ ∀ l, H l = none → Q (.ref l) (upd H l (.lst (z.cps.toList.map fun c => .str ⟨#[c]⟩)))) ∨
    ∃ p ys, xs = [.ref p] ∧ (SqL X.K H p ys ∨ SqT X.K H p ys) ∧ ∀ l, H l = none → Q (.ref l) (upd H l (.lst ys))) := by
  intro pins s σ H xs us Q I r h
  rcases h with ⟨z, rfl, hz, q⟩ | h
  · obtain ⟨u, rfl, rx⟩ := vals1 r
    obtain ⟨t, rfl⟩ := rx
    refine call_list_str (I.ok.hd hc) z t (hn := hz) fun h' tk acc' c' hk hS' hacc => ?_
    have hv : Vals (z.cps.toList.map fun c => V.str ⟨#[c]⟩) acc'.toList := by
      refine vals_chars _ _ (by simp [hacc.1]) fun j v hv => ?_
      obtain ⟨c, u, hc, rfl⟩ := hacc.2 j v (by simpa using hv)
      exact ⟨c, u, by simpa using hc, rfl⟩
    exact ⟨.ref s.heap.objs.size, _, I.laid (t' := tk) hk (Nat.le_refl _) (show ObjOk X.prog X.w _ h' _ (.lst _) from ⟨by simpa using hz, acc'.toList, c', hv, by simpa using hS'⟩), rfl, q _ (I.hok.fresh (Nat.le_refl _))⟩
  · exact call_list_of pins s σ H xs us Q I r h
theorem blt_list {X : Cx} (hc : X.calm = true) {fz : Bool} : ∃ r, CallR X (.type "list") r ∧ BltOk X.K r (bltD fz .list) := by
  refine ⟨_, call_list_any hc, ?_⟩
  intro ι H S ds vs d S' Q s r h q
  match ds, h with
  | [x], h =>
    obtain ⟨v, rfl, r1⟩ := reps1 r
    by_cases hx : ∃ z, x = .str z
    · obtain ⟨z, rfl⟩ := hx
      rw [rep_str] at r1; subst r1
      simp only [bltD] at h
      have ru : ∀ cs : List Nat, Reps X.K ι H (cs.map fun c => D.str ⟨#[c]⟩) (cs.map fun c => V.str ⟨#[c]⟩) := by
        intro cs; induction cs with
        | nil => exact .nil
        | cons c r ih => exact .cons (rep_str.mpr rfl) ih
      obtain ⟨h1, h2⟩ := mkL_at s h (ru _) q
      exact .inl ⟨z, rfl, by simpa using h1, h2⟩
    refine .inr ?_
    have h' : (items S x).bind (fun l => mkL fz l S) = some (d, S') := by cases x <;> first | exact absurd ⟨_, rfl⟩ hx | simpa [bltD] using h
    rw [Option.bind_eq_some_iff] at h'
    obtain ⟨l, h1, h2⟩ := h'
    obtain ⟨a, us, rfl, hs, ru⟩ := items_at s r1 h1
    exact ⟨a, us, rfl, hs, (mkL_at s h2 ru q).2⟩
  | [], h => simp [bltD] at h
  | _ :: _ :: _, h => simp [bltD] at h
theorem blt_tuple {X : Cx} {fz : Bool} : ∃ r, CallR X (.type "tuple") r ∧ BltOk X.K r (bltD fz .tuple) := by
  refine ⟨_, call_tuple_ofS, ?_⟩
  intro ι H S ds vs d S' Q s r h q
  match ds, h with
  | [x], h =>
    obtain ⟨v, rfl, r1⟩ := reps1 r
    have h' : (items S x).map (fun l => (D.tup l, S)) = some (d, S') := by cases x <;> simpa [bltD] using h
    rw [Option.map_eq_some_iff] at h'
    obtain ⟨l, h1, h2⟩ := h'
    cases h2
    have lists : (∃ a us, v = .ref a ∧ H a = some (.lst us) ∧ Reps X.K ι H l us) → ∃ p ys, [v] = [.ref p] ∧ ((SqL X.K H p ys ∧ ∀ l ob, ob.dict = none → H l = none → Q (.ref l) (upd H l (.frz ob (.tup ys)))) ∨ (SqT X.K H p ys ∧ Q (.ref p) H)) := by
      rintro ⟨a, us, rfl, hs, ru⟩
      exact ⟨a, us, rfl, .inl ⟨SqL.of hs, tup_at s ru q⟩⟩
    cases x with
    | tup m =>
      simp only [items, Option.some.injEq] at h1
      subst h1
      obtain ⟨a, us, rfl, hs, ru⟩ := rep_tup.mp r1
      exact ⟨a, us, rfl, .inr ⟨hs.t, q ι H _ .refl s r1⟩⟩
    | fzl m =>
      simp only [items, Option.some.injEq] at h1
      subst h1
      obtain ⟨a, us, rfl, hs, ru⟩ := rep_fzl.mp r1
      exact ⟨a, us, rfl, .inl ⟨hs.l, tup_at s ru q⟩⟩
    | lst m => exact lists (litems_at s r1 h1)
    | ref n => exact lists (litems_at s r1 h1)
    | _ => simp [items] at h1
  | [], h => simp [bltD] at h
  | _ :: _ :: _, h => simp [bltD] at h
theorem blt_all {X : Cx} {fz : Bool} (hc : X.calm = true) : ∃ r, CallR X (.builtin "all") r ∧ BltOk X.K r (bltD fz .all) := by
  refine ⟨_, cr_all hc, ?_⟩
  intro ι H S ds vs d S' Q s r h q
  match ds, h with
  | [x], h =>
    obtain ⟨v, rfl, r1⟩ := reps1 r
    have h' : ((litems S x).bind fun l => (bools l).map fun bs => (D.bl (bs.all id), S)) = some (d, S') := by cases x <;> simpa [bltD] using h
    simp only [Option.bind_eq_some_iff, Option.map_eq_some_iff] at h'
    obtain ⟨l, h1, bs, h2, h3⟩ := h'
    cases h3
    obtain ⟨a, us, rfl, hs, ru⟩ := litems_at s r1 h1
    have e := bools_rep h2 ru
    subst e
    exact ⟨a, bs, rfl, SqL.of hs, q ι H _ .refl s (rep_bl.mpr rfl)⟩
  | [], h => simp [bltD] at h
  | _ :: _ :: _, h => simp [bltD] at h
theorem blt_any {X : Cx} {fz : Bool} (hc : X.calm = true) : ∃ r, CallR X (.builtin "any") r ∧ BltOk X.K r (bltD fz .any) := by
  refine ⟨_, cr_any hc, ?_⟩
  intro ι H S ds vs d S' Q s r h q
  match ds, h with
  | [x], h =>
    obtain ⟨v, rfl, r1⟩ := reps1 r
    have h' : ((litems S x).bind fun l => (bools l).map fun bs => (D.bl (bs.any id), S)) = some (d, S') := by cases x <;> simpa [bltD] using h
    simp only [Option.bind_eq_some_iff, Option.map_eq_some_iff] at h'
    obtain ⟨l, h1, bs, h2, h3⟩ := h'
    cases h3
    obtain ⟨a, us, rfl, hs, ru⟩ := litems_at s r1 h1
    have e := bools_rep h2 ru
    subst e
    exact ⟨a, bs, rfl, SqL.of hs, q ι H _ .refl s (rep_bl.mpr rfl)⟩
  | [], h => simp [bltD] at h
  | _ :: _ :: _, h => simp [bltD] at h
theorem blt_sum {X : Cx} {fz : Bool} (hc : X.calm = true) : ∃ r, CallR X (.builtin "sum") r ∧ BltOk X.K r (bltD fz .sum) := by
  refine ⟨_, cr_sum hc, ?_⟩
  intro ι H S ds vs d S' Q s r h q
  match ds, h with
  | [x], h =>
    obtain ⟨v, rfl, r1⟩ := reps1 r
    have h' : ((litems S x).bind fun l => (intsD l).map fun bs => (D.int bs.sum, S)) = some (d, S') := by cases x <;> simpa [bltD] using h
    simp only [Option.bind_eq_some_iff, Option.map_eq_some_iff] at h'
    obtain ⟨l, h1, bs, h2, h3⟩ := h'
    cases h3
    obtain ⟨a, us, rfl, hs, ru⟩ := litems_at s r1 h1
    have e := ints_rep h2 ru
    subst e
    exact ⟨a, bs, rfl, SqL.of hs, q ι H _ .refl s (rep_int.mpr rfl)⟩
  | [], h => simp [bltD] at h
  | _ :: _ :: _, h => simp [bltD] at h
theorem blt_sorted {X : Cx} {fz : Bool} (hc : X.calm = true) : ∃ r, CallR X (.builtin "sorted") r ∧ BltOk X.K r (bltD fz .sorted) := by
  refine ⟨_, cr_sorted.or (call_sortedDI hc), ?_⟩
  intro ι H S ds vs d S' Q s r h q
  have one : ∀ (x : D) (v : V), Rep X.K ι H x v → vs = [v] → ((litems S x).bind fun l => (intsD l).bind fun ks => if ks.length < 64 then mkL fz ((sortI ks).map .int) S else none) = some (d, S') → rSorted X.K vs H Q := by
    intro x v r1 e h
    simp only [Option.bind_eq_some_iff] at h
    obtain ⟨l, h1, ks, h2, h3⟩ := h
    split at h3
    · obtain ⟨a, us, rfl, hs, ru⟩ := litems_at s r1 h1
      have e' := ints_rep h2 ru
      subst e' e
      refine ⟨a, ks, rfl, SqL.of hs, by assumption, fun ns' p hp hs' hn => ?_⟩
      rw [sortI_eq hp hs']
      exact (mkL_at s h3 (rep_ints _) q).2 p hn
    · cases h3
  match ds, h with
  | [.ref n], h =>
    obtain ⟨v, rfl, r1⟩ := reps1 r
    simp only [bltD] at h
    cases e : S[n]? with
    | none => rw [e] at h; cases h
    | some o =>
      rw [e] at h
      cases o with
      | lst l => exact .inl (one (.ref n) v r1 rfl (by simp only [litems, e]; exact h))
      | dic kvs =>
        simp only [Option.bind_eq_some_iff] at h
        obtain ⟨ks, h2, h3⟩ := h
        split at h3
        · obtain ⟨a, ws, rfl, _, g1, g2⟩ := dic_at s r1 e
          refine .inr ⟨a, ws, ks, rfl, Rd.of g1, keys_rep h2 g2, by assumption, fun ns' p hp hs' hn => ?_⟩
          rw [sortI_eq hp hs']
          exact (mkL_at s h3 (rep_ints _) q).2 p hn
        · cases h3
      | dead => cases h
  | [.lst l], h =>
    obtain ⟨v, rfl, r1⟩ := reps1 r
    exact .inl (one (.lst l) v r1 rfl (by simp only [litems, Option.bind_some]; simpa [bltD] using h))
end Tt
end

section
/-! dict(..), isinstance, methods. -/
namespace Tt
open PySem PySem.Spec PyProof.Rows L2

/-! ### dict(pairs) -/
section
variable {X : Cx}
theorem merge_eq (kvs more : List (Key × V)) : L2.mergeK kvs more = more.foldl (fun acc kv => L2.putK acc kv.1 kv.2) kvs := rfl
/-- dict(t) of a tuple, known whole, of pairs -/
theorem call_dictT (hcalm : X.calm = true) : CallR X (.type "dict") (fun xs H Q => ∃ (a : Addr) (ps : List Addr) (kvs : List (Key × V)), xs = [.ref a] ∧ SqS X.K H a (ps.map V.ref) ∧ Paired (fun p kv => SqT X.K H p [kV kv.1, kv.2]) ps kvs ∧
    ∀ p, H p = none → Q (.ref p) (upd H p (.dK (L2.mergeK [] kvs)))) := by
  intro pins s σ H xs us Q I r q
  obtain ⟨a, ps, kvs, ex, hq, hp, q⟩ := q
  subst ex
  obtain ⟨u, eu, rx⟩ := vals1 r
  subst eu
  cases rx
  obtain ⟨its, rv, hseq, hz⟩ : ∃ its : List Value, Vals (ps.map V.ref) its ∧ PlainSeq "tuple" s.heap a its.toArray ∧ (ps.map V.ref).length ≤ sizeLine := by
    rcases hq with ⟨ob, h0, h⟩ | ⟨o, its, n, h1, h2, h0, h3, h4, h5⟩
    · obtain ⟨h1, hz, its, rv, o, h2, h3, n, h4⟩ := I.hok a _ h
      rw [h1] at h2; cases h2
      exact ⟨its, rv, ⟨ob, n, h1, h3, h0, h4⟩, hz⟩
    · refine ⟨its.toList, h5, ⟨o, n, I.kIn a o h1, h2, h0, by simpa using h3⟩, ?_⟩
      have e := h5.length
      simp only [Array.length_toList] at e
      omega
  have ei := refs_at rv
  subst ei
  rw [List.length_map] at hz
  obtain ⟨prs, rel, hl, hpr⟩ := pairs_of I hp
  -- the pairs as the library tells them
  have hk : ∀ j : Nat, j < ps.length → ∃ (b : Addr) (u : Value) (q : Key × Value), ps[j]? = some b ∧ prs[j]? = some q ∧ IsTup s.heap b #[u, q.2] ∧ keyIs q.1 u = true := fun j hj => by
    have hj' : j < prs.length := by omega
    obtain ⟨b, u, e1, e2, e3⟩ := hpr j prs[j] (List.getElem?_eq_getElem hj')
    exact ⟨b, u, prs[j], e1, List.getElem?_eq_getElem hj', e2, e3⟩
  let ks : Nat → Value := fun j => if h : j < ps.length then (hk j h).choose_spec.choose else .none
  let raw : List (Value × Value) := (List.range ps.length).map fun j => (ks j, (prs.getD j (.inl 0, .none)).2)
  have hraw : raw.length = ps.length := by simp [raw]
  have hj : ∀ (j : Nat) (k v : Value), raw[j]? = some (k, v) → ∃ b q, ps[j]? = some b ∧ prs[j]? = some q ∧ v = q.2 ∧ IsTup s.heap b #[k, v] ∧ keyIs q.1 k = true := by
    intro j k v e
    have hjl : j < ps.length := by
      have := (List.getElem?_eq_some_iff.mp e).1
      omega
    have hjp : j < prs.length := by omega
    simp only [raw, List.getElem?_map, List.getElem?_range hjl, Option.map_some, Option.some.injEq, Prod.mk.injEq] at e
    obtain ⟨e1, e2⟩ := e
    obtain ⟨q, hq1, hq2, hq3, hq4⟩ := (hk j hjl).choose_spec.choose_spec
    have e3 : ks j = (hk j hjl).choose_spec.choose := by simp only [ks, hjl, dif_pos]
    have e4 : (prs.getD j (.inl 0, .none)) = q := by rw [List.getD_eq_getElem?_getD, hq2]; rfl
    rw [e4] at e2
    subst e2
    rw [← e1, e3]
    exact ⟨_, q, hq1, hq2, rfl, hq3, hq4⟩
  refine call_dict_pairs (knd := mixKind X.prog X.w) (kvs := prs) (PairArg.tuple a (ps.map Value.ref).toArray (fun j => ps.getD j 0) raw) (I.ok.hd hcalm) ⟨hseq, ?_, fun j k v e => ?_⟩ ⟨by rw [hl, hraw], fun j k v e => ?_⟩ (by rw [hraw]; exact hz) fun h' tk hd' k => ?_
  · simp [hraw]
  · obtain ⟨b, q, e1, e2, e3, e4, e5⟩ := hj j k v e
    have e6 : ps.getD j 0 = b := by rw [List.getD_eq_getElem?_getD, e1]; rfl
    show (ps.map Value.ref).toArray[j]? = some (.ref (ps.getD j 0)) ∧ PairAt s.heap (ps.getD j 0) k v
    rw [e6]
    refine ⟨by simp [e1], ?_⟩
    obtain ⟨o, ho, hc, n, hd⟩ := e4
    exact .inl ⟨o, ho, hc, n, hd⟩
  · obtain ⟨b, q, e1, e2, e3, e4, e5⟩ := hj j k v e
    exact ⟨q.1, by rw [e2, e3], e5⟩
  · have hm : (s.heap.objs.size == sysModules) = false := beq_eq_false_iff_ne.mpr (Nat.ne_of_gt I.big)
    have hlen : (L2.mergeK [] kvs).length ≤ sizeLine := by
      refine Nat.le_trans (length_mergeK kvs []) ?_
      rw [List.length_nil, Nat.zero_add, rel.length, hl]
      exact hz
    exact ⟨.ref s.heap.objs.size, upd H s.heap.objs.size (.dK (L2.mergeK [] kvs)), I.laid (t' := tk) (fun b o e => k b o (by simp) e) (Nat.le_refl _) (show ObjOk X.prog X.w _ _ _ (.dK (L2.mergeK [] kvs)) from ⟨hlen, hm, merged [] prs, KV.merge rel .nil, hd'⟩), rfl, q _ (I.hok.fresh (Nat.le_refl _))⟩
end
section
variable {K : PySem.W.Frag} {ι : Ad} {H : Hp} {S : Sto}
theorem krep_any : ∀ {kvs : List (Key × D)} {ws : List (Key × V)} (k : Key), Krep K ι H kvs ws → (kvs.any fun kv => decide (kv.1 = k)) = (ws.any fun kv => decide (kv.1 = k))
  | [], ws, k, r => by simp only [Krep] at r; subst r; rfl
  | p :: kvs, ws, k, r => by
    simp only [Krep] at r
    obtain ⟨v, us, rfl, _, r2⟩ := r
    rw [List.any_cons, List.any_cons, krep_any k r2]
theorem krep_map : ∀ {kvs : List (Key × D)} {ws : List (Key × V)} (k : Key) {d : D} {v : V}, Krep K ι H kvs ws → Rep K ι H d v →
    Krep K ι H (kvs.map fun kv => if kv.1 = k then (kv.1, d) else kv) (ws.map fun kv => if kv.1 = k then (kv.1, v) else kv)
  | [], ws, k, d, v, r, rd => by simp only [Krep] at r; subst r; simp [Krep]
  | p :: kvs, ws, k, d, v, r, rd => by
    simp only [Krep] at r
    obtain ⟨w, us, rfl, r1, r2⟩ := r
    rw [List.map_cons, List.map_cons]
    by_cases e : p.1 = k
    · simp only [e, if_true, Krep]
      exact ⟨v, _, rfl, rd, krep_map k r2 rd⟩
    · simp only [e, if_false, Krep]
      exact ⟨w, _, rfl, r1, krep_map k r2 rd⟩
theorem krep_app : ∀ {kvs : List (Key × D)} {ws : List (Key × V)} (k : Key) {d : D} {v : V}, Krep K ι H kvs ws → Rep K ι H d v → Krep K ι H (kvs ++ [(k, d)]) (ws ++ [(k, v)])
  | [], ws, k, d, v, r, rd => by simp only [Krep] at r; subst r; simp only [Krep, List.nil_append]; exact ⟨v, [], rfl, rd, rfl⟩
  | p :: kvs, ws, k, d, v, r, rd => by
    simp only [Krep] at r
    obtain ⟨w, us, rfl, r1, r2⟩ := r
    rw [List.cons_append, List.cons_append]
    simp only [Krep]
    exact ⟨w, _, rfl, r1, krep_app k r2 rd⟩
theorem krep_put {kvs : List (Key × D)} {ws : List (Key × V)} (k : Key) {d : D} {v : V} (r : Krep K ι H kvs ws) (rd : Rep K ι H d v) : Krep K ι H (putK kvs k d) (L2.putK ws k v) := by
  unfold putK L2.putK
  rw [krep_any k r]
  split
  · exact krep_map k r rd
  · exact krep_app k r rd
theorem krep_merge : ∀ {more : List (Key × D)} {ms : List (Key × V)} {kvs : List (Key × D)} {ws : List (Key × V)}, Krep K ι H more ms → Krep K ι H kvs ws → Krep K ι H (mergeK kvs more) (L2.mergeK ws ms)
  | [], ms, kvs, ws, r, r0 => by simp only [Krep] at r; subst r; exact r0
  | p :: more, ms, kvs, ws, r, r0 => by
    simp only [Krep] at r
    obtain ⟨v, us, rfl, r1, r2⟩ := r
    show Krep K ι H (mergeK (putK kvs p.1 p.2) more) (L2.mergeK (L2.putK ws p.1 v) us)
    exact krep_merge r2 (krep_put p.1 r0 r1)
theorem kd_some {d : D} {k : Key} (h : kD d = some k) (v : V) (r : Rep K ι H d v) : v = kV k := kd_rep r h
theorem kpairs_rep : ∀ {l : List D} {kvs : List (Key × D)} {vs : List V}, kpairs l = some kvs → Reps K ι H l vs →
    ∃ (ps : List Addr) (ws : List (Key × V)), vs = ps.map V.ref ∧ Paired (fun p kv => SqT K H p [kV kv.1, kv.2]) ps ws ∧ Krep K ι H kvs ws
  | [], kvs, vs, h, r => by
    simp only [kpairs, Option.some.injEq] at h; subst h
    simp only [Reps] at r; subst r
    exact ⟨[], [], rfl, .nil, by simp [Krep]⟩
  | .tup [k, d] :: l, kvs, vs, h, r => by
    simp only [kpairs, Option.bind_eq_some_iff, Option.map_eq_some_iff] at h
    obtain ⟨k', hk, m, hm, rfl⟩ := h
    simp only [Reps] at r
    obtain ⟨v, us, rfl, r1, r2⟩ := r
    obtain ⟨a, ws, rfl, hs, rs⟩ := rep_tup.mp r1
    obtain ⟨x, y, rfl, rx, ry⟩ := reps2 rs
    obtain ⟨ps, ws', rfl, hp, hkr⟩ := kpairs_rep hm r2
    have := kd_rep rx hk
    subst this
    refine ⟨a :: ps, (k', y) :: ws', rfl, .cons hs.t hp, ?_⟩
    simp only [Krep]
    exact ⟨y, ws', rfl, ry, hkr⟩
  | .tup [] :: _, _, _, h, _ => by simp [kpairs] at h
  | .tup [_] :: _, _, _, h, _ => by simp [kpairs] at h
  | .tup (_ :: _ :: _ :: _) :: _, _, _, h, _ => by simp [kpairs] at h
  | .non :: _, _, _, h, _ => by simp [kpairs] at h
  | .bl _ :: _, _, _, h, _ => by simp [kpairs] at h
  | .int _ :: _, _, _, h, _ => by simp [kpairs] at h
  | .str _ :: _, _, _, h, _ => by simp [kpairs] at h
  | .lst _ :: _, _, _, h, _ => by simp [kpairs] at h
  | .ref _ :: _, _, _, h, _ => by simp [kpairs] at h
end
theorem blt_dict {X : Cx} {fz : Bool} (hc : X.calm = true) : ∃ r, CallR X (.type "dict") r ∧ BltOk X.K r (bltD fz .dict) := by
  refine ⟨_, (call_dictP hc).or (call_dictT hc), ?_⟩
  intro ι H S ds vs d S' Q s r h q
  match ds, h with
  | [x], h =>
    obtain ⟨v, rfl, r1⟩ := reps1 r
    have h' : ((items S x).bind fun l => (kpairs l).map fun kvs => (D.ref S.length, S ++ [.dic (mergeK [] kvs)])) = some (d, S') := by cases x <;> simpa [bltD] using h
    simp only [Option.bind_eq_some_iff, Option.map_eq_some_iff] at h'
    obtain ⟨l, h1, kvs, h2, h3⟩ := h'
    cases h3
    have done : ∀ {us : List V} {ws : List (Key × V)}, Krep X.K ι H kvs ws → ∀ p, H p = none → Q (.ref p) (upd H p (.dK (L2.mergeK [] ws))) := fun {us ws} hk p hp => by
      have hk' : Krep X.K (ι.push p) (upd H p (.dK (L2.mergeK [] ws))) (mergeK [] kvs) (L2.mergeK [] ws) := (krep_merge hk (by simp [Krep])).ext (Ext.push hp)
      refine q (ι.push p) _ _ (Ext.push hp) (s.push hp ⟨_, upd_same, hk'⟩) (rep_ref.mpr ⟨p, rfl, s.last p⟩)
    have lists : (∃ a us, v = .ref a ∧ H a = some (.lst us) ∧ Reps X.K ι H l us) → ∃ (a : Addr) (ps : List Addr) (kvs : List (Key × V)), [v] = [.ref a] ∧ SqL X.K H a (ps.map V.ref) ∧ Paired (fun p kv => SqT X.K H p [kV kv.1, kv.2]) ps kvs ∧
        ∀ p, H p = none → Q (.ref p) (upd H p (.dK (L2.mergeK [] kvs))) := by
      rintro ⟨a, us, rfl, hs, ru⟩
      obtain ⟨ps, ws, rfl, hp, hk⟩ := kpairs_rep h2 ru
      exact ⟨a, ps, ws, rfl, SqL.of hs, hp, done (us := []) hk⟩
    cases x with
    | tup m =>
      simp only [items, Option.some.injEq] at h1
      subst h1
      obtain ⟨a, us, rfl, hs, ru⟩ := rep_tup.mp r1
      obtain ⟨ps, ws, rfl, hp, hk⟩ := kpairs_rep h2 ru
      exact .inr ⟨a, ps, ws, rfl, hs, hp, done (us := []) hk⟩
    | fzl m =>
      simp only [items, Option.some.injEq] at h1
      subst h1
      obtain ⟨a, us, rfl, hs, ru⟩ := rep_fzl.mp r1
      obtain ⟨ps, ws, rfl, hp, hk⟩ := kpairs_rep h2 ru
      exact .inl ⟨a, ps, ws, rfl, hs.l, hp, done (us := []) hk⟩
    | lst m => exact .inl (lists (litems_at s r1 h1))
    | ref n => exact .inl (lists (litems_at s r1 h1))
    | _ => simp [items] at h1
  | [], h => simp [bltD] at h
  | _ :: _ :: _, h => simp [bltD] at h
/-- a built-in by its name -/
def bltN : Blt → Str
  | .len => "len" | .abs => "abs" | .int => "int" | .sorted => "sorted" | .list => "list" | .tuple => "tuple" | .dict => "dict" | .all => "all" | .any => "any" | .sum => "sum" | .str => "str" | .min => "min" | .max => "max"
theorem blt_ok {X : Cx} (hc : X.calm = true) {fz : Bool} (b : Blt) (hb : (b == .min || b == .max) = false) :
    ∃ u r, bootBuiltins (bltN b) = some u ∧ (∃ id, u = .builtin id ∨ u = .type id) ∧ CallR X u r ∧ BltOk X.K r (bltD fz b) := by
  cases b with
  | len => obtain ⟨r, h1, h2⟩ := blt_len (X := X) (fz := fz); exact ⟨_, r, by decide +kernel, ⟨_, .inl rfl⟩, h1, h2⟩
  | abs => obtain ⟨r, h1, h2⟩ := blt_abs (X := X) (fz := fz); exact ⟨_, r, by decide +kernel, ⟨_, .inl rfl⟩, h1, h2⟩
  | int => obtain ⟨r, h1, h2⟩ := blt_int (X := X) (fz := fz); exact ⟨_, r, by decide +kernel, ⟨_, .inr rfl⟩, h1, h2⟩
  | sorted => obtain ⟨r, h1, h2⟩ := blt_sorted (X := X) (fz := fz) hc; exact ⟨_, r, by decide +kernel, ⟨_, .inl rfl⟩, h1, h2⟩
  | list => obtain ⟨r, h1, h2⟩ := blt_list (X := X) hc (fz := fz); exact ⟨_, r, by decide +kernel, ⟨_, .inr rfl⟩, h1, h2⟩
  | tuple => obtain ⟨r, h1, h2⟩ := blt_tuple (X := X) (fz := fz); exact ⟨_, r, by decide +kernel, ⟨_, .inr rfl⟩, h1, h2⟩
  | dict => obtain ⟨r, h1, h2⟩ := blt_dict (X := X) (fz := fz) hc; exact ⟨_, r, by decide +kernel, ⟨_, .inr rfl⟩, h1, h2⟩
  | all => obtain ⟨r, h1, h2⟩ := blt_all (X := X) (fz := fz) hc; exact ⟨_, r, by decide +kernel, ⟨_, .inl rfl⟩, h1, h2⟩
  | any => obtain ⟨r, h1, h2⟩ := blt_any (X := X) (fz := fz) hc; exact ⟨_, r, by decide +kernel, ⟨_, .inl rfl⟩, h1, h2⟩
  | sum => obtain ⟨r, h1, h2⟩ := blt_sum (X := X) (fz := fz) hc; exact ⟨_, r, by decide +kernel, ⟨_, .inl rfl⟩, h1, h2⟩
  | str => obtain ⟨r, h1, h2⟩ := blt_str (X := X) (fz := fz); exact ⟨_, r, by decide +kernel, ⟨_, .inr rfl⟩, h1, h2⟩
  | min => cases hb
  | max => cases hb

/-! ### isinstance -/
def tyN : Ty → String
  | .int => "int" | .bool => "bool" | .str => "str" | .tuple => "tuple" | .list => "list" | .dict => "dict"
theorem isi_use {X : Cx} {ι : Ad} {H : Hp} {S : Sto} {a : D} {x : V} {t : Ty} {c : Bool} {Q : VK} (s : Sat X.K ι H S) (r : Rep X.K ι H a x) (h : isiD S t a = some c) (q : Q (.bl c) H) : rIsi X.K [x, .ty (tyN t)] H Q := by
  have fin : ∀ (n : String), TyX X.K H x (.type n) → kitB n (tyN t) = some c → rIsi X.K [x, .ty (tyN t)] H Q := fun n ty k => ⟨x, _, _, _, c, rfl, .ty _, ty, kit_ty k, q⟩
  cases a with
  | non =>
    simp only [isiD, Option.some.injEq] at h; subst h
    rw [rep_non] at r; subst r
    exact fin "NoneType" (.base .non) (by cases t <;> decide +kernel)
  | bl b =>
    simp only [isiD, Option.some.injEq] at h; subst h
    rw [rep_bl] at r; subst r
    exact fin "bool" (.base (.bl _)) (by cases t <;> decide +kernel)
  | int b =>
    simp only [isiD, Option.some.injEq] at h; subst h
    rw [rep_int] at r; subst r
    exact fin "int" (.base (.int _)) (by cases t <;> decide +kernel)
  | str b =>
    simp only [isiD, Option.some.injEq] at h; subst h
    rw [rep_str] at r; subst r
    exact fin "str" (.base (.str _)) (by cases t <;> decide +kernel)
  | tup l =>
    simp only [isiD, Option.some.injEq] at h; subst h
    obtain ⟨p, vs, rfl, hs, _⟩ := rep_tup.mp r
    refine fin "tuple" ?_ (by cases t <;> decide +kernel)
    rcases hs with ⟨ob, _, hs⟩ | ⟨o, its, n, h1, h2, _⟩
    · exact .fTuple hs
    · exact .kTuple h1 h2
  | lst l =>
    simp only [isiD, Option.some.injEq] at h; subst h
    obtain ⟨p, vs, rfl, hs, _⟩ := rep_lst.mp r
    exact fin "list" (.base (.lst hs)) (by cases t <;> decide +kernel)
  | fzl l => simp [isiD] at h
  | ref n =>
    simp only [isiD] at h
    cases e : S[n]? with
    | none => rw [e] at h; cases h
    | some o =>
      rw [e] at h
      cases o with
      | lst l =>
        simp only [Option.some.injEq] at h; subst h
        obtain ⟨p, rfl, ha⟩ := rep_ref.mp r
        obtain ⟨vs, g, _⟩ := s.at_ n _ p e ha
        exact fin "list" (.base (.lst g)) (by cases t <;> decide +kernel)
      | dic kvs =>
        simp only [Option.some.injEq] at h; subst h
        obtain ⟨p, ws, rfl, _, g, _⟩ := dic_at s r e
        exact fin "dict" (.base (.dK g)) (by cases t <;> decide +kernel)
      | dead => cases h
end Tt
end

section
/-! Methods. -/
namespace Tt
open PySem PySem.Spec PyProof.Rows L2

/-- a method's rule serves it over data -/
def MthOk (K : PySem.W.Frag) (T : String) (r : V → List V → Hp → VK → Prop) (f : D → List D → Sto → Option (D × Sto)) : Prop :=
  ∀ ι H S o ds x vs d S' (Q : VK), Sat K ι H S → Rep K ι H o x → Reps K ι H ds vs → f o ds S = some (d, S') →
    (∀ ι' H' v, Ext K ι H ι' H' → Sat K ι' H' S' → Rep K ι' H' d v → Q v H') → r x vs H Q
/-- a list of the store -/
theorem lst_at {K : PySem.W.Frag} {ι : Ad} {H : Hp} {S : Sto} (s : Sat K ι H S) {n : Nat} {v : V} {l : List D} (r : Rep K ι H (.ref n) v) (h : S[n]? = some (.lst l)) : ∃ a vs, v = .ref a ∧ ι.r[n]? = some a ∧ H a = some (.lst vs) ∧ Reps K ι H l vs := by
  obtain ⟨a, e, ha⟩ := rep_ref.mp r
  obtain ⟨vs, h1, h2⟩ := s.at_ n _ a h ha
  exact ⟨a, vs, e, ha, h1, h2⟩
theorem write_lst {K : PySem.W.Frag} {ι : Ad} {H : Hp} {S : Sto} (s : Sat K ι H S) {n : Nat} {a : Addr} {l : List D} {vs ws : List V} (ha : ι.r[n]? = some a) (hH : H a = some (.lst vs)) (r : Reps K ι H l ws) :
    Ext K ι H ι (upd H a (.lst ws)) ∧ Sat K ι (upd H a (.lst ws)) (S.set n (.lst l)) := by
  have hm : Mut (H a) := by rw [hH]; trivial
  have x : Ext K ι H ι (upd H a (.lst ws)) := Ext.write (List.mem_of_getElem? ha) hm
  exact ⟨x, s.write ha hm ⟨ws, upd_same, r.ext x⟩⟩
theorem mth_append {X : Cx} : MthOk X.K "list" rAppend (mthD .append) := by
  intro ι H S o ds x vs d S' Q s r rs h q
  match o, ds, h with
  | .ref n, [y], h =>
    obtain ⟨v, rfl, r1⟩ := reps1 rs
    simp only [mthD] at h
    cases e : S[n]? with
    | none => rw [e] at h; cases h
    | some ob =>
      rw [e] at h
      cases ob with
      | lst l =>
        simp only at h
        split at h
        · cases h
          obtain ⟨a, us, rfl, ha, g, ru⟩ := lst_at s r e
          obtain ⟨x', s'⟩ := write_lst s ha g (ru.append (.cons r1 .nil))
          exact ⟨a, us, v, rfl, rfl, g, by rw [ru.length]; assumption, q ι _ _ x' s' (rep_non.mpr rfl)⟩
        · cases h
      | _ => cases h
theorem mth_pop {X : Cx} : MthOk X.K "list" (fun x xs H Q => rPop x xs H Q ∨ rPopAt x xs H Q) (mthD .pop) := by
  intro ι H S o ds x vs d S' Q s r rs h q
  match o, ds, h with
  | .ref n, [], h =>
    simp only [Reps] at rs; subst rs
    simp only [mthD] at h
    cases e : S[n]? with
    | none => rw [e] at h; cases h
    | some ob =>
      rw [e] at h
      cases ob with
      | lst l =>
        simp only at h
        cases e2 : l[l.length - 1]? with
        | none => rw [e2] at h; cases h
        | some y =>
          rw [e2] at h
          cases h
          obtain ⟨a, us, rfl, ha, g, ru⟩ := lst_at s r e
          obtain ⟨w, hw, rw'⟩ := ru.get e2
          obtain ⟨x', s'⟩ := write_lst s ha g ru.dropLast
          exact .inl ⟨a, us, w, rfl, rfl, g, by rw [ru.length]; exact hw, q ι _ _ x' s' (rw'.ext x')⟩
      | _ => cases h
  | .ref n, [.int i], h =>
    obtain ⟨v, rfl, r1⟩ := reps1 rs
    rw [rep_int] at r1; subst r1
    simp only [mthD] at h
    cases e : S[n]? with
    | none => rw [e] at h; cases h
    | some ob =>
      rw [e] at h
      cases ob with
      | lst l =>
        simp only at h
        split at h
        · rename_i hi
          cases e2 : l[i.toNat]? with
          | none => rw [e2] at h; cases h
          | some y =>
            rw [e2] at h
            cases h
            obtain ⟨a, us, rfl, ha, g, ru⟩ := lst_at s r e
            obtain ⟨w, hw, rw'⟩ := ru.get e2
            obtain ⟨x', s'⟩ := write_lst s ha g (ru.eraseIdx i.toNat)
            have hl := (List.getElem?_eq_some_iff.mp hw).1
            exact .inr ⟨a, us, i, i.toNat, w, rfl, rfl, g, by omega, hi.2, seqIndex_of hi.1 (by omega), hw, q ι _ _ x' s' (rw'.ext x')⟩
        · cases h
      | _ => cases h
theorem mth_extend {X : Cx} : MthOk X.K "list" rExtend (mthD .extend) := by
  intro ι H S o ds x vs d S' Q s r rs h q
  match o, ds, h with
  | .ref n, [y], h =>
    obtain ⟨v, rfl, r1⟩ := reps1 rs
    simp only [mthD] at h
    cases e : S[n]? with
    | none => rw [e] at h; cases h
    | some ob =>
      rw [e] at h
      cases ob with
      | lst l =>
        simp only [Option.bind_eq_some_iff] at h
        obtain ⟨m, hm, h⟩ := h
        split at h
        · cases h
          obtain ⟨a, us, rfl, ha, g, ru⟩ := lst_at s r e
          obtain ⟨b, ws, rfl, gb, rw'⟩ := litems_at s r1 hm
          obtain ⟨x', s'⟩ := write_lst s ha g (ru.append rw')
          exact ⟨a, b, us, ws, rfl, rfl, g, gb, by rw [ru.length, rw'.length]; assumption, q ι _ _ x' s' (rep_non.mpr rfl)⟩
        · cases h
      | _ => cases h
theorem mth_endswith {X : Cx} : MthOk X.K "str" (fun x xs H Q => ∃ a b, x = .str a ∧ xs = [.str b] ∧ Q (.bl (Txt.endswith a b)) H) (mthD .endswith) := by
  intro ι H S o ds x vs d S' Q s r rs h q
  match o, ds, h with
  | .str a, [.str b], h =>
    obtain ⟨v, rfl, r1⟩ := reps1 rs
    rw [rep_str] at r1 r; subst r1 r
    simp only [mthD, Option.some.injEq, Prod.mk.injEq] at h
    obtain ⟨rfl, rfl⟩ := h
    exact ⟨a, b, rfl, rfl, q ι H _ .refl s (rep_bl.mpr rfl)⟩
/-- xs.count(x) of flat things -/
def rCntF (K : PySem.W.Frag) : V → List V → Hp → VK → Prop := fun x xs H Q => ∃ (p : Addr) (ys : List V) (k : V), x = .ref p ∧ xs = [k] ∧ SqL K H p ys ∧ flatV k = true ∧ ys.all flatV = true ∧ Q (.int ((ys.countP fun y => eqV y k : Nat))) H
theorem cnt_eqU {x : V} : ∀ {xs : List V} {us : List Value}, Vals xs us → xs.all flatV = true → us.countP (eqU x) = xs.countP fun y => eqV y x
  | _, _, .nil, _ => rfl
  | y :: xs, u :: us, .cons r t, f => by
    rw [List.all_cons, Bool.and_eq_true] at f
    rw [List.countP_cons, List.countP_cons, eqU_of r f.1, cnt_eqU t f.2]
theorem mt_countF {X : Cx} : MtR X "list.count" (rCntF X.K) := by
  intro pins s σ H x xs v us Q I rx rxs h
  obtain ⟨p, ys, k, rfl, rfl, hs, fk, fy, q⟩ := h
  cases rx
  obtain ⟨u, rfl, ru⟩ := rxs.one
  obtain ⟨its, rv, ⟨⟨cls, dd, data, sl⟩, n, ho, hc, hdn, hd⟩, hlen⟩ := I.list hs
  simp only at hc hd
  subst hc hd
  refine call_meets PySem.F.slot_list_count ⟨_, ho, rfl⟩ PySem.F.entry_list_count (PySem.F.args_list_count_2 _ _)
    (SeqAt.list_countAt p its.toArray n dd sl u (eqU k)) ⟨ho, fun y hy => mem_eqAt ru fk rv fy y (by simpa using hy), ?_⟩
  have ec : its.toArray.toList.countP (eqU k) = ys.countP fun y => eqV y k := cnt_eqU rv fy
  refine ⟨.int ((ys.countP fun y => eqV y k : Nat)), H, I.tok _, ⟨s.toks, ?_⟩, q⟩
  show Value.int ((its.toArray.toList.countP (eqU k) : Nat) : Int) s.toks = _
  rw [ec]
theorem mth_count {X : Cx} : MthOk X.K "list" (rCntF X.K) (mthD .count) := by
  intro ι H S o ds x vs d S' Q s r rs h q
  match o, ds, h with
  | o, [y], h =>
    obtain ⟨v, rfl, r1⟩ := reps1 rs
    have h' : ((litems S o).bind fun l => if (flatD y && l.all flatD) = true then some (D.int (((l.map toV).countP fun z => eqV z (toV y) : Nat)), S) else none) = some (d, S') := by cases o <;> simpa [mthD] using h
    rw [Option.bind_eq_some_iff] at h'
    obtain ⟨l, h1, h2⟩ := h'
    split at h2
    · rename_i f
      rw [Bool.and_eq_true] at f
      cases h2
      obtain ⟨a, us, rfl, g, ru⟩ := litems_at s r h1
      obtain ⟨e1, f1⟩ := flat_rep f.1 r1
      obtain ⟨e2, f2⟩ := flat_reps f.2 ru
      exact ⟨a, us, v, rfl, rfl, SqL.of g, f1, f2, by rw [e1, e2]; exact q ι H _ .refl s (rep_int.mpr rfl)⟩
    · cases h2
  | o, [], h => cases o <;> simp [mthD] at h
  | o, _ :: _ :: _, h => cases o <;> simp [mthD] at h
theorem mth_split {X : Cx} : ∃ r, MtR X "str.split" r ∧ MthOk X.K "str" r (mthD .split) := by
  refine ⟨_, mt_split, ?_⟩
  intro ι H S o ds x vs d S' Q s r rs h q
  match o, ds, h with
  | .str a, [.str b], h =>
    obtain ⟨v, rfl, r1⟩ := reps1 rs
    rw [rep_str] at r1 r; subst r1 r
    simp only [mthD] at h
    split at h
    · rename_i hz
      cases h
      refine ⟨a, b, rfl, rfl, hz.1, hz.2, fun p hp => q ι _ _ (Ext.new hp) (s.new hp) (rep_lst.mpr ⟨p, _, rfl, upd_same, s.notIn hp, ?_⟩)⟩
      have : ∀ l : List Str, Reps X.K ι (upd H p (.lst ((Txt.split a b).map V.str))) (l.map D.str) (l.map V.str) := by
        intro l
        induction l with
        | nil => exact .nil
        | cons y l ih => exact .cons (rep_str.mpr rfl) ih
      exact this _
    · cases h
theorem strs_rep {K : PySem.W.Frag} {ι : Ad} {H : Hp} : ∀ {l : List D} {vs : List V} {ys : List Str}, strsD l = some ys → Reps K ι H l vs → vs = ys.map V.str
  | [], vs, ys, h, r => by simp only [strsD, Option.some.injEq] at h; subst h; simp only [Reps] at r; subst r; rfl
  | d :: l, vs, ys, h, r => by
    cases d <;> first | (simp [strsD] at h; done) | skip
    simp only [strsD, Option.map_eq_some_iff] at h
    obtain ⟨zs, h1, rfl⟩ := h
    simp only [Reps] at r
    obtain ⟨v, ws, rfl, r1, r2⟩ := r
    rw [rep_str] at r1; subst r1
    rw [strs_rep h1 r2, List.map_cons]
theorem mth_join {X : Cx} : ∃ r, MtR X "str.join" r ∧ MthOk X.K "str" r (mthD .join) := by
  refine ⟨_, mt_join, ?_⟩
  intro ι H S o ds x vs d S' Q s r rs h q
  match o, ds, h with
  | .str a, [y], h =>
    obtain ⟨v, rfl, r1⟩ := reps1 rs
    rw [rep_str] at r; subst r
    simp only [mthD, Option.bind_eq_some_iff] at h
    obtain ⟨l, h1, ys, h2, h3⟩ := h
    split at h3
    · cases h3
      obtain ⟨p, us, rfl, g, ru⟩ := litems_at s r1 h1
      have := strs_rep h2 ru
      subst this
      exact ⟨a, p, ys, rfl, rfl, .inl (SqL.of g), by assumption, q ι H _ .refl s (rep_str.mpr rfl)⟩
    · cases h3
theorem mth_upper {X : Cx} : ∃ r, MtR X "str.upper" r ∧ MthOk X.K "str" r (mthD .upper) := by
  refine ⟨_, mt_upper, ?_⟩
  intro ι H S o ds x vs d S' Q s r rs h q
  match o, ds, h with
  | .str a, [], h =>
    simp only [Reps] at rs; subst rs
    rw [rep_str] at r; subst r
    simp only [mthD] at h
    split at h
    · cases h
      exact ⟨a, rfl, rfl, by assumption, q ι H _ .refl s (rep_str.mpr rfl)⟩
    · cases h
def mthN : Mth → Str
  | .append => "append" | .pop => "pop" | .extend => "extend" | .endswith => "endswith" | .count => "count" | .split => "split" | .join => "join" | .upper => "upper"
def mthT : Mth → String
  | .endswith => "str" | .split => "str" | .join => "str" | .upper => "str" | _ => "list"
structure MthAt (X : Cx) (m : Mth) : Prop where
  ex : ∃ id r, PlainAttrs (mthT m) ∧ Slot (mthT m) (mthN m) id ∧ typeOf (.builtin id) = pure (.type "method_descriptor") ∧ MtR X id r ∧ MthOk X.K (mthT m) r (mthD m)
theorem mth_ok {X : Cx} (m : Mth) : MthAt X m := by
  cases m with
  | append => exact ⟨_, _, PySem.F.plainAttrs_list, PySem.F.slot_list_append, PySem.F.type_list_append, mt_append, mth_append⟩
  | pop => exact ⟨_, _, PySem.F.plainAttrs_list, PySem.F.slot_list_pop, PySem.F.type_list_pop, MtR.or mt_pop mt_popAt, mth_pop⟩
  | extend => exact ⟨_, _, PySem.F.plainAttrs_list, PySem.F.slot_list_extend, PySem.F.type_list_extend, mt_extend, mth_extend⟩
  | endswith => exact ⟨_, _, PySem.F.plainAttrs_str, PySem.F.slot_str_endswith, PySem.F.type_str_endswith, mt_endswith, mth_endswith⟩
  | count => exact ⟨_, _, PySem.F.plainAttrs_list, PySem.F.slot_list_count, PySem.F.type_list_count, mt_countF, mth_count⟩
  | split => obtain ⟨r, h1, h2⟩ := mth_split (X := X); exact ⟨_, r, PySem.F.plainAttrs_str, PySem.F.slot_str_split, PySem.F.type_str_split, h1, h2⟩
  | join => obtain ⟨r, h1, h2⟩ := mth_join (X := X); exact ⟨_, r, PySem.F.plainAttrs_str, PySem.F.slot_str_join, PySem.F.type_str_join, h1, h2⟩
  | upper => obtain ⟨r, h1, h2⟩ := mth_upper (X := X); exact ⟨_, r, PySem.F.plainAttrs_str, PySem.F.slot_str_upper, PySem.F.type_str_upper, h1, h2⟩
/-- the receiver is of the method's type -/
theorem mth_ty {K : PySem.W.Frag} {ι : Ad} {H : Hp} {S : Sto} {m : Mth} {o : D} {x : V} (s : Sat K ι H S) (r : Rep K ι H o x) (h : mthChk m o S = true) : tyV K (mthT m) x H := by
  have lists : (litems S o).isSome = true → mthT m = "list" → tyV K (mthT m) x H := by
    intro hl e
    obtain ⟨l, hl⟩ := Option.isSome_iff_exists.mp hl
    rw [e]
    obtain ⟨a, vs, rfl, g, _⟩ := litems_at s r hl
    exact .inl ⟨rfl, vs, SqL.of g⟩
  cases m with
  | endswith =>
    cases o <;> first
      | (simp [mthChk] at h; done)
      | (rw [rep_str] at r; subst r; rfl)
  | split =>
    cases o <;> first
      | (simp [mthChk] at h; done)
      | (rw [rep_str] at r; subst r; rfl)
  | join =>
    cases o <;> first
      | (simp [mthChk] at h; done)
      | (rw [rep_str] at r; subst r; rfl)
  | upper =>
    cases o <;> first
      | (simp [mthChk] at h; done)
      | (rw [rep_str] at r; subst r; rfl)
  | append => exact lists (by cases o <;> simpa [mthChk] using h) rfl
  | pop => exact lists (by cases o <;> simpa [mthChk] using h) rfl
  | extend => exact lists (by cases o <;> simpa [mthChk] using h) rfl
  | count => exact lists (by cases o <;> simpa [mthChk] using h) rfl
end Tt
end

section
/-! Each form by its parts. -/
namespace Tt
open PySem PySem.Spec PyProof.Rows L2

section
variable {X : Cx} {K : PySem.W.Frag} {e a b c : Expr} {pos : Pos} {m ma mb mc : En → Sto → Option (D × Sto)}
/-- from an evaluation to what is behind it -/
theorem sE_mk {σ : L2.St} {H : Hp} {Q : VK} {ι : Ad} {env : En} {S : Sto} {d : D} {S' : Sto} (s : Sat K ι H S) (e : Eat K ι H env σ) (h : m env S = some (d, S'))
    (q : ∀ ι' H' v, Ext K ι H ι' H' → Sat K ι' H' S' → Rep K ι' H' d v → Q v H') : sE K m σ H Q := ⟨ι, env, S, d, S', s, e, h, q⟩
theorem n_var {i : Nat} {x : Str} (hN : X.N[i]? = some x) (hv : Vis X.env.scope x) (hd : (x == ("__debug__" : Str)) = false) (hcd : (x == ("__classdict__" : Str)) = false) :
    PE X (.Name x pos) (sE X.K fun env S => match env[i]? with | some (some x) => some (x, S) | _ => none) := by
  refine PE.imp (pe_var hN hv hd hcd) ?_
  rintro σ H Q ⟨ι, env, S, d, S', s, e, h, q⟩
  dsimp only at h
  cases h1 : env[i]? with
  | none => rw [h1] at h; cases h
  | some o =>
    rw [h1] at h
    cases o with
    | none => cases h
    | some y =>
      cases h
      obtain ⟨v, h2, r⟩ := e.at_ i d h1
      exact ⟨v, h2, q ι H v .refl s r⟩
theorem n_const {d : D} {v : V} (h : PE X e (tC v)) (r : ∀ ι H, Rep X.K ι H d v) : PE X e (sE X.K fun _ S => some (d, S)) := by
  refine PE.imp h ?_
  rintro σ H Q ⟨ι, env, S, d', S', s, e, h, q⟩
  cases h
  exact q ι H v .refl s (r ι H)
theorem n_bin {op : Operator} {r : R2} {f : D → D → Sto → Option (D × Sto)} (ho : OpR X (binaryOp op) r) (hd : OpD X.K r f) (ha : PE X a (sE X.K ma)) (hb : PE X b (sE X.K mb)) :
    PE X (.BinOp a op b pos) (sE X.K fun env S => (ma env S).bind fun p => (mb env p.2).bind fun q => f p.1 q.1 q.2) :=
  PE.imp (pe_op ho ha hb) fun _ _ _ h => op_use hd h
theorem n_neg (ha : PE X a (sE X.K ma)) : PE X (.UnaryOp .USub a pos) (sE X.K fun env S => (ma env S).bind fun p => match p.1 with | .int i => some (.int (-i), p.2) | _ => none) := by
  refine PE.imp (pe_un un_neg ha) ?_
  rintro σ H Q ⟨ι, env, S, d, S', s, e, h, q⟩
  rw [Option.bind_eq_some_iff] at h
  obtain ⟨⟨x, S1⟩, h1, h2⟩ := h
  cases x <;> first
    | (simp at h2; done)
    | skip
  cases h2
  refine sE_mk s e h1 fun ι1 H1 v x1 s1 r1 => ?_
  rw [rep_int] at r1; subst r1
  exact ⟨_, rfl, q ι1 H1 _ x1 s1 (rep_int.mpr rfl)⟩
/-- a comparison -/
theorem cmp_use {op : Cop} {r : R2} (o : CmpOk K r op) {σ : L2.St} {H : Hp} {Q : VK}
    (h : sT K (fun env S => (ma env S).bind fun p => (mb env p.2).bind fun q => (cmpD op p.1 q.1 q.2).map fun r => (r, q.2)) σ H (fun k H' => Q (.bl k) H')) : tOp r (sE K ma) (sE K mb) σ H Q := by
  obtain ⟨ι, env, S, d, S', hs, he, hm, q⟩ := h
  simp only [Option.bind_eq_some_iff, Option.map_eq_some_iff] at hm
  obtain ⟨⟨a, S1⟩, h1, ⟨b, S2⟩, h2, c, h3, h4⟩ := hm
  cases h4
  refine sE_mk hs he h1 fun ι1 H1 x x1 s1 r1 => ?_
  refine sE_mk s1 (he.ext x1) h2 fun ι2 H2 y x2 s2 r2 => ?_
  exact o ι2 H2 _ a b x y _ _ s2 (r1.ext x2) r2 h3 (q ι2 H2 (x1.trans x2) s2)
/-- a test's evaluation as a value's -/
theorem sE_of_sT {t : En → Sto → Option (Bool × Sto)} {σ : L2.St} {H : Hp} {Q : VK} (h : sE K (fun env S => (t env S).map fun p => (.bl p.1, p.2)) σ H Q) : sT K t σ H fun k H' => Q (.bl k) H' := by
  obtain ⟨ι, env, S, d, S', s, e, h, q⟩ := h
  rw [Option.map_eq_some_iff] at h
  obtain ⟨⟨c, S1⟩, h1, h2⟩ := h
  cases h2
  exact ⟨ι, env, S, c, _, s, e, h1, fun ι' H' x' s' => q ι' H' _ x' s' (rep_bl.mpr rfl)⟩
theorem sT_imp {t : En → Sto → Option (Bool × Sto)} {σ : L2.St} {H : Hp} {Q Q' : Bool → Hp → Prop} (h : sT K t σ H Q) (w : ∀ k H', Q k H' → Q' k H') : sT K t σ H Q' := by
  obtain ⟨ι, env, S, d, S', s, e, h, q⟩ := h
  exact ⟨ι, env, S, d, S', s, e, h, fun ι' H' x' s' => w _ _ (q ι' H' x' s')⟩
theorem n_cmp {op : Cop} (hu : X.A.units + 65 < cLine) (ha : PE X a (sE X.K ma)) (hb : PE X b (sE X.K mb)) (hm : behindInMarks (copOf op) b = false) :
    PE X (.Compare a [copOf op] [b] pos) (sE X.K fun env S => ((ma env S).bind fun p => (mb env p.2).bind fun q => (cmpD op p.1 q.1 q.2).map fun r => (r, q.2)).map fun p => (.bl p.1, p.2)) := by
  obtain ⟨r, ho, hd⟩ := cmp_all hu op
  exact PE.imp (pe_cmpR ho ha hb hm) fun σ H Q h => cmp_use hd (sE_of_sT h)
theorem t_cmp {op : Cop} (hu : X.A.units + 65 < cLine) (ha : PE X a (sE X.K ma)) (hb : PE X b (sE X.K mb)) (hm : behindInMarks (copOf op) b = false) :
    PT X (.Compare a [copOf op] [b] pos) (sT X.K fun env S => (ma env S).bind fun p => (mb env p.2).bind fun q => (cmpD op p.1 q.1 q.2).map fun r => (r, q.2)) := by
  obtain ⟨r, ho, hd⟩ := cmp_all hu op
  exact PT.imp (pt_cmpR ho ha hb hm) fun σ H Q h => cmp_use hd (sT_imp h fun k H' q => ⟨k, rfl, q⟩)
theorem chain_use {op op' : Cop} {r r' : R2} (o : CmpOk K r op) (o' : CmpOk K r' op') {σ : L2.St} {H : Hp} {Q : VK}
    (h : sT K (fun env S => (ma env S).bind fun p => (mb env p.2).bind fun q => (cmpD op p.1 q.1 q.2).bind fun r =>
      if r = true then (mc env q.2).bind fun u => (cmpD op' q.1 u.1 u.2).map fun r' => (r', u.2) else some (false, q.2)) σ H (fun k H' => Q (.bl k) H')) : tChain r r' (sE K ma) (sE K mb) (sE K mc) σ H Q := by
  obtain ⟨ι, env, S, d, S', hs, he, hm, q⟩ := h
  simp only [Option.bind_eq_some_iff] at hm
  obtain ⟨⟨a, S1⟩, h1, ⟨b, S2⟩, h2, c, h3, h4⟩ := hm
  refine sE_mk hs he h1 fun ι1 H1 x x1 s1 r1 => ?_
  refine sE_mk s1 (he.ext x1) h2 fun ι2 H2 y x2 s2 r2 => ?_
  refine o ι2 H2 S2 a b x y c _ s2 (r1.ext x2) r2 h3 ⟨c, rfl, ?_⟩
  cases c with
  | false =>
    rw [if_neg Bool.false_ne_true] at h4 ⊢
    cases h4
    exact q ι2 H2 (x1.trans x2) s2
  | true =>
    rw [if_pos rfl] at h4 ⊢
    simp only [Option.bind_eq_some_iff, Option.map_eq_some_iff] at h4
    obtain ⟨⟨u, S3⟩, h5, c', h6, h7⟩ := h4
    cases h7
    refine sE_mk s2 ((he.ext x1).ext x2) h5 fun ι3 H3 z x3 s3 r3 => ?_
    exact o' ι3 H3 _ b u y z _ _ s3 (r2.ext x3) r3 h6 (q ι3 H3 ((x1.trans x2).trans x3) s3)
theorem n_chain {op op' : Cop} (hu : X.A.units + 65 < cLine) (ha : PE X a (sE X.K ma)) (hb : PE X b (sE X.K mb)) (hc : PE X c (sE X.K mc)) (hm : behindInMarks (copOf op') c = false) :
    PE X (.Compare a [copOf op, copOf op'] [b, c] pos) (sE X.K fun env S => ((ma env S).bind fun p => (mb env p.2).bind fun q => (cmpD op p.1 q.1 q.2).bind fun r =>
      if r = true then (mc env q.2).bind fun u => (cmpD op' q.1 u.1 u.2).map fun r' => (r', u.2) else some (false, q.2)).map fun p => (.bl p.1, p.2)) := by
  obtain ⟨r, ho, hd⟩ := cmp_all hu op
  obtain ⟨r', ho', hd'⟩ := cmp_all hu op'
  exact PE.imp (pe_chain ho ho' ha hb hc hm) fun σ H Q h => chain_use hd hd' (sE_of_sT h)
theorem t_chain {op op' : Cop} (hu : X.A.units + 65 < cLine) (ha : PE X a (sE X.K ma)) (hb : PE X b (sE X.K mb)) (hc : PE X c (sE X.K mc)) (hm : behindInMarks (copOf op') c = false) :
    PT X (.Compare a [copOf op, copOf op'] [b, c] pos) (sT X.K fun env S => (ma env S).bind fun p => (mb env p.2).bind fun q => (cmpD op p.1 q.1 q.2).bind fun r =>
      if r = true then (mc env q.2).bind fun u => (cmpD op' q.1 u.1 u.2).map fun r' => (r', u.2) else some (false, q.2)) := by
  obtain ⟨r, ho, hd⟩ := cmp_all hu op
  obtain ⟨r', ho', hd'⟩ := cmp_all hu op'
  exact PT.imp (pt_chain ho ho' ha hb hc hm) fun σ H Q h => chain_use hd hd' (sT_imp h fun k H' q => ⟨k, rfl, q⟩)
end
end Tt
end

section
/-! Displays, and, or, subscripts, calls. -/
namespace Tt
open PySem PySem.Spec PyProof.Rows L2

/-! ### no star -/
def ns : Expr → Bool
  | .Starred .. => false
  | _ => true
theorem ns_cons {e : Expr} (h : ns e = true) (r : List Expr) (env : Env) : starEach (e :: r) env = (false, eval e env) :: starEach r env := by
  cases e <;> first | rfl | (simp [ns] at h)
theorem ns_any (pos : Pos) (env : Env) : ∀ es : List Expr, es.all ns = true → (backTo pos (starEach es env)).any (·.1) = false
  | [], _ => rfl
  | e :: es, h => by
    rw [List.all_cons, Bool.and_eq_true] at h
    rw [ns_cons h.1]
    exact ns_any pos env es h.2
theorem ns_all (pos : Pos) (env : Env) : ∀ es : List Expr, es.all ns = true → (backTo pos (starEach es env)).all (fun x => !x.1) = true
  | [], _ => rfl
  | e :: es, h => by
    rw [List.all_cons, Bool.and_eq_true] at h
    rw [ns_cons h.1]
    exact ns_all pos env es h.2
/-- a receiver that is no call -/
def okBase : Expr → Bool
  | .Call .. => false
  | _ => true
theorem base_ok {o : Expr} (h : okBase o = true) (name : Str) (env : Env) : attributeBase o name env (eval o env) = eval o env := by
  cases o <;> first | rfl | (simp [okBase] at h)

section
variable {X : Cx} {K : PySem.W.Frag} {e a b c : Expr} {es : List Expr} {pos p2 : Pos} {m ma mb mc : En → Sto → Option (D × Sto)} {ml : En → Sto → Option (List D × Sto)} {mt mu : En → Sto → Option (Bool × Sto)}
/-! ### lists of expressions -/
theorem a_nil : PA X [] (sA X.K fun _ S => some ([], S)) := by
  refine PA.imp pa_nil ?_
  rintro σ H Q ⟨ι, env, S, d, S', s, e, h, q⟩
  cases h
  exact q ι H [] .refl s .nil
theorem a_cons (ha : PE X e (sE X.K m)) (hr : PA X es (sA X.K ml)) (hs : ns e = true) :
    PA X (e :: es) (sA X.K fun env S => (m env S).bind fun p => (ml env p.2).bind fun q => some (p.1 :: q.1, q.2)) := by
  refine PA.imp (pa_cons ha hr (ns_cons hs _ _)) ?_
  rintro σ H Q ⟨ι, env, S, d, S', s, he, h, q⟩
  simp only [Option.bind_eq_some_iff] at h
  obtain ⟨⟨x, S1⟩, h1, ⟨xs, S2⟩, h2, h3⟩ := h
  cases h3
  refine sE_mk s he h1 fun ι1 H1 v x1 s1 r1 => ?_
  refine ⟨ι1, env, _, _, _, s1, he.ext x1, h2, fun ι2 H2 vs x2 s2 r2 => ?_⟩
  exact q ι2 H2 _ (x1.trans x2) s2 (.cons (r1.ext x2) r2)
/-- behind a list of arguments -/
theorem sA_use {f : List D → Sto → Option (D × Sto)} {R : List V → Hp → VK → Prop} (hf : BltOk K R f) {σ : L2.St} {H : Hp} {Q : VK} (h : sE K (fun env S => (ml env S).bind fun p => f p.1 p.2) σ H Q) : sA K ml σ H fun vs H1 => R vs H1 Q := by
  obtain ⟨ι, env, S, d, S', s, he, h, q⟩ := h
  rw [Option.bind_eq_some_iff] at h
  obtain ⟨⟨xs, S1⟩, h1, h2⟩ := h
  refine ⟨ι, env, S, xs, S1, s, he, h1, fun ι1 H1 vs x1 s1 r1 => ?_⟩
  exact hf ι1 H1 S1 xs vs d S' Q s1 r1 h2 fun ι' H' v x' s' r' => q ι' H' v (x1.trans x') s' r'
theorem n_tup {k : Nat} (h : PA X es (sA X.K ml)) : PE X (.Tuple es k pos) (sE X.K fun env S => (ml env S).bind fun p => if p.1.length ≤ sizeLine then some (.tup p.1, p.2) else none) := by
  refine PE.imp (pe_tupS h) fun σ H Q h => sA_use (K := X.K) (ml := ml) (f := fun l S => if l.length ≤ sizeLine then some (.tup l, S) else none) (R := fun xs H1 Q => xs.length ≤ sizeLine ∧ ∀ (p : Addr) (ob : Obj), ob.dict = none → H1 p = none → Q (.ref p) (upd H1 p (.frz ob (.tup xs)))) ?_ h
  intro ι H S ds vs d S' Q s r h q
  dsimp only at h
  split at h
  · cases h
    exact ⟨by rw [r.length]; assumption, tup_at s r q⟩
  · cases h
theorem n_lst {fz : Bool} (h : PA X es (sA X.K ml)) : PE X (.List es pos) (sE X.K fun env S => (ml env S).bind fun p => mkL fz p.1 p.2) := by
  refine PE.imp (pe_lst h) fun σ H Q h => sA_use (f := fun l S => mkL fz l S) (R := fun xs H1 Q => xs.length ≤ sizeLine ∧ ∀ p, H1 p = none → Q (.ref p) (upd H1 p (.lst xs))) ?_ h
  intro ι H S ds vs d S' Q s r h q
  exact mkL_at s h r q
/-! ### truth -/
theorem n_not (ha : PE X a (sE X.K ma)) : PE X (.UnaryOp .Not a pos) (sE X.K fun env S => (ma env S).bind fun p => match p.1 with | .bl b => some (.bl (!b), p.2) | _ => none) := by
  refine PE.imp (pe_not ha) ?_
  rintro σ H Q ⟨ι, env, S, d, S', s, e, h, q⟩
  rw [Option.bind_eq_some_iff] at h
  obtain ⟨⟨x, S1⟩, h1, h2⟩ := h
  cases x <;> first
    | (simp at h2; done)
    | skip
  cases h2
  refine sE_mk s e h1 fun ι1 H1 v x1 s1 r1 => ?_
  rw [rep_bl] at r1; subst r1
  exact ⟨_, rfl, q ι1 H1 _ x1 s1 (rep_bl.mpr rfl)⟩
theorem n_and {rest : List Expr} (ha : PE X a (sE X.K ma)) (hb : PE X (.BoolOp .And (b :: rest) pos) (sE X.K mb)) : PE X (.BoolOp .And (a :: b :: rest) pos) (sE X.K fun env S => (ma env S).bind fun p => match p.1 with
      | .bl true => mb env p.2
      | .bl false => some (.bl false, p.2)
      | _ => none) := by
  refine PE.imp (pe_and ha hb) ?_
  rintro σ H Q ⟨ι, env, S, d, S', s, e, h, q⟩
  rw [Option.bind_eq_some_iff] at h
  obtain ⟨⟨x, S1⟩, h1, h2⟩ := h
  cases x <;> first
    | (simp at h2; done)
    | skip
  rename_i k
  refine sE_mk s e h1 fun ι1 H1 v x1 s1 r1 => ?_
  rw [rep_bl] at r1; subst r1
  refine ⟨k, rfl, ?_⟩
  cases k with
  | true =>
    rw [if_pos rfl]
    exact sE_mk s1 (e.ext x1) h2 fun ι2 H2 v x2 s2 r2 => q ι2 H2 v (x1.trans x2) s2 r2
  | false =>
    rw [if_neg Bool.false_ne_true]
    cases h2
    exact q ι1 H1 _ x1 s1 (rep_bl.mpr rfl)
theorem n_or {rest : List Expr} (ha : PE X a (sE X.K ma)) (hb : PE X (.BoolOp .Or (b :: rest) pos) (sE X.K mb)) : PE X (.BoolOp .Or (a :: b :: rest) pos) (sE X.K fun env S => (ma env S).bind fun p => match p.1 with
      | .bl true => some (.bl true, p.2)
      | .bl false => mb env p.2
      | _ => none) := by
  refine PE.imp (pe_or ha hb) ?_
  rintro σ H Q ⟨ι, env, S, d, S', s, e, h, q⟩
  rw [Option.bind_eq_some_iff] at h
  obtain ⟨⟨x, S1⟩, h1, h2⟩ := h
  cases x <;> first
    | (simp at h2; done)
    | skip
  rename_i k
  refine sE_mk s e h1 fun ι1 H1 v x1 s1 r1 => ?_
  rw [rep_bl] at r1; subst r1
  refine ⟨k, rfl, ?_⟩
  cases k with
  | false =>
    rw [if_neg Bool.false_ne_true]
    exact sE_mk s1 (e.ext x1) h2 fun ι2 H2 v x2 s2 r2 => q ι2 H2 v (x1.trans x2) s2 r2
  | true =>
    rw [if_pos rfl]
    cases h2
    exact q ι1 H1 _ x1 s1 (rep_bl.mpr rfl)
/-- from a test's evaluation to what is behind it -/
theorem sT_mk {σ : L2.St} {H : Hp} {Q : Bool → Hp → Prop} {ι : Ad} {env : En} {S : Sto} {d : Bool} {S' : Sto} (s : Sat K ι H S) (e : Eat K ι H env σ) (h : mt env S = some (d, S'))
    (q : ∀ ι' H', Ext K ι H ι' H' → Sat K ι' H' S' → Q d H') : sT K mt σ H Q := ⟨ι, env, S, d, S', s, e, h, q⟩
theorem n_ite (hc : PT X c (sT X.K mt)) (ha : PE X a (sE X.K ma)) (hb : PE X b (sE X.K mb)) : PE X (.IfExp c a b pos) (sE X.K fun env S => (mt env S).bind fun p => if p.1 = true then ma env p.2 else mb env p.2) := by
  refine PE.imp (pe_ifExp hc ha hb) ?_
  rintro σ H Q ⟨ι, env, S, d, S', s, e, h, q⟩
  rw [Option.bind_eq_some_iff] at h
  obtain ⟨⟨x, S1⟩, h1, h2⟩ := h
  refine sT_mk s e h1 fun ι1 H1 x1 s1 => ?_
  dsimp only at h2
  cases x with
  | true =>
    rw [if_pos rfl] at h2 ⊢
    exact sE_mk s1 (e.ext x1) h2 fun ι2 H2 v x2 s2 r2 => q ι2 H2 v (x1.trans x2) s2 r2
  | false =>
    rw [if_neg Bool.false_ne_true] at h2 ⊢
    exact sE_mk s1 (e.ext x1) h2 fun ι2 H2 v x2 s2 r2 => q ι2 H2 v (x1.trans x2) s2 r2
theorem tru_at {ι : Ad} {H : Hp} {S : Sto} {d : D} {v : V} {k : Bool} (s : Sat K ι H S) (r : Rep K ι H d v) (h : truth S d = some k) : TruV K v H k := by
  have emp : ∀ {l : List D} {vs : List V}, Reps K ι H l vs → (!l.isEmpty) = !vs.isEmpty := by
    intro l vs r
    have := r.length
    cases l <;> cases vs <;> simp_all
  cases d with
  | non =>
    simp only [truth, Option.some.injEq] at h; subst h
    rw [rep_non] at r; subst r; rfl
  | bl b =>
    simp only [truth, Option.some.injEq] at h; subst h
    rw [rep_bl] at r; subst r; rfl
  | int i =>
    simp only [truth, Option.some.injEq] at h; subst h
    rw [rep_int] at r; subst r; rfl
  | str x =>
    simp only [truth] at h
    split at h
    · cases h
      rw [rep_str] at r; subst r
      exact ⟨by assumption, rfl⟩
    · cases h
  | tup l =>
    simp only [truth, Option.some.injEq] at h; subst h
    obtain ⟨a, vs, rfl, g, ru⟩ := rep_tup.mp r
    exact .inr (.inl ⟨vs, g.t, emp ru⟩)
  | lst l =>
    simp only [truth, Option.some.injEq] at h; subst h
    obtain ⟨a, vs, rfl, g, _, ru⟩ := rep_lst.mp r
    exact .inl ⟨vs, SqL.of g, emp ru⟩
  | fzl l => simp [truth] at h
  | ref n =>
    simp only [truth] at h
    cases e : S[n]? with
    | none => rw [e] at h; cases h
    | some o =>
      rw [e] at h
      cases o with
      | lst l =>
        simp only [Option.some.injEq] at h; subst h
        obtain ⟨a, us, rfl, ha, g, ru⟩ := lst_at s r e
        exact .inl ⟨us, SqL.of g, emp ru⟩
      | dic kvs =>
        simp only [Option.some.injEq] at h; subst h
        obtain ⟨a, ws, rfl, _, g, ru⟩ := dic_at s r e
        refine .inr (.inr ⟨ws, g, ?_⟩)
        have := ru.length
        cases kvs <;> cases ws <;> simp_all
      | dead => cases h
theorem t_val (ha : PE X a (sE X.K ma)) (he : ∀ whole, isTrue a X.env whole = (do let v ← whole; standAt a.pos; holding [v] (truthy v))) : PT X a (sT X.K fun env S => (ma env S).bind fun p => (truth p.2 p.1).map fun b => (b, p.2)) := by
  refine PT.imp (pt_truth ha he) ?_
  rintro σ H Q ⟨ι, env, S, d, S', s, e, h, q⟩
  simp only [Option.bind_eq_some_iff, Option.map_eq_some_iff] at h
  obtain ⟨⟨x, S1⟩, h1, k, h2, h3⟩ := h
  cases h3
  refine sE_mk s e h1 fun ι1 H1 v x1 s1 r1 => ?_
  exact ⟨_, tru_at s1 r1 h2, q ι1 H1 x1 s1⟩
theorem t_not (ha : PT X a (sT X.K mt)) : PT X (.UnaryOp .Not a pos) (sT X.K fun env S => (mt env S).map fun p => (!p.1, p.2)) := by
  refine PT.imp (pt_not ha) ?_
  rintro σ H Q ⟨ι, env, S, d, S', s, e, h, q⟩
  rw [Option.map_eq_some_iff] at h
  obtain ⟨⟨x, S1⟩, h1, h2⟩ := h
  cases h2
  exact sT_mk s e h1 fun ι1 H1 x1 s1 => q ι1 H1 x1 s1
theorem w_and {rest : List Expr} (ha : PT X a (sT X.K mt)) (hb : PW X (.BoolOp .And (b :: rest) pos) (sT X.K mu)) : PW X (.BoolOp .And (a :: b :: rest) pos) (sT X.K fun env S => (mt env S).bind fun p => if p.1 = true then mu env p.2 else some (false, p.2)) := by
  refine PW.imp (pw_and ha hb) ?_
  rintro σ H Q ⟨ι, env, S, d, S', s, e, h, q⟩
  rw [Option.bind_eq_some_iff] at h
  obtain ⟨⟨x, S1⟩, h1, h2⟩ := h
  refine sT_mk s e h1 fun ι1 H1 x1 s1 => ?_
  dsimp only at h2
  cases x with
  | true =>
    rw [if_pos rfl] at h2 ⊢
    exact sT_mk s1 (e.ext x1) h2 fun ι2 H2 x2 s2 => q ι2 H2 (x1.trans x2) s2
  | false =>
    rw [if_neg Bool.false_ne_true] at h2 ⊢
    cases h2
    exact q ι1 H1 x1 s1
theorem w_or {rest : List Expr} (ha : PT X a (sT X.K mt)) (hb : PW X (.BoolOp .Or (b :: rest) pos) (sT X.K mu)) : PW X (.BoolOp .Or (a :: b :: rest) pos) (sT X.K fun env S => (mt env S).bind fun p => if p.1 = true then some (true, p.2) else mu env p.2) := by
  refine PW.imp (pw_or ha hb) ?_
  rintro σ H Q ⟨ι, env, S, d, S', s, e, h, q⟩
  rw [Option.bind_eq_some_iff] at h
  obtain ⟨⟨x, S1⟩, h1, h2⟩ := h
  refine sT_mk s e h1 fun ι1 H1 x1 s1 => ?_
  dsimp only at h2
  cases x with
  | false =>
    rw [if_neg Bool.false_ne_true] at h2 ⊢
    exact sT_mk s1 (e.ext x1) h2 fun ι2 H2 x2 s2 => q ι2 H2 (x1.trans x2) s2
  | true =>
    rw [if_pos rfl] at h2 ⊢
    cases h2
    exact q ι1 H1 x1 s1
/-! ### subscripts -/
theorem n_ix (hu : X.A.units + 1 < cLine) (ha : PE X a (sE X.K ma)) (hb : PE X b (sE X.K mb)) (hs : PlainIx b) : PE X (.Subscript a b pos) (sE X.K fun env S => (ma env S).bind fun p => (mb env p.2).bind fun q => (ixD p.1 q.1 q.2).map fun r => (r, q.2)) := by
  refine PE.imp (pe_ix (ix_all hu) ha hb hs) fun σ H Q h => op_use (f := fun a b S => (ixD a b S).map fun r => (r, S)) ?_ h
  intro ι H S a b x y d S' Q s r1 r2 h q
  rw [Option.map_eq_some_iff] at h
  obtain ⟨u, h1, h2⟩ := h
  cases h2
  exact ix_use s r1 r2 h1 fun v r => q ι H v .refl s r
def sO (K : PySem.W.Frag) (m : En → Sto → Option (Option Int × Sto)) : TO := fun σ H Q => ∃ ι env S d S', Sat K ι H S ∧ Eat K ι H env σ ∧ m env S = some (d, S') ∧
  ∀ ι' H', Ext K ι H ι' H' → Sat K ι' H' S' → Q d H'
theorem PO.imp {o : Option Expr} {t t' : TO} (h : PO X o t) (w : ∀ σ H Q, t' σ H Q → t σ H Q) : PO X o t' := ⟨fun pins s σ H Q I q => h.run pins s σ H Q I (w σ H Q q)⟩
theorem o_none : PO X none (sO X.K fun _ S => some (none, S)) := by
  refine PO.imp po_none ?_
  rintro σ H Q ⟨ι, env, S, d, S', s, e, h, q⟩
  cases h
  exact q ι H .refl s
theorem o_some (ha : PE X a (sE X.K ma)) : PO X (some a) (sO X.K fun env S => (ma env S).bind fun p => match p.1 with | .int i => some (some i, p.2) | _ => none) := by
  refine PO.imp (po_some ha) ?_
  rintro σ H Q ⟨ι, env, S, d, S', s, e, h, q⟩
  rw [Option.bind_eq_some_iff] at h
  obtain ⟨⟨x, S1⟩, h1, h2⟩ := h
  cases x <;> first
    | (simp at h2; done)
    | skip
  cases h2
  refine sE_mk s e h1 fun ι1 H1 v x1 s1 r1 => ?_
  rw [rep_int] at r1; subst r1
  exact ⟨_, rfl, q ι1 H1 x1 s1⟩
theorem n_slice {lo hi : Option Expr} {mo mh : En → Sto → Option (Option Int × Sto)} (ha : PE X a (sE X.K ma)) (hl : PO X lo (sO X.K mo)) (hh : PO X hi (sO X.K mh)) :
    PE X (.Subscript a (.Slice lo hi none p2) pos) (sE X.K fun env S => (ma env S).bind fun p => (mo env p.2).bind fun q => (mh env q.2).bind fun r => slD p.1 q.1 r.1 r.2) := by
  refine PE.imp (pe_slice sl_all ha hl hh) ?_
  rintro σ H Q ⟨ι, env, S, d, S', s, e, h, q⟩
  simp only [Option.bind_eq_some_iff] at h
  obtain ⟨⟨x, S1⟩, h1, ⟨o1, S2⟩, h2, ⟨o2, S3⟩, h3, h4⟩ := h
  refine sE_mk s e h1 fun ι1 H1 v x1 s1 r1 => ?_
  refine ⟨ι1, env, _, _, _, s1, e.ext x1, h2, fun ι2 H2 x2 s2 => ?_⟩
  refine ⟨ι2, env, _, _, _, s2, (e.ext x1).ext x2, h3, fun ι3 H3 x3 s3 => ?_⟩
  exact sl_use s3 ((r1.ext x2).ext x3) h4 fun ι' H' v x' s' r' => q ι' H' v (((x1.trans x2).trans x3).trans x') s' r'
/-! ### calls -/
theorem n_isi {x : Str} {t : Ty} {p p3 : Pos} (hg : Gl X "isinstance") (hm : X.mg "isinstance" = none) (ha : PE X a (sE X.K ma)) (ht : PE X b (tC (.ty (tyN t)))) (hs : ns a = true) (hs2 : ns b = true) :
    PE X (.Call (.Name "isinstance" p) [a, b] [] pos) (sE X.K fun env S => (ma env S).bind fun p => (isiD p.2 t p.1).map fun r => (.bl r, p.2)) := by
  refine PE.imp (pe_callB call_isi hg hm (by decide +kernel) (pa_cons ha (pa_cons ht pa_nil (ns_cons hs2 _ _)) (ns_cons hs _ _)) (by decide) (by decide) (ns_cons hs _ _) (ns_any _ _ _ (by rw [List.all_cons, hs2]; rfl))) ?_
  rintro σ H Q ⟨ι, env, S, d, S', s, e, h, q⟩
  simp only [Option.bind_eq_some_iff, Option.map_eq_some_iff] at h
  obtain ⟨⟨x, S1⟩, h1, k, h2, h3⟩ := h
  cases h3
  refine sE_mk s e h1 fun ι1 H1 v x1 s1 r1 => ?_
  exact isi_use s1 r1 h2 (q ι1 H1 _ x1 s1 (rep_bl.mpr rfl))
theorem n_blt {b : Blt} {fz : Bool} {p : Pos} (hcalm : X.calm = true) (hb : (b == .min || b == .max) = false) (hg : Gl X (bltN b)) (hm : X.mg (bltN b) = none) (hns : (e :: es).all ns = true) (h : PA X (e :: es) (sA X.K ml)) :
    PE X (.Call (.Name (bltN b) p) (e :: es) [] pos) (sE X.K fun env S => (ml env S).bind fun p => bltD fz b p.1 p.2) := by
  obtain ⟨u, r, hv, ⟨id, hid⟩, hc, ho⟩ := blt_ok (X := X) hcalm (fz := fz) b hb
  have h1 : bltN b ≠ "__name__" := by cases b <;> decide
  have h2 : (bltN b == ("__debug__" : Str)) = false := by cases b <;> decide
  rw [List.all_cons, Bool.and_eq_true] at hns
  have h3 := ns_cons hns.1 es X.env
  have h4 := ns_any pos X.env es hns.2
  rcases hid with rfl | rfl
  · exact PE.imp (pe_callB hc hg hm hv h h1 h2 h3 h4) fun σ H Q h => sA_use ho h
  · exact PE.imp (pe_callTy hc hg hm hv h h1 h2 h3 h4) fun σ H Q h => sA_use ho h
theorem n_meth {mt : Mth} {apos : Pos} (hb : okBase a = true) (hl : (apos.endLine == pos.line) = true) (hns : ns e = true) (ho : PE X a (sE X.K ma)) (h : PA X [e] (sA X.K ml)) : PE X (.Call (.Attribute a (mthN mt) apos) [e] [] pos) (sE X.K fun env S => (ma env S).bind fun p => if mthChk mt p.1 p.2 = true then (ml env p.2).bind fun q => mthD mt p.1 q.1 q.2 else none) := by
  obtain ⟨id, r, pa, sl, ty, hm, ok⟩ := (mth_ok (X := X) mt).ex
  have h0 : [e].all ns = true := by rw [List.all_cons, hns]; rfl
  refine PE.imp (pe_bm pa sl ty hm ho h (base_ok hb _ _) (by rw [ns_all pos X.env [e] h0]; rfl) hl (ns_cons hns _ _) rfl) ?_
  rintro σ H Q ⟨ι, env, S, d, S', s, he, h, q⟩
  simp only [Option.bind_eq_some_iff] at h
  obtain ⟨⟨x, S1⟩, h1, h2⟩ := h
  split at h2
  · rename_i hchk
    simp only [Option.bind_eq_some_iff] at h2
    obtain ⟨⟨xs, S2⟩, h3, h4⟩ := h2
    refine sE_mk s he h1 fun ι1 H1 v x1 s1 r1 => ⟨mth_ty s1 r1 hchk, ?_⟩
    refine ⟨ι1, env, _, _, _, s1, he.ext x1, h3, fun ι2 H2 vs x2 s2 r2 => ?_⟩
    exact ok ι2 H2 S2 x xs v vs d S' Q s2 (r1.ext x2) r2 h4 fun ι' H' v x' s' r' => q ι' H' v ((x1.trans x2).trans x') s' r'
  · cases h2
theorem n_meth0 {mt : Mth} {apos : Pos} (hb : okBase a = true) (hl : (apos.endLine == pos.line) = true) (ho : PE X a (sE X.K ma)) : PE X (.Call (.Attribute a (mthN mt) apos) [] [] pos) (sE X.K fun env S => (ma env S).bind fun p => if mthChk mt p.1 p.2 = true then (some (([] : List D), p.2)).bind fun q => mthD mt p.1 q.1 q.2 else none) := by
  obtain ⟨id, r, pa, sl, ty, hm, ok⟩ := (mth_ok (X := X) mt).ex
  refine PE.imp (pe_bm0 pa sl ty hm ho (base_ok hb _ _) hl) ?_
  rintro σ H Q ⟨ι, env, S, d, S', s, he, h, q⟩
  simp only [Option.bind_eq_some_iff] at h
  obtain ⟨⟨x, S1⟩, h1, h2⟩ := h
  split at h2
  · rename_i hchk
    simp only [Option.bind_some] at h2
    refine sE_mk s he h1 fun ι1 H1 v x1 s1 r1 => ⟨mth_ty s1 r1 hchk, ?_⟩
    exact ok ι1 H1 S1 x [] v [] d S' Q s1 r1 .nil h2 fun ι' H' v x' s' r' => q ι' H' v (x1.trans x') s' r'
  · cases h2
end
end Tt
end

section
/-! raise TextError(e); error.line -/
namespace Tt
open PySem PySem.Spec PyProof.Rows L2
theorem rel_line {v : V} {u : Value} (r : RelV v u) (f : Str) : RelO (List.lookup f [(("line" : Str), v)]) (if f = "line" then some u else none) := by
  by_cases e : f = "line"
  · subst e
    have q : List.lookup ("line" : Str) [(("line" : Str), v)] = some v := by simp [List.lookup]
    rw [if_pos rfl, q]
    exact r
  · have q1 : (f == ("line" : Str)) = false := by simpa using e
    have q2 : List.lookup f [(("line" : Str), v)] = none := by simp [List.lookup, q1]
    rw [if_neg e, q2]
    trivial
section
variable {X : Cx} {C fI cc cda : Addr}
def tTE (C : Addr) (ta : TA) : L2.St → Hp → XK → Prop := fun σ H Q => ta σ H fun vs H1 => ∃ v, vs = [v] ∧ ∀ d, H1 d = none → Q (.ref C) (some d) (upd H1 d (.xd [(("line" : Str), v)]))
theorem pmk_te {a : Expr} {ta : TA} {p pos : Pos} {k : Nat} (T : TE.Txt X.prog X.K X.mg C fI cc cda) (hr : Room k X.A) (ha : PA X [a] ta) (hg : Gl X "TextError")
    (he : starEach (a :: []) X.env = (false, eval a X.env) :: starEach [] X.env) (hpl : (backTo pos (starEach [] X.env)).any (·.1) = false) :
    PMk X (.Call (.Name "TextError" p) [a] [] pos) (tTE C ta) := by
  intro pins s σ H Q I h
  refine wpAny_Call_Name_kw (ld_glob I hg T.gC ?_)
  refine PySem.W.callWith_K (h₀ := X.base) I.ok.mod.kin T.kC (thn (ha.run pos pins s σ H _ I h) fun us s1 got => ?_) he hpl
  obtain ⟨vs, H1, I1, r1, v, ev, q1⟩ := got
  subst ev
  refine ⟨I1.kIn, ?_⟩
  cases r1 with
  | cons rv rn =>
    rename_i u us'
    cases rn
    show wpAny _ _ (call (.ref C) [u]) _ _ _
    obtain ⟨mb, b1, b2⟩ := I1.mod.blt
    have lim := I1.nolimit
    have bk := I1.bk
    obtain ⟨hp, g, dr, tk, os⟩ := s1
    refine wpAny_call (TE.made T I1.kIn (I1.mod.glob.keeps bk) (b1.keeps bk) ((b2 "super" (by decide)).trans (by decide +kernel)) lim (by have := hr.dp; omega) fun h' tk' e d M => ?_)
    obtain ⟨oe, fv, o1, o2, o3, o4, o5⟩ := M.obj
    have hns := M.ns
    obtain ⟨G, g1, g2⟩ := restrict h' fun b => decide (b ≠ e)
    have same : ∀ b, b ≠ e → G.get? b = h'.get? b := fun b hb => g1 b (decide_eq_true hb)
    have gone : G.get? e = none := g2 e (by simp)
    have lay : ObjOk X.prog X.w (upd H1 d (.xd [(("line" : Str), v)])) G d (.xd [(("line" : Str), v)]) := ⟨_, hns.at (fun o q => (same d M.dne).trans q), fun f => rel_line rv f⟩
    have J : Inv X pins σ (upd H1 d (.xd [(("line" : Str), v)])) ⟨G, g, dr, tk', os⟩ :=
      I1.laid (t' := tk') (fun b o q => (same b (Nat.ne_of_lt (Nat.lt_of_lt_of_le (Heap.lt_size q) M.new))).trans (M.keep b o q)) M.dbig lay
    refine ⟨e, oe, fv, ⟨G, g, dr, tk', os⟩, _, .ref C, some d, rfl, J, fun b o q => ?_, gone, o1, ⟨o2, o3⟩, o4, o5, ?_, rfl, I1.bare, raises_own T.exC T.tyC, q1 d (I1.hok.fresh M.dbig)⟩
    · have q : G.get? b = some o := q
      by_cases hb : b = e
      · rw [hb, gone] at q; cases q
      · exact (same b hb).symm.trans q
    · rw [upd_ne (Ne.symm M.dne)]
      exact I1.hok.fresh M.new
/-- raise TextError(e) -/
theorem ps_te {a : Expr} {ta : TA} {W : WX} {p pos pos2 : Pos} {k : Nat} (hc : X.calm = true) (T : TE.Txt X.prog X.K X.mg C fI cc cda) (hr : Room k X.A) (tk : Takes X W) (ha : PA X [a] ta) (hg : Gl X "TextError")
    (he : starEach (a :: []) X.env = (false, eval a X.env) :: starEach [] X.env) (hpl : (backTo pos (starEach [] X.env)).any (·.1) = false) :
    PS X (.Raise (some (.Call (.Name "TextError" p) [a] [] pos)) none pos2) (fun _ σ H => tTE C ta σ H fun cls d H' => W cls d σ H') := ps_raise hc tk (pmk_te T hr ha hg he hpl)
/-- error.line, error what the suite holds -/
def tLine (C : Addr) (a : Addr) (cls : Value) (d : Option Addr) (te : TE) : TE := fun σ H Q => te σ H fun x H1 => x = .ref a ∧ cls = .ref C ∧ ∃ (dd : Addr) (v : V), d = some dd ∧ H1 dd = some (.xd [(("line" : Str), v)]) ∧ Q v H1
theorem pe_line {a : Addr} {oe : Obj} {cls : Value} {d : Option Addr} {pn : List (Addr × Obj)} {e : Expr} {te : TE} {pos : Pos} (T : TE.Txt X.prog X.K X.mg C fI cc cda) (hz : Zc cls d oe) (hf : ∃ vs, oe.data = .fields vs) (he : PE (X.suite a ((a, oe) :: pn)) e te)
    (hb : attributeBase e "line" X.env (eval e X.env) = eval e X.env) : PE (X.suite a ((a, oe) :: pn)) (.Attribute e "line" pos) (tLine C a cls d te) := by
  refine ⟨fun pins s σ H Q I h => ?_⟩
  refine attr_of hb (thn (he.run pins s σ H _ I h) fun u s1 got => ?_)
  obtain ⟨x, H1, I1, rx, ex, ec, dd, v, ed, ea, q⟩ := got
  subst ex ec ed
  obtain rfl : u = Value.ref a := rx
  obtain ⟨vs, hd⟩ := hf
  have at1 := (I1.pin (a, oe) (List.mem_append_left _ List.mem_cons_self)).1
  obtain ⟨mA, hns, hr⟩ := (show ObjOk X.prog X.w H1 s1.heap dd (.xd [(("line" : Str), v)]) from I1.hok dd _ ea)
  obtain ⟨od, ho, hl⟩ := lookIn_ns hns
  have hr := hr "line"
  rw [show List.lookup ("line" : Str) [(("line" : Str), v)] = some v from by simp [List.lookup]] at hr
  obtain ⟨u, hu, ru⟩ := RelO.some_of hr
  have J : PySem.W.InstAt s1.heap a oe C (some od) := ⟨at1, hz.1, by unfold PySem.W.notCls; rw [hd] <;> rfl, by rw [hz.2]; exact ho⟩
  exact HandSPX.exc_get I1.kIn J T.ga T.gg T.exC (PySem.W.findObj_own T.hdC T.noN rfl (by rw [hl, hu])) (handed_of ru) ⟨v, H1, I1.tok _, ru, q⟩
end
end Tt
end

section
/-! Calls of defs, targets, sources, loops. -/
namespace Tt
open PySem PySem.Spec PyProof.Rows L2

/-! ### calls of defs -/
/-- the dict of an error with a line -/
abbrev lineX (z : Int) : HO := .xd [(("line" : Str), .int z)]
/-- what a call's end asks -/
def RzOk (K : PySem.W.Frag) (C : Addr) (ι : Ad) (H : Hp) (Q : VK) (E : XK) (S : Sto) : Rz → Prop
  | .ok d => ∀ ι' H' v, Ext K ι H ι' H' → Sat K ι' H' S → Rep K ι' H' d v → Q v H'
  | .er z => ∀ ι' H' p, Ext K ι H ι' H' → Sat K ι' H' S → H' p = some (lineX z) → E (.ref C) (some p) H'
theorem RzOk.ext {K : PySem.W.Frag} {C : Addr} {ι ι1 : Ad} {H H1 : Hp} {Q : VK} {E : XK} {S : Sto} {r : Rz} (h : RzOk K C ι H Q E S r) (x : Ext K ι H ι1 H1) : RzOk K C ι1 H1 Q E S r := by
  cases r with
  | ok d => exact fun ι' H' v x' s r => h ι' H' v (x.trans x') s r
  | er z => exact fun ι' H' p x' s r => h ι' H' p (x.trans x') s r
/-- what a def promises: its evaluation -/
def spC (K : PySem.W.Frag) (C : Addr) (cal : Cal) (j : Nat) : Sp := fun vs H Q E => ∃ ι S ds r S', Sat K ι H S ∧ Reps K ι H ds vs ∧ cal j ds S = some (r, S') ∧ RzOk K C ι H Q E S' r
structure FnAt (X : Cx) (C : Addr) (k : Nat) (cal : Cal) (j : Nat) (x : Str) : Prop where
  ex : ∃ f fd ps, X.mg x = some (.ref f) ∧ PySem.W.keepIn X.K (.ref f) = true ∧ Binds X.K fd ps [] ∧ FnOk X.prog X.w X.K X.mg X.base (L2.CX X.prog X.w) k f fd ps (spC X.K C cal j)
theorem passF {X : Cx} : Passes (L2.CX X.prog X.w) X E0 := fun _ _ _ _ _ _ _ ⟨_, _, _, _, _, _, _, _, _, _, _, _, h⟩ => h.elim
section
variable {X : Cx} {K : PySem.W.Frag} {C : Addr} {e : Expr} {es : List Expr} {pos : Pos} {ml : En → Sto → Option (List D × Sto)}
theorem okB_some {f : List D → Sto → Option (Rz × Sto)} {ds : List D} {S S' : Sto} {d : D} (h : okB f ds S = some (d, S')) : f ds S = some (.ok d, S') := by
  unfold okB at h
  rw [Option.bind_eq_some_iff] at h
  obtain ⟨⟨r, S1⟩, h1, h2⟩ := h
  cases r with
  | ok y => cases h2; exact h1
  | er z => cases h2
theorem n_call {k : Nat} {cal : Cal} {j : Nat} {x : Str} {p : Pos} (F : FnAt X C k cal j x) (hr : Room k X.A) (hg : Gl X x) (hns : (e :: es).all ns = true) (hdb : (x == ("__debug__" : Str)) = false) (h : PA X (e :: es) (sA X.K ml)) :
    PE X (.Call (.Name x p) (e :: es) [] pos) (sE X.K fun env S => (ml env S).bind fun p => okB (cal j) p.1 p.2) := by
  obtain ⟨f, fd, ps, hm, hk, hb, G⟩ := F.ex
  rw [List.all_cons, Bool.and_eq_true] at hns
  refine PE.imp (pe_call G hr hg hm hk hb .nil passF h hdb (ns_cons hns.1 es X.env) (ns_any pos X.env es hns.2)) fun σ H Q h => ?_
  have := sA_use (K := X.K) (ml := ml) (f := okB (cal j)) (R := fun vs H1 Q => spC X.K C cal j (vs ++ []) H1 Q E0) (fun ι H S ds vs d S' Q s r h q => ⟨ι, S, ds, .ok d, S', s, by rw [List.append_nil]; exact r, okB_some h, q⟩) h
  exact this
theorem n_call0 {k : Nat} {cal : Cal} {j : Nat} {x : Str} {p : Pos} (F : FnAt X C k cal j x) (hr : Room k X.A) (hg : Gl X x) (hdb : (x == ("__debug__" : Str)) = false) :
    PE X (.Call (.Name x p) [] [] pos) (sE X.K fun env S => (some (([] : List D), S)).bind fun p => okB (cal j) p.1 p.2) := by
  obtain ⟨f, fd, ps, hm, hk, hb, G⟩ := F.ex
  refine PE.imp (pe_call0 G hr hg hm hk hb .nil passF hdb) fun σ H Q h => ?_
  obtain ⟨ι, env, S, d, S', s, he, h, q⟩ := h
  exact ⟨ι, S, [], .ok d, S', s, .nil, okB_some h, q⟩
/-- what may raise: an expression's, a list's -/
def sR (K : PySem.W.Frag) (C : Addr) (E : XK) (m : En → Sto → Option (Rz × Sto)) : TE := fun σ H Q => ∃ ι env S r S', Sat K ι H S ∧ Eat K ι H env σ ∧ m env S = some (r, S') ∧ RzOk K C ι H Q E S' r
def RsOk (K : PySem.W.Frag) (C : Addr) (ι : Ad) (H : Hp) (Q : List V → Hp → Prop) (E : XK) (S : Sto) : List D ⊕ Int → Prop
  | .inl l => ∀ ι' H' vs, Ext K ι H ι' H' → Sat K ι' H' S → Reps K ι' H' l vs → Q vs H'
  | .inr z => ∀ ι' H' p, Ext K ι H ι' H' → Sat K ι' H' S → H' p = some (lineX z) → E (.ref C) (some p) H'
def sRs (K : PySem.W.Frag) (C : Addr) (E : XK) (m : En → Sto → Option ((List D ⊕ Int) × Sto)) : TA := fun σ H Q => ∃ ι env S r S', Sat K ι H S ∧ Eat K ι H env σ ∧ m env S = some (r, S') ∧ RsOk K C ι H Q E S' r
theorem r_pure {E : XK} {m : En → Sto → Option (D × Sto)} (h : PE X e (sE X.K m)) : PE X e (sR X.K C E fun env S => (m env S).map fun p => (.ok p.1, p.2)) := by
  refine PE.imp h ?_
  rintro σ H Q ⟨ι, env, S, r, S', s, en, h, q⟩
  rw [Option.map_eq_some_iff] at h
  obtain ⟨⟨d, S1⟩, h1, h2⟩ := h
  cases h2
  exact ⟨ι, env, S, d, S1, s, en, h1, q⟩
theorem r_call {E : XK} {k : Nat} {cal : Cal} {j : Nat} {x : Str} {p : Pos} (tk : Takes X fun cls d _ H => E cls d H) (F : FnAt X C k cal j x) (hr : Room k X.A) (hg : Gl X x) (hns : (e :: es).all ns = true) (hdb : (x == ("__debug__" : Str)) = false) (h : PA X (e :: es) (sA X.K ml)) :
    PE X (.Call (.Name x p) (e :: es) [] pos) (sR X.K C E fun env S => (ml env S).bind fun p => cal j p.1 p.2) := by
  obtain ⟨f, fd, ps, hm, hk, hb, G⟩ := F.ex
  rw [List.all_cons, Bool.and_eq_true] at hns
  refine PE.imp (pe_call (E := E) G hr hg hm hk hb .nil (passes_call tk fun _ _ _ _ z => z) h hdb (ns_cons hns.1 es X.env) (ns_any pos X.env es hns.2)) ?_
  rintro σ H Q ⟨ι, env, S, r, S', s, en, h, q⟩
  rw [Option.bind_eq_some_iff] at h
  obtain ⟨⟨ds, S1⟩, h1, h2⟩ := h
  refine ⟨ι, env, S, ds, S1, s, en, h1, fun ι1 H1 vs x1 s1 r1 => ?_⟩
  exact ⟨ι1, S1, ds, r, S', s1, by rw [List.append_nil]; exact r1, h2, q.ext x1⟩
end

/-! ### targets -/
/-- a tuple that may not be known whole -/
def RepW (K : PySem.W.Frag) (ι : Ad) (H : Hp) : D → V → Prop
  | .tup l, v => ∃ a vs, v = .ref a ∧ SqT K H a vs ∧ Reps K ι H l vs
  | d, v => Rep K ι H d v
def RepT (K : PySem.W.Frag) (tg : Tg) (ι : Ad) (H : Hp) (d : D) (v : V) : Prop :=
  match tg with
  | .one _ => Rep K ι H d v
  | .many _ => RepW K ι H d v
theorem Rep.w {K : PySem.W.Frag} {ι : Ad} {H : Hp} {d : D} {v : V} (r : Rep K ι H d v) : RepW K ι H d v := by
  cases d with
  | tup l => obtain ⟨a, vs, e, g, ru⟩ := rep_tup.mp r; exact ⟨a, vs, e, g.t, ru⟩
  | _ => exact r
theorem Rep.tg {K : PySem.W.Frag} {ι : Ad} {H : Hp} {d : D} {v : V} {tg : Tg} (r : Rep K ι H d v) : RepT K tg ι H d v := by
  cases tg with
  | one i => exact r
  | many is => exact r.w
def tgIx : Tg → List Nat
  | .one i => [i]
  | .many is => is
def setS : List Nat → List V → L2.St → L2.St
  | i :: is, v :: vs, σ => setS is vs (σ.set i (some v))
  | _, _, σ => σ
theorem Eat.set {K : PySem.W.Frag} {ι : Ad} {H : Hp} {env : En} {σ : L2.St} {d : D} {v : V} (e : Eat K ι H env σ) (r : Rep K ι H d v) (i : Nat) : Eat K ι H (env.set i (some d)) (σ.set i (some v)) := by
  refine ⟨by rw [List.length_set, List.length_set, e.len], fun j d' h => ?_⟩
  by_cases hj : i = j
  · subst hj
    have hl : i < env.length := by
      have := (List.getElem?_eq_some_iff.mp h).1
      rwa [List.length_set] at this
    rw [List.getElem?_set_self hl] at h
    cases h
    exact ⟨v, by rw [List.getElem?_set_self (by rw [e.len]; exact hl)], r⟩
  · rw [List.getElem?_set_ne hj] at h
    obtain ⟨w, h1, h2⟩ := e.at_ j d' h
    exact ⟨w, by rw [List.getElem?_set_ne hj]; exact h1, h2⟩
theorem setAll_at {K : PySem.W.Frag} {ι : Ad} {H : Hp} : ∀ {is : List Nat} {ds : List D} {vs : List V} {env env1 : En} {σ : L2.St}, Eat K ι H env σ → Reps K ι H ds vs → setAll is ds env = some env1 → is.length = vs.length ∧ Eat K ι H env1 (setS is vs σ)
  | [], [], vs, env, env1, σ, e, r, h => by
    simp only [setAll, Option.some.injEq] at h; subst h
    simp only [Reps] at r; subst r
    exact ⟨rfl, e⟩
  | i :: is, d :: ds, vs, env, env1, σ, e, r, h => by
    simp only [setAll] at h
    simp only [Reps] at r
    obtain ⟨v, ws, rfl, r1, r2⟩ := r
    obtain ⟨h1, h2⟩ := setAll_at (e.set r1 i) r2 h
    exact ⟨by simp [h1], h2⟩
  | [], _ :: _, _, _, _, _, _, _, h => by simp [setAll] at h
  | _ :: _, [], _, _, _, _, _, _, h => by simp [setAll] at h
theorem wipe_set {σ : L2.St} {i : Nat} {v : V} : ∀ {own : List Nat}, i ∈ own → wipe (σ.set i (some v)) own = wipe σ own
  | o :: own, h => by
    show (wipe (σ.set i (some v)) own).set o none = (wipe σ own).set o none
    by_cases hi : i ∈ own
    · rw [wipe_set hi]
    · have ho : o = i := by
        rcases List.mem_cons.mp h with e | e
        · exact e.symm
        · exact absurd e hi
      subst ho
      have : ∀ (l : List Nat), o ∉ l → wipe (σ.set o (some v)) l = (wipe σ l).set o (some v) := by
        intro l
        induction l with
        | nil => intro _; rfl
        | cons a r ih =>
          intro hn
          show (wipe (σ.set o (some v)) r).set a none = ((wipe σ r).set a none).set o (some v)
          rw [ih (fun z => hn (List.mem_cons_of_mem _ z)), List.set_comm _ _ (fun e => hn (by rw [e]; exact List.mem_cons_self))]
      rw [this own hi, List.set_set]
theorem wipe_setS {own : List Nat} : ∀ {is : List Nat} {vs : List V} {σ : L2.St}, (∀ i ∈ is, i ∈ own) → wipe (setS is vs σ) own = wipe σ own
  | [], vs, σ, _ => by cases vs <;> rfl
  | i :: is, [], σ, _ => rfl
  | i :: is, v :: vs, σ, h => by
    show wipe (setS is vs (σ.set i (some v))) own = _
    rw [wipe_setS (fun j hj => h j (List.mem_cons_of_mem _ hj)), wipe_set (h i List.mem_cons_self)]
theorem Eat.wipe {K : PySem.W.Frag} {ι : Ad} {H : Hp} {env : En} {σ : L2.St} (e : Eat K ι H env σ) : ∀ own : List Nat, Eat K ι H (wipeD env own) (L2.wipe σ own)
  | [] => e
  | o :: own => by
    have ih := Eat.wipe e own
    refine ⟨by show ((L2.wipe σ own).set o none).length = ((wipeD env own).set o none).length; rw [List.length_set, List.length_set, ih.len], fun j d h => ?_⟩
    have h' : ((wipeD env own).set o none)[j]? = some (some d) := h
    show ∃ v, ((L2.wipe σ own).set o none)[j]? = some (some v) ∧ _
    by_cases hj : o = j
    · subst hj
      by_cases hl : o < (wipeD env own).length
      · rw [List.getElem?_set_self hl] at h'; cases h'
      · rw [List.getElem?_eq_none (by rw [List.length_set]; omega)] at h'; cases h'
    · rw [List.getElem?_set_ne hj] at h' ⊢
      exact ih.at_ j d h'
/-- what a target asks -/
def sG (K : PySem.W.Frag) (tg : Tg) : TG := fun v σ H Q => ∃ ι env d env1, Eat K ι H env σ ∧ RepT K tg ι H d v ∧ bindT tg d env = some env1 ∧
  ∀ σ1, Eat K ι H env1 σ1 → (∀ own, (∀ i ∈ tgIx tg, i ∈ own) → wipe σ1 own = wipe σ own) → Q σ1 H
section
variable {X : Cx} {K : PySem.W.Frag} {pos : Pos}
theorem PG.imp {e : Expr} {t t' : TG} (h : PG X e t) (w : ∀ v σ H Q, t' v σ H Q → t v σ H Q) : PG X e t' := ⟨fun pins s σ H v u Q I r q => h.run pins s σ H v u Q I r (w v σ H Q q)⟩
theorem g_one {i : Nat} {x : Str} (hN : X.N.Nodup) (hi : X.N[i]? = some x) (hx : Loc X.env.scope x) (hf : X.fn x = true ∨ X.env.scope.names.lookup x = some .local) : PG X (.Name x pos) (sG X.K (.one i)) := by
  refine PG.imp (pg_name hN hi hx hf) ?_
  rintro v σ H Q ⟨ι, env, d, env1, e, r, h, q⟩
  simp only [bindT, Option.some.injEq] at h
  subst h
  refine q _ (e.set r i) fun own ho => wipe_set (ho i (by simp [tgIx]))
/-- names of a tuple -/
def gSet (is : List Nat) : TGs := fun vs σ H Q => is.length = vs.length ∧ Q (setS is vs σ) H
structure NameOk (X : Cx) (i : Nat) (x : Str) : Prop where
  hi : X.N[i]? = some x
  hx : Loc X.env.scope x
  hf : X.fn x = true ∨ X.env.scope.names.lookup x = some .local
theorem gs_all (hN : X.N.Nodup) : ∀ {is : List Nat} {xs : List (Str × Pos)}, Paired (fun i (x : Str × Pos) => NameOk X i x.1) is xs → PGs X (xs.map fun x => .Name x.1 x.2) (gSet is)
  | _, _, .nil => ⟨fun pins s σ H vs us Q I r h => by
      obtain ⟨h1, h2⟩ := h
      cases vs with
      | nil => exact (pgs_nil (X := X)).run pins s σ H [] us Q I r ⟨rfl, h2⟩
      | cons v vs => simp at h1⟩
  | _, _, .cons (a := i) (b := x) (l₁ := is) (l₂ := xs) ok t => by
    have ih := gs_all hN t
    have h1 : PG X (.Name x.1 x.2) (gName i) := pg_name hN ok.hi ok.hx ok.hf
    have h2 := pgs_cons h1 ih
    refine ⟨fun pins s σ H vs us Q I r h => ?_⟩
    obtain ⟨g1, g2⟩ := h
    cases vs with
    | nil => simp at g1
    | cons v vs => exact h2.run pins s σ H (v :: vs) us Q I r ⟨v, vs, rfl, by simpa using g1, g2⟩
theorem g_many (hc : X.calm = true) (hN : X.N.Nodup) {is : List Nat} {xs : List (Str × Pos)} {k : Nat} (h : Paired (fun i (x : Str × Pos) => NameOk X i x.1) is xs) : PG X (.Tuple (xs.map fun x => .Name x.1 x.2) k pos) (sG X.K (.many is)) := by
  have hlen : ∀ l : List (Str × Pos), (assignEach (l.map fun x => Expr.Name x.1 x.2) X.env).length = l.length := by
    intro l; induction l with
    | nil => rfl
    | cons a r ih => simp [assignEach, ih]
  have hst : ∀ l : List (Str × Pos), (assignEach (l.map fun x => Expr.Name x.1 x.2) X.env).findIdx? (·.1) = none := by
    intro l; induction l with
    | nil => rfl
    | cons a r ih => simp [assignEach, List.findIdx?_cons, ih]
  refine PG.imp (pg_tup (n := xs.length) hc (gs_all hN h) (hlen xs) (hst xs)) ?_
  rintro v σ H Q ⟨ι, env, d, env1, e, r, hb, q⟩
  cases d with
  | tup l =>
    simp only [bindT] at hb
    obtain ⟨a, vs, rfl, g, ru⟩ := r
    obtain ⟨h1, h2⟩ := setAll_at e ru hb
    have h3 := h.length
    exact ⟨a, vs, rfl, g, by omega, h1, q _ h2 fun own ho => wipe_setS ho⟩
  | _ => simp [bindT] at hb
end
end Tt
end

section
/-! Sources, loops, comprehensions. -/
namespace Tt
open PySem PySem.Spec PyProof.Rows L2

/-! ### sources -/
/-- an iterator gives what the source tells -/
def Serves (K : PySem.W.Frag) (tg : Tg) (J : It) (src : Src) (ι : Ad) (H : Hp) : Prop :=
  ∀ ι' H' S', ExtW K ι H ι' H' → Sat K ι' H' S' → ∀ l, src.rd S' = some l → l.length = src.n →
    (∀ (i : Nat) x, l[i]? = some x → J.go i H' ∧ ∀ v H2, J.yld i H' v H2 → ∃ ι2, Ext K ι' H' ι2 H2 ∧ Sat K ι2 H2 S' ∧ RepT K tg ι2 H2 x v) ∧ J.stop l.length H'
def sI (K : PySem.W.Frag) (tg : Tg) (m : En → Sto → Option (Src × Sto)) : TI := fun σ H R => ∃ ι env S src S', Sat K ι H S ∧ Eat K ι H env σ ∧ m env S = some (src, S') ∧
  ∀ ι' H' J, Ext K ι H ι' H' → Sat K ι' H' S' → Serves K tg J src ι' H' → R J H'
section
variable {X : Cx} {K : PySem.W.Frag} {e a b : Expr} {tgx : Expr} {pos : Pos} {m ma mb : En → Sto → Option (D × Sto)}
theorem PI.imp {it : Expr} {t t' : TI} (h : PI X tgx it t) (w : ∀ σ H R, t' σ H R → t σ H R) : PI X tgx it t' := ⟨fun pins s σ H R I q => h.run pins s σ H R I (w σ H R q)⟩
/-- a list or a tuple -/
def iSeq (K : PySem.W.Frag) (tl : TE) : TI := fun σ H R => tl σ H fun x H1 => (∃ a, x = .ref a ∧ (((∃ xs, SqL K H1 a xs) ∧ R (Itl K a) H1) ∨ ((∃ xs, SqT K H1 a xs) ∧ R (Itt K a) H1))) ∨ ∃ z, x = .str z ∧ R (Its z) H1
theorem pi_seq {tl : TE} (hl : PE X e tl) : PI X tgx e (iSeq X.K tl) := by
  refine ⟨fun pins s σ H R I h => ?_⟩
  refine thn (hl.run pins s σ H _ I h) fun v s1 ⟨x, H1, I1, r1, q1⟩ => ?_
  rcases q1 with ⟨a, e, q⟩ | ⟨z, e, q⟩
  case inr =>
    subst e
    obtain ⟨t, rfl⟩ := r1
    cases ha : z.cps.all (· < 128)
    · exact wpAny_pyIter_wide ha (pi_one (tk := s1.toks) I1 _ (turn_str _ z t "str_iterator" (.inr rfl)) ⟨_, Heap.get?_push_size _ rfl, rfl, rfl⟩ q)
    · exact wpAny_pyIter_ascii ha (pi_one (tk := s1.toks) I1 _ (turn_str _ z t "str_ascii_iterator" (.inl rfl)) ⟨_, Heap.get?_push_size _ rfl, rfl, rfl⟩ q)
  subst e
  cases r1
  rcases q with ⟨⟨xs, hq⟩, q⟩ | ⟨⟨xs, hq⟩, q⟩
  · obtain ⟨its, rv, p, hz⟩ := I1.list hq
    refine wpAny_pyIter_list p.isList ?_
    refine ⟨s1.heap.objs.size, [s1.heap.objs.size], _, _, H1, rfl, I1.kept (t' := s1.toks) fun b o e => Heap.get?_push_of_some _ e, turn_list a _, ⟨_, Heap.get?_push_size _ rfl, rfl, rfl⟩, fun b hb => ?_, q⟩
    have e : b = s1.heap.objs.size := by simpa using hb
    subst e
    exact I1.fpOk (Nat.le_refl _) (I1.hok.fresh (Nat.le_refl _))
  · obtain ⟨its, rv, p, hz⟩ := I1.tuple hq
    refine wpAny_pyIter_tuple (show s1.heap.IsTuple a its.toArray from p) ?_
    refine ⟨s1.heap.objs.size, [s1.heap.objs.size], _, _, H1, rfl, I1.kept (t' := s1.toks) fun b o e => Heap.get?_push_of_some _ e, turn_tuple a _, ⟨_, Heap.get?_push_size _ rfl, rfl, rfl⟩, fun b hb => ?_, q⟩
    have e : b = s1.heap.objs.size := by simpa using hb
    subst e
    exact I1.fpOk (Nat.le_refl _) (I1.hok.fresh (Nat.le_refl _))
theorem seq_inj {K : PySem.W.Frag} {H : Hp} {a : Addr} {vs : List V} (h : H a = some (.lst vs)) : SqL K H a vs := SqL.of h
theorem i_seq {tg : Tg} (he : PE X e (sE X.K m)) : PI X tgx e (sI X.K tg fun env S => (m env S).bind fun p => (srcOf p.2 p.1).map fun s => (s, p.2)) := by
  refine PI.imp (pi_seq he) ?_
  rintro σ H R ⟨ι, env, S, src, S', s, en, h, q⟩
  simp only [Option.bind_eq_some_iff, Option.map_eq_some_iff] at h
  obtain ⟨⟨d, S1⟩, h1, src', h2, h3⟩ := h
  cases h3
  refine sE_mk s en h1 fun ι1 H1 v x1 s1 r1 => ?_
  by_cases hstr : ∃ z, d = .str z
  · obtain ⟨z, rfl⟩ := hstr
    simp only [srcOf, Option.some.injEq] at h2
    subst h2
    refine .inr ⟨z, rep_str.mp r1, q ι1 H1 _ x1 s1 fun ι2 H2 S2 x2 s2 l2 h4 h5 => ?_⟩
    have h4 : some (chars z) = some l2 := h4
    cases h4
    refine ⟨fun i y hy => ?_, by show z.cps.size ≤ _; simp [chars]⟩
    simp only [chars, List.getElem?_map, Option.map_eq_some_iff] at hy
    obtain ⟨c, hc, rfl⟩ := hy
    have hc' : z.cps[i]? = some c := by simpa using hc
    refine ⟨(Array.getElem?_eq_some_iff.mp hc').1, fun v H3 hv => ?_⟩
    obtain ⟨e3, c', hc2, e4⟩ := hv
    subst e3 e4
    rw [hc'] at hc2; cases hc2
    exact ⟨ι2, .refl, s2, (rep_str.mpr rfl : Rep X.K ι2 H3 (.str ⟨#[c]⟩) _).tg⟩
  refine .inl ?_
  have h6 : (items S1 d).map (fun l => (⟨fun S' => items S' d, l.length⟩ : Src)) = some src := by
    cases d <;> first | exact h2 | exact absurd ⟨_, rfl⟩ hstr
  clear h2
  rw [Option.map_eq_some_iff] at h6
  obtain ⟨l, h2, h3⟩ := h6
  subst h3
  have lists : (∃ a vs, v = .ref a ∧ H1 a = some (.lst vs) ∧ Reps X.K ι1 H1 l vs) → (∀ S', items S' d = litems S' d) → ∃ a, v = .ref a ∧ (((∃ xs, SqL X.K H1 a xs) ∧ R (Itl X.K a) H1) ∨ ((∃ xs, SqT X.K H1 a xs) ∧ R (Itt X.K a) H1)) := by
    rintro ⟨a, vs, rfl, g, _⟩ hd
    refine ⟨a, rfl, .inl ⟨⟨vs, SqL.of g⟩, q ι1 H1 _ x1 s1 fun ι2 H2 S2 x2 s2 l2 h4 h5 => ?_⟩⟩
    have h4 : items S2 d = some l2 := h4
    rw [hd] at h4
    obtain ⟨a2, ws, e2, g2, ru⟩ := litems_at s2 (r1.extW x2) h4
    cases e2
    refine ⟨fun i y hy => ?_, ⟨ws, SqL.of g2, by rw [ru.length]; exact Nat.le_refl _⟩⟩
    obtain ⟨w, hw, rw'⟩ := ru.get hy
    refine ⟨⟨ws, w, SqL.of g2, hw⟩, fun v H3 hy3 => ?_⟩
    obtain ⟨e3, hv⟩ := hy3
    subst e3
    have := hv ws (SqL.of g2)
    rw [hw] at this; cases this
    exact ⟨ι2, .refl, s2, rw'.tg⟩
  cases d with
  | tup t =>
    simp only [items, Option.some.injEq] at h2
    subst h2
    obtain ⟨a, vs, rfl, g, _⟩ := rep_tup.mp r1
    refine ⟨a, rfl, .inr ⟨⟨vs, g.t⟩, q ι1 H1 _ x1 s1 fun ι2 H2 S2 x2 s2 l2 h4 h5 => ?_⟩⟩
    have h4 : some t = some l2 := h4
    cases h4
    obtain ⟨a2, ws, e2, g2, ru⟩ := rep_tup.mp (r1.extW x2)
    cases e2
    refine ⟨fun i y hy => ?_, ⟨ws, g2.t, by rw [ru.length]; exact Nat.le_refl _⟩⟩
    obtain ⟨w, hw, rw'⟩ := ru.get hy
    refine ⟨⟨ws, w, g2.t, hw⟩, fun v H3 hy3 => ?_⟩
    obtain ⟨e3, hv⟩ := hy3
    subst e3
    have := hv ws g2.t
    rw [hw] at this; cases this
    exact ⟨ι2, .refl, s2, rw'.tg⟩
  | fzl t =>
    simp only [items, Option.some.injEq] at h2
    subst h2
    obtain ⟨a, vs, rfl, g, _⟩ := rep_fzl.mp r1
    refine ⟨a, rfl, .inl ⟨⟨vs, g.l⟩, q ι1 H1 _ x1 s1 fun ι2 H2 S2 x2 s2 l2 h4 h5 => ?_⟩⟩
    have h4 : some t = some l2 := h4
    cases h4
    obtain ⟨a2, ws, e2, g2, ru⟩ := rep_fzl.mp (r1.extW x2)
    cases e2
    refine ⟨fun i y hy => ?_, ⟨ws, g2.l, by rw [ru.length]; exact Nat.le_refl _⟩⟩
    obtain ⟨w, hw, rw'⟩ := ru.get hy
    refine ⟨⟨ws, w, g2.l, hw⟩, fun v H3 hy3 => ?_⟩
    obtain ⟨e3, hv⟩ := hy3
    subst e3
    have := hv ws g2.l
    rw [hw] at this; cases this
    exact ⟨ι2, .refl, s2, rw'.tg⟩
  | lst t => exact lists (litems_at s1 r1 h2) fun _ => rfl
  | ref n => exact lists (litems_at s1 r1 h2) fun _ => rfl
  | _ => simp [items] at h2
theorem serves_rng {tg : Tg} {lo : Int} {n : Nat} {ι : Ad} {H : Hp} : Serves K tg (Itr lo n) ⟨fun _ => some (rngL lo n), n⟩ ι H := by
  intro ι2 H2 S2 x2 s2 l h1 h2
  have h1 : some (rngL lo n) = some l := h1
  cases h1
  have hl : (rngL lo n).length = n := by simp [rngL]
  refine ⟨fun i y hy => ?_, by show n ≤ (rngL lo n).length; omega⟩
  have hi : i < n := by rw [← hl]; exact (List.getElem?_eq_some_iff.mp hy).1
  refine ⟨hi, fun v H3 hv => ?_⟩
  obtain ⟨e1, e2⟩ := hv
  subst e1 e2
  refine ⟨ι2, .refl, s2, Rep.tg ?_⟩
  simp only [rngL, List.getElem?_map, List.getElem?_range hi, Option.map_some, Option.some.injEq] at hy
  subst hy
  exact rep_int.mpr rfl
theorem i_rng {tg : Tg} {p : Pos} (hg : Gl X "range") (hm : X.mg "range" = none) (hns : ns a = true) (ha : PE X a (sE X.K ma)) :
    PI X tgx (.Call (.Name "range" p) [a] [] pos) (sI X.K tg fun env S => (ma env S).bind fun p => match p.1 with
      | .int j => if -(2 ^ 62) ≤ j ∧ j < 2 ^ 62 then some (⟨fun _ => some (rngL 0 j.toNat), j.toNat⟩, p.2) else none
      | _ => none) := by
  refine PI.imp (pi_range1 hg hm (pa_cons ha pa_nil (ns_cons hns _ _)) (ns_cons hns _ _)) ?_
  rintro σ H R ⟨ι, env, S, src, S', s, en, h, q⟩
  rw [Option.bind_eq_some_iff] at h
  obtain ⟨⟨d, S1⟩, h1, h2⟩ := h
  cases d <;> first
    | (simp at h2; done)
    | skip
  rename_i j
  dsimp only at h2
  split at h2
  · rename_i hj
    cases h2
    refine sE_mk s en h1 fun ι1 H1 v x1 s1 r1 => ?_
    rw [rep_int] at r1; subst r1
    exact ⟨j, rfl, hj.1, hj.2, q ι1 H1 _ x1 s1 serves_rng⟩
  · cases h2
theorem i_rng2 {tg : Tg} {p : Pos} (hg : Gl X "range") (hm : X.mg "range" = none) (hns : ns a = true) (hns2 : ns b = true) (ha : PE X a (sE X.K ma)) (hb : PE X b (sE X.K mb)) :
    PI X tgx (.Call (.Name "range" p) [a, b] [] pos) (sI X.K tg fun env S => (ma env S).bind fun p => (mb env p.2).bind fun q => match p.1, q.1 with
      | .int i, .int j => if -(2 ^ 62) ≤ i ∧ i < 2 ^ 62 ∧ -(2 ^ 62) ≤ j ∧ j < 2 ^ 62 then some (⟨fun _ => some (rngL i (j - i).toNat), (j - i).toNat⟩, q.2) else none
      | _, _ => none) := by
  refine PI.imp (pi_range2 hg hm (pa_cons ha (pa_cons hb pa_nil (ns_cons hns2 _ _)) (ns_cons hns _ _)) (by rw [ns_cons hns, ns_cons hns2]; rfl) (ns_cons hns2 _ _)) ?_
  rintro σ H R ⟨ι, env, S, src, S', s, en, h, q⟩
  simp only [Option.bind_eq_some_iff] at h
  obtain ⟨⟨d, S1⟩, h1, ⟨d2, S2⟩, h2, h3⟩ := h
  cases d <;> first
    | (simp at h3; done)
    | skip
  cases d2 <;> first
    | (simp at h3; done)
    | skip
  rename_i i j
  dsimp only at h3
  split at h3
  · rename_i hj
    cases h3
    refine sE_mk s en h1 fun ι1 H1 v x1 s1 r1 => ?_
    rw [rep_int] at r1; subst r1
    refine sE_mk s1 (en.ext x1) h2 fun ι2 H2 v x2 s2 r2 => ?_
    rw [rep_int] at r2; subst r2
    exact ⟨i, j, rfl, hj, q ι2 H2 _ (x1.trans x2) s2 serves_rng⟩
  · cases h3
theorem numbered_get : ∀ (l : List D) (k i : Nat), (numbered k l)[i]? = (l[i]?).map fun d => .tup [.int (k + i : Nat), d]
  | [], k, i => rfl
  | d :: r, k, 0 => rfl
  | d :: r, k, i + 1 => by
    show (numbered (k + 1) r)[i]? = _
    rw [numbered_get r]
    have : k + 1 + i = k + (i + 1) := by omega
    rw [this]; rfl
theorem numbered_length : ∀ (l : List D) (k : Nat), (numbered k l).length = l.length
  | [], _ => rfl
  | _ :: r, k => congrArg (· + 1) (numbered_length r (k + 1))
/-- enumerate(list) -/
theorem i_enum {is : List Nat} {p tpos : Pos} {elts : List Expr} {kk : Nat} (hg : Gl X "enumerate") (hm : X.mg "enumerate" = none) (hns : ns a = true) (ha : PE X a (sE X.K ma)) :
    PI X (.Tuple elts kk tpos) (.Call (.Name "enumerate" p) [a] [] pos) (sI X.K (.many is) fun env S => (ma env S).bind fun p => (litems p.2 p.1).map fun l => (⟨fun S' => (litems S' p.1).map (numbered 0), l.length⟩, p.2)) := by
  refine PI.imp (pi_enum hg hm (pa_cons ha pa_nil (ns_cons hns _ _)) (ns_cons hns _ _)) ?_
  rintro σ H R ⟨ι, env, S, src, S', s, en, h, q⟩
  rw [Option.bind_eq_some_iff] at h
  obtain ⟨⟨d, S1⟩, h1, h2⟩ := h
  rw [Option.map_eq_some_iff] at h2
  obtain ⟨l, h2, h3⟩ := h2
  cases h3
  refine sE_mk s en h1 fun ι1 H1 v x1 s1 r1 => ?_
  obtain ⟨a, vs, rfl, g, _⟩ := litems_at s1 r1 h2
  refine ⟨a, vs, rfl, SqL.of g, q ι1 H1 _ x1 s1 fun ι2 H2 S2 x2 s2 l2 h4 h5 => ?_⟩
  have h4 : (litems S2 d).map (numbered 0) = some l2 := h4
  rw [Option.map_eq_some_iff] at h4
  obtain ⟨l3, h6, rfl⟩ := h4
  obtain ⟨a2, ws, e2, g2, ru⟩ := litems_at s2 (r1.extW x2) h6
  cases e2
  refine ⟨fun i y hy => ?_, ⟨ws, SqL.of g2, by rw [numbered_length, ru.length]; exact Nat.le_refl _⟩⟩
  rw [numbered_get, Option.map_eq_some_iff] at hy
  obtain ⟨y', hy, rfl⟩ := hy
  obtain ⟨w, hw, rw'⟩ := ru.get hy
  refine ⟨⟨ws, w, SqL.of g2, hw⟩, fun v H3 hy3 => ?_⟩
  obtain ⟨T, x, rfl, hT, rfl, hx⟩ := hy3
  have := hx ws (SqL.of g2)
  rw [hw] at this; cases this
  refine ⟨ι2, Ext.new hT, s2.new hT, T, [.int (i : Nat), w], rfl, .inl (.inl upd_same), ?_⟩
  exact .cons (rep_int.mpr (by simp)) (.cons (rw'.ext (Ext.new hT)) .nil)
end

/-! ### comprehensions -/

theorem wipe_get {σ : L2.St} {own : List Nat} {i : Nat} (h : i ∈ own) : (wipe σ own).set i none = wipe σ own := by
  induction own with
  | nil => cases h
  | cons a r ih =>
    show ((wipe σ r).set a none).set i none = (wipe σ r).set a none
    by_cases e : a = i
    · subst e; rw [List.set_set]
    · rw [List.set_comm _ _ e, ih ((List.mem_cons.mp h).resolve_left fun z => e z.symm)]
theorem wipe_wipe {σ : L2.St} {own : List Nat} : ∀ l : List Nat, (∀ i ∈ l, i ∈ own) → wipe (wipe σ own) l = wipe σ own
  | [], _ => rfl
  | a :: r, h => by
    show (wipe (wipe σ own) r).set a none = _
    rw [wipe_wipe r fun i hi => h i (List.mem_cons_of_mem _ hi), wipe_get (h a List.mem_cons_self)]
theorem Sat.lstAt {K : PySem.W.Frag} {ι : Ad} {H : Hp} {S : Sto} (s : Sat K ι H S) {p : Addr} (hp : H p = none) : p ∉ ι.h := fun z => s.there p (.inr z) hp
section
variable {K : PySem.W.Frag} {tg : Tg} {own : List Nat} {mi : En → Sto → Option (Src × Sto)} {mt : En → Sto → Option (Bool × Sto)} {me mk mv : En → Sto → Option (D × Sto)} {fz : Bool} {σ : L2.St} {H : Hp} {Q : VK}
theorem lc_use (hown : ∀ i ∈ tgIx tg, i ∈ own)
    (h : sE K (fun env S => (mi env S).bind fun s => (loopC s.1 tg (wipeD env own) (fun env1 S1 => (mt env1 S1).bind fun c => if c.1 = true then (me env1 c.2).map fun r => (some r.1, r.2) else some (none, c.2)) s.1.n 0 [] s.2).bind fun r => mkL fz r.1 r.2) σ H Q) :
    tLc (sI K tg mi) (sG K tg) (sT K mt) (sE K me) own σ H Q := by
  obtain ⟨ι, env, S, d, S', s, e, h, q⟩ := h
  simp only [Option.bind_eq_some_iff] at h
  obtain ⟨⟨src, S1⟩, h1, ⟨ds, S2⟩, h2, h3⟩ := h
  dsimp only at h2 h3
  refine ⟨ι, env, S, src, S1, s, e, h1, fun ι1 H1 J x1 s1 sv P hP => ?_⟩
  have e1 := e.ext x1
  have hPh : P ∉ ι1.h := s1.lstAt hP
  generalize hb : (fun (env1 : En) (S1 : Sto) => (mt env1 S1).bind fun c => if c.1 = true then (me env1 c.2).map fun r => (some r.1, r.2) else some (none, c.2)) = body at h2
  refine ⟨fun i m H => ∃ ι2 S3 acc vs, Ext K ι1 H1 ι2 H ∧ Sat K (ι2.hide P) H S3 ∧ H P = some (.lst vs) ∧ Reps K (ι2.hide P) H acc vs ∧ loopC src tg (wipeD env own) body m i acc S3 = some (ds, S2) ∧ i + m = src.n, ?_, ?_⟩
  · exact ⟨src.n, ι1, S1, [], [], Ext.new hP, s1.hide hP, upd_same, .nil, h2, by omega⟩
  · rintro i m H5 ⟨ι2, S3, acc, vs, x2, s2, hP5, ra, hl, hn⟩
    have xw : ExtW K ι1 H1 (ι2.hide P) H5 := ExtW.hide x2 hP
    have hPr : P ∉ ι2.r := s2.apart P List.mem_cons_self
    have hP2 : P ∉ ι2.h := by rw [x2.hid]; exact hPh
    cases m with
    | zero =>
      refine .inl ?_
      simp only [loopC, Option.bind_eq_some_iff] at hl
      obtain ⟨l, hl1, hl2⟩ := hl
      split at hl2
      · rename_i hln
        cases hl2
        have hi : i = l.length := by omega
        refine ⟨by rw [hi]; exact (sv _ _ _ xw s2 l hl1 hln).2, ?_⟩
        have hsz : vs.length ≤ sizeLine := by
          unfold mkL at h3
          split at h3
          · rw [ra.length]; assumption
          · cases h3
        unfold mkL at h3
        split at h3
        · split at h3
          · cases h3
            refine q ι2 H5 _ (x1.trans x2) s2.show (rep_lst.mpr ⟨P, vs, rfl, hP5, ⟨hPr, hP2⟩, ra.shown (fun _ _ h => h) fun a h1 h2 => ⟨h1, fun z => h2 (List.mem_cons_of_mem _ z)⟩⟩)
          · cases h3
            obtain ⟨p1, p2⟩ := push_shown (ι := ι2) hP2
            exact q (ι2.push P) H5 _ (x1.trans (x2.pushed hP)) (s2.pushed hP2 ⟨vs, hP5, ra.shown p1 p2⟩) (rep_ref.mpr ⟨P, rfl, s2.show.last P⟩)
        · cases h3
      · cases hl2
    | succ m =>
      refine .inr ?_
      simp only [loopC, Option.bind_eq_some_iff] at hl
      obtain ⟨l, hl1, hl2⟩ := hl
      split at hl2
      · rename_i hln
        simp only [Option.bind_eq_some_iff] at hl2
        obtain ⟨x, hx, env1, hbt, r, hr, hl3⟩ := hl2
        obtain ⟨go, yl⟩ := (sv _ _ _ xw s2 l hl1 hln).1 i x hx
        refine ⟨go, _, fun H' nx => ⟨m, Nat.lt_succ_self m, nx⟩, fun v H6 hy => ?_⟩
        obtain ⟨ι3, x3, s3, r3⟩ := yl v H6 hy
        have hP6 : H6 P = some (.lst vs) := x3.lst P vs hPr hP5
        have ra6 := ra.ext x3
        refine ⟨ι3, wipeD env own, x, env1, ((e1.extW xw).wipe own).ext x3, r3, hbt, fun σ1 e6 hw => ⟨(hw own hown).trans (wipe_wipe own fun _ h => h), ?_⟩⟩
        subst hb
        simp only [Option.bind_eq_some_iff] at hr
        obtain ⟨⟨b, S4⟩, hr1, hr2⟩ := hr
        refine ⟨ι3, env1, S3, b, S4, s3, e6, hr1, fun ι4 H7 x4 s4 => ?_⟩
        have x34 := x3.trans x4
        cases b with
        | false =>
          simp only [Bool.false_eq_true, if_false, Option.some.injEq] at hr2
          subst hr2
          refine iteF ?_
          obtain ⟨κ, rfl⟩ := x34.hidden
          exact ⟨κ, S4, acc, vs, x2.trans x34.unhide, s4, x34.lst P vs hPr hP5, ra.ext x34, hl3, by omega⟩
        | true =>
          simp only [if_true, Option.map_eq_some_iff] at hr2
          obtain ⟨⟨y, S5⟩, hr3, hr4⟩ := hr2
          subst hr4
          refine iteT ?_
          refine ⟨ι4, env1, S4, y, S5, s4, e6.ext x4, hr3, fun ι5 H8 w x5 s5 r5 => ?_⟩
          have x35 := x34.trans x5
          obtain ⟨κ, rfl⟩ := x35.hidden
          have hP8 := x35.lst P vs hPr hP5
          have hnf : ∀ ob u, H8 P ≠ some (.frz ob u) := fun ob u z => by rw [hP8] at z; cases z
          dsimp only at hl3
          split at hl3
          · rename_i hz
            refine ⟨vs, hP8, by rw [ra.length]; exact hz, ?_⟩
            exact ⟨κ, S5, acc ++ [y], vs ++ [w], (x2.trans x35.unhide).side hP, s5.side hnf, upd_same, (Reps.append (ra.ext x35) (.cons r5 .nil)).side hnf, hl3, by omega⟩
          · cases hl3
      · cases hl2
theorem dc_use (hown : ∀ i ∈ tgIx tg, i ∈ own)
    (h : sE K (fun env S => (mi env S).bind fun s => (loopD s.1 tg (wipeD env own) (fun env1 S1 => (mt env1 S1).bind fun c => if c.1 = true then (mk env1 c.2).bind fun rk => (mv env1 rk.2).map fun r => (some (rk.1, r.1), r.2) else some (none, c.2)) s.1.n 0 [] s.2).bind fun r =>
        some (.ref r.2.length, r.2 ++ [.dic r.1])) σ H Q) :
    tDc (sI K tg mi) (sG K tg) (sT K mt) (sE K mk) (sE K mv) own σ H Q := by
  obtain ⟨ι, env, S, d, S', s, e, h, q⟩ := h
  simp only [Option.bind_eq_some_iff] at h
  obtain ⟨⟨src, S1⟩, h1, ⟨ds, S2⟩, h2, h3⟩ := h
  dsimp only at h2 h3
  cases h3
  refine ⟨ι, env, S, src, S1, s, e, h1, fun ι1 H1 J x1 s1 sv P hP => ?_⟩
  have e1 := e.ext x1
  have hPh : P ∉ ι1.h := s1.lstAt hP
  generalize hb : (fun (env1 : En) (S1 : Sto) => (mt env1 S1).bind fun c => if c.1 = true then (mk env1 c.2).bind fun rk => (mv env1 rk.2).map fun r => (some (rk.1, r.1), r.2) else some (none, c.2)) = body at h2
  refine ⟨fun i m H => ∃ ι2 S3 acc vs, Ext K ι1 H1 ι2 H ∧ Sat K (ι2.hide P) H S3 ∧ H P = some (.dK vs) ∧ Krep K (ι2.hide P) H acc vs ∧ loopD src tg (wipeD env own) body m i acc S3 = some (ds, S2) ∧ i + m = src.n, ?_, ?_⟩
  · exact ⟨src.n, ι1, S1, [], [], Ext.new hP, s1.hide hP, upd_same, by simp [Krep], h2, by omega⟩
  · rintro i m H5 ⟨ι2, S3, acc, vs, x2, s2, hP5, ra, hl, hn⟩
    have xw : ExtW K ι1 H1 (ι2.hide P) H5 := ExtW.hide x2 hP
    have hPr : P ∉ ι2.r := s2.apart P List.mem_cons_self
    have hP2 : P ∉ ι2.h := by rw [x2.hid]; exact hPh
    cases m with
    | zero =>
      refine .inl ?_
      simp only [loopD, Option.bind_eq_some_iff] at hl
      obtain ⟨l, hl1, hl2⟩ := hl
      split at hl2
      · rename_i hln
        cases hl2
        have hi : i = l.length := by omega
        refine ⟨by rw [hi]; exact (sv _ _ _ xw s2 l hl1 hln).2, ?_⟩
        obtain ⟨p1, p2⟩ := push_shown (ι := ι2) hP2
        exact q (ι2.push P) H5 _ (x1.trans (x2.pushed hP)) (s2.pushed hP2 ⟨vs, hP5, ra.shown p1 p2⟩) (rep_ref.mpr ⟨P, rfl, s2.show.last P⟩)
      · cases hl2
    | succ m =>
      refine .inr ?_
      simp only [loopD, Option.bind_eq_some_iff] at hl
      obtain ⟨l, hl1, hl2⟩ := hl
      split at hl2
      · rename_i hln
        simp only [Option.bind_eq_some_iff] at hl2
        obtain ⟨x, hx, env1, hbt, r, hr, hl3⟩ := hl2
        obtain ⟨go, yl⟩ := (sv _ _ _ xw s2 l hl1 hln).1 i x hx
        refine ⟨go, _, fun H' nx => ⟨m, Nat.lt_succ_self m, nx⟩, fun v H6 hy => ?_⟩
        obtain ⟨ι3, x3, s3, r3⟩ := yl v H6 hy
        refine ⟨ι3, wipeD env own, x, env1, ((e1.extW xw).wipe own).ext x3, r3, hbt, fun σ1 e6 hw => ⟨(hw own hown).trans (wipe_wipe own fun _ h => h), ?_⟩⟩
        subst hb
        simp only [Option.bind_eq_some_iff] at hr
        obtain ⟨⟨b, S4⟩, hr1, hr2⟩ := hr
        refine ⟨ι3, env1, S3, b, S4, s3, e6, hr1, fun ι4 H7 x4 s4 => ?_⟩
        have x34 := x3.trans x4
        cases b with
        | false =>
          simp only [Bool.false_eq_true, if_false, Option.some.injEq] at hr2
          subst hr2
          refine iteF ?_
          obtain ⟨κ, rfl⟩ := x34.hidden
          exact ⟨κ, S4, acc, vs, x2.trans x34.unhide, s4, x34.dk P vs hPr hP5, ra.ext x34, hl3, by omega⟩
        | true =>
          simp only [if_true, Option.bind_eq_some_iff, Option.map_eq_some_iff] at hr2
          obtain ⟨⟨yk, S5⟩, hr3, ⟨y, S6⟩, hr4, hr5⟩ := hr2
          subst hr5
          refine iteT ?_
          refine ⟨ι4, env1, S4, yk, S5, s4, e6.ext x4, hr3, fun ι5 H8 wk x5 s5 r5 => ?_⟩
          refine ⟨ι5, env1, S5, y, S6, s5, (e6.ext x4).ext x5, hr4, fun ι6 H9 w x6 s6 r6 => ?_⟩
          have x36 := (x34.trans x5).trans x6
          obtain ⟨κ, rfl⟩ := x36.hidden
          have hP8 := x36.dk P vs hPr hP5
          have hnf : ∀ ob u, H9 P ≠ some (.frz ob u) := fun ob u z => by rw [hP8] at z; cases z
          dsimp only at hl3
          simp only [Option.bind_eq_some_iff] at hl3
          obtain ⟨k, hk, hl3⟩ := hl3
          split at hl3
          · rename_i hz
            refine ⟨vs, k, kd_some hk wk r5, hP8, by rw [ra.length]; exact hz, ?_⟩
            exact ⟨κ, S6, putK acc k y, L2.putK vs k w, (x2.trans x36.unhide).side hP, s6.side hnf, upd_same, (krep_put k (ra.ext x36) r6).side hnf, hl3, by omega⟩
          · cases hl3
      · cases hl2
end
end Tt
end

section
/-! Statements. -/
namespace Tt
open PySem PySem.Spec PyProof.Rows L2

/-- what a statement's end asks -/
def EndOk (K : PySem.W.Frag) (C : Addr) (EX : XK) (ι : Ad) (H : Hp) (D : Ends) : Fl × En × Sto → Prop
  | (.nx, env, S) => ∀ ι' H' σ', Ext K ι H ι' H' → Sat K ι' H' S → Eat K ι' H' env σ' → D.nx σ' H'
  | (.rt d, _, S) => ∀ ι' H' v, Ext K ι H ι' H' → Sat K ι' H' S → Rep K ι' H' d v → D.rt v H'
  | (.bk, env, S) => ∀ ι' H' σ', Ext K ι H ι' H' → Sat K ι' H' S → Eat K ι' H' env σ' → D.bk σ' H'
  | (.ct, env, S) => ∀ ι' H' σ', Ext K ι H ι' H' → Sat K ι' H' S → Eat K ι' H' env σ' → D.ct σ' H'
  | (.rs z, _, S) => ∀ ι' H' p, Ext K ι H ι' H' → Sat K ι' H' S → H' p = some (lineX z) → EX (.ref C) (some p) H'
theorem EndOk.ext {K : PySem.W.Frag} {C : Addr} {EX : XK} {ι ι1 : Ad} {H H1 : Hp} {D : Ends} {r : Fl × En × Sto} (h : EndOk K C EX ι H D r) (x : Ext K ι H ι1 H1) : EndOk K C EX ι1 H1 D r := by
  obtain ⟨f, env, S⟩ := r
  cases f with
  | nx => exact fun ι' H' σ' x' s e => h ι' H' σ' (x.trans x') s e
  | rt d => exact fun ι' H' v x' s e => h ι' H' v (x.trans x') s e
  | bk => exact fun ι' H' σ' x' s e => h ι' H' σ' (x.trans x') s e
  | ct => exact fun ι' H' σ' x' s e => h ι' H' σ' (x.trans x') s e
  | rs z => exact fun ι' H' p x' s e => h ι' H' p (x.trans x') s e
def sS (K : PySem.W.Frag) (C : Addr) (EX : XK) (m : En → Sto → Option (Fl × En × Sto)) : TS := fun D σ H => ∃ ι env S r, Sat K ι H S ∧ Eat K ι H env σ ∧ m env S = some r ∧ EndOk K C EX ι H D r
theorem sS_mk {K : PySem.W.Frag} {C : Addr} {EX : XK} {m : En → Sto → Option (Fl × En × Sto)} {D : Ends} {σ : L2.St} {H : Hp} {ι : Ad} {env : En} {S : Sto} {r : Fl × En × Sto} (s : Sat K ι H S) (e : Eat K ι H env σ) (h : m env S = some r) (q : EndOk K C EX ι H D r) : sS K C EX m D σ H :=
  ⟨ι, env, S, r, s, e, h, q⟩
/-- no comprehension -/
def nc : Expr → Bool
  | .ListComp .. => false | .SetComp .. => false | .DictComp .. => false
  | _ => true
theorem sw_false {e : Expr} (h : nc e = true) (t : Option Expr) (l : Nat) (env : Env) : swapsWith e t l env = pure false := by
  cases e <;> first | rfl | (simp [nc] at h)
def nset : Expr → Bool
  | .Set .. => false
  | _ => true
theorem fsi {e : Expr} (h : nset e = true) (env : Env) (x : Value) : foldedSetIterable e env x = pure x := by
  cases e <;> first | rfl | (simp [nset] at h)

section
variable {X : Cx} {K : PySem.W.Frag} {C : Addr} {EX : XK} {e a b c : Expr} {st : Stmt} {rest : List Stmt} {pos p2 : Pos} {m ma mb mc : En → Sto → Option (D × Sto)} {mt : En → Sto → Option (Bool × Sto)} {ms mr : En → Sto → Option (Fl × En × Sto)}
theorem s_nil : PSs X [] (sS X.K C EX fun env S => some (.nx, env, S)) := by
  refine PSs.imp pss_nil ?_
  rintro D σ H ⟨ι, env, S, r, s, e, h, q⟩
  cases h
  exact q ι H σ .refl s e
theorem s_cons (h1 : PS X st (sS X.K C EX ms)) (h2 : PSs X rest (sS X.K C EX mr)) : PSs X (st :: rest) (sS X.K C EX fun env S => (ms env S).bind fun r => match r with
    | (.nx, e2, S2) => mr e2 S2
    | r => some r) := by
  refine PSs.imp (pss_cons h1 h2) ?_
  rintro D σ H ⟨ι, env, S, r, s, e, h, q⟩
  rw [Option.bind_eq_some_iff] at h
  obtain ⟨⟨f, env1, S1⟩, g1, g2⟩ := h
  refine sS_mk s e g1 ?_
  cases f with
  | nx => exact fun ι' H' σ' x' s' e' => sS_mk s' e' g2 (q.ext x')
  | rt d => cases g2; exact q
  | bk => cases g2; exact q
  | ct => cases g2; exact q
  | rs z => cases g2; exact q
theorem s_set {i : Nat} {x : Str} (hN : X.N.Nodup) (ok : NameOk X i x) (hc : nc e = true) (he : PE X e (sE X.K m)) : PS X (.Assign [.Name x p2] e pos) (sS X.K C EX fun env S => (m env S).map fun p => (.nx, env.set i (some p.1), p.2)) := by
  refine PS.imp (ps_set hN ok.hi ok.hx he (sw_false hc _ _ _) ok.hf) ?_
  rintro D σ H ⟨ι, env, S, r, s, e, h, q⟩
  rw [Option.map_eq_some_iff] at h
  obtain ⟨⟨d, S1⟩, g1, g2⟩ := h
  subst g2
  exact sE_mk s e g1 fun ι1 H1 v x1 s1 r1 => q ι1 H1 _ x1 s1 ((e.ext x1).set r1 i)
theorem s_unpack {tg : Expr} {is : List Nat} (hg : PG X tg (sG X.K (.many is))) (hc : nc e = true) (hsw : swappedStores [tg] e X.env = pure none) (h1 : (assignEach [tg] X.env).map (·.2) = [assign tg X.env]) (he : PE X e (sE X.K m)) :
    PS X (.Assign [tg] e pos) (sS X.K C EX fun env S => (m env S).bind fun p => match p.1 with
      | .tup ds => (setAll is ds env).map fun env1 => (.nx, env1, p.2)
      | _ => none) := by
  refine PS.imp (ps_asg he hg (sw_false hc _ _ _) hsw h1) ?_
  rintro D σ H ⟨ι, env, S, r, s, e, h, q⟩
  rw [Option.bind_eq_some_iff] at h
  obtain ⟨⟨d, S1⟩, g1, g2⟩ := h
  cases d <;> first
    | (simp at g2; done)
    | skip
  rename_i ds
  simp only [Option.map_eq_some_iff] at g2
  obtain ⟨env1, g2, g3⟩ := g2
  subst g3
  refine sE_mk s e g1 fun ι1 H1 v x1 s1 r1 => ?_
  exact ⟨ι1, env, .tup ds, env1, e.ext x1, r1.w, g2, fun σ1 e1 _ => q ι1 H1 σ1 x1 s1 e1⟩
theorem s_expr (hc : nc e = true) (he : PE X e (sE X.K m)) : PS X (.Expr e pos) (sS X.K C EX fun env S => (m env S).map fun p => (.nx, env, p.2)) := by
  refine PS.imp (ps_expr he (sw_false hc _ _ _)) ?_
  rintro D σ H ⟨ι, env, S, r, s, e, h, q⟩
  rw [Option.map_eq_some_iff] at h
  obtain ⟨⟨d, S1⟩, g1, g2⟩ := h
  subst g2
  exact sE_mk s e g1 fun ι1 H1 v x1 s1 r1 => q ι1 H1 _ x1 s1 (e.ext x1)
theorem s_ret (he : PE X e (sE X.K m)) : PS X (.Return (some e) pos) (sS X.K C EX fun env S => (m env S).map fun p => (.rt p.1, env, p.2)) := by
  refine PS.imp (ps_ret he) ?_
  rintro D σ H ⟨ι, env, S, r, s, e, h, q⟩
  rw [Option.map_eq_some_iff] at h
  obtain ⟨⟨d, S1⟩, g1, g2⟩ := h
  subst g2
  exact sE_mk s e g1 fun ι1 H1 v x1 s1 r1 => q ι1 H1 _ x1 s1 r1
theorem s_retN : PS X (.Return none pos) (sS X.K C EX fun env S => some (.rt .non, env, S)) := by
  refine PS.imp ps_retN ?_
  rintro D σ H ⟨ι, env, S, r, s, e, h, q⟩
  cases h
  exact q ι H _ .refl s (rep_non.mpr rfl)
theorem s_pass : PS X (.Pass pos) (sS X.K C EX fun env S => some (.nx, env, S)) := by
  refine PS.imp ps_pass ?_
  rintro D σ H ⟨ι, env, S, r, s, e, h, q⟩
  cases h
  exact q ι H _ .refl s e
theorem s_doc {x j} : PS X (.Expr (.Constant (.str x) j p2) pos) (sS X.K C EX fun env S => some (.nx, env, S)) := by
  refine PS.imp ps_doc ?_
  rintro D σ H ⟨ι, env, S, r, s, e, h, q⟩
  cases h
  exact q ι H _ .refl s e
theorem s_brk : PS X (.Break pos) (sS X.K C EX fun env S => some (.bk, env, S)) := by
  refine PS.imp ps_break ?_
  rintro D σ H ⟨ι, env, S, r, s, e, h, q⟩
  cases h
  exact q ι H _ .refl s e
theorem s_cont : PS X (.Continue pos) (sS X.K C EX fun env S => some (.ct, env, S)) := by
  refine PS.imp ps_continue ?_
  rintro D σ H ⟨ι, env, S, r, s, e, h, q⟩
  cases h
  exact q ι H _ .refl s e
theorem s_never : PS X st (sS X.K C EX fun _ _ => none) := by
  refine PS.imp ps_never ?_
  rintro D σ H ⟨ι, env, S, r, s, e, h, q⟩
  cases h
theorem s_if {as bs : List Stmt} (hc : PT X c (sT X.K mt)) (ha : PSs X as (sS X.K C EX ms)) (hb : PSs X bs (sS X.K C EX mr)) : PS X (.If c as bs pos) (sS X.K C EX fun env S => (mt env S).bind fun p => if p.1 = true then ms env p.2 else mr env p.2) := by
  refine PS.imp (ps_if hc ha hb) ?_
  rintro D σ H ⟨ι, env, S, r, s, e, h, q⟩
  rw [Option.bind_eq_some_iff] at h
  obtain ⟨⟨k, S1⟩, g1, g2⟩ := h
  refine sT_mk s e g1 fun ι1 H1 x1 s1 => ?_
  cases k with
  | true => exact iteT (sS_mk s1 (e.ext x1) g2 (q.ext x1))
  | false => exact iteF (sS_mk s1 (e.ext x1) g2 (q.ext x1))
theorem s_while {body : List Stmt} {n : Nat} (hp : PassesOwn (model X.prog X.w) X.A X.env X.xe) (hc : PT X c (sT X.K mt)) (hb : PSs X body (sS X.K C EX ms)) : PS X (.While c body [] pos) (sS X.K C EX fun env S => whL mt ms n env S) := by
  refine PS.imp (ps_while hp hc hb) ?_
  rintro D σ H ⟨ι, env, S, r, s, e, h, q⟩
  refine ⟨fun m σ H => ∃ ι1 env S, Sat X.K ι1 H S ∧ Eat X.K ι1 H env σ ∧ whL mt ms m env S = some r ∧ EndOk X.K C EX ι1 H D r, ⟨n, ι, env, S, s, e, h, q⟩, ?_⟩
  rintro m σ1 H1 ⟨ι1, env1, S1, s1, e1, h1, q1⟩
  cases m with
  | zero => cases h1
  | succ m =>
    simp only [whL, Option.bind_eq_some_iff] at h1
    obtain ⟨⟨k, S2⟩, g1, g2⟩ := h1
    refine sT_mk s1 e1 g1 fun ι2 H2 x2 s2 => ?_
    cases k with
    | false =>
      refine iteF ?_
      simp only [Bool.false_eq_true, if_false, Option.some.injEq] at g2
      subst g2
      exact q1 ι2 H2 σ1 x2 s2 (e1.ext x2)
    | true =>
      refine iteT ?_
      simp only [if_true, Option.bind_eq_some_iff] at g2
      obtain ⟨⟨f, env2, S3⟩, g3, g4⟩ := g2
      refine ⟨_, fun σ' H' n => ⟨m, Nat.lt_succ_self m, n⟩, sS_mk s2 (e1.ext x2) g3 ?_⟩
      cases f with
      | nx => exact fun ι' H' σ' x' s' e' => ⟨ι', env2, S3, s', e', g4, (q1.ext x2).ext x'⟩
      | ct => exact fun ι' H' σ' x' s' e' => ⟨ι', env2, S3, s', e', g4, (q1.ext x2).ext x'⟩
      | bk => cases g4; exact fun ι' H' σ' x' s' e' => q1 ι' H' σ' (x2.trans x') s' e'
      | rt d => cases g4; exact fun ι' H' v x' s' r' => q1 ι' H' v (x2.trans x') s' r'
      | rs z => cases g4; exact fun ι' H' p x' s' r' => q1 ι' H' p (x2.trans x') s' r'
theorem s_for {tgx iter : Expr} {tg : Tg} {mi : En → Sto → Option (Src × Sto)} {body : List Stmt} (hp : PassesOwn (model X.prog X.w) X.A X.env X.xe) (hc : X.calm = true) (hi : PI X tgx iter (sI X.K tg mi)) (hg : PG X tgx (sG X.K tg)) (hb : PSs X body (sS X.K C EX ms)) (hs : nset iter = true) :
    PS X (.For tgx iter body [] pos) (sS X.K C EX fun env S => (mi env S).bind fun s => loopL s.1 tg ms s.1.n 0 env s.2) := by
  refine PS.imp (ps_for hp hc hi hg hb (fsi hs _)) ?_
  rintro D σ H ⟨ι, env, S, r, s, e, h, q⟩
  rw [Option.bind_eq_some_iff] at h
  obtain ⟨⟨src, S1⟩, h1, h2⟩ := h
  refine ⟨ι, env, S, src, S1, s, e, h1, fun ι1 H1 J x1 s1 sv => ?_⟩
  dsimp only at h2
  refine ⟨fun i m σ H => ∃ ι2 env2 S2, Ext X.K ι1 H1 ι2 H ∧ Sat X.K ι2 H S2 ∧ Eat X.K ι2 H env2 σ ∧ loopL src tg ms m i env2 S2 = some r ∧ i + m = src.n, ⟨src.n, ι1, env, S1, .refl, s1, e.ext x1, h2, by omega⟩, ?_⟩
  rintro i m σ2 H2 ⟨ι2, env2, S2, x2, s2, e2, hl, hn⟩
  have q2 := (q.ext x1).ext x2
  cases m with
  | zero =>
    refine .inl ?_
    simp only [loopL, Option.bind_eq_some_iff] at hl
    obtain ⟨l, hl1, hl2⟩ := hl
    split at hl2
    · rename_i hln
      cases hl2
      have hi : i = l.length := by omega
      exact ⟨by rw [hi]; exact (sv _ _ _ x2.w s2 l hl1 hln).2, q2 ι2 H2 σ2 .refl s2 e2⟩
    · cases hl2
  | succ m =>
    refine .inr ?_
    simp only [loopL, Option.bind_eq_some_iff] at hl
    obtain ⟨l, hl1, hl2⟩ := hl
    split at hl2
    · rename_i hln
      simp only [Option.bind_eq_some_iff] at hl2
      obtain ⟨x, hx, env3, hbt, ⟨f, env4, S4⟩, hr, hl3⟩ := hl2
      obtain ⟨go, yl⟩ := (sv _ _ _ x2.w s2 l hl1 hln).1 i x hx
      refine ⟨go, _, fun σ' H' nx => ⟨m, Nat.lt_succ_self m, nx⟩, fun v H3 hy => ?_⟩
      obtain ⟨ι3, x3, s3, r3⟩ := yl v H3 hy
      refine ⟨ι3, env2, x, env3, e2.ext x3, r3, hbt, fun σ3 e3 _ => ?_⟩
      refine sS_mk s3 e3 hr ?_
      cases f with
      | nx => exact fun ι' H' σ' x' s' e' => ⟨ι', env4, S4, (x2.trans x3).trans x', s', e', hl3, by omega⟩
      | ct => exact fun ι' H' σ' x' s' e' => ⟨ι', env4, S4, (x2.trans x3).trans x', s', e', hl3, by omega⟩
      | bk => cases hl3; exact fun ι' H' σ' x' s' e' => q2 ι' H' σ' (x3.trans x') s' e'
      | rt d => cases hl3; exact fun ι' H' v x' s' r' => q2 ι' H' v (x3.trans x') s' r'
      | rs z => cases hl3; exact fun ι' H' p x' s' r' => q2 ι' H' p (x3.trans x') s' r'
    · cases hl2
/-- name op= e -/
theorem s_aug {i : Nat} {x : Str} {op : Bop} {o : Operator} (hop : (op = .add ∧ o = .Add) ∨ (op = .sub ∧ o = .Sub)) (hN : X.N.Nodup) (ok : NameOk X i x) (he : PE X e (sE X.K m)) : PS X (.AugAssign (.Name x p2) o e pos) (sS X.K C EX fun env S => match env[i]? with
      | some (some x) => (m env S).bind fun p => (augD op x p.1).map fun y => (.nx, env.set i (some y), p.2)
      | _ => none) := by
  have key : ∀ (g : Int → Int → Int) (ip : PIp X o (ipI g)), (∀ a b, augD op (.int a) (.int b) = some (.int (g a b))) → (∀ a b y, augD op a b = some y → ∃ j k, a = .int j ∧ b = .int k) → PS X (.AugAssign (.Name x p2) o e pos) (sS X.K C EX fun env S => match env[i]? with
      | some (some x) => (m env S).bind fun p => (augD op x p.1).map fun y => (.nx, env.set i (some y), p.2)
      | _ => none) := by
    intro g ip h0 h1
    refine PS.imp (ps_aug hN ok.hi ok.hx he ip ok.hf) ?_
    rintro D σ H ⟨ι, env, S, r, s, e, h, q⟩
    dsimp only at h
    split at h
    · rename_i x hx
      simp only [Option.bind_eq_some_iff, Option.map_eq_some_iff] at h
      obtain ⟨⟨d, S1⟩, g1, y, g2, g3⟩ := h
      subst g3
      obtain ⟨j, k, hj, hk⟩ := h1 _ _ _ g2
      dsimp only at hk
      subst hj hk
      rw [h0] at g2; cases g2
      obtain ⟨v, h1, h2⟩ := e.at_ i _ hx
      rw [rep_int] at h2; subst h2
      refine ⟨_, h1, sE_mk s e g1 fun ι1 H1 v x1 s1 r1 => ?_⟩
      rw [rep_int] at r1; subst r1
      exact ⟨j, k, rfl, rfl, q ι1 H1 _ x1 s1 ((e.ext x1).set (rep_int.mpr rfl) i)⟩
    · cases h
  rcases hop with ⟨rfl, rfl⟩ | ⟨rfl, rfl⟩
  · exact key _ ip_add (fun _ _ => rfl) fun a b y h => by cases a <;> first | (simp [augD] at h; done) | (cases b <;> first | (simp [augD] at h; done) | exact ⟨_, _, rfl, rfl⟩)
  · exact key _ ip_sub (fun _ _ => rfl) fun a b y h => by cases a <;> first | (simp [augD] at h; done) | (cases b <;> first | (simp [augD] at h; done) | exact ⟨_, _, rfl, rfl⟩)
/-- o[i] = v -/
def rSetAll (K : PySem.W.Frag) : TSet := fun o i v H Q => rSetL o i v H Q ∨ rSetD o i v H Q
theorem set_all (hu : X.A.units + 1 < cLine) : PSet X (rSetAll X.K) := by
  intro pins s σ H o i v ov iv u Q I r1 r2 r3 h
  rcases h with h | h
  · exact set_list pins s σ H o i v ov iv u Q I r1 r2 r3 h
  · exact set_dict hu pins s σ H o i v ov iv u Q I r1 r2 r3 h
theorem setIx_at {ι : Ad} {H : Hp} {S S' : Sto} {o i v : D} {x y w : V} {Q : Hp → Prop} (s : Sat K ι H S) (r1 : Rep K ι H o x) (r2 : Rep K ι H i y) (r3 : Rep K ι H v w) (h : setIxD o i v S = some S')
    (q : ∀ H', Ext K ι H ι H' → Sat K ι H' S' → Q H') : rSetAll K x y w H Q := by
  cases o <;> first
    | (simp [setIxD] at h; done)
    | skip
  rename_i n
  simp only [setIxD] at h
  cases g : S[n]? with
  | none => rw [g] at h; cases h
  | some ob =>
    rw [g] at h
    cases ob with
    | lst l =>
      cases i <;> first
        | (simp at h; done)
        | skip
      rename_i k
      simp only [Option.map_eq_some_iff] at h
      obtain ⟨j, h1, h2⟩ := h
      subst h2
      rw [rep_int] at r2; subst r2
      obtain ⟨a, us, rfl, ha, g2, ru⟩ := lst_at s r1 g
      obtain ⟨x', s'⟩ := write_lst s ha g2 (ru.set j r3)
      exact .inl ⟨a, us, k, j, rfl, rfl, g2, by rw [ru.length]; exact h1, q _ x' s'⟩
    | dic kvs =>
      simp only [Option.bind_eq_some_iff] at h
      obtain ⟨k, h1, h2⟩ := h
      split at h2
      · cases h2
        obtain ⟨a, ws, rfl, ha, g2, ru⟩ := dic_at s r1 g
        have hm : Mut (H a) := by rw [g2]; trivial
        have x' : Ext K ι H ι (upd H a (.dK (L2.putK ws k w))) := Ext.write (List.mem_of_getElem? ha) hm
        have := kd_some h1 y r2
        subst this
        exact .inr ⟨a, _, rfl, DPut.k g2 (by rw [ru.length]; assumption), q _ x' (s.write ha hm ⟨_, upd_same, (krep_put k ru r3).ext x'⟩)⟩
      · cases h2
    | dead => cases h
theorem s_setIx {tpos : Pos} (hu : X.A.units + 1 < cLine) (hc : nc a = true) (hv : PE X a (sE X.K ma)) (ho : PE X b (sE X.K mb)) (hi : PE X c (sE X.K mc))
    (ha : ∀ v, assign (.Subscript b c tpos) X.env v = (do
      let ov ← holding [v] (eval b X.env)
      let iv ← holding [v, ov] (eval c X.env)
      standAt tpos
      holding [v, ov, iv] (setItem ov iv v)
      release [v, ov, iv] [])) (h1 : (assignEach [.Subscript b c tpos] X.env).map (·.2) = [assign (.Subscript b c tpos) X.env]) (hsw : swappedStores [.Subscript b c tpos] a X.env = pure none) :
    PS X (.Assign [.Subscript b c tpos] a pos) (sS X.K C EX fun env S => (ma env S).bind fun p => (mb env p.2).bind fun q => (mc env q.2).bind fun r => (setIxD q.1 r.1 p.1 r.2).map fun S' => (.nx, env, S')) := by
  refine PS.imp (ps_asg hv (pg_sub ho hi (set_all hu) ha) (sw_false hc (some (.Subscript b c tpos)) pos.line X.env) hsw h1) ?_
  rintro D σ H ⟨ι, env, S, r, s, e, h, q⟩
  simp only [Option.bind_eq_some_iff, Option.map_eq_some_iff] at h
  obtain ⟨⟨dv, S1⟩, g1, ⟨dob, S2⟩, g2, ⟨di, S3⟩, g3, S4, g4, g5⟩ := h
  subst g5
  refine sE_mk s e g1 fun ι1 H1 v x1 s1 r1 => ?_
  refine sE_mk s1 (e.ext x1) g2 fun ι2 H2 x x2 s2 r2 => ?_
  refine sE_mk s2 ((e.ext x1).ext x2) g3 fun ι3 H3 y x3 s3 r3 => ?_
  refine setIx_at s3 (r2.ext x3) r3 ((r1.ext x2).ext x3) g4 fun H' x' s' => ?_
  have xx := ((x1.trans x2).trans x3).trans x'
  exact q ι3 H' σ xx s' (e.ext xx)
end
end Tt
end

section
/-! Statements that may raise. -/
namespace Tt
open PySem PySem.Spec PyProof.Rows L2
section
variable {X : Cx} {K : PySem.W.Frag} {C fI cc cda : Addr} {EX : XK} {e a b c : Expr} {es : List Expr} {pos p2 : Pos} {m ma : En → Sto → Option (D × Sto)} {mt : En → Sto → Option (Bool × Sto)} {mr ms : En → Sto → Option (Rz × Sto)} {ml : En → Sto → Option ((List D ⊕ Int) × Sto)}
theorem sR_mk {ι : Ad} {env : En} {S S' : Sto} {r : Rz} {σ : L2.St} {H : Hp} {Q : VK} (s : Sat K ι H S) (en : Eat K ι H env σ) (h : mr env S = some (r, S')) (q : RzOk K C ι H Q EX S' r) : sR K C EX mr σ H Q := ⟨ι, env, S, r, S', s, en, h, q⟩
/-- a call, in a context that takes what it raises -/
theorem r_callP {k : Nat} {cal : Cal} {j : Nat} {x : Str} {p : Pos} {mx : En → Sto → Option (List D × Sto)} (hx : Passes (L2.CX X.prog X.w) X EX) (F : FnAt X C k cal j x) (hr : Room k X.A) (hg : Gl X x) (hns : (e :: es).all ns = true) (hdb : (x == ("__debug__" : Str)) = false) (h : PA X (e :: es) (sA X.K mx)) :
    PE X (.Call (.Name x p) (e :: es) [] pos) (sR X.K C EX fun env S => (mx env S).bind fun p => cal j p.1 p.2) := by
  obtain ⟨f, fd, ps, hm, hk, hb, G⟩ := F.ex
  rw [List.all_cons, Bool.and_eq_true] at hns
  refine PE.imp (pe_call (E := EX) G hr hg hm hk hb .nil hx h hdb (ns_cons hns.1 es X.env) (ns_any pos X.env es hns.2)) ?_
  rintro σ H Q ⟨ι, env, S, r, S', s, en, h, q⟩
  rw [Option.bind_eq_some_iff] at h
  obtain ⟨⟨ds, S1⟩, h1, h2⟩ := h
  exact ⟨ι, env, S, ds, S1, s, en, h1, fun ι1 H1 vs x1 s1 r1 => ⟨ι1, S1, ds, r, S', s1, by rw [List.append_nil]; exact r1, h2, q.ext x1⟩⟩
/-- lists of such -/
theorem rs_nil : PA X [] (sRs X.K C EX fun _ S => some (.inl [], S)) := by
  refine PA.imp pa_nil ?_
  rintro σ H Q ⟨ι, env, S, r, S', s, en, h, q⟩
  cases h
  exact q ι H [] .refl s .nil
theorem rs_cons (ha : PE X e (sR X.K C EX mr)) (hr : PA X es (sRs X.K C EX ml)) (hs : ns e = true) :
    PA X (e :: es) (sRs X.K C EX fun env S => (mr env S).bind fun p => match p.1 with
      | .ok d => (ml env p.2).map fun q => match q.1 with
        | .inl ds => (.inl (d :: ds), q.2)
        | .inr z => (.inr z, q.2)
      | .er z => some (.inr z, p.2)) := by
  refine PA.imp (pa_cons ha hr (ns_cons hs _ _)) ?_
  rintro σ H Q ⟨ι, env, S, r, S', s, en, h, q⟩
  rw [Option.bind_eq_some_iff] at h
  obtain ⟨⟨r1, S1⟩, h1, h2⟩ := h
  refine sR_mk s en h1 ?_
  cases r1 with
  | er z => cases h2; exact q
  | ok d =>
    simp only [Option.map_eq_some_iff] at h2
    obtain ⟨⟨r2, S2⟩, h2, h3⟩ := h2
    intro ι1 H1 v x1 s1 rv
    refine ⟨ι1, env, S1, r2, S2, s1, en.ext x1, h2, ?_⟩
    cases r2 with
    | inl ds => cases h3; exact fun ι2 H2 vs x2 s2 rs => q ι2 H2 _ (x1.trans x2) s2 (.cons (rv.ext x2) rs)
    | inr z => cases h3; exact fun ι2 H2 p x2 s2 hp => q ι2 H2 p (x1.trans x2) s2 hp
theorem r_tup {k : Nat} (h : PA X es (sRs X.K C EX ml)) : PE X (.Tuple es k pos) (sR X.K C EX fun env S => (ml env S).bind fun p => match p.1 with
    | .inl ds => if ds.length ≤ sizeLine then some (.ok (.tup ds), p.2) else none
    | .inr z => some (.er z, p.2)) := by
  refine PE.imp (pe_tupS h) ?_
  rintro σ H Q ⟨ι, env, S, r, S', s, en, h, q⟩
  rw [Option.bind_eq_some_iff] at h
  obtain ⟨⟨r1, S1⟩, h1, h2⟩ := h
  refine ⟨ι, env, S, r1, S1, s, en, h1, ?_⟩
  cases r1 with
  | inr z => cases h2; exact q
  | inl ds =>
    dsimp only at h2
    split at h2
    · cases h2
      exact fun ι1 H1 vs x1 s1 rv => ⟨by rw [rv.length]; assumption, tup_at s1 rv fun ι' H' v x' s' r' => q ι' H' v (x1.trans x') s' r'⟩
    · cases h2
theorem r_ite (hc : PT X c (sT X.K mt)) (ha : PE X a (sR X.K C EX mr)) (hb : PE X b (sR X.K C EX ms)) : PE X (.IfExp c a b pos) (sR X.K C EX fun env S => (mt env S).bind fun p => if p.1 = true then mr env p.2 else ms env p.2) := by
  refine PE.imp (pe_ifExp hc ha hb) ?_
  rintro σ H Q ⟨ι, env, S, r, S', s, en, h, q⟩
  rw [Option.bind_eq_some_iff] at h
  obtain ⟨⟨x, S1⟩, h1, h2⟩ := h
  refine sT_mk s en h1 fun ι1 H1 x1 s1 => ?_
  dsimp only at h2
  cases x with
  | true =>
    rw [if_pos rfl] at h2 ⊢
    exact sR_mk s1 (en.ext x1) h2 (q.ext x1)
  | false =>
    rw [if_neg Bool.false_ne_true] at h2 ⊢
    exact sR_mk s1 (en.ext x1) h2 (q.ext x1)
/-! ### statements -/
theorem s_raise {p pos2 : Pos} {k : Nat} (hc : X.calm = true) (T : TE.Txt X.prog X.K X.mg C fI cc cda) (hr : Room k X.A) (tk : Takes X fun cls d _ H => EX cls d H) (hns : ns a = true) (hg : Gl X "TextError") (ha : PE X a (sE X.K m)) :
    PS X (.Raise (some (.Call (.Name "TextError" p) [a] [] pos)) none pos2) (sS X.K C EX fun env S => (m env S).bind fun p => match p.1 with
      | .int z => some (.rs z, env, p.2)
      | _ => none) := by
  refine PS.imp (ps_te hc T hr tk (pa_cons ha pa_nil (ns_cons hns _ _)) hg (ns_cons hns _ _) rfl) ?_
  rintro D σ H ⟨ι, env, S, r, s, e, h, q⟩
  rw [Option.bind_eq_some_iff] at h
  obtain ⟨⟨d, S1⟩, g1, g2⟩ := h
  cases d <;> first
    | (simp at g2; done)
    | skip
  rename_i z
  simp only [Option.some.injEq] at g2
  subst g2
  refine sE_mk s e g1 fun ι1 H1 v x1 s1 r1 => ?_
  rw [rep_int] at r1; subst r1
  exact ⟨.int z, rfl, fun p hp => q ι1 _ p (x1.trans (Ext.new hp)) (s1.new hp) upd_same⟩
theorem s_setR {i : Nat} {x : Str} (hN : X.N.Nodup) (ok : NameOk X i x) (hc : nc e = true) (he : PE X e (sR X.K C EX mr)) : PS X (.Assign [.Name x p2] e pos) (sS X.K C EX fun env S => (mr env S).map fun p => match p.1 with
      | .ok y => (.nx, env.set i (some y), p.2)
      | .er z => (.rs z, env, p.2)) := by
  refine PS.imp (ps_set hN ok.hi ok.hx he (sw_false hc _ _ _) ok.hf) ?_
  rintro D σ H ⟨ι, env, S, r, s, e, h, q⟩
  rw [Option.map_eq_some_iff] at h
  obtain ⟨⟨r1, S1⟩, g1, g2⟩ := h
  refine sR_mk s e g1 ?_
  cases r1 with
  | ok d => cases g2; exact fun ι1 H1 v x1 s1 rv => q ι1 H1 _ x1 s1 ((e.ext x1).set rv i)
  | er z => cases g2; exact q
theorem s_retR (he : PE X e (sR X.K C EX mr)) : PS X (.Return (some e) pos) (sS X.K C EX fun env S => (mr env S).map fun p => match p.1 with
      | .ok y => (.rt y, env, p.2)
      | .er z => (.rs z, env, p.2)) := by
  refine PS.imp (ps_ret he) ?_
  rintro D σ H ⟨ι, env, S, r, s, e, h, q⟩
  rw [Option.map_eq_some_iff] at h
  obtain ⟨⟨r1, S1⟩, g1, g2⟩ := h
  refine sR_mk s e g1 ?_
  cases r1 with
  | ok d => cases g2; exact q
  | er z => cases g2; exact q
theorem s_appR {apos cpos : Pos} (hb : okBase a = true) (hl : (apos.endLine == cpos.line) = true) (hns : ns e = true) (ho : PE X a (sE X.K ma)) (h : PE X e (sR X.K C EX mr)) : PS X (.Expr (.Call (.Attribute a "append" apos) [e] [] cpos) pos) (sS X.K C EX fun env S => (ma env S).bind fun q => if mthChk .append q.1 q.2 = true then (mr env q.2).bind fun p => match p.1 with
      | .ok y => (mthD .append q.1 [y] p.2).map fun u => (.nx, env, u.2)
      | .er z => some (.rs z, env, p.2) else none) := by
  obtain ⟨id, r, pa, sl, ty, hm, ok⟩ := (mth_ok (X := X) .append).ex
  have h0 : [e].all ns = true := by rw [List.all_cons, hns]; rfl
  have key : PE X (.Call (.Attribute a "append" apos) [e] [] cpos) _ := pe_bm pa sl ty hm ho (pa_cons h pa_nil (ns_cons hns _ _)) (base_ok hb _ _) (by rw [ns_all cpos X.env [e] h0]; rfl) hl (ns_cons hns _ _) rfl
  refine PS.imp (ps_expr key (sw_false rfl _ _ _)) ?_
  rintro D σ H ⟨ι, env, S, r, s, en, h, q⟩
  simp only [Option.bind_eq_some_iff] at h
  obtain ⟨⟨x, S1⟩, h1, h2⟩ := h
  split at h2
  · rename_i hchk
    simp only [Option.bind_eq_some_iff] at h2
    obtain ⟨⟨r1, S2⟩, h3, h4⟩ := h2
    refine sE_mk s en h1 fun ι1 H1 v x1 s1 rv => ⟨mth_ty s1 rv hchk, ?_⟩
    refine sR_mk s1 (en.ext x1) h3 ?_
    cases r1 with
    | er z => cases h4; exact fun ι2 H2 p x2 s2 hp => q ι2 H2 p (x1.trans x2) s2 hp
    | ok y =>
      simp only [Option.map_eq_some_iff] at h4
      obtain ⟨⟨u, S3⟩, h5, h6⟩ := h4
      subst h6
      intro ι2 H2 w x2 s2 rw2
      exact ok ι2 H2 S2 x [y] v [w] u S3 _ s2 (rv.ext x2) (.cons rw2 .nil) h5 fun ι' H' v' x' s' r' => q ι' H' σ ((x1.trans x2).trans x') s' (((en.ext x1).ext x2).ext x')
  · cases h2
end
end Tt
end

section
/-! Comprehensions that may raise; try. -/
namespace Tt
open PySem PySem.Spec PyProof.Rows L2
section
variable {K : PySem.W.Frag} {C : Addr} {EX : XK} {tg : Tg} {own : List Nat} {mi : En → Sto → Option (Src × Sto)} {mr : En → Sto → Option (Rz × Sto)} {σ : L2.St} {H : Hp} {Q : VK}
/-- the list that comes about, or an error -/
def LxOk (K : PySem.W.Frag) (C : Addr) (ι : Ad) (H : Hp) (Q : VK) (EX : XK) (S : Sto) : List D ⊕ Int → Prop
  | .inl l => ∀ ι' H' v, Ext K ι H ι' H' → Sat K ι' H' S → Rep K ι' H' (.lst l) v → Q v H'
  | .inr z => ∀ ι' H' p, Ext K ι H ι' H' → Sat K ι' H' S → H' p = some (lineX z) → EX (.ref C) (some p) H'
theorem lx_use (hown : ∀ i ∈ tgIx tg, i ∈ own)
    (h : ∃ ι env S r S', Sat K ι H S ∧ Eat K ι H env σ ∧ ((mi env S).bind fun s => loopX s.1 tg (wipeD env own) mr s.1.n 0 [] s.2) = some (r, S') ∧ LxOk K C ι H Q EX S' r) :
    tLc (sI K tg mi) (sG K tg) tYes (sR K C EX mr) own σ H Q := by
  obtain ⟨ι, env, S, r, S', s, e, h, q⟩ := h
  simp only [Option.bind_eq_some_iff] at h
  obtain ⟨⟨src, S1⟩, h1, h2⟩ := h
  dsimp only at h2
  refine ⟨ι, env, S, src, S1, s, e, h1, fun ι1 H1 J x1 s1 sv P hP => ?_⟩
  have e1 := e.ext x1
  have hPh : P ∉ ι1.h := s1.lstAt hP
  refine ⟨fun i m H => ∃ ι2 S3 acc vs, Ext K ι1 H1 ι2 H ∧ Sat K (ι2.hide P) H S3 ∧ H P = some (.lst vs) ∧ Reps K (ι2.hide P) H acc vs ∧ loopX src tg (wipeD env own) mr m i acc S3 = some (r, S') ∧ i + m = src.n, ?_, ?_⟩
  · exact ⟨src.n, ι1, S1, [], [], Ext.new hP, s1.hide hP, upd_same, .nil, h2, by omega⟩
  · rintro i m H5 ⟨ι2, S3, acc, vs, x2, s2, hP5, ra, hl, hn⟩
    have xw : ExtW K ι1 H1 (ι2.hide P) H5 := ExtW.hide x2 hP
    have hPr : P ∉ ι2.r := s2.apart P List.mem_cons_self
    have hP2 : P ∉ ι2.h := by rw [x2.hid]; exact hPh
    cases m with
    | zero =>
      refine .inl ?_
      simp only [loopX, Option.bind_eq_some_iff] at hl
      obtain ⟨l, hl1, hl2⟩ := hl
      split at hl2
      · rename_i hln
        cases hl2
        have hi : i = l.length := by omega
        refine ⟨by rw [hi]; exact (sv _ _ _ xw s2 l hl1 hln).2, ?_⟩
        exact q ι2 H5 _ (x1.trans x2) s2.show (rep_lst.mpr ⟨P, vs, rfl, hP5, ⟨hPr, hP2⟩, ra.shown (fun _ _ h => h) fun a h1 h2 => ⟨h1, fun z => h2 (List.mem_cons_of_mem _ z)⟩⟩)
      · cases hl2
    | succ m =>
      refine .inr ?_
      simp only [loopX, Option.bind_eq_some_iff] at hl
      obtain ⟨l, hl1, hl2⟩ := hl
      split at hl2
      · rename_i hln
        simp only [Option.bind_eq_some_iff] at hl2
        obtain ⟨x, hx, env1, hbt, ⟨r1, S4⟩, hr, hl3⟩ := hl2
        obtain ⟨go, yl⟩ := (sv _ _ _ xw s2 l hl1 hln).1 i x hx
        refine ⟨go, _, fun H' nx => ⟨m, Nat.lt_succ_self m, nx⟩, fun v H6 hy => ?_⟩
        obtain ⟨ι3, x3, s3, r3⟩ := yl v H6 hy
        have ra6 := ra.ext x3
        refine ⟨ι3, wipeD env own, x, env1, ((e1.extW xw).wipe own).ext x3, r3, hbt, fun σ1 e6 hw => ⟨(hw own hown).trans (wipe_wipe own fun _ h => h), ?_⟩⟩
        simp only [tYes, if_true]
        refine ⟨ι3, env1, S3, r1, S4, s3, e6, hr, ?_⟩
        cases r1 with
        | ok y =>
          intro ι5 H8 w x5 s5 r5
          have x35 := x3.trans x5
          obtain ⟨κ, rfl⟩ := x35.hidden
          have hP8 := x35.lst P vs hPr hP5
          have hnf : ∀ ob u, H8 P ≠ some (.frz ob u) := fun ob u z => by rw [hP8] at z; cases z
          dsimp only at hl3
          split at hl3
          · rename_i hz
            refine ⟨vs, hP8, by rw [ra.length]; exact hz, ?_⟩
            exact ⟨κ, S4, acc ++ [y], vs ++ [w], (x2.trans x35.unhide).side hP, s5.side hnf, upd_same, (Reps.append (ra.ext x35) (.cons r5 .nil)).side hnf, hl3, by omega⟩
          · cases hl3
        | er z =>
          intro ι5 H8 p x5 s5 hp
          have x35 := x3.trans x5
          obtain ⟨κ, rfl⟩ := x35.hidden
          dsimp only at hl3
          cases hl3
          exact q κ H8 p (x1.trans (x2.trans x35.unhide)) s5.show hp
      · cases hl2
end
section
variable {X : Cx} {C fI cc cda : Addr} {EX : XK} {tg : Tg} {src : En → Sto → Option (Src × Sto)} {mr : En → Sto → Option (Rz × Sto)} {elt tgx iter : Expr} {scope : Scope} {own : List (Str × Nat)} {pos spos p2 : Pos}
/-- tuple([elt for ..]) -/
theorem r_tupC {p : Pos} (hc : X.calm = true) (hs : X.stack = X.env :: X.outer) (hf : X.env.frame = some X.env.locals) (tk : Takes X fun cls d _ H => EX cls d H) (hN : X.N.Nodup) (hg1 : Gl X "tuple") (hm1 : X.mg "tuple" = none)
    (hi : PI X tgx iter (sI X.K tg src)) (ok : BlkOk X.N X.env.scope scope own) (hown : ∀ i ∈ tgIx tg, i ∈ own.map (·.2)) (hg : BlkAll X scope fun Y => PG Y tgx (sG X.K tg))
    (he : BlkAll X scope fun Y => ∀ xe, Passes (L2.CX X.prog X.w) (Y.wish xe) EX → PE (Y.wish xe) elt (sR X.K C EX mr)) (hfold : ∀ x, foldedSetIterable iter X.env x = pure x) :
    PE X (.Call (.Name "tuple" p) [.ListComp elt [⟨tgx, iter, [], 0⟩] scope p2] [] pos) (sR X.K C EX fun env S => ((src env S).bind fun s => loopX s.1 tg (wipeD env (own.map (·.2))) mr s.1.n 0 [] s.2).bind fun p => match p.1 with
      | .inl ds => if ds.length ≤ sizeLine then some (.ok (.tup ds), p.2) else none
      | .inr z => some (.er z, p.2)) := by
  have key := pe_lcx (pos := p2) (tt := tYes) hc hs hf tk hN hi ok hg (fun _ _ _ _ _ => pts_nil) he hfold
  refine PE.imp (pe_callTy (T := "tuple") call_tuple_ofS hg1 hm1 (by decide +kernel) (pa_cons key pa_nil (ns_cons rfl _ _)) (by decide) (by decide) (ns_cons rfl _ _) rfl) ?_
  rintro σ H Q ⟨ι, env, S, r, S', s, en, h, q⟩
  rw [Option.bind_eq_some_iff] at h
  obtain ⟨⟨r1, S1⟩, h1, h2⟩ := h
  refine lx_use (C := C) (EX := EX) (Q := fun x H1 => ∃ (p : Addr) (ys : List V), [x] = [V.ref p] ∧ ((SqL X.K H1 p ys ∧ ∀ (l : Addr) (ob : Obj), ob.dict = none → H1 l = none → Q (.ref l) (upd H1 l (.frz ob (.tup ys)))) ∨ SqT X.K H1 p ys ∧ Q (.ref p) H1)) hown ⟨ι, env, S, r1, S1, s, en, h1, ?_⟩
  cases r1 with
  | inr z => cases h2; exact q
  | inl ds =>
    dsimp only at h2
    split at h2
    · cases h2
      intro ι1 H1 v x1 s1 rv
      obtain ⟨p, vs, e, g, _, ru⟩ := rep_lst.mp rv
      exact ⟨p, vs, by rw [e], .inl ⟨SqL.of g, tup_at s1 ru fun ι' H' v x' s' r' => q ι' H' v (x1.trans x') s' r'⟩⟩
    · cases h2
/-- name = [elt for ..] -/
theorem s_setC {i : Nat} {y : Str} {py : Pos} (hc : X.calm = true) (hs : X.stack = X.env :: X.outer) (hf : X.env.frame = some X.env.locals) (tk : Takes X fun cls d _ H => EX cls d H) (hN : X.N.Nodup) (hy : X.N[i]? = some y) (hyl : X.env.scope.names.lookup y = some .local)
    (hsw : swapsWith (.ListComp elt [⟨tgx, iter, [], 0⟩] scope pos) (some (.Name y py)) spos.line X.env = pure true)
    (hi : PI X tgx iter (sI X.K tg src)) (ok : BlkOk X.N X.env.scope scope own) (hown : ∀ i ∈ tgIx tg, i ∈ own.map (·.2)) (hg : BlkAll X scope fun Y => PG Y tgx (sG X.K tg))
    (he : BlkAll X scope fun Y => ∀ xe, Passes (L2.CX X.prog X.w) (Y.wish xe) EX → PE (Y.wish xe) elt (sR X.K C EX mr)) (hfold : ∀ x, foldedSetIterable iter X.env x = pure x) :
    PS X (.Assign [.Name y py] (.ListComp elt [⟨tgx, iter, [], 0⟩] scope pos) spos) (sS X.K C EX fun env S => ((src env S).bind fun s => loopX s.1 tg (wipeD env (own.map (·.2))) mr s.1.n 0 [] s.2).bind fun p => match p.1 with
      | .inl ds => if ds.length ≤ sizeLine then some (.nx, env.set i (some (.lst ds)), p.2) else none
      | .inr z => some (.rs z, env, p.2)) := by
  refine PS.imp (ps_setLcx (tt := tYes) hc hs hf tk hN hy hyl hsw hi ok hg (fun _ _ _ _ _ => pts_nil) he hfold) ?_
  rintro D σ H ⟨ι, env, S, r, s, en, h, q⟩
  rw [Option.bind_eq_some_iff] at h
  obtain ⟨⟨r1, S1⟩, h1, h2⟩ := h
  refine lx_use (Q := fun v H1 => D.nx (σ.set i (some v)) H1) hown ⟨ι, env, S, r1, S1, s, en, h1, ?_⟩
  cases r1 with
  | inr z => cases h2; exact q
  | inl ds =>
    dsimp only at h2
    split at h2
    · cases h2
      exact fun ι1 H1 v x1 s1 rv => q ι1 H1 _ x1 s1 ((en.ext x1).set rv i)
    · cases h2
/-- try: body, except TextError as n: return n.line -/
theorem s_try {n : Str} {i : Nat} {body : List Stmt} {np rp ap pos' : Pos} {ms : En → Sto → Option (Fl × En × Sto)} (hs : X.stack = X.env :: X.outer) (hf : X.env.frame = some X.env.locals) (hN : X.N.Nodup) (hi : X.N[i]? = some n) (hln : X.env.kindOf n = some .local)
    (hcls : Names X "TextError" (.ref C)) (T : TE.Txt X.prog X.K X.mg C fI cc cda) (tk : Takes X fun cls d _ H => EX cls d H) (hnn : (n == ("__debug__" : Str)) = false) (hnc : (n == ("__classdict__" : Str)) = false)
    (hb : ∀ (pn : List (Addr × Obj)) (xe : Value → Shared → Prop) (EY : XK), (Takes (X.tr pn xe) fun cls d _ H => EY cls d H) → PassesOwn (model X.prog X.w) X.A X.env xe → PSs (X.tr pn xe) body (sS X.K C EY ms)) :
    PS X (.Try body [.ExceptHandler (some (.Name "TextError" np)) (some n) [.Return (some (.Attribute (.Name n ap) "line" rp)) p2] pos'] [] [] pos) (sS X.K C EX fun env S => (ms env S).map fun r => match r with
      | (.rs z, e2, S2) => (.rt (.int z), e2, S2)
      | r => r) := by
  have vis : Vis X.env.scope n := .inl hln
  have hb' : ∀ (W : WX) (pn : List (Addr × Obj)) (xe : Value → Shared → Prop), Takes (X.tr pn xe) W → PassesOwn (model X.prog X.w) X.A X.env xe →
      PSs (X.tr pn xe) body (fun D σ H => ∃ EY : XK, (∀ cls d (σ' : L2.St) H', σ'.length = X.N.length → EY cls d H' → W cls d σ' H') ∧ sS X.K C EY ms D σ H) := fun W pn xe tw po =>
    ⟨fun pins s σ H D I ⟨EY, hE, h⟩ => (hb pn xe EY (fun u s' ⟨a, B, sI, ps, σ', H', cls, d, e1, I', e3, e4, e5, e6, e7, e8, w⟩ => tw u s' ⟨a, B, sI, ps, σ', H', cls, d, e1, I', e3, e4, e5, e6, e7, e8, hE cls d σ' H' I'.len w⟩) po).run pins s σ H D I h⟩
  refine PS.imp (ps_try_as (ts := fun a cls d => tRet (tLine C a cls d (tVar i))) hs hf hN hi hln hcls tk hb' fun a oe cls d pn hz hv => pss_one (ps_ret (pe_line T hz hv (pe_var hi vis hnn hnc) rfl))) ?_
  rintro D σ H ⟨ι, env, S, r, s, en, h, q⟩
  rw [Option.map_eq_some_iff] at h
  obtain ⟨⟨f, env1, S1⟩, g1, g2⟩ := h
  refine ⟨fun cls d H' => ∀ σ' : L2.St, σ'.length = X.N.length → wAs X.K (.ref C) i (fun a cls d => tRet (tLine C a cls d (tVar i))) (fun cls d _ H => EX cls d H) D cls d σ' H', fun cls d σ' H' hl w => w σ' hl, sS_mk s en g1 ?_⟩
  cases f with
  | nx => cases g2; exact q
  | rt d => cases g2; exact q
  | bk => cases g2; exact q
  | ct => cases g2; exact q
  | rs z =>
    cases g2
    intro ι1 H1 p x1 s1 hp σ' hl
    refine ⟨true, T.te, fun _ a ha => ?_, fun z => nomatch z⟩
    have lt : i < σ'.length := by rw [hl]; exact (List.getElem?_eq_some_iff.mp hi).1
    exact ⟨.ref a, by rw [List.getElem?_set_self lt], rfl, rfl, p, .int z, rfl, hp, q ι1 H1 (.int z) x1 s1 (rep_int.mpr rfl)⟩
end
end Tt
end

section
/-! The text of a def against its evaluation's tree: a test, and what it tells. -/
namespace Tt
open PySem PySem.Spec PyProof.Rows L2

structure SC where
  N : List Str
  sc : Scope
  fn : Option Scope
structure Pr where
  fns : List (Str × Nat)
  gls : List (Str × D)
  bls : List Str
  te : Bool := false
structure CxOk (pr : Pr) (C : Addr) (k : Nat) (cal : Cal) (c : SC) (X : Cx) : Prop where
  N : X.N = c.N
  sc : X.env.scope = c.sc
  fn : ∀ y, X.fn y = (match c.fn with | none => true | some s => s.names.lookup y == some .cell)
  calm : X.calm = true
  nd : X.N.Nodup
  room : Room k X.A
  fns : ∀ x j, pr.fns.lookup x = some j → FnAt X C k cal j x
  gls : ∀ x d, pr.gls.lookup x = some d → ∃ u v, X.mg x = some u ∧ RelV v u ∧ ∀ ι H, Rep X.K ι H d v
  bls : ∀ x, x ∈ pr.bls → X.mg x = none
abbrev SC.blk (c : SC) (scope : Scope) : SC := ⟨c.N, relS scope c.sc, some scope⟩
theorem CxOk.blk {pr : Pr} {C0 : Addr} {k : Nat} {cal : Cal} {c : SC} {X : Cx} (ok : CxOk pr C0 k cal c X) (scope : Scope) (s : Shared) (H : Hp) (C : Addr) (cl : List (Str × Addr)) (fp : List Addr) :
    CxOk pr C0 k cal (c.blk scope) (X.blk s H scope (compEnvC scope cl C X.env) fp) :=
  ⟨ok.N, by show relS scope X.env.scope = _; rw [ok.sc], fun _ => rfl, ok.calm, ok.nd, ok.room, fun x j h => ⟨(ok.fns x j h).ex⟩, ok.gls, ok.bls⟩
theorem CxOk.wish {pr : Pr} {C : Addr} {k : Nat} {cal : Cal} {c : SC} {X : Cx} (ok : CxOk pr C k cal c X) (xe : Value → Shared → Prop) : CxOk pr C k cal c (X.wish xe) :=
  ⟨ok.N, ok.sc, ok.fn, ok.calm, ok.nd, ok.room, fun x j h => ⟨(ok.fns x j h).ex⟩, ok.gls, ok.bls⟩
theorem CxOk.tr {pr : Pr} {C : Addr} {k : Nat} {cal : Cal} {c : SC} {X : Cx} (ok : CxOk pr C k cal c X) (pn : List (Addr × Obj)) (xe : Value → Shared → Prop) : CxOk pr C k cal c (X.tr pn xe) :=
  ⟨ok.N, ok.sc, ok.fn, ok.calm, ok.nd, ok.room, fun x j h => ⟨(ok.fns x j h).ex⟩, ok.gls, ok.bls⟩

/-! ### names -/
def glB (c : SC) (y : Str) : Bool := decide (c.sc.names.lookup y = some .globalImplicit) && !(y == ("__debug__" : Str))
def visB (c : SC) (y : Str) : Bool := match c.sc.names.lookup y with
  | some .local => true | some .cell => true | some .free => true | _ => false
def nameB (c : SC) (i : Nat) (y : Str) : Bool := decide (c.N[i]? = some y) && (match c.sc.names.lookup y with
  | some .local => true
  | some .cell => (match c.fn with | none => true | some s => s.names.lookup y == some .cell)
  | _ => false)
section
variable {pr : Pr} {C : Addr} {k : Nat} {cal : Cal} {c : SC} {X : Cx}
theorem gl_ok (ok : CxOk pr C k cal c X) {y : Str} (h : glB c y = true) : Gl X y ∧ (y == ("__debug__" : Str)) = false := by
  simp only [glB, Bool.and_eq_true, decide_eq_true_eq, Bool.not_eq_true'] at h
  exact ⟨by show X.env.scope.names.lookup y = _; rw [ok.sc]; exact h.1, h.2⟩
theorem vis_ok (ok : CxOk pr C k cal c X) {y : Str} (h : visB c y = true) : Vis X.env.scope y := by
  unfold visB at h
  unfold Vis
  rw [ok.sc]
  split at h <;> simp_all
theorem name_ok (ok : CxOk pr C k cal c X) {i : Nat} {y : Str} (h : nameB c i y = true) : NameOk X i y := by
  unfold nameB at h
  simp only [Bool.and_eq_true, decide_eq_true_eq] at h
  obtain ⟨h1, h2⟩ := h
  refine ⟨by rw [ok.N]; exact h1, ?_, ?_⟩
  · unfold L2.Loc
    rw [ok.sc]
    split at h2 <;> simp_all
  · rw [ok.sc, ok.fn]
    split at h2 <;> simp_all
end

/-! ### the tests -/
def tyS : Ty → Str
  | .int => "int" | .bool => "bool" | .str => "str" | .tuple => "tuple" | .list => "list" | .dict => "dict"
theorem tyS_boot (t : Ty) : bootBuiltins (tyS t) = some (.type (tyN t)) := by cases t <;> decide +kernel
def mVar (c : SC) (i : Nat) : Expr → Bool
  | .Name y _ => decide (c.N[i]? = some y) && visB c y && !(y == ("__debug__" : Str)) && !(y == ("__classdict__" : Str))
  | _ => false
def mCst (v : D) : Expr → Bool
  | .Constant k _ _ => (match v, k with
    | .non, .none => true
    | .bl a, .bool b => a == b
    | .int a, .int b => a == b
    | .str a, .str b => decide (a = b)
    | _, _ => false)
  | _ => false
mutual
def eqB : D → D → Bool
  | .non, .non => true
  | .bl a, .bl b => a == b
  | .int a, .int b => a == b
  | .str a, .str b => decide (a = b)
  | .tup a, .tup b => eqBs a b
  | _, _ => false
def eqBs : List D → List D → Bool
  | [], [] => true
  | a :: r, b :: s => eqB a b && eqBs r s
  | _, _ => false
end
def mGlob (pr : Pr) (c : SC) (y : Str) (v : D) : Expr → Bool
  | .Name z _ => decide (y = z) && glB c y && (match pr.gls.lookup y with | some w => eqB w v | none => false)
  | _ => false
def mEs (f : E → Expr → Bool) : List E → List Expr → Bool
  | [], [] => true
  | e :: es, x :: xs => f e x && ns x && mEs f es xs
  | _, _ => false
def bopOf : Bop → Operator
  | .add => .Add | .sub => .Sub | .mul => .Mult | .fdiv => .FloorDiv | .mod => .Mod
def tailOp (op : BoolOp) (b : Expr) (rest : List Expr) (pos : Pos) : Expr := match rest with
  | [] => b
  | r :: rs => .BoolOp op (b :: r :: rs) pos
def pix : Expr → Bool
  | .Slice .. => false
  | _ => true
def bltOk (b : Blt) : Bool := !(b == .min || b == .max)
def blB (pr : Pr) (c : SC) (y : Str) : Bool := decide (y ∈ pr.bls) && glB c y
def optB (f : E → Expr → Bool) : Option E → Option Expr → Bool
  | none, none => true
  | some e, some x => f e x
  | _, _ => false
def tupOf : Tg → Expr → Bool
  | .many _, .Tuple .. => true
  | _, _ => false
def mSr (pr : Pr) (c : SC) (f : E → Expr → Bool) (tg : Tg) (tgx : Expr) : Sr → Expr → Bool
  | .seq e, x => f e x && nset x
  | .rng a, x => (match x with
    | .Call (.Name y _) [a'] [] _ => decide (y = ("range" : Str)) && blB pr c y && ns a' && f a a'
    | _ => false)
  | .rng2 a b, x => (match x with
    | .Call (.Name y _) [a', b'] [] _ => decide (y = ("range" : Str)) && blB pr c y && ns a' && ns b' && f a a' && f b b'
    | _ => false)
  | .enum a, x => (match x with
    | .Call (.Name y _) [a'] [] _ => decide (y = ("enumerate" : Str)) && blB pr c y && ns a' && tupOf tg tgx && f a a'
    | _ => false)
  | _, _ => false
def mNs (c : SC) : List Nat → List Expr → Bool
  | [], [] => true
  | i :: is, x :: xs => (match x with | .Name y _ => nameB c i y | _ => false) && mNs c is xs
  | _, _ => false
def mTg (c : SC) : Tg → Expr → Bool
  | .one i, x => (match x with | .Name y _ => nameB c i y | _ => false)
  | .many is, x => (match x with | .Tuple xs _ _ => mNs c is xs | _ => false)
def ownP (c : SC) (own : List Nat) : List (Str × Nat) := own.filterMap fun i => (c.N[i]?).map fun y => (y, i)
def ownB (c : SC) (own : List Nat) (scope : Scope) (tg : Tg) : Bool :=
  decide ((ownP c own).map (·.2) = own) && blkC c.N c.sc scope (ownP c own) && (tgIx tg).all fun i => decide (i ∈ own)
def plainT : Expr → Bool
  | .UnaryOp .Not _ _ => false
  | .BoolOp .. => false
  | .IfExp .. => false
  | .Compare .. => false
  | _ => true
def isSet : Expr → Bool
  | .Set .. => true
  | _ => false
def mTs (f : T → Expr → Bool) : List T → List Expr → Bool
  | [], [] => true
  | [t], [x] => f t x
  | _, _ => false
mutual
def mE (pr : Pr) : Nat → SC → E → Expr → Bool
  | 0, _, _, _ => false
  | d + 1, c, e, x =>
    match e with
    | .var i => mVar c i x
    | .cst v => mCst v x
    | .glob y v => mGlob pr c y v x
    | .tup es => (match x with | .Tuple xs _ _ => mEs (mE pr d c) es xs | _ => false)
    | .lst _ es => (match x with | .List xs _ => mEs (mE pr d c) es xs | _ => false)
    | .and a b => (match x with | .BoolOp .And (a' :: b' :: rest) pos => mE pr d c a a' && mE pr d c b (tailOp .And b' rest pos) | _ => false)
    | .or a b => (match x with | .BoolOp .Or (a' :: b' :: rest) pos => mE pr d c a a' && mE pr d c b (tailOp .Or b' rest pos) | _ => false)
    | .not a => (match x with | .UnaryOp .Not a' _ => mE pr d c a a' | _ => false)
    | .ite t a b => (match x with | .IfExp t' a' b' _ => mT pr d c t t' && mE pr d c a a' && mE pr d c b b' | _ => false)
    | .bin op a b => (match x with | .BinOp a' o b' _ => decide (o = bopOf op) && mE pr d c a a' && mE pr d c b b' | _ => false)
    | .neg a => (match x with | .UnaryOp .USub a' _ => mE pr d c a a' | _ => false)
    | .cmp op a b => (match x with | .Compare a' [o] [b'] _ => decide (o = copOf op) && !isSet b' && mE pr d c a a' && mE pr d c b b' | _ => false)
    | .chain op op' a b f => (match x with | .Compare a' [o, o'] [b', f'] _ => decide (o = copOf op) && decide (o' = copOf op') && !isSet f' && mE pr d c a a' && mE pr d c b b' && mE pr d c f f' | _ => false)
    | .ix a b => (match x with | .Subscript a' b' _ => pix b' && mE pr d c a a' && mE pr d c b b' | _ => false)
    | .slice a lo hi => (match x with | .Subscript a' (.Slice lo' hi' none _) _ => mE pr d c a a' && optB (mE pr d c) lo lo' && optB (mE pr d c) hi hi' | _ => false)
    | .call f es => (match x with | .Call (.Name y _) xs [] _ => decide (pr.fns.lookup y = some f) && glB c y && mEs (mE pr d c) es xs | _ => false)
    | .isi a t => (match x with | .Call (.Name y _) [a', .Name z _] [] _ => decide (y = ("isinstance" : Str)) && blB pr c y && decide (z = tyS t) && blB pr c z && ns a' && mE pr d c a a' | _ => false)
    | .blt _ b es => (match x with | .Call (.Name y _) (x' :: xs) [] _ => bltOk b && decide (y = bltN b) && blB pr c y && mEs (mE pr d c) es (x' :: xs) | _ => false)
    | .meth m o es => (match x with
      | .Call (.Attribute o' nm apos) [] [] pos => (match es with | [] => true | _ => false) && decide (nm = mthN m) && okBase o' && (apos.endLine == pos.line) && mE pr d c o o'
      | .Call (.Attribute o' nm apos) [x'] [] pos => decide (nm = mthN m) && okBase o' && (apos.endLine == pos.line) && mE pr d c o o' && mEs (mE pr d c) es [x']
      | _ => false)
    | .comp _ own tg src ifs elt => (match x with
      | .ListComp elt' [⟨tg', src', ifs', 0⟩] scope _ => ownB c own scope tg && nset src' && mSr pr c (mE pr d c) tg tg' src src' && mTg (c.blk scope) tg tg' && mTs (mT pr d (c.blk scope)) ifs ifs' && mE pr d (c.blk scope) elt elt'
      | _ => false)
    | .dcomp own tg src ifs kx vx => (match x with
      | .DictComp kx' vx' [⟨tg', src', ifs', 0⟩] scope _ => ownB c own scope tg && nset src' && mSr pr c (mE pr d c) tg tg' src src' && mTg (c.blk scope) tg tg' && mTs (mT pr d (c.blk scope)) ifs ifs' && mE pr d (c.blk scope) kx kx' && mE pr d (c.blk scope) vx vx'
      | _ => false)
def mT (pr : Pr) : Nat → SC → T → Expr → Bool
  | 0, _, _, _ => false
  | d + 1, c, t, x =>
    match t with
    | .val e => plainT x && mE pr d c e x
    | .cmp op a b => (match x with | .Compare a' [o] [b'] _ => decide (o = copOf op) && !isSet b' && mE pr d c a a' && mE pr d c b b' | _ => false)
    | .chain op op' a b f => (match x with | .Compare a' [o, o'] [b', f'] _ => decide (o = copOf op) && decide (o' = copOf op') && !isSet f' && mE pr d c a a' && mE pr d c b b' && mE pr d c f f' | _ => false)
    | .not a => (match x with | .UnaryOp .Not a' _ => mT pr d c a a' | _ => false)
    | .and a b => (match x with | .BoolOp .And (a' :: b' :: rest) pos => mT pr d c a a' && mT pr d c b (tailOp .And b' rest pos) | _ => false)
    | .or a b => (match x with | .BoolOp .Or (a' :: b' :: rest) pos => mT pr d c a a' && mT pr d c b (tailOp .Or b' rest pos) | _ => false)
end

/-! ### what they tell -/
section
variable {pr : Pr} {C : Addr} {k : Nat} {cal : Cal} {c : SC} {X : Cx} {x : Expr} {d : Nat}
theorem ok_var (ok : CxOk pr C k cal c X) {i : Nat} (h : mVar c i x = true) : PE X x (sE X.K (ev cal (d + 1) (.var i))) := by
  cases x <;> first
    | (simp [mVar] at h; done)
    | skip
  simp only [mVar, Bool.and_eq_true, decide_eq_true_eq, Bool.not_eq_true'] at h
  exact n_var (by rw [ok.N]; exact h.1.1.1) (vis_ok ok h.1.1.2) h.1.2 h.2
theorem ok_cst {v : D} (h : mCst v x = true) : PE X x (sE X.K (ev cal (d + 1) (.cst v))) := by
  cases x <;> first
    | (simp [mCst] at h; done)
    | skip
  rename_i q j pos
  cases v <;> cases q <;> first
    | (simp [mCst] at h; done)
    | exact n_const pe_non fun _ _ => rep_non.mpr rfl
    | (simp only [mCst, beq_iff_eq] at h; subst h; exact n_const pe_bl fun _ _ => rep_bl.mpr rfl)
    | (simp only [mCst, beq_iff_eq] at h; subst h; exact n_const pe_int fun _ _ => rep_int.mpr rfl)
    | (simp only [mCst, decide_eq_true_eq] at h; subst h; exact n_const pe_str fun _ _ => rep_str.mpr rfl)
mutual
theorem eqB_ok : ∀ {a b : D}, eqB a b = true → a = b
  | .non, .non, _ => rfl
  | .bl a, .bl b, h => by simp only [eqB, beq_iff_eq] at h; rw [h]
  | .int a, .int b, h => by simp only [eqB, beq_iff_eq] at h; rw [h]
  | .str a, .str b, h => by simp only [eqB, decide_eq_true_eq] at h; rw [h]
  | .tup a, .tup b, h => by simp only [eqB] at h; rw [eqBs_ok h]
  | .non, .bl _, h | .non, .int _, h | .non, .str _, h | .non, .tup _, h | .non, .fzl _, h | .non, .lst _, h | .non, .ref _, h => by simp [eqB] at h
  | .bl _, .non, h | .bl _, .int _, h | .bl _, .str _, h | .bl _, .tup _, h | .bl _, .fzl _, h | .bl _, .lst _, h | .bl _, .ref _, h => by simp [eqB] at h
  | .int _, .non, h | .int _, .bl _, h | .int _, .str _, h | .int _, .tup _, h | .int _, .fzl _, h | .int _, .lst _, h | .int _, .ref _, h => by simp [eqB] at h
  | .str _, .non, h | .str _, .bl _, h | .str _, .int _, h | .str _, .tup _, h | .str _, .fzl _, h | .str _, .lst _, h | .str _, .ref _, h => by simp [eqB] at h
  | .tup _, .non, h | .tup _, .bl _, h | .tup _, .int _, h | .tup _, .str _, h | .tup _, .fzl _, h | .tup _, .lst _, h | .tup _, .ref _, h => by simp [eqB] at h
  | .lst _, _, h => by simp [eqB] at h
  | .fzl _, _, h => by simp [eqB] at h
  | .ref _, _, h => by simp [eqB] at h
theorem eqBs_ok : ∀ {a b : List D}, eqBs a b = true → a = b
  | [], [], _ => rfl
  | a :: r, b :: s, h => by
    simp only [eqBs, Bool.and_eq_true] at h
    rw [eqB_ok h.1, eqBs_ok h.2]
  | [], _ :: _, h => by simp [eqBs] at h
  | _ :: _, [], h => by simp [eqBs] at h
end
theorem ok_glob (ok : CxOk pr C k cal c X) {y : Str} {v : D} (h : mGlob pr c y v x = true) : PE X x (sE X.K (ev cal (d + 1) (.glob y v))) := by
  cases x <;> first
    | (simp [mGlob] at h; done)
    | skip
  simp only [mGlob, Bool.and_eq_true, decide_eq_true_eq] at h
  obtain ⟨⟨h1, h2⟩, h3⟩ := h
  subst h1
  obtain ⟨g1, g2⟩ := gl_ok ok h2
  split at h3
  · rename_i w hw
    have := eqB_ok h3
    subst this
    obtain ⟨u, v, e1, r, rr⟩ := ok.gls y w hw
    exact n_const (pe_glob g1 e1 r g2) rr
  · cases h3
theorem es_ok {f : E → Expr → Bool} {g : E → En → Sto → Option (D × Sto)} (IH : ∀ e x, f e x = true → PE X x (sE X.K (g e))) : ∀ {es : List E} {xs : List Expr}, mEs f es xs = true → PA X xs (sA X.K (evs g es)) ∧ xs.all ns = true
  | [], [], _ => ⟨a_nil, rfl⟩
  | e :: es, x :: xs, h => by
    simp only [mEs, Bool.and_eq_true] at h
    obtain ⟨h1, h2⟩ := es_ok IH h.2
    exact ⟨a_cons (IH e x h.1.1) h1 h.1.2, by rw [List.all_cons, h.1.2, h2]; rfl⟩
  | [], _ :: _, h => by simp [mEs] at h
  | _ :: _, [], h => by simp [mEs] at h
theorem tail_ok {op : BoolOp} {b : Expr} {rest : List Expr} {pos : Pos} {t : TE} (h : PE X (tailOp op b rest pos) t) : PE X (.BoolOp op (b :: rest) pos) t := by
  cases rest with
  | nil => exact pe_one h
  | cons r rs => exact h
theorem bl_ok (ok : CxOk pr C k cal c X) {y : Str} (h : blB pr c y = true) : Gl X y ∧ X.mg y = none := by
  simp only [blB, Bool.and_eq_true, decide_eq_true_eq] at h
  exact ⟨(gl_ok ok h.2).1, ok.bls y h.1⟩
theorem sr_ok (ok : CxOk pr C k cal c X) {f : E → Expr → Bool} {g : E → En → Sto → Option (D × Sto)} (IH : ∀ e x, f e x = true → PE X x (sE X.K (g e))) {s : Sr} {tgx : Expr} {tg : Tg} (h : mSr pr c f tg tgx s x = true) : PI X tgx x (sI X.K tg (evSr g s)) := by
  cases s with
  | seq e =>
    simp only [mSr, Bool.and_eq_true] at h
    exact i_seq (IH e x h.1)
  | rng a =>
    simp only [mSr] at h
    split at h
    · simp only [Bool.and_eq_true, decide_eq_true_eq] at h
      obtain ⟨⟨⟨h1, h2⟩, h3⟩, h4⟩ := h
      subst h1
      obtain ⟨g1, g2⟩ := bl_ok ok h2
      exact i_rng g1 g2 h3 (IH _ _ h4)
    · cases h
  | rng2 a b =>
    simp only [mSr] at h
    split at h
    · simp only [Bool.and_eq_true, decide_eq_true_eq] at h
      obtain ⟨⟨⟨⟨⟨h1, h2⟩, h3⟩, h3'⟩, h4⟩, h5⟩ := h
      subst h1
      obtain ⟨g1, g2⟩ := bl_ok ok h2
      exact i_rng2 g1 g2 h3 h3' (IH _ _ h4) (IH _ _ h5)
    · cases h
  | enum a =>
    simp only [mSr] at h
    split at h
    · simp only [Bool.and_eq_true, decide_eq_true_eq] at h
      obtain ⟨⟨⟨⟨h1, h2⟩, h3⟩, h0⟩, h4⟩ := h
      subst h1
      obtain ⟨g1, g2⟩ := bl_ok ok h2
      cases tg <;> cases tgx <;> first
        | (simp [tupOf] at h0; done)
        | exact i_enum g1 g2 h3 (IH _ _ h4)
    · cases h
  | _ => simp [mSr] at h
theorem ns_ok (ok : CxOk pr C k cal c X) : ∀ {is : List Nat} {xs : List Expr}, mNs c is xs = true → ∃ ys : List (Str × Pos), xs = ys.map (fun y => .Name y.1 y.2) ∧ Paired (fun i (y : Str × Pos) => NameOk X i y.1) is ys
  | [], [], _ => ⟨[], rfl, .nil⟩
  | i :: is, x :: xs, h => by
    simp only [mNs, Bool.and_eq_true] at h
    obtain ⟨h1, h2⟩ := h
    obtain ⟨ys, e, p⟩ := ns_ok ok h2
    split at h1
    · rename_i y pos
      exact ⟨(y, pos) :: ys, by rw [e]; rfl, .cons (name_ok ok h1) p⟩
    · cases h1
  | [], _ :: _, h => by simp [mNs] at h
  | _ :: _, [], h => by simp [mNs] at h
theorem tg_ok (ok : CxOk pr C k cal c X) {tg : Tg} (h : mTg c tg x = true) : PG X x (sG X.K tg) := by
  cases tg with
  | one i =>
    simp only [mTg] at h
    split at h
    · have := name_ok ok h
      exact g_one ok.nd this.hi this.hx this.hf
    · cases h
  | many is =>
    simp only [mTg] at h
    split at h
    · obtain ⟨ys, e, p⟩ := ns_ok ok h
      subst e
      exact g_many ok.calm ok.nd p
    · cases h
theorem plain_ok (h : plainT x = true) (env : Env) (whole : Sem Value) : isTrue x env whole = (do let v ← whole; standAt x.pos; holding [v] (truthy v)) := by
  cases x <;> first
    | rfl
    | (simp [plainT] at h; done)
    | skip
  rename_i op a pos
  cases op <;> first | rfl | (simp [plainT] at h)
theorem pix_ok (h : pix x = true) : PlainIx x := by
  intro o i
  cases x <;> first | rfl | (simp [pix] at h)
theorem set_ok {op : CmpOp} (h : (!isSet x) = true) : behindInMarks op x = false := by
  cases x <;> first | rfl | (simp [isSet] at h)
end

/-! ### all together -/
theorem tests_ok {X : Cx} {f : T → Expr → Bool} {g : T → En → Sto → Option (Bool × Sto)} (IH : ∀ t x, f t x = true → PT X x (sT X.K (g t))) : ∀ {ts : List T} {xs : List Expr}, mTs f ts xs = true → PTs X xs (sT X.K (evTs g ts))
  | [], [], _ => ⟨fun pins s σ H Q I ⟨ι, env, S, d, S', s1, e, h, q⟩ => by
      cases h
      exact pts_nil.run pins s σ H Q I (q ι H .refl s1)⟩
  | [t], [x], h => by
    simp only [mTs] at h
    refine ⟨fun pins s σ H Q I hq => (pts_one (IH t x h)).run pins s σ H Q I ?_⟩
    obtain ⟨ι, env, S, d, S', s1, e, h, q⟩ := hq
    simp only [evTs, Option.bind_eq_some_iff] at h
    obtain ⟨⟨b, S1⟩, h1, h2⟩ := h
    dsimp only at h2
    refine sT_mk s1 e h1 fun ι1 H1 x1 s2 => ?_
    cases b with
    | true =>
      rw [if_pos rfl] at h2
      cases h2
      exact q ι1 H1 x1 s2
    | false =>
      rw [if_neg Bool.false_ne_true] at h2
      cases h2
      exact q ι1 H1 x1 s2
  | [], _ :: _, h => by simp [mTs] at h
  | [_], [], h => by simp [mTs] at h
  | [_], _ :: _ :: _, h => by simp [mTs] at h
  | _ :: _ :: _, _, h => by simp [mTs] at h
def isB : Expr → Bool
  | .BoolOp .. => true
  | _ => false
def IE (pr : Pr) (C : Addr) (k : Nat) (cal : Cal) (d : Nat) : Prop := ∀ c X, CxOk pr C k cal c X → ∀ e x, mE pr d c e x = true → PE X x (sE X.K (ev cal d e))
def IT (pr : Pr) (C : Addr) (k : Nat) (cal : Cal) (d : Nat) : Prop := ∀ c X, CxOk pr C k cal c X → ∀ t x, mT pr d c t x = true → PT X x (sT X.K (evT cal d t)) ∧ (isB x = true → PW X x (sT X.K (evT cal d t)))
section
variable {pr : Pr} {C : Addr} {k : Nat} {cal : Cal} {d : Nat}
theorem own_ok {c : SC} {X : Cx} (ok : CxOk pr C k cal c X) {own : List Nat} {scope : Scope} {tg : Tg} (h : ownB c own scope tg = true) :
    (ownP c own).map (·.2) = own ∧ BlkOk X.N X.env.scope scope (ownP c own) ∧ ∀ i ∈ tgIx tg, i ∈ own := by
  simp only [ownB, Bool.and_eq_true, decide_eq_true_eq, List.all_eq_true] at h
  refine ⟨h.1.1, ?_, h.2⟩
  rw [ok.N, ok.sc]
  exact blkOk_by h.1.2
theorem po_opt {X : Cx} {f : E → Expr → Bool} {g : E → En → Sto → Option (D × Sto)} (IH : ∀ e x, f e x = true → PE X x (sE X.K (g e))) : ∀ {o : Option E} {x : Option Expr}, optB f o x = true → PO X x (sO X.K (evOpt g o))
  | none, none, _ => o_none
  | some e, some x, h => o_some (IH e x h)
  | none, some _, h => by simp [optB] at h
  | some _, none, h => by simp [optB] at h
theorem master (d : Nat) : IE pr C k cal d ∧ IT pr C k cal d := by
  induction d with
  | zero => exact ⟨fun c X ok e x h => by simp [mE] at h, fun c X ok t x h => by simp [mT] at h⟩
  | succ d ih =>
    obtain ⟨ihE, ihT⟩ := ih
    constructor
    · intro c X ok e x h
      have IH := ihE c X ok
      have IHT := fun t x h => (ihT c X ok t x h).1
      have hu64 : X.A.units + 65 < cLine := Nat.lt_of_le_of_lt (Nat.le_trans (Nat.add_le_add_left (by decide : 65 ≤ 200) _) (Nat.add_le_add_right (Nat.le_add_right _ _) _)) ok.room.un
      have hu : X.A.units + 1 < cLine := hu_of ok.room
      cases e with
      | var i => exact ok_var ok h
      | cst v => exact ok_cst h
      | glob y v => exact ok_glob ok h
      | tup es =>
        simp only [mE] at h
        split at h
        · exact n_tup (es_ok IH h).1
        · cases h
      | lst fz es =>
        simp only [mE] at h
        split at h
        · exact n_lst (es_ok IH h).1
        · cases h
      | and a b =>
        simp only [mE] at h
        split at h
        · simp only [Bool.and_eq_true] at h
          exact n_and (IH _ _ h.1) (tail_ok (IH _ _ h.2))
        · cases h
      | or a b =>
        simp only [mE] at h
        split at h
        · simp only [Bool.and_eq_true] at h
          exact n_or (IH _ _ h.1) (tail_ok (IH _ _ h.2))
        · cases h
      | not a =>
        simp only [mE] at h
        split at h
        · exact n_not (IH _ _ h)
        · cases h
      | ite t a b =>
        simp only [mE] at h
        split at h
        · simp only [Bool.and_eq_true] at h
          exact n_ite (IHT _ _ h.1.1) (IH _ _ h.1.2) (IH _ _ h.2)
        · cases h
      | bin op a b =>
        simp only [mE] at h
        split at h
        · simp only [Bool.and_eq_true, decide_eq_true_eq] at h
          obtain ⟨o, r, ho, h1, h2⟩ := bop_all (X := X) op
          obtain ⟨⟨h3, h4⟩, h5⟩ := h
          subst h3
          have : o = bopOf op := by rw [ho]; cases op <;> rfl
          subst this
          exact n_bin h1 h2 (IH _ _ h4) (IH _ _ h5)
        · cases h
      | neg a =>
        simp only [mE] at h
        split at h
        · exact n_neg (IH _ _ h)
        · cases h
      | cmp op a b =>
        simp only [mE] at h
        split at h
        · simp only [Bool.and_eq_true, decide_eq_true_eq] at h
          obtain ⟨⟨⟨h1, h2⟩, h3⟩, h4⟩ := h
          subst h1
          exact n_cmp hu64 (IH _ _ h3) (IH _ _ h4) (set_ok h2)
        · cases h
      | chain op op' a b f =>
        simp only [mE] at h
        split at h
        · simp only [Bool.and_eq_true, decide_eq_true_eq] at h
          obtain ⟨⟨⟨⟨⟨h1, h1'⟩, h2⟩, h3⟩, h4⟩, h5⟩ := h
          subst h1 h1'
          exact n_chain hu64 (IH _ _ h3) (IH _ _ h4) (IH _ _ h5) (set_ok h2)
        · cases h
      | ix a b =>
        simp only [mE] at h
        split at h
        · simp only [Bool.and_eq_true] at h
          exact n_ix hu (IH _ _ h.1.2) (IH _ _ h.2) (pix_ok h.1.1)
        · cases h
      | slice a lo hi =>
        simp only [mE] at h
        split at h
        · simp only [Bool.and_eq_true] at h
          exact n_slice (IH _ _ h.1.1) (po_opt IH h.1.2) (po_opt IH h.2)
        · cases h
      | call f es =>
        simp only [mE] at h
        split at h
        · rename_i y p xs pos
          simp only [Bool.and_eq_true, decide_eq_true_eq] at h
          obtain ⟨⟨h1, h2⟩, h3⟩ := h
          obtain ⟨g1, g2⟩ := gl_ok ok h2
          obtain ⟨e1, e2⟩ := es_ok IH h3
          cases xs with
          | nil =>
            cases es with
            | nil => exact n_call0 (ok.fns y f h1) ok.room g1 g2
            | cons e es => simp [mEs] at h3
          | cons x xs => exact n_call (ok.fns y f h1) ok.room g1 e2 g2 e1
        · cases h
      | isi a t =>
        simp only [mE] at h
        split at h
        · simp only [Bool.and_eq_true, decide_eq_true_eq] at h
          obtain ⟨⟨⟨⟨⟨h1, h2⟩, h3⟩, h4⟩, h5⟩, h6⟩ := h
          subst h1 h3
          obtain ⟨g1, g2⟩ := bl_ok ok h2
          obtain ⟨g3, g4⟩ := bl_ok ok h4
          exact n_isi (x := "isinstance") (p3 := ⟨0, 0, 0, 0⟩) g1 g2 (IH _ _ h6) (pe_bltn g3 g4 (tyS_boot t) (by show _ = _; rfl) (by cases t <;> decide) (by cases t <;> decide)) h5 rfl
        · cases h
      | blt fz b es =>
        simp only [mE] at h
        split at h
        · simp only [Bool.and_eq_true, decide_eq_true_eq] at h
          obtain ⟨⟨⟨h1, h2⟩, h3⟩, h4⟩ := h
          subst h2
          obtain ⟨g1, g2⟩ := bl_ok ok h3
          obtain ⟨e1, e2⟩ := es_ok IH h4
          exact n_blt ok.calm (by simpa [bltOk] using h1) g1 g2 e2 e1
        · cases h
      | meth m o es =>
        simp only [mE] at h
        split at h
        · simp only [Bool.and_eq_true, decide_eq_true_eq] at h
          obtain ⟨⟨⟨⟨h0, h1⟩, h2⟩, h3⟩, h4⟩ := h
          subst h1
          split at h0
          · exact n_meth0 h2 h3 (IH _ _ h4)
          · cases h0
        · simp only [Bool.and_eq_true, decide_eq_true_eq] at h
          obtain ⟨⟨⟨⟨h1, h2⟩, h3⟩, h4⟩, h5⟩ := h
          subst h1
          obtain ⟨e1, e2⟩ := es_ok IH h5
          exact n_meth h2 h3 (by simpa using e2) (IH _ _ h4) e1
        · cases h
      | comp fz own tg src ifs elt =>
        simp only [mE] at h
        split at h
        · rename_i elt' tg' src' ifs' scope pos
          simp only [Bool.and_eq_true] at h
          obtain ⟨⟨⟨⟨⟨h1, h0⟩, h2⟩, h3⟩, h4⟩, h5⟩ := h
          obtain ⟨o1, o2, o3⟩ := own_ok ok h1
          have key := pe_lc (X := X) (pos := pos) (g := sG X.K tg) (tt := sT X.K (evTs (evT cal d) ifs)) (te := sE X.K (ev cal d elt)) ok.calm ok.nd (sr_ok (tg := tg) (tgx := tg') ok IH h2) o2 (fun s H C' cl fp => tg_ok (ok.blk scope s H C' cl fp) h3)
            (fun s H C' cl fp => tests_ok (fun t x h => (ihT _ _ (ok.blk scope s H C' cl fp) t x h).1) h4) (fun s H C' cl fp => ihE _ _ (ok.blk scope s H C' cl fp) _ _ h5) (fsi h0 _)
          rw [o1] at key
          exact PE.imp key fun σ H Q hq => lc_use o3 hq
        · cases h
      | dcomp own tg src ifs kx vx =>
        simp only [mE] at h
        split at h
        · rename_i kx' vx' tg' src' ifs' scope pos
          simp only [Bool.and_eq_true] at h
          obtain ⟨⟨⟨⟨⟨⟨h1, h0⟩, h2⟩, h3⟩, h4⟩, h5⟩, h6⟩ := h
          obtain ⟨o1, o2, o3⟩ := own_ok ok h1
          have key := pe_dc (X := X) (pos := pos) (g := sG X.K tg) (tt := sT X.K (evTs (evT cal d) ifs)) (tk := sE X.K (ev cal d kx)) (tv := sE X.K (ev cal d vx)) ok.calm ok.nd (sr_ok (tg := tg) (tgx := tg') ok IH h2) o2 (fun s H C' cl fp => tg_ok (ok.blk scope s H C' cl fp) h3)
            (fun s H C' cl fp => tests_ok (fun t x h => (ihT _ _ (ok.blk scope s H C' cl fp) t x h).1) h4) (fun s H C' cl fp => ihE _ _ (ok.blk scope s H C' cl fp) _ _ h5) (fun s H C' cl fp => ihE _ _ (ok.blk scope s H C' cl fp) _ _ h6) (fsi h0 _)
          rw [o1] at key
          exact PE.imp key fun σ H Q hq => dc_use o3 hq
        · cases h
    · intro c X ok t x h
      have IH := ihE c X ok
      have IHT := fun t x h => (ihT c X ok t x h).1
      have hu64 : X.A.units + 65 < cLine := Nat.lt_of_le_of_lt (Nat.le_trans (Nat.add_le_add_left (by decide : 65 ≤ 200) _) (Nat.add_le_add_right (Nat.le_add_right _ _) _)) ok.room.un
      have wt : ∀ {op : BoolOp} {b : Expr} {rest : List Expr} {pos : Pos} {t : T}, mT pr d c t (tailOp op b rest pos) = true → op = .And → PW X (.BoolOp .And (b :: rest) pos) (sT X.K (evT cal d t)) := by
        intro op b rest pos t h e
        subst e
        cases rest with
        | nil => exact pw_and1 (IHT _ _ h)
        | cons r rs => exact (ihT c X ok _ _ h).2 rfl
      have wo : ∀ {b : Expr} {rest : List Expr} {pos : Pos} {t : T}, mT pr d c t (tailOp .Or b rest pos) = true → PW X (.BoolOp .Or (b :: rest) pos) (sT X.K (evT cal d t)) := by
        intro b rest pos t h
        cases rest with
        | nil => exact pw_or1 (IHT _ _ h)
        | cons r rs => exact (ihT c X ok _ _ h).2 rfl
      cases t with
      | val e =>
        simp only [mT, Bool.and_eq_true] at h
        refine ⟨t_val (IH _ _ h.2) (plain_ok h.1 _), fun hb => ?_⟩
        have h1 := h.1
        cases x <;> first | (simp [isB] at hb; done) | (simp [plainT] at h1; done)
      | cmp op a b =>
        simp only [mT] at h
        split at h
        · simp only [Bool.and_eq_true, decide_eq_true_eq] at h
          obtain ⟨⟨⟨h1, h2⟩, h3⟩, h4⟩ := h
          subst h1
          exact ⟨t_cmp hu64 (IH _ _ h3) (IH _ _ h4) (set_ok h2), fun hb => by simp [isB] at hb⟩
        · cases h
      | chain op op' a b f =>
        simp only [mT] at h
        split at h
        · simp only [Bool.and_eq_true, decide_eq_true_eq] at h
          obtain ⟨⟨⟨⟨⟨h1, h1'⟩, h2⟩, h3⟩, h4⟩, h5⟩ := h
          subst h1 h1'
          exact ⟨t_chain hu64 (IH _ _ h3) (IH _ _ h4) (IH _ _ h5) (set_ok h2), fun hb => by simp [isB] at hb⟩
        · cases h
      | not a =>
        simp only [mT] at h
        split at h
        · exact ⟨t_not (IHT _ _ h), fun hb => by simp [isB] at hb⟩
        · cases h
      | and a b =>
        simp only [mT] at h
        split at h
        · simp only [Bool.and_eq_true] at h
          have := w_and (IHT _ _ h.1) (wt h.2 rfl)
          exact ⟨this.pt, fun _ => this⟩
        · cases h
      | or a b =>
        simp only [mT] at h
        split at h
        · simp only [Bool.and_eq_true] at h
          have := w_or (IHT _ _ h.1) (wo h.2)
          exact ⟨this.pt, fun _ => this⟩
        · cases h
end
end Tt
end

section
/-! Statements against their trees. -/
namespace Tt
open PySem PySem.Spec PyProof.Rows L2

def swOk : Expr → Bool
  | .Tuple .. => false
  | .List .. => false
  | _ => true
/-- whether a list comprehension's name is stored before the block ends -/
def swB (c : SC) (y : Str) (py : Pos) (scope : Scope) (pos : Pos) : Bool :=
  decide (c.sc.names.lookup y = some .local) && (py.line == pos.line) && !(scope.names.any fun (n, k) => n == y && (k == .local || k == .cell))
def funB (c : SC) : Bool := decide (c.sc.kind = .function)
def mSet (pr : Pr) (d : Nat) (c : SC) (i : Nat) (e : E) : Stmt → Bool
  | .Assign [.Name y py] v _ => nameB c i y && mE pr d c e v && (nc v || (match v with
    | .ListComp _ _ scope pos => funB c
    | _ => false))
  | _ => false
def mSs (f : Sm → Stmt → Bool) : List Sm → List Stmt → Bool
  | [], [] => true
  | s :: ss, x :: xs => (match s, ss with | .never, [] => true | _, _ => f s x && mSs f ss xs)
  | _, _ => false
/-- what may raise -/
def mRC (pr : Pr) (d : Nat) (c : SC) : RC → Expr → Bool
  | .pure e, x => mE pr d c e x
  | .call f es, x => (match x with | .Call (.Name y _) (x' :: xs) [] _ => decide (pr.fns.lookup y = some f) && glB c y && mEs (mE pr d c) es (x' :: xs) | _ => false)
def mRCs (f : RC → Expr → Bool) : List RC → List Expr → Bool
  | [], [] => true
  | e :: es, x :: xs => f e x && ns x && mRCs f es xs
  | _, _ => false
def mX (pr : Pr) (d : Nat) (c : SC) (own : List Nat) (tg : Tg) (src : Sr) (r : RC) (elt' tg' src' : Expr) (scope : Scope) : Bool :=
  ownB c own scope tg && nset src' && mSr pr c (mE pr d c) tg tg' src src' && mTg (c.blk scope) tg tg' && mRC pr d (c.blk scope) r elt'
def mR (pr : Pr) (d : Nat) (c : SC) : R → Expr → Bool
  | .c r, x => mRC pr d c r x
  | .tup rs, x => (match x with | .Tuple xs _ _ => mRCs (mRC pr d c) rs xs | _ => false)
  | .tupC own tg src r, x => (match x with
    | .Call (.Name y _) [.ListComp elt' [⟨tg', src', [], 0⟩] scope _] [] _ => decide (y = ("tuple" : Str)) && blB pr c y && mX pr d c own tg src r elt' tg' src' scope
    | _ => false)
  | .ite t a b, x => (match x with | .IfExp t' a' b' _ => mT pr d c t t' && mRC pr d c a a' && mRC pr d c b b' | _ => false)
def mS (pr : Pr) : Nat → SC → Sm → Stmt → Bool
  | 0, _, _, _ => false
  | d + 1, c, s, x =>
    match s with
    | .set i e => mSet pr d c i e x
    | .unpack is e => (match x with | .Assign [.Tuple xs k p] v _ => mTg c (.many is) (.Tuple xs k p) && nc v && swOk v && mE pr d c e v | _ => false)
    | .setIx o ix v => (match x with | .Assign [.Subscript o' i' _] v' _ => nc v' && pix i' && mE pr d c v v' && mE pr d c o o' && mE pr d c ix i' | _ => false)
    | .aug i op e => (match x with | .AugAssign (.Name y _) o v _ => ((decide (op = .add) && decide (o = .Add)) || (decide (op = .sub) && decide (o = .Sub))) && nameB c i y && mE pr d c e v | _ => false)
    | .expr e => (match x with | .Expr v _ => nc v && mE pr d c e v | _ => false)
    | .ret e => (match x with | .Return (some v) _ => mE pr d c e v | _ => false)
    | .retN => (match x with | .Return none _ => true | _ => false)
    | .ifs t a b => (match x with | .If t' a' b' _ => mT pr d c t t' && mSs (mS pr d c) a a' && mSs (mS pr d c) b b' | _ => false)
    | .for_ tg src body => (match x with | .For tg' src' body' [] _ => nset src' && mTg c tg tg' && mSr pr c (mE pr d c) tg tg' src src' && mSs (mS pr d c) body body' | _ => false)
    | .while_ t body => (match x with | .While t' body' [] _ => mT pr d c t t' && mSs (mS pr d c) body body' | _ => false)
    | .never => true
    | .pass => (match x with | .Pass _ => true | .Expr (.Constant (.str _) _ _) _ => true | _ => false)
    | .raise e => (match x with | .Raise (some (.Call (.Name y _) [a] [] _)) none _ => pr.te && decide (y = ("TextError" : Str)) && glB c y && ns a && mE pr d c e a | _ => false)
    | .setR i r => (match x with | .Assign [.Name y _] v _ => nameB c i y && nc v && mR pr d c r v | _ => false)
    | .setC i own tg src r => (match x with
      | .Assign [.Name y py] (.ListComp elt' [⟨tg', src', [], 0⟩] scope pos') _ => nameB c i y && funB c && swB c y py scope pos' && mX pr d c own tg src r elt' tg' src' scope
      | _ => false)
    | .retR r => (match x with | .Return (some v) _ => mR pr d c r v | _ => false)
    | .appR o r => (match x with | .Expr (.Call (.Attribute o' nm apos) [v] [] pos) _ => decide (nm = ("append" : Str)) && okBase o' && (apos.endLine == pos.line) && ns v && mE pr d c o o' && mR pr d c r v | _ => false)
    | .tryE body i => (match x with
      | .Try body' [.ExceptHandler (some (.Name te _)) (some n) [.Return (some (.Attribute (.Name n2 _) ln _)) _] _] [] [] _ =>
        pr.te && decide (te = ("TextError" : Str)) && glB c te && decide (n2 = n) && decide (ln = ("line" : Str)) && decide (c.N[i]? = some n) && decide (c.sc.names.lookup n = some .local) && !(n == ("__debug__" : Str)) && !(n == ("__classdict__" : Str)) && mSs (mS pr d c) body body'
      | _ => false)
    | .brk => (match x with | .Break _ => true | _ => false)
    | .cont => (match x with | .Continue _ => true | _ => false)

/-- the context of a def's statements -/
structure StOk (pr : Pr) (C fI cc cda : Addr) (X : Cx) (EX : XK) : Prop where
  own : PassesOwn (model X.prog X.w) X.A X.env X.xe
  hs : X.stack = X.env :: X.outer
  hf : X.env.frame = some X.env.locals
  tk : Takes X fun cls d _ H => EX cls d H
  T : pr.te = true → TE.Txt X.prog X.K X.mg C fI cc cda
section
variable {pr : Pr} {C fI cc cda : Addr} {EX : XK} {k : Nat} {cal : Cal} {c : SC} {X : Cx} {d : Nat}
theorem sw_none {tg e : Expr} {env : Env} (h : swOk e = true) : swappedStores [tg] e env = pure none := by
  cases e <;> first | (simp [swOk] at h; done) | (cases tg <;> rfl)
theorem sw_noneS {o i e : Expr} {p : Pos} {env : Env} : swappedStores [.Subscript o i p] e env = pure none := by
  cases e <;> rfl
theorem asn_ok {o i : Expr} {pos : Pos} {env : Env} (h : pix i = true) (v : Value) : assign (.Subscript o i pos) env v = (do
      let ov ← holding [v] (eval o env)
      let iv ← holding [v, ov] (eval i env)
      standAt pos
      holding [v, ov, iv] (setItem ov iv v)
      release [v, ov, iv] []) := by
  cases i <;> first | rfl | (simp [pix] at h)
theorem ss_ok {f : Sm → Stmt → Bool} {g : Sm → En → Sto → Option (Fl × En × Sto)} (hn : ∀ env S, g .never env S = none) (IH : ∀ s x, f s x = true → PS X x (sS X.K C EX (g s))) : ∀ {ss : List Sm} {xs : List Stmt}, mSs f ss xs = true → PSs X xs (sS X.K C EX (exs g ss))
  | [], [], _ => s_nil
  | s :: ss, x :: xs, h => by
    simp only [mSs] at h
    split at h
    · refine PSs.imp pss_never ?_
      rintro D σ H ⟨ι, env, S, r, s, e, h, q⟩
      simp only [exs, hn] at h
      cases h
    · simp only [Bool.and_eq_true] at h
      exact s_cons (IH _ _ h.1) (ss_ok hn IH h.2)
  | [], _ :: _, h => by simp [mSs] at h
  | _ :: _, [], h => by simp [mSs] at h
theorem swlc {elt : Expr} {gs : List Comprehension} {scope : Scope} {pos py : Pos} {y : Str} {l : Nat} {env : Env} (hk : env.scope.kind = .function) : swapsWith (.ListComp elt gs scope pos) (some (.Name y py)) l env = pure (decide (env.scope.names.lookup y = some .local) && (py.line == pos.line) && !(scope.names.any fun (n, k) => n == y && (k == .local || k == .cell))) := by
  have hb : env.blockKind = .function := by unfold Env.blockKind; rw [hk]; rfl
  unfold swapsWith
  simp only [hb, Expr.pos, Env.kindOf]
  have : (env.scope.names.lookup y == some NameKind.local) = decide (env.scope.names.lookup y = some .local) := by
    by_cases h : env.scope.names.lookup y = some .local
    · rw [h]; rfl
    · rw [decide_eq_false h]; exact beq_eq_false_iff_ne.mpr h
  rw [this]
  rfl
theorem rc_ok (hx : Passes (L2.CX X.prog X.w) X EX) (ok : CxOk pr C k cal c X) {r : RC} {x : Expr} (h : mRC pr d c r x = true) : PE X x (sR X.K C EX (evRC cal d r)) := by
  cases r with
  | pure e => exact r_pure ((master d).1 c X ok e x h)
  | call f es =>
    simp only [mRC] at h
    split at h
    · simp only [Bool.and_eq_true, decide_eq_true_eq] at h
      obtain ⟨⟨h1, h2⟩, h3⟩ := h
      obtain ⟨g1, g2⟩ := gl_ok ok h2
      obtain ⟨e1, e2⟩ := es_ok ((master d).1 c X ok) h3
      exact r_callP hx (ok.fns _ f h1) ok.room g1 e2 g2 e1
    · cases h
theorem rcs_ok (hx : Passes (L2.CX X.prog X.w) X EX) (ok : CxOk pr C k cal c X) : ∀ {rs : List RC} {xs : List Expr}, mRCs (mRC pr d c) rs xs = true → PA X xs (sRs X.K C EX (evRs (evRC cal d) rs))
  | [], [], _ => rs_nil
  | r :: rs, x :: xs, h => by
    simp only [mRCs, Bool.and_eq_true] at h
    exact rs_cons (rc_ok hx ok h.1.1) (rcs_ok hx ok h.2) h.1.2
  | [], _ :: _, h => by simp [mRCs] at h
  | _ :: _, [], h => by simp [mRCs] at h
theorem StOk.passes (so : StOk pr C fI cc cda X EX) : Passes (L2.CX X.prog X.w) X EX := passes_call so.tk fun _ _ _ _ z => z
theorem r_ok (so : StOk pr C fI cc cda X EX) (ok : CxOk pr C k cal c X) {r : R} {x : Expr} (h : mR pr d c r x = true) : PE X x (sR X.K C EX (evR cal d r)) := by
  cases r with
  | c r => exact rc_ok so.passes ok h
  | tup rs =>
    simp only [mR] at h
    split at h
    · exact r_tup (rcs_ok so.passes ok h)
    · cases h
  | tupC own tg src r =>
    simp only [mR] at h
    split at h
    · rename_i y p elt' tg' src' scope p2 pos
      simp only [mX, Bool.and_eq_true, decide_eq_true_eq] at h
      obtain ⟨⟨h1, h2⟩, ⟨⟨⟨h3, h4⟩, h5⟩, h6⟩, h7⟩ := h
      subst h1
      obtain ⟨g1, g2⟩ := bl_ok ok h2
      obtain ⟨o1, o2, o3⟩ := own_ok ok h3
      have key := r_tupC (C := C) (EX := EX) (pos := pos) (p2 := p2) (p := p) (tg := tg) (mr := evRC cal d r) ok.calm so.hs so.hf so.tk ok.nd g1 g2 (sr_ok (tg := tg) (tgx := tg') ok ((master d).1 c X ok) h5) o2 (by rw [o1]; exact o3) (fun s H C' cl fp => tg_ok (ok.blk scope s H C' cl fp) h6)
        (fun s H C' cl fp xe hp => rc_ok hp ((ok.blk scope s H C' cl fp).wish xe) h7) (fsi h4 _)
      rw [o1] at key
      exact key
    · cases h
  | ite t a b =>
    simp only [mR] at h
    split at h
    · simp only [Bool.and_eq_true] at h
      exact r_ite (((master d).2 c X ok t _ h.1.1).1) (rc_ok so.passes ok h.1.2) (rc_ok so.passes ok h.2)
    · cases h
theorem setC_ok (so : StOk pr C fI cc cda X EX) (ok : CxOk pr C k cal c X) {i : Nat} {own : List Nat} {tg : Tg} {src : Sr} {r : RC} {y : Str} {py p2 pos : Pos} {elt' tg' src' : Expr} {scope : Scope} (h0 : nameB c i y = true) (h1 : funB c = true) (h2 : swB c y py scope p2 = true) (h : mX pr d c own tg src r elt' tg' src' scope = true) :
    PS X (.Assign [.Name y py] (.ListComp elt' [⟨tg', src', [], 0⟩] scope p2) pos) (sS X.K C EX fun env S => (evX cal d own tg src r env S).bind fun p => match p.1 with
      | .inl ds => if ds.length ≤ sizeLine then some (.nx, env.set i (some (.lst ds)), p.2) else none
      | .inr z => some (.rs z, env, p.2)) := by
  simp only [mX, Bool.and_eq_true] at h
  obtain ⟨⟨⟨⟨h3, h4⟩, h5⟩, h6⟩, h7⟩ := h
  have hk : X.env.scope.kind = .function := by rw [ok.sc]; simpa [funB] using h1
  have hs : swapsWith (.ListComp elt' [⟨tg', src', [], 0⟩] scope p2) (some (.Name y py)) pos.line X.env = pure true := by
    rw [swlc hk, ok.sc]
    exact congrArg pure h2
  have hl : X.env.scope.names.lookup y = some .local := by
    rw [ok.sc]
    simp only [swB, Bool.and_eq_true, decide_eq_true_eq] at h2
    exact h2.1.1
  obtain ⟨o1, o2, o3⟩ := own_ok ok h3
  have key := s_setC (C := C) (EX := EX) (i := i) (tg := tg) (mr := evRC cal d r) ok.calm so.hs so.hf so.tk ok.nd (name_ok ok h0).hi hl hs (sr_ok (tg := tg) (tgx := tg') ok ((master d).1 c X ok) h5) o2 (by rw [o1]; exact o3) (fun s H C' cl fp => tg_ok (ok.blk scope s H C' cl fp) h6)
    (fun s H C' cl fp xe hp => rc_ok hp ((ok.blk scope s H C' cl fp).wish xe) h7) (fsi h4 _)
  rw [o1] at key
  exact key
theorem set_ok' (ok : CxOk pr C k cal c X) {i : Nat} {e : E} {x : Stmt} (h : mSet pr d c i e x = true) : PS X x (sS X.K C EX fun env S => (ev cal d e env S).map fun p => (.nx, env.set i (some p.1), p.2)) := by
  unfold mSet at h
  split at h
  · rename_i y py v pos
    simp only [Bool.and_eq_true, Bool.or_eq_true] at h
    obtain ⟨⟨h1, h2⟩, h3⟩ := h
    have no := name_ok ok h1
    rcases h3 with h3 | h3
    · exact s_set ok.nd no h3 ((master d).1 c X ok e v h2)
    · split at h3
      · rename_i elt' gs' scope pos'
        have hk : X.env.scope.kind = .function := by rw [ok.sc]; simpa [funB] using h3
        by_cases hsw : swB c y py scope pos' = true
        case neg =>
          have hs : swapsWith (.ListComp elt' gs' scope pos') (some (.Name y py)) pos.line X.env = pure false := by
            rw [swlc hk, ok.sc]
            exact congrArg pure (Bool.eq_false_iff.mpr hsw)
          refine PS.imp (ps_set ok.nd no.hi no.hx ((master d).1 c X ok e _ h2) hs no.hf) ?_
          rintro D σ H ⟨ι, env, S, r, s, e, h, q⟩
          rw [Option.map_eq_some_iff] at h
          obtain ⟨⟨d, S1⟩, g1, g2⟩ := h
          subst g2
          exact sE_mk s e g1 fun ι1 H1 v x1 s1 r1 => q ι1 H1 _ x1 s1 ((e.ext x1).set r1 i)
        have hs : swapsWith (.ListComp elt' gs' scope pos') (some (.Name y py)) pos.line X.env = pure true := by
          rw [swlc hk, ok.sc]
          exact congrArg pure hsw
        have hl : X.env.scope.names.lookup y = some .local := by
          rw [ok.sc]
          simp only [swB, Bool.and_eq_true, decide_eq_true_eq] at hsw
          exact hsw.1.1
        cases d with
        | zero => simp [mE] at h2
        | succ d =>
          cases e with
          | comp fz own tg src ifs elt =>
            simp only [mE] at h2
            split at h2
            · rename_i elt2 tg' src' ifs' scope2 pos2 hh
              cases hh
              simp only [Bool.and_eq_true] at h2
              obtain ⟨⟨⟨⟨⟨h1, h0⟩, h2⟩, h3⟩, h4⟩, h5⟩ := h2
              obtain ⟨ihE, ihT⟩ := master (pr := pr) (C := C) (k := k) (cal := cal) d
              obtain ⟨o1, o2, o3⟩ := own_ok ok h1
              have key := ps_setLc (X := X) (g := sG X.K tg) (tt := sT X.K (evTs (evT cal d) ifs)) (te := sE X.K (ev cal d elt)) ok.calm ok.nd no.hi hl hs (sr_ok (tg := tg) (tgx := tg') ok (ihE c X ok) h2) o2 (fun s H C' cl fp => tg_ok (ok.blk scope s H C' cl fp) h3)
                (fun s H C' cl fp => tests_ok (fun t x h => (ihT _ _ (ok.blk scope s H C' cl fp) t x h).1) h4) (fun s H C' cl fp => ihE _ _ (ok.blk scope s H C' cl fp) _ _ h5) (fsi h0 _)
              rw [o1] at key
              refine PS.imp key ?_
              rintro D σ H ⟨ι, env, S, r, s, e, h, q⟩
              rw [Option.map_eq_some_iff] at h
              obtain ⟨⟨dd, S1⟩, g1, g2⟩ := h
              subst g2
              exact lc_use (Q := fun v H1 => D.nx (σ.set i (some v)) H1) o3 ⟨ι, env, S, dd, S1, s, e, g1, fun ι1 H1 v x1 s1 r1 => q ι1 H1 _ x1 s1 ((e.ext x1).set r1 i)⟩
            · cases h2
          | _ => 
            simp only [mE] at h2
            revert h2
            first
              | (intro h2; simp [mVar] at h2; done)
              | (intro h2; simp [mCst] at h2; done)
              | (intro h2; simp [mGlob] at h2; done)
              | (intro h2; simp at h2; done)
      · cases h3
  · cases h
theorem masterS (d : Nat) : ∀ c X EX, CxOk pr C k cal c X → StOk pr C fI cc cda X EX → ∀ s x, mS pr d c s x = true → PS X x (sS X.K C EX (ex cal d s)) := by
  induction d with
  | zero => intro c X EX ok so s x h; simp [mS] at h
  | succ d ih =>
    intro c X EX ok so s x h
    have hp := so.own
    obtain ⟨ihE, ihT⟩ := master (pr := pr) (C := C) (k := k) (cal := cal) d
    have IH := ihE c X ok
    have IHT := fun t x h => (ihT c X ok t x h).1
    have hu : X.A.units + 1 < cLine := hu_of ok.room
    have hnv : ∀ env S, ex cal d .never env S = none := by intro env S; cases d <;> rfl
    have IHS : ∀ {ss : List Sm} {xs : List Stmt}, mSs (mS pr d c) ss xs = true → PSs X xs (sS X.K C EX (exs (ex cal d) ss)) := fun h => ss_ok hnv (ih c X EX ok so) h
    cases s with
    | set i e =>
      simp only [mS] at h
      exact set_ok' ok h
    | unpack is e =>
      simp only [mS] at h
      split at h
      · simp only [Bool.and_eq_true] at h
        obtain ⟨⟨⟨h1, h2⟩, h3⟩, h4⟩ := h
        exact s_unpack (tg_ok ok h1) h2 (sw_none h3) rfl (IH _ _ h4)
      · cases h
    | setIx o ix v =>
      simp only [mS] at h
      split at h
      · simp only [Bool.and_eq_true] at h
        obtain ⟨⟨⟨⟨h1, h2'⟩, h3⟩, h4⟩, h5⟩ := h
        exact s_setIx hu h1 (IH _ _ h3) (IH _ _ h4) (IH _ _ h5) (asn_ok h2') rfl sw_noneS
      · cases h
    | aug i op e =>
      simp only [mS] at h
      split at h
      · simp only [Bool.and_eq_true, Bool.or_eq_true, decide_eq_true_eq] at h
        exact s_aug h.1.1 ok.nd (name_ok ok h.1.2) (IH _ _ h.2)
      · cases h
    | expr e =>
      simp only [mS] at h
      split at h
      · simp only [Bool.and_eq_true] at h
        exact s_expr h.1 (IH _ _ h.2)
      · cases h
    | ret e =>
      simp only [mS] at h
      split at h
      · exact s_ret (IH _ _ h)
      · cases h
    | retN =>
      simp only [mS] at h
      split at h
      · exact s_retN
      · cases h
    | ifs t a b =>
      simp only [mS] at h
      split at h
      · simp only [Bool.and_eq_true] at h
        exact s_if (IHT _ _ h.1.1) (IHS h.1.2) (IHS h.2)
      · cases h
    | for_ tg src body =>
      simp only [mS] at h
      split at h
      · simp only [Bool.and_eq_true] at h
        obtain ⟨⟨⟨h1, h2⟩, h3⟩, h4⟩ := h
        exact s_for hp ok.calm (sr_ok ok IH h3) (tg_ok ok h2) (IHS h4) h1
      · cases h
    | while_ t body =>
      simp only [mS] at h
      split at h
      · simp only [Bool.and_eq_true] at h
        exact s_while hp (IHT _ _ h.1) (IHS h.2)
      · cases h
    | never => exact s_never
    | pass =>
      simp only [mS] at h
      split at h
      · exact s_pass
      · exact s_doc
      · cases h
    | raise e =>
      simp only [mS] at h
      split at h
      · simp only [Bool.and_eq_true, decide_eq_true_eq] at h
        obtain ⟨⟨⟨⟨h1, h2⟩, h3⟩, h4⟩, h5⟩ := h
        subst h2
        exact s_raise ok.calm (so.T h1) ok.room so.tk h4 (gl_ok ok h3).1 (IH _ _ h5)
      · cases h
    | setR i r =>
      simp only [mS] at h
      split at h
      · simp only [Bool.and_eq_true] at h
        exact s_setR ok.nd (name_ok ok h.1.1) h.1.2 (r_ok so ok h.2)
      · cases h
    | setC i own tg src r =>
      simp only [mS] at h
      split at h
      · simp only [Bool.and_eq_true] at h
        exact setC_ok so ok h.1.1.1 h.1.1.2 h.1.2 h.2
      · cases h
    | retR r =>
      simp only [mS] at h
      split at h
      · exact s_retR (r_ok so ok h)
      · cases h
    | appR o r =>
      simp only [mS] at h
      split at h
      · simp only [Bool.and_eq_true, decide_eq_true_eq] at h
        obtain ⟨⟨⟨⟨⟨h1, h2⟩, h3⟩, h4⟩, h5⟩, h6⟩ := h
        subst h1
        exact s_appR h2 h3 h4 (IH _ _ h5) (r_ok so ok h6)
      · cases h
    | tryE body i =>
      simp only [mS] at h
      split at h
      · simp only [Bool.and_eq_true, decide_eq_true_eq, Bool.not_eq_true'] at h
        obtain ⟨⟨⟨⟨⟨⟨⟨⟨⟨h1, h2⟩, h3⟩, h4⟩, h5⟩, h6⟩, h7⟩, h8⟩, h9⟩, h10⟩ := h
        subst h2 h4 h5
        obtain ⟨g1, g2⟩ := gl_ok ok h3
        exact s_try so.hs so.hf ok.nd (by rw [ok.N]; exact h6) (by show X.env.scope.names.lookup _ = _; rw [ok.sc]; exact h7) ⟨g1, g2, .inl (so.T h1).gC⟩ (so.T h1) so.tk h8 h9
          fun pn xe EY tk own => ss_ok (by intro env S; cases d <;> rfl) (ih c (X.tr pn xe) EY (ok.tr pn xe) ⟨own, so.hs, so.hf, tk, so.T⟩) h10
      · cases h
    | brk =>
      simp only [mS] at h
      split at h
      · exact s_brk
      · cases h
    | cont =>
      simp only [mS] at h
      split at h
      · exact s_cont
      · cases h
theorem bodyOk (d : Nat) {ss : List Sm} {xs : List Stmt} (ok : CxOk pr C k cal c X) (so : StOk pr C fI cc cda X EX) (h : mSs (mS pr d c) ss xs = true) : PSs X xs (sS X.K C EX (exs (ex cal d) ss)) :=
  ss_ok (by intro env S; cases d <;> rfl) (masterS d c X EX ok so) h
end
end Tt
end

section
/-! Defs keep to their evaluation. -/
namespace Tt
open PySem PySem.Spec PyProof.Rows L2

/-! ### leaving a def -/
section
variable {K : PySem.W.Frag} {ι ι1 : Ad} {H H1 : Hp} {S S1 : Sto}
mutual
theorem cl_rep (x : Ext K ι H ι1 H1) {n : Nat} (hn : ι.r.length = n) : ∀ {d : D} {v : V}, clD n d = true → Rep K ι1 H1 d v → Rep K ι H1 d v
  | .non, v, _, h => by simp only [Rep] at h ⊢; exact h
  | .bl b, v, _, h => by simp only [Rep] at h ⊢; exact h
  | .int b, v, _, h => by simp only [Rep] at h ⊢; exact h
  | .str b, v, _, h => by simp only [Rep] at h ⊢; exact h
  | .tup l, v, c, h => by
    simp only [Rep, clD] at h c ⊢
    obtain ⟨a, vs, e, t, r⟩ := h
    exact ⟨a, vs, e, t, cl_reps x hn c r⟩
  | .fzl l, v, c, h => by
    simp only [Rep, clD] at h c ⊢
    obtain ⟨a, vs, e, t, r⟩ := h
    exact ⟨a, vs, e, t, cl_reps x hn c r⟩
  | .lst l, v, c, h => by
    simp only [Rep, clD] at h c ⊢
    obtain ⟨a, vs, e, t, g, r⟩ := h
    refine ⟨a, vs, e, t, ⟨fun z => g.1 ?_, fun z => g.2 (by rw [x.hid]; exact z)⟩, cl_reps x hn c r⟩
    obtain ⟨u, e⟩ := x.pre
    rw [e]; exact List.mem_append_left _ z
  | .ref i, v, c, h => by
    simp only [Rep, clD, decide_eq_true_eq] at h c ⊢
    obtain ⟨a, e, t⟩ := h
    refine ⟨a, e, ?_⟩
    obtain ⟨u, e2⟩ := x.pre
    rw [e2, List.getElem?_append_left (by omega)] at t
    exact t
theorem cl_reps (x : Ext K ι H ι1 H1) {n : Nat} (hn : ι.r.length = n) : ∀ {l : List D} {vs : List V}, clL n l = true → Reps K ι1 H1 l vs → Reps K ι H1 l vs
  | [], vs, _, h => by simp only [Reps] at h ⊢; exact h
  | d :: r, vs, c, h => by
    simp only [Reps, clL, Bool.and_eq_true] at h c ⊢
    obtain ⟨v, ws, e, h1, h2⟩ := h
    exact ⟨v, ws, e, cl_rep x hn c.1 h1, cl_reps x hn c.2 h2⟩
end
theorem cl_krep (x : Ext K ι H ι1 H1) {n : Nat} (hn : ι.r.length = n) : ∀ {l : List (Key × D)} {vs : List (Key × V)}, clL n (l.map (·.2)) = true → Krep K ι1 H1 l vs → Krep K ι H1 l vs
  | [], vs, _, h => by simp only [Krep] at h ⊢; exact h
  | d :: r, vs, c, h => by
    simp only [List.map_cons, Krep, clL, Bool.and_eq_true] at h c ⊢
    obtain ⟨v, ws, e, h1, h2⟩ := h
    exact ⟨v, ws, e, cl_rep x hn c.1 h1, cl_krep x hn c.2 h2⟩
theorem Ext.cut (x : Ext K ι H ι1 H1) : Ext K ι H ι H1 := ⟨⟨[], by simp⟩, rfl, fun a h n => absurd h n, x.tup, x.lst, x.dk, x.frz, x.keep⟩
theorem Sat.cut (x : Ext K ι H ι1 H1) (s0 : Sat K ι H S) (s : Sat K ι1 H1 S1) (hc : (S1.take S.length).all (clO S.length) = true) : Sat K ι H1 (S1.take S.length) := by
  have hn := s0.len
  obtain ⟨u, e⟩ := x.pre
  have hl : S.length ≤ S1.length := by have := s.len; rw [e, List.length_append] at this; omega
  refine ⟨by rw [List.length_take, hn]; omega, s0.nd, fun i o a h1 h2 => ?_, fun a h => ?_, s0.apart⟩
  · have hi : i < S.length := by rw [← hn]; exact (List.getElem?_eq_some_iff.mp h2).1
    have hm : o ∈ S1.take S.length := List.mem_of_getElem? h1
    have c := List.all_eq_true.mp hc o hm
    rw [List.getElem?_take_of_lt hi] at h1
    have h := s.at_ i o a h1 (x.get h2)
    cases o with
    | lst l => obtain ⟨vs, g, r⟩ := h; exact ⟨vs, g, cl_reps x hn c r⟩
    | dic l => obtain ⟨vs, g, r⟩ := h; exact ⟨vs, g, cl_krep x hn c r⟩
    | dead => trivial
  · refine s.there a (h.imp (fun z => ?_) fun z => by rw [x.hid]; exact z)
    rw [e]; exact List.mem_append_left _ z
theorem leave_rep (x : Ext K ι H ι1 H1) (s0 : Sat K ι H S) (s : Sat K ι1 H1 S1) {d d' : D} {v : V} (h : leave S1 S.length d = some d') (r : Rep K ι1 H1 d v) : Rep K ι H1 d' v := by
  unfold leave at h
  split at h
  · cases h; exact cl_rep x s0.len (by assumption) r
  · rename_i hc
    split at h
    · rename_i i
      split at h
      · rename_i l hl
        split at h
        · cases h
          obtain ⟨a, e, ha⟩ := rep_ref.mp r
          obtain ⟨vs, g, ru⟩ := s.at_ i _ a hl ha
          refine rep_lst.mpr ⟨a, vs, e, g, ⟨fun z => ?_, fun z => ?_⟩, cl_reps x s0.len (by assumption) ru⟩
          · obtain ⟨u, eu⟩ := x.pre
            obtain ⟨j, hj, ej⟩ := List.getElem_of_mem z
            have h1 : ι1.r[j]? = some a := x.get (by rw [List.getElem?_eq_getElem hj, ej])
            obtain ⟨l1, e1⟩ := List.getElem?_eq_some_iff.mp h1
            obtain ⟨l2, e2⟩ := List.getElem?_eq_some_iff.mp ha
            have hij : j = i := (List.getElem_inj s.nd).mp (e1.trans e2.symm)
            have := s0.len
            simp only [clD, decide_eq_true_eq] at hc
            omega
          · exact s.apart a (by rw [x.hid]; exact z) (List.mem_of_getElem? ha)
        · cases h
      · cases h
    · cases h
/-- the end of a def's body -/
theorem fin_use {df : Df} {d d' : D} {S' : Sto} {v : V} {Q : VK} (x : Ext K ι H ι1 H1) (s0 : Sat K ι H S) (s : Sat K ι1 H1 S1) (r : Rep K ι1 H1 d v) (h : fin df S.length d S1 = some (d', S'))
    (q : ∀ ι' H' v, Ext K ι H ι' H' → Sat K ι' H' S' → Rep K ι' H' d' v → Q v H') : Q v H1 := by
  unfold fin at h
  split at h
  · cases h; exact q ι1 H1 v x s r
  · simp only [Option.bind_eq_some_iff] at h
    obtain ⟨y, h1, h2⟩ := h
    split at h2
    · cases h2
      exact q ι H1 v x.cut (Sat.cut x s0 s (by assumption)) (leave_rep x s0 s h1 r)
    · cases h2
end

section
variable {K : PySem.W.Frag} {C : Addr} {ι ι1 : Ad} {H H1 : Hp} {S S1 : Sto}
/-- .. by a def's end -/
theorem okR_use {df : Df} {d : D} {r : Rz} {S' : Sto} {v : V} {Q : VK} {E : XK} (x : Ext K ι H ι1 H1) (s0 : Sat K ι H S) (s : Sat K ι1 H1 S1) (rv : Rep K ι1 H1 d v) (h : okR (fin df S.length d S1) = some (r, S'))
    (q : RzOk K C ι H Q E S' r) : Q v H1 := by
  unfold okR at h
  rw [Option.map_eq_some_iff] at h
  obtain ⟨⟨d', S2⟩, h1, h2⟩ := h
  cases h2
  exact fin_use x s0 s rv h1 q
theorem finX_use {df : Df} {z : Int} {r : Rz} {S' : Sto} {p : Addr} {Q : VK} {E : XK} (x : Ext K ι H ι1 H1) (s0 : Sat K ι H S) (s : Sat K ι1 H1 S1) (hp : H1 p = some (lineX z)) (h : finX df S.length z S1 = some (r, S'))
    (q : RzOk K C ι H Q E S' r) : E (.ref C) (some p) H1 := by
  unfold finX at h
  split at h
  · cases h; exact q ι1 H1 p x s hp
  · split at h
    · cases h
      exact q ι H1 p x.cut (Sat.cut x s0 s (by assumption)) hp
    · cases h
end
/-! ### a program's defs -/
structure DI where
  name : Str
  st : Stmt
  N : List Str
  ps : List Str
  df : Df
def scopeB (N ps : List Str) (sc : Scope) : Bool :=
  decide (sc.kind = .function) && !sc.isCoroutine && !sc.isGenerator && decide N.Nodup && decide (N.take ps.length = ps) &&
    (ps.all fun x => match sc.names.lookup x with | some .local => true | some .cell => true | _ => false) && sc.names.all fun y => decide (y.2 ≠ .free)
theorem scope_ok {N ps : List Str} {sc : Scope} (h : scopeB N ps sc = true) : FnScope N ps sc := by
  simp only [scopeB, Bool.and_eq_true, decide_eq_true_eq, Bool.not_eq_true', List.all_eq_true] at h
  obtain ⟨⟨⟨⟨⟨⟨h1, h2⟩, h3⟩, h4⟩, h5⟩, h6⟩, h7⟩ := h
  refine ⟨h1, h2, h3, h4, h5, fun x hx => ?_, h7⟩
  have := h6 x hx
  split at this <;> simp_all
def diB (pr : Pr) (di : DI) : Bool :=
  scopeB di.N di.ps (defScope di.st) && decide (di.df.ps = di.ps.length) && decide (di.df.n = di.N.length) && mSs (mS pr DP ⟨di.N, defScope di.st, none⟩) di.df.body (defBody di.st)
section
variable {P : Program} {w : World} {C fI cc cda : Addr} {K : PySem.W.Frag} {mg : Str → Option Value} {base : Heap} {pr : Pr} {defs : List DI}
structure Facts (P : Program) (C fI cc cda : Addr) (K : PySem.W.Frag) (mg : Str → Option Value) (pr : Pr) (defs : List DI) : Prop where
  fns : ∀ x j, pr.fns.lookup x = some j → ∃ di, defs[j]? = some di ∧ di.name = x
  fn : ∀ (j : Nat) di, defs[j]? = some di → ∃ f fd, mg di.name = some (.ref f) ∧ FunD K di.name di.name (defArgs di.st) (defBody di.st) (defScope di.st) [] [] f fd ∧ Binds K fd di.ps []
  gls : ∀ x d, pr.gls.lookup x = some d → ∃ u v, mg x = some u ∧ RelV v u ∧ ∀ ι H, Rep K ι H d v
  bls : ∀ x, x ∈ pr.bls → mg x = none
  te : pr.te = true → TE.Txt P K mg C fI cc cda
theorem sp_len {k j : Nat} {di : DI} (hB : diB pr di = true) (hd : defs[j]? = some di) (vs : List V) (H : Hp) (Q : VK) (E : XK) (h : spC K C (calls (defs.map (·.df)) k) j vs H Q E) : vs.length = di.ps.length := by
  obtain ⟨ι, S, ds, d, S', s, r, h, q⟩ := h
  cases k with
  | zero => cases h
  | succ k =>
    simp only [calls, List.getElem?_map, hd, Option.map_some, run] at h
    split at h
    · rename_i hl
      simp only [diB, Bool.and_eq_true, decide_eq_true_eq] at hB
      rw [r.length, hl, hB.1.1.2]
    · cases h
/-- one def: its body keeps to its evaluation -/
theorem def_ok {k j : Nat} {di : DI} {f : Addr} {fd : FuncData} (F : Facts P C fI cc cda K mg pr defs) (hB : diB pr di = true) (hd : defs[j]? = some di)
    (D0 : FunD K di.name di.name (defArgs di.st) (defBody di.st) (defScope di.st) [] [] f fd)
    (IH : ∀ (j : Nat) di, defs[j]? = some di → ∃ f fd, mg di.name = some (.ref f) ∧ PySem.W.keepIn K (.ref f) = true ∧ Binds K fd di.ps [] ∧ FnOk P w K mg base (L2.CX P w) k f fd di.ps (spC K C (calls (defs.map (·.df)) k) j)) :
    FnOk P w K mg base (L2.CX P w) (k + 1) f fd di.ps (spC K C (calls (defs.map (·.df)) (k + 1)) j) := by
  have hB' := hB
  simp only [diB, Bool.and_eq_true, decide_eq_true_eq] at hB'
  obtain ⟨⟨⟨hS, h1⟩, h2⟩, h3⟩ := hB'
  have sc := scope_ok hS
  refine D0.ok sc (sp_len hB hd) fun cdv A outer s H vs Q E hr hsp => ?_
  have ok : CxOk pr C k (calls (defs.map (·.df)) k) ⟨di.N, defScope di.st, none⟩ (cxOf (L2.CX P w) P w K mg base di.N di.name (defScope di.st) f cdv A outer s H E) := by
    refine ⟨rfl, rfl, fun _ => rfl, rfl, sc.nd, hr, fun x j h => ?_, F.gls, F.bls⟩
    obtain ⟨di', g1, g2⟩ := F.fns x j h
    obtain ⟨f', fd', e1, e2, e3, e4⟩ := IH j di' g1
    exact ⟨f', fd', di'.ps, by rw [← g2]; exact e1, e2, e3, e4⟩
  have so : StOk pr C fI cc cda (cxOf (L2.CX P w) P w K mg base di.N di.name (defScope di.st) f cdv A outer s H E) E := ⟨passes_of rfl, rfl, rfl, takes_of rfl rfl rfl rfl, F.te⟩
  refine ⟨_, bodyOk DP ok so h3, ?_⟩
  obtain ⟨ι, S, ds, d, S', s0, r, h, q⟩ := hsp
  simp only [calls, List.getElem?_map, hd, Option.map_some, run] at h
  split at h
  · rename_i hl
    have hlen : vs.length = ds.length := r.length
    have e0 : Eat K ι H (ds.map some ++ List.replicate (di.df.n - ds.length) none) (start di.N vs) := by
      refine ⟨by simp [L2.start, hlen, h2], fun i d hi => ?_⟩
      by_cases hlt : i < ds.length
      · rw [List.getElem?_append_left (by simpa using hlt), List.getElem?_map] at hi
        cases e : ds[i]? with
        | none => rw [e] at hi; cases hi
        | some y =>
          rw [e] at hi
          cases hi
          obtain ⟨v, g1, g2⟩ := r.get e
          refine ⟨v, ?_, g2⟩
          unfold L2.start
          rw [List.getElem?_append_left (by simp [hlen, hlt]), List.getElem?_map, g1]
          rfl
      · rw [List.getElem?_append_right (by simpa using Nat.le_of_not_lt hlt)] at hi
        obtain ⟨_, hi⟩ := List.getElem?_eq_some_iff.mp hi
        simp at hi
    split at h
    · rename_i dr env' S1 hx
      exact sS_mk s0 e0 hx fun ι1 H1 v x1 s1 r1 => okR_use x1 s0 s1 r1 h q
    · rename_i env' S1 hx
      exact sS_mk s0 e0 hx fun ι1 H1 σ1 x1 s1 _ => okR_use x1 s0 s1 (rep_non.mpr rfl) h q
    · rename_i z env' S1 hx
      exact sS_mk s0 e0 hx fun ι1 H1 p x1 s1 hp => finX_use x1 s0 s1 hp h q
    · cases h
  · cases h
theorem defs_ok (F : Facts P C fI cc cda K mg pr defs) (hB : defs.all (diB pr) = true) : ∀ (k j : Nat) di, defs[j]? = some di →
    ∃ f fd, mg di.name = some (.ref f) ∧ PySem.W.keepIn K (.ref f) = true ∧ Binds K fd di.ps [] ∧ FnOk P w K mg base (L2.CX P w) k f fd di.ps (spC K C (calls (defs.map (·.df)) k) j)
  | 0, j, di, hd => by
    obtain ⟨f, fd, e1, D0, e3⟩ := F.fn j di hd
    have hB' := List.all_eq_true.mp hB di (List.mem_of_getElem? hd)
    refine ⟨f, fd, e1, D0.kp, e3, ⟨sp_len hB' hd, fun A outer s H args us vs Q E _ _ _ _ h => ?_⟩⟩
    obtain ⟨ι, S, ds, d, S', s, r, h, q⟩ := h
    cases h
  | k + 1, j, di, hd => by
    obtain ⟨f, fd, e1, D0, e3⟩ := F.fn j di hd
    have hB' := List.all_eq_true.mp hB di (List.mem_of_getElem? hd)
    exact ⟨f, fd, e1, D0.kp, e3, def_ok F hB' hd D0 (defs_ok F hB k)⟩
/-- .. where nothing may be raised -/
theorem noX {k : Nat} {f : Addr} {fd : FuncData} {ps : List Str} {sp : Sp} (F : FnOk P w K mg base (L2.CX P w) k f fd ps sp) : FnOk P w K mg base (fun _ _ _ _ _ _ => False) k f fd ps fun vs H Q _ => sp vs H Q fun _ _ _ => False :=
  ⟨fun vs H Q _ q => F.len vs H Q _ q, fun A outer s H args us vs Q E hr he hb hv hs => codeAny_mono (F.run A outer s H args us vs Q _ hr he hb hv hs) fun r s' h => by
    cases r with
    | ok r => cases r <;> exact h
    | error e => obtain ⟨_, _, _, _, _, _, _, _, _, _, _, _, h⟩ := h; exact h⟩
/-- the law's promise -/
theorem law_sp {k j : Nat} {pg : List Df} {n : Nat} (hlaw : ∀ ns : List Int, ns.length ≤ n → ∃ S', calls pg k j [.fzl (ns.map .int)] [] = some (.ok (.bl true), S')) (H : Hp) (a : Addr) (ns : List Int) (hl : ns.length ≤ n) (hO : Only H) (hS : SqL K H a (ns.map V.int)) :
    spC K C (calls pg k) j [.ref a] H (fun v _ => v = .bl true) fun _ _ _ => False := by
  obtain ⟨S', h⟩ := hlaw ns hl
  refine ⟨⟨[], []⟩, [], [.fzl (ns.map .int)], .ok (.bl true), S', ⟨rfl, List.nodup_nil, fun i o a h => by simp at h, fun a h => by simp at h, fun a h => by simp at h⟩, ?_, h, fun ι' H' v _ _ r => rep_bl.mp r⟩
  refine .cons (rep_fzl.mpr ⟨a, ns.map V.int, rfl, ?_, ?_⟩) .nil
  · rcases hS with (h | ⟨o, h⟩) | h
    · rcases hO a with z | ⟨o, xs, z⟩
      · rw [h] at z; cases z
      · rw [h] at z; cases z
    · exact .inl ⟨o, h⟩
    · exact .inr h
  · have : ∀ l : List Int, Reps K (⟨[], []⟩ : Ad) H (l.map D.int) (l.map V.int) := by
      intro l; induction l with
      | nil => exact .nil
      | cons a r ih => exact .cons (rep_int.mpr rfl) ih
    exact this ns
end
end Tt
end

section
/-! A Hook that reads what TextError's rules ask. -/
namespace Tt.TE
open PySem PySem.W PySem.Calls PyProof.Rows PySem.HandSPX He
def teC (K : Frag) : Addr := ga K "TextError"
def teF (K : Frag) : Addr := ma K (teC K) "__init__"
def teFd (K : Frag) : Option FuncData := match K.lookup (teF K) with
  | some ⟨_, _, .func fd, _⟩ => some fd
  | _ => none
def teCell (K : Frag) : Addr := match teFd K with
  | some fd => (match fd.closure with
    | (_, c) :: _ => c
    | _ => 0)
  | none => 0
def teCda (K : Frag) : Addr := match teFd K with
  | some fd => (match fd.code with
    | .ref c => c
    | _ => 0)
  | none => 0
abbrev TeW : Type := Option (Str × Str × Arguments × FuncBody × Scope × Addr × Addr)
def teW (K : Frag) : TeW := (teFd K).map fun fd => (fd.name, fd.qualname, fd.params, fd.body, fd.scope, fd.globals, fd.builtins)
def teV : TeW := some ("__init__", "TextError.__init__", iA, .stmts iB, iS, mainGlobals, builtinsNs)
def isSome0 : Option (Option Value) → Bool
  | some none => true
  | _ => false
def clsB (K : Frag) : Bool := match K.lookup (teC K) with
  | some ⟨.type t, _, .cls cd, sl⟩ => decide (t = "type") && (match cd.mro with
    | c :: bm => decide (c = .ref (teC K)) && (refsVE bm && decide (alongIn K "__init__" (((Value.ref (teC K) :: bm).dropWhile (· != .ref (teC K))).drop 1) = some (some (.builtin "ValueError.__init__"))))
    | [] => false) && (cd.hasDict && (!cd.hasDel && (match sl.toList with
      | [_, _, _, _, some v, _] => decide (v = .builtin "ValueError.__new__")
      | _ => false)))
  | _ => false
def fnB (K : Frag) : Bool := match teFd K with
  | some fd => (match fd.closure with
    | [(y, _)] => decide (y = "__class__")
    | _ => false) && (decide (fd.defaults = .none) && (decide (fd.kwdefaults = .none) && (match fd.code with
      | .ref _ => true
      | _ => false)))
  | none => false
def cellB (K : Frag) : Bool := match K.lookup (teCell K) with
  | some ⟨_, _, .cell (some v), _⟩ => decide (v = .ref (teC K))
  | _ => false
def codeB (fl : Str) (K : Frag) : Bool := codeIn K (.ref (teCda K)) "TextError.__init__" && (match K.lookup (teCda K) with
  | some ⟨_, _, .fields vs, _⟩ => (match (vs[2]? : Option Value) with
    | some (.str file _) => fl == file
    | _ => false)
  | _ => false)
def teB (fl : Str) (K : Frag) : Bool :=
  eqO (nsIn K mainGlobals "TextError") (some (some (.ref (teC K)))) && (clsB K && (eqO (findIn K (.ref (teC K)) "__setattr__") (some (some (.builtin "object.__setattr__"))) &&
  (eqO (findIn K (.ref (teC K)) "__getattribute__") (some (some (.builtin "BaseException.__getattribute__"))) && (eqO (findIn K (.ref (teC K)) "__getattr__") (some none) && (eqO (findIn K (.ref (teC K)) "line") (some none) &&
  (eqO (findIn K (.ref (teC K)) "__init__") (some (some (.ref (teF K)))) && (decide (typeIn K (.ref (teF K)) = some (.type "function")) && (keepIn K (.ref (teC K)) && (decide (subIn K (.ref (teC K)) (.type "BaseException") = some true) &&
  (decide (subIn K (.ref (teC K)) (.type "ValueError") = some true) && (decide (typeIn K (.ref (teC K)) = some (.type "type")) && (hasDictIn K (teC K) && (decide (exmOne K (.ref (teC K)) (.ref (teC K)) = some true) && (decide (mroIn K (teC K) (.ref (teC K)) = some true) &&
  (eqO (nsIn K cStatics "thirdparty.any") (some none) && (eqO (nsIn K mainGlobals "super") (some none) && (cellB K && (fnB K && codeB fl K))))))))))))))))))
theorem txt_of {K : Frag} {h : Heap} {mg : Str → Option Value} {P : Program} {fl : Str} (X : K.In h) (G : h.Ns mainGlobals mg) (hf : (P.main.file : Str) = fl) (ht : (P.main.scope.names.lookup ("super" : Str)).isSome = false) (e : teW K = teV) (c : teB fl K = true) :
    Txt P K mg (teC K) (teF K) (teCell K) (teCda K) := by
  simp only [teB, Bool.and_eq_true] at c
  obtain ⟨c1, c2, c3, c4, c5, c6, c7, c8, c9, c10, c11, c12, c13, c14, c15, c16, c17, c18, c19, c20⟩ := c
  refine ⟨mg_of X G (eqO_ok c1), ?_, eqO_ok c3, eqO_ok c4, eqO_ok c5, eqO_ok c6, eqO_ok c7, of_decide_eq_true c8, c9, of_decide_eq_true c10, of_decide_eq_true c11, of_decide_eq_true c12, c13, of_decide_eq_true c14, of_decide_eq_true c15, eqO_ok c16, eqO_ok c17, ?_, ?_, ?_, ht⟩
  · unfold clsB at c2
    cases q : K.lookup (teC K) with
    | none => rw [q] at c2; cases c2
    | some o =>
      obtain ⟨oc, od, dt, sl⟩ := o
      rw [q] at c2
      cases oc <;> first
        | (cases dt <;> cases c2; done)
        | skip
      cases dt <;> first
        | (cases c2; done)
        | skip
      rename_i t cd
      obtain ⟨nm, bs, mro, N, qn, hdct, sn, sub, ab, col, hdel⟩ := cd
      dsimp only at c2
      simp only [Bool.and_eq_true, decide_eq_true_eq, Bool.not_eq_true'] at c2
      obtain ⟨⟨c21, c22⟩, c23, c24, c25⟩ := c2
      subst c21 c23 c24
      cases mro with
      | nil => cases c22
      | cons c bm =>
        simp only [Bool.and_eq_true, decide_eq_true_eq] at c22
        obtain ⟨c26, c27, c28⟩ := c22
        obtain ⟨sl⟩ := sl
        dsimp only at c25
        split at c25
        · rename_i sl0 k0 k1 k2 k3 v k5
          have c29 := of_decide_eq_true c25
          refine ⟨nm, qn, N, bs, bm, sn, sub, ab, col, od, k0, k1, k2, k3, k5, ?_, c27, c28⟩
          subst c29 c26
          rfl
        · cases c25
  · unfold cellB at c18
    split at c18
    · rename_i cl cld v csl q
      rw [of_decide_eq_true c18] at q
      exact ⟨cl, cld, csl, q⟩
    · cases c18
  · simp only [codeB, Bool.and_eq_true] at c20
    obtain ⟨c20, _⟩ := c20
    have e2 : (teFd K).map (fun fd => (fd.name, fd.qualname, fd.params, fd.body, fd.scope, fd.globals, fd.builtins)) = teV := e
    cases q : teFd K with
    | none => rw [q] at e2; cases e2
    | some fd =>
      unfold teCell teCda at *
      unfold fnB at c19
      rw [q] at e2 c19 c20 ⊢
      obtain ⟨n1, n2, n3, n4, n5, n6, n7, n8, n9, n10, n11, n12, n13, n14, n15⟩ := fd
      simp only [Option.map_some, teV, Option.some.injEq, Prod.mk.injEq] at e2
      obtain ⟨h1, h2, h3, h4, h5, h6, h8⟩ := e2
      subst h1 h2 h3 h4 h5 h6 h8
      dsimp only at c19 c20 ⊢
      simp only [Bool.and_eq_true, decide_eq_true_eq] at c19
      obtain ⟨d1, d2, d3, d4⟩ := c19
      subst d2 d3
      cases n7 with
      | nil => cases d1
      | cons y r =>
        obtain ⟨y, a⟩ := y
        cases r with
        | cons _ _ => cases d1
        | nil =>
          have d1 := of_decide_eq_true d1
          subst d1
          cases n13 <;> first
            | (cases d4; done)
            | skip
          rename_i cda
          unfold teFd at q
          split at q
          · rename_i oc od fd osl q2
            cases q
            exact ⟨oc, od, n10, n11, n12, n14, osl, q2, c20⟩
          · cases q
  · simp only [codeB, Bool.and_eq_true] at c20
    obtain ⟨_, c20⟩ := c20
    split at c20
    · rename_i ccl cdd vs ccs q
      split at c20
      · rename_i file tf q2
        exact ⟨ccl, cdd, vs, ccs, file, tf, q, q2, by rw [hf]; exact c20⟩
      · cases c20
    · cases c20
/-! ### the Hook -/
abbrev AlX : Type := AlD × TeW × Bool
def asX (g : Addr → Option Obj) (n : Nat) : List Addr := cStatics :: asD g n
def obsXK (fl : Str) (fa : List Fa) (fn : List DefD) (K : Frag) : AlX := (obsD fa fn K, teW K, teB fl K)
def valX (fn : List DefD) : AlX := (valD fn, teV, true)
def SaysX (fl : Str) (fa : List Fa) (fn : List DefD) (K : Frag) : Prop := obsXK fl fa fn K = valX fn
def obsX (fl : Str) (n : Nat) (fa : List Fa) (fn : List DefD) (g : Addr → Option Obj) : AlX := obsXK fl fa fn (frG g (asX g n))
def hookX (fl : Str) (n : Nat) (fa : List Fa) (fn : List DefD) : Hook where
  α := AlX
  obs := fun s => obsX fl n fa fn s.heap.get?
  val := fun _ => valX fn
  says := fun _ h => ∃ K : Frag, K.In h ∧ SaysX fl fa fn K
  of := fun _ _ e => ⟨_, frG_in, e⟩
  keeps := fun _ _ _ ⟨K, hK, c⟩ k => ⟨K, Frag.In.keeps hK k, c⟩
theorem obsX_eq {fl : Str} {n : Nat} {fa : List Fa} {fn : List DefD} {g : Addr → Option Obj} {s : Shared} (h : ∀ a, g a = s.heap.get? a) : obsX fl n fa fn g = (hookX fl n fa fn).obs s := by
  have e : g = s.heap.get? := funext h
  rw [e] <;> rfl
section
variable {fl : Str} {fa : List Fa} {fn : List DefD} {K : Frag}
theorem SaysX.d (c : SaysX fl fa fn K) : SaysD fa fn K := congrArg (fun z : AlX => z.1) c
theorem SaysX.w (c : SaysX fl fa fn K) : teW K = teV := congrArg (fun z : AlX => z.2.1) c
theorem SaysX.b (c : SaysX fl fa fn K) : teB fl K = true := congrArg (fun z : AlX => z.2.2) c
end
end Tt.TE
end

section
/-! The program's defs as trees (printed by gen.py). -/
namespace Tt.P
open PySem L2 Tt
def top (i : Nat) : Stmt := PySem.Challenge.pw_termtide_k64_whole_texts_of_sets.main.body.getD i (.Pass ⟨0, 0, 0, 0⟩)
/-- is_name -/
def b0 : List Sm := [
  .ifs (.or (.cmp .eq (.var 0) (.cst (.str ("" : Str)))) (.or (.cmp .gt (.blt true .len [(.var 0)]) (.glob ("MOST_LETTERS" : Str) (.int 8))) (.cmp .notIn (.ix (.var 0) (.cst (.int 0))) (.glob ("LETTERS" : Str) (.str ("abcdefghijklmnopqrstuvwxyzABCDEFGHIJKLMNOPQRSTUVWXYZ" : Str)))))) [
    .ret (.cst (.bl false))] [],
  .set 1 (.ite (.val (.meth .endswith (.var 0) [(.cst (.str ("#" : Str)))])) (.slice (.var 0) none (some (.neg (.cst (.int 1))))) (.var 0)),
  .ret (.blt true .all [(.comp true [2] (.one 2) (.seq (.var 1)) [] (.cmp .inn (.var 2) (.glob ("GOING_ON" : Str) (.str ("abcdefghijklmnopqrstuvwxyzABCDEFGHIJKLMNOPQRSTUVWXYZ0123456789_" : Str)))))])]
def d0 : DI := ⟨("is_name" : Str), top 8, [("word" : Str), ("body" : Str), ("character" : Str)], [("word" : Str)], ⟨1, 3, b0, false⟩⟩
/-- names_symbol -/
def b1 : List Sm := [
  .ret (.and (.call 0 [(.var 0)]) (.cmp .notIn (.ix (.var 0) (.cst (.int 0))) (.glob ("FIRST_VARIABLES" : Str) (.str ("uvwxyz" : Str)))))]
def d1 : DI := ⟨("names_symbol" : Str), top 9, [("word" : Str)], [("word" : Str)], ⟨1, 1, b1, false⟩⟩
/-- is_whole -/
def b2 : List Sm := [
  .ret (.and (.isi (.var 0) .int) (.and (.not (.isi (.var 0) .bool)) (.chain .le .le (.cst (.int 0)) (.var 0) (.var 1))))]
def d2 : DI := ⟨("is_whole" : Str), top 14, [("value" : Str), ("most" : Str)], [("value" : Str), ("most" : Str)], ⟨2, 2, b2, false⟩⟩
/-- is_signature -/
def b3 : List Sm := [
  .ifs (.or (.not (.val (.isi (.var 0) .tuple))) (.not (.chain .le .le (.cst (.int 1)) (.blt true .len [(.var 0)]) (.glob ("MOST_SYMBOLS" : Str) (.int 6))))) [
    .ret (.cst (.bl false))] [],
  .for_ (.one 1) (.seq (.var 0)) [
    .ifs (.or (.not (.val (.isi (.var 1) .tuple))) (.or (.cmp .ne (.blt true .len [(.var 1)]) (.cst (.int 2))) (.or (.not (.val (.isi (.ix (.var 1) (.cst (.int 0))) .str))) (.not (.val (.call 1 [(.ix (.var 1) (.cst (.int 0)))])))))) [
      .ret (.cst (.bl false))] [],
    .ifs (.or (.not (.val (.call 2 [(.ix (.var 1) (.cst (.int 1))), (.glob ("MOST_ARGUMENTS" : Str) (.int 3))]))) (.val (.meth .endswith (.ix (.var 1) (.cst (.int 0))) [(.cst (.str ("#" : Str)))]))) [
      .ret (.cst (.bl false))] []],
  .ret (.cmp .eq (.blt true .len [(.dcomp [1] (.one 1) (.seq (.var 0)) [] (.ix (.var 1) (.cst (.int 0))) (.cst (.bl true)))]) (.blt true .len [(.var 0)]))]
def d3 : DI := ⟨("is_signature" : Str), top 15, [("value" : Str), ("pair" : Str)], [("value" : Str)], ⟨1, 2, b3, false⟩⟩
/-- is_move -/
def b4 : List Sm := [
  .ifs (.or (.not (.val (.isi (.var 0) .tuple))) (.or (.cmp .ne (.blt true .len [(.var 0)]) (.cst (.int 3))) (.or (.not (.val (.isi (.ix (.var 0) (.cst (.int 0))) .str))) (.cmp .notIn (.ix (.var 0) (.cst (.int 0))) (.var 1))))) [
    .ret (.cst (.bl false))] [],
  .ifs (.or (.not (.val (.isi (.ix (.var 0) (.cst (.int 1))) .tuple))) (.cmp .ne (.blt true .len [(.ix (.var 0) (.cst (.int 1)))]) (.ix (.var 1) (.ix (.var 0) (.cst (.int 0)))))) [
    .ret (.cst (.bl false))] [],
  .ret (.blt true .all [(.comp true [3] (.one 3) (.seq (.bin .add (.ix (.var 0) (.cst (.int 1))) (.tup [(.ix (.var 0) (.cst (.int 2)))]))) [] (.call 2 [(.var 3), (.bin .sub (.var 2) (.cst (.int 1)))]))])]
def d4 : DI := ⟨("is_move" : Str), top 16, [("value" : Str), ("table" : Str), ("many" : Str), ("state" : Str)], [("value" : Str), ("table" : Str), ("many" : Str)], ⟨3, 4, b4, false⟩⟩
/-- is_automaton -/
def b5 : List Sm := [
  .ifs (.or (.not (.val (.isi (.var 1) .tuple))) (.or (.cmp .ne (.blt true .len [(.var 1)]) (.cst (.int 3))) (.not (.val (.call 2 [(.ix (.var 1) (.cst (.int 0))), (.glob ("MOST_SETS" : Str) (.int 400))]))))) [
    .ret (.cst (.bl false))] [],
  .unpack [3, 4, 5] (.var 1),
  .ifs (.or (.not (.val (.isi (.var 4) .tuple))) (.not (.val (.isi (.var 5) .tuple)))) [
    .ret (.cst (.bl false))] [],
  .set 2 (.blt true .dict [(.var 0)]),
  .ifs (.or (.not (.val (.blt true .all [(.comp true [7] (.one 7) (.seq (.var 5)) [] (.call 2 [(.var 7), (.bin .sub (.var 3) (.cst (.int 1)))]))]))) (.cmp .ne (.blt true .list [(.var 5)]) (.blt true .sorted [(.dcomp [8] (.one 8) (.seq (.var 5)) [] (.var 8) (.cst (.bl true)))]))) [
    .ret (.cst (.bl false))] [],
  .ret (.blt true .all [(.comp true [6] (.one 6) (.seq (.var 4)) [] (.call 4 [(.var 6), (.var 2), (.var 3)]))])]
def d5 : DI := ⟨("is_automaton" : Str), top 17, [("signature" : Str), ("value" : Str), ("table" : Str), ("many" : Str), ("moves" : Str), ("ends" : Str), ("move" : Str), ("state" : Str), ("end" : Str)], [("signature" : Str), ("value" : Str)], ⟨2, 9, b5, false⟩⟩
/-- is_number -/
def b6 : List Sm := [
  .ret (.and (.isi (.var 0) .int) (.and (.not (.isi (.var 0) .bool)) (.chain .le .le (.cst (.int 0)) (.var 0) (.var 1))))]
def d6 : DI := ⟨("is_number" : Str), top 22, [("value" : Str), ("most" : Str)], [("value" : Str), ("most" : Str)], ⟨2, 2, b6, false⟩⟩
/-- is_counts -/
def b7 : List Sm := [
  .ret (.and (.isi (.var 0) .tuple) (.and (.cmp .eq (.blt true .len [(.var 0)]) (.var 1)) (.blt true .all [(.comp true [3] (.one 3) (.seq (.var 0)) [] (.call 6 [(.var 3), (.var 2)]))])))]
def d7 : DI := ⟨("is_counts" : Str), top 23, [("value" : Str), ("many" : Str), ("most" : Str), ("x" : Str)], [("value" : Str), ("many" : Str), ("most" : Str)], ⟨3, 4, b7, false⟩⟩
/-- is_machine -/
def b8 : List Sm := [
  .ifs (.or (.not (.val (.isi (.var 0) .tuple))) (.or (.cmp .ne (.blt true .len [(.var 0)]) (.cst (.int 2))) (.not (.val (.call 6 [(.ix (.var 0) (.cst (.int 0))), (.glob ("MOST_COUNTERS" : Str) (.int 5))]))))) [
    .ret (.cst (.bl false))] [],
  .ifs (.or (.not (.val (.isi (.ix (.var 0) (.cst (.int 1))) .tuple))) (.cmp .gt (.blt true .len [(.ix (.var 0) (.cst (.int 1)))]) (.glob ("MOST_MOVES" : Str) (.int 8)))) [
    .ret (.cst (.bl false))] [],
  .for_ (.one 1) (.seq (.ix (.var 0) (.cst (.int 1)))) [
    .ifs (.or (.not (.val (.isi (.var 1) .tuple))) (.cmp .ne (.blt true .len [(.var 1)]) (.cst (.int 2)))) [
      .ret (.cst (.bl false))] [],
    .ifs (.not (.val (.blt true .all [(.comp true [2] (.one 2) (.seq (.var 1)) [] (.call 7 [(.var 2), (.ix (.var 0) (.cst (.int 0))), (.glob ("MOST_NUMBER" : Str) (.int 9))]))]))) [
      .ret (.cst (.bl false))] []],
  .ret (.cst (.bl true))]
def d8 : DI := ⟨("is_machine" : Str), top 24, [("value" : Str), ("move" : Str), ("part" : Str)], [("value" : Str)], ⟨1, 3, b8, false⟩⟩
/-- number_of -/
def b9 : List Sm := [
  .ifs (.or (.not (.chain .le .le (.cst (.int 1)) (.blt true .len [(.var 0)]) (.glob ("MOST_SIGNS" : Str) (.int 9)))) (.not (.val (.blt true .all [(.comp true [1] (.one 1) (.seq (.var 0)) [] (.cmp .inn (.var 1) (.glob ("DIGITS" : Str) (.str ("0123456789" : Str)))))])))) [
    .ret (.cst .non)] [],
  .ret (.ite (.or (.cmp .eq (.var 0) (.cst (.str ("0" : Str)))) (.cmp .ne (.ix (.var 0) (.cst (.int 0))) (.cst (.str ("0" : Str))))) (.blt true .int [(.var 0)]) (.cst .non))]
def d9 : DI := ⟨("number_of" : Str), top 28, [("word" : Str), ("sign" : Str)], [("word" : Str)], ⟨1, 2, b9, false⟩⟩
/-- need_number -/
def b10 : List Sm := [
  .set 2 (.call 9 [(.var 0)]),
  .ifs (.cmp .isN (.var 2) (.cst .non)) [
    .raise (.var 1)] [],
  .ret (.var 2)]
def d10 : DI := ⟨("need_number" : Str), top 29, [("word" : Str), ("line" : Str), ("found" : Str)], [("word" : Str), ("line" : Str)], ⟨2, 3, b10, false⟩⟩
/-- signature_text -/
def b11 : List Sm := [
  .ret (.meth .join (.cst (.str (" " : Str))) [(.comp true [1, 2] (.many [1, 2]) (.seq (.var 0)) [] (.bin .add (.bin .add (.var 1) (.cst (.str ("/" : Str)))) (.blt true .str [(.var 2)])))])]
def d11 : DI := ⟨("signature_text" : Str), top 30, [("signature" : Str), ("symbol" : Str), ("many" : Str)], [("signature" : Str)], ⟨1, 3, b11, false⟩⟩
/-- read_signature -/
def b12 : List Sm := [
  .set 1 (.lst false []),
  .for_ (.one 2) (.seq (.meth .split (.var 0) [(.cst (.str (" " : Str)))])) [
    .set 3 (.meth .split (.var 2) [(.cst (.str ("/" : Str)))]),
    .ifs (.cmp .ne (.blt true .len [(.var 3)]) (.cst (.int 2))) [
      .raise (.cst (.int 1))] [],
    .appR (.var 1) (.tup [(.pure (.ix (.var 3) (.cst (.int 0)))), (.call 10 [(.ix (.var 3) (.cst (.int 1))), (.cst (.int 1))])])],
  .ifs (.not (.val (.call 3 [(.blt true .tuple [(.var 1)])]))) [
    .raise (.cst (.int 1))] [],
  .ret (.blt true .tuple [(.var 1)])]
def d12 : DI := ⟨("read_signature" : Str), top 31, [("text" : Str), ("found" : Str), ("word" : Str), ("parts" : Str)], [("text" : Str)], ⟨1, 4, b12, false⟩⟩
/-- automaton_text -/
def b13 : List Sm := [
  .unpack [2, 3, 4] (.var 0),
  .set 1 (.lst false [(.meth .join (.cst (.str (" " : Str))) [(.bin .add (.lst true [(.blt true .str [(.var 2)])]) (.comp true [7] (.one 7) (.seq (.var 4)) [] (.blt true .str [(.var 7)])))])]),
  .for_ (.many [5, 6, 7]) (.seq (.var 3)) [
    .expr (.meth .append (.var 1) [(.meth .join (.cst (.str (" " : Str))) [(.bin .add (.bin .add (.lst true [(.var 5)]) (.comp true [8] (.one 8) (.seq (.var 6)) [] (.blt true .str [(.var 8)]))) (.lst true [(.blt true .str [(.var 7)])]))])])],
  .ret (.meth .join (.cst (.str ("\n" : Str))) [(.var 1)])]
def d13 : DI := ⟨("automaton_text" : Str), top 32, [("automaton" : Str), ("lines" : Str), ("many" : Str), ("moves" : Str), ("ends" : Str), ("symbol" : Str), ("states" : Str), ("end" : Str), ("state" : Str)], [("automaton" : Str)], ⟨1, 9, b13, false⟩⟩
/-- read_automaton -/
def b14 : List Sm := [
  .set 2 (.meth .split (.var 1) [(.cst (.str ("\n" : Str)))]),
  .set 3 (.blt true .dict [(.var 0)]),
  .setC 4 [11] (.one 11) (.seq (.meth .split (.ix (.var 2) (.cst (.int 0))) [(.cst (.str (" " : Str)))])) (.call 10 [(.var 11), (.cst (.int 1))]),
  .set 5 (.lst false []),
  .ifs (.not (.val (.call 5 [(.var 0), (.tup [(.ix (.var 4) (.cst (.int 0))), (.tup []), (.blt true .tuple [(.slice (.var 4) (some (.cst (.int 1))) none)])])]))) [
    .raise (.cst (.int 1))] [],
  .for_ (.many [6, 7]) (.enum (.slice (.var 2) (some (.cst (.int 1))) none)) [
    .set 8 (.meth .split (.var 7) [(.cst (.str (" " : Str)))]),
    .ifs (.or (.cmp .notIn (.ix (.var 8) (.cst (.int 0))) (.var 3)) (.cmp .ne (.blt true .len [(.var 8)]) (.bin .add (.ix (.var 3) (.ix (.var 8) (.cst (.int 0)))) (.cst (.int 2))))) [
      .raise (.bin .add (.var 6) (.cst (.int 2)))] [],
    .setC 9 [11] (.one 11) (.seq (.slice (.var 8) (some (.cst (.int 1))) none)) (.call 10 [(.var 11), (.bin .add (.var 6) (.cst (.int 2)))]),
    .set 10 (.tup [(.ix (.var 8) (.cst (.int 0))), (.blt true .tuple [(.slice (.var 9) none (some (.neg (.cst (.int 1)))))]), (.ix (.var 9) (.neg (.cst (.int 1))))]),
    .ifs (.not (.val (.call 5 [(.var 0), (.tup [(.ix (.var 4) (.cst (.int 0))), (.tup [(.var 10)]), (.tup [])])]))) [
      .raise (.bin .add (.var 6) (.cst (.int 2)))] [],
    .expr (.meth .append (.var 5) [(.var 10)])],
  .ret (.tup [(.ix (.var 4) (.cst (.int 0))), (.blt true .tuple [(.var 5)]), (.blt true .tuple [(.slice (.var 4) (some (.cst (.int 1))) none)])])]
def d14 : DI := ⟨("read_automaton" : Str), top 33, [("signature" : Str), ("text" : Str), ("lines" : Str), ("table" : Str), ("first" : Str), ("moves" : Str), ("at" : Str), ("line" : Str), ("words" : Str), ("numbers" : Str), ("move" : Str), ("word" : Str)], [("signature" : Str), ("text" : Str)], ⟨2, 12, b14, false⟩⟩
/-- counts_text -/
def b15 : List Sm := [
  .ret (.ite (.val (.var 0)) (.meth .join (.cst (.str ("," : Str))) [(.comp true [1] (.one 1) (.seq (.var 0)) [] (.blt true .str [(.var 1)]))]) (.cst (.str ("." : Str))))]
def d15 : DI := ⟨("counts_text" : Str), top 34, [("counts" : Str), ("x" : Str)], [("counts" : Str)], ⟨1, 2, b15, false⟩⟩
/-- read_counts -/
def b16 : List Sm := [
  .ifs (.cmp .eq (.var 0) (.cst (.str ("." : Str)))) [
    .ret (.tup [])] [],
  .retR (.tupC [2] (.one 2) (.seq (.meth .split (.var 0) [(.cst (.str ("," : Str)))])) (.call 10 [(.var 2), (.var 1)]))]
def d16 : DI := ⟨("read_counts" : Str), top 35, [("word" : Str), ("line" : Str), ("part" : Str)], [("word" : Str), ("line" : Str)], ⟨2, 3, b16, false⟩⟩
/-- machine_text -/
def b17 : List Sm := [
  .unpack [1, 2] (.var 0),
  .ret (.meth .join (.cst (.str ("\n" : Str))) [(.bin .add (.lst true [(.blt true .str [(.var 1)])]) (.comp true [3, 4] (.many [3, 4]) (.seq (.var 2)) [] (.bin .add (.bin .add (.call 15 [(.var 3)]) (.cst (.str (" " : Str)))) (.call 15 [(.var 4)]))))])]
def d17 : DI := ⟨("machine_text" : Str), top 36, [("machine" : Str), ("many" : Str), ("moves" : Str), ("takes" : Str), ("gives" : Str)], [("machine" : Str)], ⟨1, 5, b17, false⟩⟩
/-- read_machine -/
def b18 : List Sm := [
  .set 1 (.meth .split (.var 0) [(.cst (.str ("\n" : Str)))]),
  .setR 2 (.c (.call 10 [(.ix (.var 1) (.cst (.int 0))), (.cst (.int 1))])),
  .set 3 (.lst false []),
  .ifs (.not (.val (.call 8 [(.tup [(.var 2), (.tup [])])]))) [
    .raise (.cst (.int 1))] [],
  .for_ (.many [4, 5]) (.enum (.slice (.var 1) (some (.cst (.int 1))) none)) [
    .set 6 (.meth .split (.var 5) [(.cst (.str (" " : Str)))]),
    .ifs (.cmp .ne (.blt true .len [(.var 6)]) (.cst (.int 2))) [
      .raise (.bin .add (.var 4) (.cst (.int 2)))] [],
    .setR 7 (.tup [(.call 16 [(.ix (.var 6) (.cst (.int 0))), (.bin .add (.var 4) (.cst (.int 2)))]), (.call 16 [(.ix (.var 6) (.cst (.int 1))), (.bin .add (.var 4) (.cst (.int 2)))])]),
    .ifs (.not (.val (.call 8 [(.tup [(.var 2), (.bin .add (.blt true .tuple [(.var 3)]) (.tup [(.var 7)]))])]))) [
      .raise (.bin .add (.var 4) (.cst (.int 2)))] [],
    .expr (.meth .append (.var 3) [(.var 7)])],
  .ret (.tup [(.var 2), (.blt true .tuple [(.var 3)])])]
def d18 : DI := ⟨("read_machine" : Str), top 37, [("text" : Str), ("lines" : Str), ("many" : Str), ("moves" : Str), ("at" : Str), ("line" : Str), ("words" : Str), ("move" : Str)], [("text" : Str)], ⟨1, 8, b18, false⟩⟩
/-- _law_stream -/
def b19 : List Sm := [
  .set 1 (.cst (.int 17)),
  .for_ (.one 2) (.seq (.var 0)) [
    .set 1 (.bin .mod (.blt true .int [(.bin .add (.bin .add (.bin .mul (.var 1) (.cst (.int 48271))) (.bin .mod (.blt true .int [(.var 2)]) (.cst (.int 65521)))) (.cst (.int 1)))]) (.cst (.int 2147483647)))],
  .ret (.lst false [(.blt true .list [(.var 0)]), (.cst (.int 0)), (.cst (.int 0)), (.var 1)])]
def d19 : DI := ⟨("_law_stream" : Str), top 39, [("script" : Str), ("mixed" : Str), ("cell" : Str)], [("script" : Str)], ⟨1, 3, b19, true⟩⟩
/-- _law_draw -/
def b20 : List Sm := [
  .ifs (.and (.cmp .eq (.ix (.var 0) (.cst (.int 1))) (.cst (.int 0))) (.cmp .lt (.ix (.var 0) (.cst (.int 2))) (.blt true .len [(.ix (.var 0) (.cst (.int 0)))]))) [
    .setIx (.var 0) (.cst (.int 1)) (.blt true .abs [(.blt true .int [(.ix (.ix (.var 0) (.cst (.int 0))) (.ix (.var 0) (.cst (.int 2))))])]),
    .setIx (.var 0) (.cst (.int 2)) (.bin .add (.ix (.var 0) (.cst (.int 2))) (.cst (.int 1)))] [],
  .ifs (.cmp .eq (.ix (.var 0) (.cst (.int 1))) (.cst (.int 0))) [
    .setIx (.var 0) (.cst (.int 3)) (.bin .mod (.blt true .int [(.bin .add (.bin .mul (.ix (.var 0) (.cst (.int 3))) (.cst (.int 48271))) (.cst (.int 11)))]) (.cst (.int 2147483647))),
    .ret (.bin .mod (.blt true .int [(.bin .fdiv (.ix (.var 0) (.cst (.int 3))) (.cst (.int 97)))]) (.var 1))] [],
  .set 2 (.bin .mod (.blt true .int [(.ix (.var 0) (.cst (.int 1)))]) (.var 1)),
  .setIx (.var 0) (.cst (.int 1)) (.bin .fdiv (.ix (.var 0) (.cst (.int 1))) (.var 1)),
  .ret (.var 2)]
def d20 : DI := ⟨("_law_draw" : Str), top 40, [("stream" : Str), ("many" : Str), ("value" : Str)], [("stream" : Str), ("many" : Str)], ⟨2, 3, b20, false⟩⟩
/-- _law_pick -/
def b21 : List Sm := [
  .ret (.ix (.var 1) (.call 20 [(.var 0), (.blt true .len [(.var 1)])]))]
def d21 : DI := ⟨("_law_pick" : Str), top 41, [("stream" : Str), ("rows" : Str)], [("stream" : Str), ("rows" : Str)], ⟨2, 2, b21, false⟩⟩
/-- _law_same -/
def b22 : List Sm := [
  .ifs (.or (.and (.val (.isi (.var 0) .tuple)) (.val (.isi (.var 1) .tuple))) (.and (.val (.isi (.var 0) .list)) (.val (.isi (.var 1) .list)))) [
    .ret (.and (.cmp .eq (.blt true .len [(.var 0)]) (.blt true .len [(.var 1)])) (.blt true .all [(.comp true [2] (.one 2) (.rng (.blt true .len [(.var 0)])) [] (.call 22 [(.ix (.var 0) (.var 2)), (.ix (.var 1) (.var 2))]))]))] [],
  .ifs (.and (.val (.isi (.var 0) .dict)) (.val (.isi (.var 1) .dict))) [
    .ret (.and (.cmp .eq (.blt true .len [(.var 0)]) (.blt true .len [(.var 1)])) (.blt true .all [(.comp true [3] (.one 3) (.seq (.var 0)) [] (.and (.cmp .inn (.var 3) (.var 1)) (.call 22 [(.ix (.var 0) (.var 3)), (.ix (.var 1) (.var 3))])))]))] [],
  .ifs (.or (.and (.val (.isi (.var 0) .str)) (.val (.isi (.var 1) .str))) (.and (.cmp .isN (.var 0) (.cst .non)) (.cmp .isN (.var 1) (.cst .non)))) [
    .ret (.cmp .eq (.var 0) (.var 1))] [],
  .ifs (.or (.not (.val (.isi (.var 0) .int))) (.not (.val (.isi (.var 1) .int)))) [
    .ret (.cst (.bl false))] [],
  .ret (.and (.cmp .eq (.var 0) (.var 1)) (.cmp .eq (.isi (.var 0) .bool) (.isi (.var 1) .bool)))]
def d22 : DI := ⟨("_law_same" : Str), top 42, [("one" : Str), ("two" : Str), ("k" : Str), ("key" : Str)], [("one" : Str), ("two" : Str)], ⟨2, 4, b22, false⟩⟩
/-- _law_machine -/
def b23 : List Sm := [
  .set 2 (.bin .add (.cst (.int 1)) (.call 20 [(.var 0), (.cst (.int 3))])),
  .set 3 (.lst false []),
  .for_ (.one 4) (.rng (.call 20 [(.var 0), (.bin .add (.var 1) (.cst (.int 1)))])) [
    .set 5 (.blt true .tuple [(.comp true [7] (.one 7) (.rng (.var 2)) [] (.call 21 [(.var 0), (.lst true [(.cst (.int 0)), (.cst (.int 0)), (.cst (.int 1)), (.cst (.int 1)), (.cst (.int 2))])]))]),
    .set 6 (.blt true .tuple [(.comp true [7] (.one 7) (.rng (.var 2)) [] (.call 21 [(.var 0), (.lst true [(.cst (.int 0)), (.cst (.int 0)), (.cst (.int 0)), (.cst (.int 1)), (.cst (.int 1)), (.cst (.int 2)), (.cst (.int 3))])]))]),
    .expr (.meth .append (.var 3) [(.tup [(.var 5), (.var 6)])])],
  .ret (.tup [(.var 2), (.blt true .tuple [(.var 3)])])]
def d23 : DI := ⟨("_law_machine" : Str), top 43, [("stream" : Str), ("most" : Str), ("many" : Str), ("moves" : Str), ("k" : Str), ("takes" : Str), ("gives" : Str), ("j" : Str)], [("stream" : Str), ("most" : Str)], ⟨2, 8, b23, false⟩⟩
/-- _law_signature -/
def b24 : List Sm := [
  .set 1 (.lst true [(.tup [(.cst (.str ("a" : Str))), (.cst (.int 0))]), (.tup [(.cst (.str ("b" : Str))), (.cst (.int 0))]), (.tup [(.cst (.str ("f" : Str))), (.cst (.int 1))]), (.tup [(.cst (.str ("g" : Str))), (.cst (.int 2))]), (.tup [(.cst (.str ("h" : Str))), (.cst (.int 3))]), (.tup [(.cst (.str ("C1" : Str))), (.call 20 [(.var 0), (.cst (.int 4))])])]),
  .set 2 (.comp true [3] (.one 3) (.seq (.var 1)) [(.cmp .eq (.call 20 [(.var 0), (.cst (.int 2))]) (.cst (.int 0)))] (.var 3)),
  .ret (.blt true .tuple [(.ite (.val (.var 2)) (.var 2) (.slice (.var 1) none (some (.cst (.int 1)))))])]
def d24 : DI := ⟨("_law_signature" : Str), top 44, [("stream" : Str), ("rows" : Str), ("found" : Str), ("row" : Str)], [("stream" : Str)], ⟨1, 4, b24, false⟩⟩
/-- _law_automaton -/
def b25 : List Sm := [
  .set 2 (.bin .add (.cst (.int 1)) (.call 20 [(.var 0), (.cst (.int 4))])),
  .set 3 (.lst false []),
  .for_ (.one 4) (.rng (.call 20 [(.var 0), (.cst (.int 6))])) [
    .unpack [6, 7] (.call 21 [(.var 0), (.blt true .list [(.var 1)])]),
    .set 5 (.blt true .tuple [(.comp true [8] (.one 8) (.rng (.var 7)) [] (.call 20 [(.var 0), (.var 2)]))]),
    .expr (.meth .append (.var 3) [(.tup [(.var 6), (.var 5), (.call 20 [(.var 0), (.var 2)])])])],
  .ret (.tup [(.var 2), (.blt true .tuple [(.var 3)]), (.blt true .tuple [(.comp true [4] (.one 4) (.rng (.var 2)) [(.cmp .eq (.call 20 [(.var 0), (.cst (.int 2))]) (.cst (.int 0)))] (.var 4))])])]
def d25 : DI := ⟨("_law_automaton" : Str), top 45, [("stream" : Str), ("signature" : Str), ("many" : Str), ("moves" : Str), ("k" : Str), ("states" : Str), ("symbol" : Str), ("wide" : Str), ("j" : Str)], [("stream" : Str), ("signature" : Str)], ⟨2, 9, b25, false⟩⟩
/-- _law_number -/
def b26 : List Sm := [
  .ifs (.or (.not (.chain .le .le (.cst (.int 1)) (.blt true .len [(.var 0)]) (.cst (.int 9)))) (.not (.val (.blt true .all [(.comp true [1] (.one 1) (.seq (.var 0)) [] (.cmp .inn (.var 1) (.blt true .list [(.cst (.str ("0123456789" : Str)))])))])))) [
    .ret (.lst true [])] [],
  .ret (.ite (.or (.cmp .ne (.ix (.var 0) (.cst (.int 0))) (.cst (.str ("0" : Str)))) (.cmp .eq (.var 0) (.cst (.str ("0" : Str))))) (.lst true [(.blt true .int [(.var 0)])]) (.lst true []))]
def d26 : DI := ⟨("_law_number" : Str), top 46, [("word" : Str), ("sign" : Str)], [("word" : Str)], ⟨1, 2, b26, false⟩⟩
/-- _law_numbers -/
def b27 : List Sm := [
  .set 1 (.comp true [2] (.one 2) (.seq (.var 0)) [] (.call 26 [(.var 2)])),
  .ret (.ite (.cmp .inn (.lst true []) (.var 1)) (.lst true []) (.lst true [(.comp true [3] (.one 3) (.seq (.var 1)) [] (.ix (.var 3) (.cst (.int 0))))]))]
def d27 : DI := ⟨("_law_numbers" : Str), top 47, [("words" : Str), ("found" : Str), ("word" : Str), ("one" : Str)], [("words" : Str)], ⟨1, 4, b27, false⟩⟩
/-- _law_is_symbol -/
def b28 : List Sm := [
  .set 1 (.cst (.str ("abcdefghijklmnopqrstuvwxyz" : Str))),
  .ifs (.or (.not (.chain .le .le (.cst (.int 1)) (.blt true .len [(.var 0)]) (.cst (.int 8)))) (.or (.cmp .notIn (.ix (.var 0) (.cst (.int 0))) (.bin .add (.var 1) (.meth .upper (.var 1) []))) (.cmp .inn (.ix (.var 0) (.cst (.int 0))) (.cst (.str ("uvwxyz" : Str)))))) [
    .ret (.cst (.bl false))] [],
  .ret (.blt true .all [(.comp true [2] (.one 2) (.seq (.var 0)) [] (.cmp .inn (.var 2) (.bin .add (.bin .add (.var 1) (.meth .upper (.var 1) [])) (.cst (.str ("0123456789_" : Str))))))])]
def d28 : DI := ⟨("_law_is_symbol" : Str), top 48, [("word" : Str), ("small" : Str), ("sign" : Str)], [("word" : Str)], ⟨1, 3, b28, false⟩⟩
/-- _law_read_signature -/
def b29 : List Sm := [
  .set 1 (.lst false []),
  .for_ (.one 2) (.seq (.meth .split (.var 0) [(.cst (.str (" " : Str)))])) [
    .set 3 (.meth .split (.var 2) [(.cst (.str ("/" : Str)))]),
    .set 4 (.call 26 [(.ix (.var 3) (.bin .sub (.blt true .len [(.var 3)]) (.cst (.int 1))))]),
    .ifs (.or (.cmp .ne (.blt true .len [(.var 3)]) (.cst (.int 2))) (.or (.cmp .eq (.var 4) (.lst true [])) (.or (.cmp .gt (.ix (.var 4) (.cst (.int 0))) (.cst (.int 3))) (.not (.val (.call 28 [(.ix (.var 3) (.cst (.int 0)))])))))) [
      .ret (.cst (.int 1))] [],
    .ifs (.cmp .inn (.ix (.var 3) (.cst (.int 0))) (.comp true [5] (.one 5) (.seq (.var 1)) [] (.ix (.var 5) (.cst (.int 0))))) [
      .ret (.cst (.int 1))] [],
    .expr (.meth .append (.var 1) [(.tup [(.ix (.var 3) (.cst (.int 0))), (.ix (.var 4) (.cst (.int 0)))])])],
  .ret (.ite (.chain .le .le (.cst (.int 1)) (.blt true .len [(.var 1)]) (.cst (.int 6))) (.blt true .tuple [(.var 1)]) (.cst (.int 1)))]
def d29 : DI := ⟨("_law_read_signature" : Str), top 49, [("text" : Str), ("found" : Str), ("word" : Str), ("parts" : Str), ("number" : Str), ("row" : Str)], [("text" : Str)], ⟨1, 6, b29, false⟩⟩
/-- _law_read_automaton -/
def b30 : List Sm := [
  .set 2 (.meth .split (.var 1) [(.cst (.str ("\n" : Str)))]),
  .set 3 (.call 27 [(.meth .split (.ix (.var 2) (.cst (.int 0))) [(.cst (.str (" " : Str)))])]),
  .ifs (.or (.cmp .eq (.var 3) (.lst true [])) (.or (.cmp .gt (.ix (.ix (.var 3) (.cst (.int 0))) (.cst (.int 0))) (.cst (.int 400))) (.val (.blt true .any [(.comp true [10] (.one 10) (.seq (.slice (.ix (.var 3) (.cst (.int 0))) (some (.cst (.int 1))) none)) [] (.cmp .ge (.var 10) (.ix (.ix (.var 3) (.cst (.int 0))) (.cst (.int 0)))))])))) [
    .ret (.cst (.int 1))] [],
  .set 4 (.slice (.ix (.var 3) (.cst (.int 0))) (some (.cst (.int 1))) none),
  .ifs (.val (.blt true .any [(.comp true [7] (.one 7) (.rng (.bin .sub (.blt true .len [(.var 4)]) (.cst (.int 1)))) [] (.cmp .ge (.ix (.var 4) (.var 7)) (.ix (.var 4) (.bin .add (.var 7) (.cst (.int 1))))))])) [
    .ret (.cst (.int 1))] [],
  .set 5 (.lst false []),
  .set 6 (.blt true .dict [(.var 0)]),
  .for_ (.one 7) (.rng2 (.cst (.int 1)) (.blt true .len [(.var 2)])) [
    .set 8 (.meth .split (.ix (.var 2) (.var 7)) [(.cst (.str (" " : Str)))]),
    .set 9 (.call 27 [(.slice (.var 8) (some (.cst (.int 1))) none)]),
    .ifs (.or (.cmp .notIn (.ix (.var 8) (.cst (.int 0))) (.var 6)) (.or (.cmp .ne (.blt true .len [(.var 8)]) (.bin .add (.ix (.var 6) (.ix (.var 8) (.cst (.int 0)))) (.cst (.int 2)))) (.cmp .eq (.var 9) (.lst true [])))) [
      .ret (.bin .add (.var 7) (.cst (.int 1)))] [],
    .ifs (.val (.blt true .any [(.comp true [11] (.one 11) (.seq (.ix (.var 9) (.cst (.int 0)))) [] (.cmp .ge (.var 11) (.ix (.ix (.var 3) (.cst (.int 0))) (.cst (.int 0)))))])) [
      .ret (.bin .add (.var 7) (.cst (.int 1)))] [],
    .expr (.meth .append (.var 5) [(.tup [(.ix (.var 8) (.cst (.int 0))), (.blt true .tuple [(.slice (.ix (.var 9) (.cst (.int 0))) none (some (.neg (.cst (.int 1)))))]), (.ix (.ix (.var 9) (.cst (.int 0))) (.neg (.cst (.int 1))))])])],
  .ret (.tup [(.ix (.ix (.var 3) (.cst (.int 0))) (.cst (.int 0))), (.blt true .tuple [(.var 5)]), (.blt true .tuple [(.var 4)])])]
def d30 : DI := ⟨("_law_read_automaton" : Str), top 50, [("signature" : Str), ("text" : Str), ("lines" : Str), ("first" : Str), ("ends" : Str), ("moves" : Str), ("table" : Str), ("k" : Str), ("words" : Str), ("numbers" : Str), ("end" : Str), ("state" : Str)], [("signature" : Str), ("text" : Str)], ⟨2, 12, b30, false⟩⟩
/-- _law_read_machine -/
def b31 : List Sm := [
  .set 1 (.meth .split (.var 0) [(.cst (.str ("\n" : Str)))]),
  .set 2 (.call 26 [(.ix (.var 1) (.cst (.int 0)))]),
  .ifs (.or (.cmp .eq (.var 2) (.lst true [])) (.cmp .gt (.ix (.var 2) (.cst (.int 0))) (.cst (.int 5)))) [
    .ret (.cst (.int 1))] [],
  .set 3 (.lst false []),
  .for_ (.one 4) (.rng2 (.cst (.int 1)) (.blt true .len [(.var 1)])) [
    .set 5 (.meth .split (.ix (.var 1) (.var 4)) [(.cst (.str (" " : Str)))]),
    .set 6 (.comp true [7] (.one 7) (.seq (.var 5)) [] (.ite (.cmp .eq (.var 7) (.cst (.str ("." : Str)))) (.lst true [(.lst true [])]) (.call 27 [(.meth .split (.var 7) [(.cst (.str ("," : Str)))])]))),
    .ifs (.or (.cmp .ne (.blt true .len [(.var 5)]) (.cst (.int 2))) (.or (.cmp .inn (.lst true []) (.var 6)) (.cmp .gt (.var 4) (.cst (.int 8))))) [
      .ret (.bin .add (.var 4) (.cst (.int 1)))] [],
    .ifs (.not (.val (.blt true .all [(.comp true [8] (.one 8) (.seq (.var 6)) [] (.and (.cmp .eq (.blt true .len [(.ix (.var 8) (.cst (.int 0)))]) (.ix (.var 2) (.cst (.int 0)))) (.blt true .all [(.comp true [9] (.one 9) (.seq (.ix (.var 8) (.cst (.int 0)))) [] (.cmp .le (.var 9) (.cst (.int 9))))])))]))) [
      .ret (.bin .add (.var 4) (.cst (.int 1)))] [],
    .expr (.meth .append (.var 3) [(.tup [(.blt true .tuple [(.ix (.ix (.var 6) (.cst (.int 0))) (.cst (.int 0)))]), (.blt true .tuple [(.ix (.ix (.var 6) (.cst (.int 1))) (.cst (.int 0)))])])])],
  .ret (.tup [(.ix (.var 2) (.cst (.int 0))), (.blt true .tuple [(.var 3)])])]
def d31 : DI := ⟨("_law_read_machine" : Str), top 51, [("text" : Str), ("lines" : Str), ("many" : Str), ("moves" : Str), ("k" : Str), ("parts" : Str), ("rows" : Str), ("part" : Str), ("row" : Str), ("x" : Str)], [("text" : Str)], ⟨1, 10, b31, false⟩⟩
/-- _law_told -/
def b32 : List Sm := [
  .tryE [
    .ifs (.cmp .eq (.var 0) (.cst (.str ("signature" : Str)))) [
      .retR (.c (.call 12 [(.var 2)]))] [],
    .retR (.ite (.cmp .eq (.var 0) (.cst (.str ("set" : Str)))) (.call 14 [(.var 1), (.var 2)]) (.call 18 [(.var 2)]))] 3]
def d32 : DI := ⟨("_law_told" : Str), top 52, [("word" : Str), ("signature" : Str), ("text" : Str), ("error" : Str)], [("word" : Str), ("signature" : Str), ("text" : Str)], ⟨3, 4, b32, false⟩⟩
/-- _law_hurt -/
def b33 : List Sm := [
  .set 2 (.lst true [(.cst (.str ("" : Str))), (.cst (.str (" " : Str))), (.cst (.str ("\n" : Str))), (.cst (.str ("0" : Str))), (.cst (.str ("1" : Str))), (.cst (.str ("/" : Str))), (.cst (.str ("," : Str))), (.cst (.str ("." : Str))), (.cst (.str ("a" : Str))), (.cst (.str ("x" : Str))), (.cst (.str ("#" : Str))), (.cst (.str ("-" : Str))), (.cst (.str ("9" : Str))), (.cst (.str ("10" : Str))), (.cst (.str ("400" : Str))), (.cst (.str ("01" : Str)))]),
  .set 3 (.call 20 [(.var 0), (.bin .add (.blt true .len [(.var 1)]) (.cst (.int 1)))]),
  .ret (.bin .add (.bin .add (.slice (.var 1) none (some (.var 3))) (.call 21 [(.var 0), (.var 2)])) (.slice (.var 1) (some (.bin .add (.var 3) (.call 20 [(.var 0), (.cst (.int 2))]))) none))]
def d33 : DI := ⟨("_law_hurt" : Str), top 53, [("stream" : Str), ("text" : Str), ("signs" : Str), ("at" : Str)], [("stream" : Str), ("text" : Str)], ⟨2, 4, b33, false⟩⟩
/-- law -/
def b34 : List Sm := [
  .set 1 (.call 19 [(.var 0)]),
  .set 2 (.call 24 [(.var 1)]),
  .set 3 (.call 25 [(.var 1), (.var 2)]),
  .set 4 (.call 23 [(.var 1), (.cst (.int 4))]),
  .set 5 (.lst false [(.meth .join (.cst (.str (" " : Str))) [(.comp true [9, 19] (.many [9, 19]) (.seq (.var 2)) [] (.bin .add (.bin .add (.var 9) (.cst (.str ("/" : Str)))) (.blt true .str [(.var 19)])))])]),
  .set 6 (.lst false [(.meth .join (.cst (.str (" " : Str))) [(.comp true [18] (.one 18) (.seq (.bin .add (.tup [(.ix (.var 3) (.cst (.int 0)))]) (.ix (.var 3) (.cst (.int 2))))) [] (.blt true .str [(.var 18)]))])]),
  .for_ (.many [9, 10, 11]) (.seq (.ix (.var 3) (.cst (.int 1)))) [
    .expr (.meth .append (.var 6) [(.meth .join (.cst (.str (" " : Str))) [(.bin .add (.lst true [(.var 9)]) (.comp true [20] (.one 20) (.seq (.bin .add (.var 10) (.tup [(.var 11)]))) [] (.blt true .str [(.var 20)])))])])],
  .expr (.meth .append (.var 5) [(.meth .join (.cst (.str ("\n" : Str))) [(.var 6)])]),
  .set 6 (.lst false [(.blt true .str [(.ix (.var 4) (.cst (.int 0)))])]),
  .for_ (.many [12, 13]) (.seq (.ix (.var 4) (.cst (.int 1)))) [
    .expr (.meth .append (.var 6) [(.bin .add (.bin .add (.meth .join (.cst (.str ("," : Str))) [(.comp true [21] (.one 21) (.seq (.var 12)) [] (.blt true .str [(.var 21)]))]) (.cst (.str (" " : Str)))) (.meth .join (.cst (.str ("," : Str))) [(.comp true [21] (.one 21) (.seq (.var 13)) [] (.blt true .str [(.var 21)]))]))])],
  .expr (.meth .append (.var 5) [(.meth .join (.cst (.str ("\n" : Str))) [(.var 6)])]),
  .ifs (.not (.val (.call 22 [(.lst true [(.call 11 [(.var 2)]), (.call 13 [(.var 3)]), (.call 17 [(.var 4)])]), (.var 5)]))) [
    .ret (.cst (.bl false))] [],
  .set 7 (.lst true [(.var 2), (.var 3), (.var 4)]),
  .for_ (.one 8) (.rng (.cst (.int 3))) [
    .set 14 (.ix (.lst true [(.cst (.str ("signature" : Str))), (.cst (.str ("set" : Str))), (.cst (.str ("machine" : Str)))]) (.var 8)),
    .ifs (.not (.val (.call 22 [(.call 32 [(.var 14), (.var 2), (.ix (.var 5) (.var 8))]), (.ix (.var 7) (.var 8))]))) [
      .ret (.cst (.bl false))] [],
    .set 15 (.ix (.var 5) (.var 8)),
    .for_ (.one 16) (.rng (.cst (.int 4))) [
      .set 15 (.call 33 [(.var 1), (.var 15)]),
      .set 17 (.ite (.cmp .eq (.var 8) (.cst (.int 0))) (.call 29 [(.var 15)]) (.call 31 [(.var 15)])),
      .ifs (.cmp .eq (.var 8) (.cst (.int 1))) [
        .set 17 (.call 30 [(.var 2), (.var 15)])] [],
      .ifs (.not (.val (.call 22 [(.call 32 [(.var 14), (.var 2), (.var 15)]), (.var 17)]))) [
        .ret (.cst (.bl false))] []]],
  .ret (.cst (.bl true))]
def d34 : DI := ⟨("law" : Str), top 54, [("script" : Str), ("stream" : Str), ("signature" : Str), ("automaton" : Str), ("machine" : Str), ("texts" : Str), ("lines" : Str), ("things" : Str), ("k" : Str), ("symbol" : Str), ("states" : Str), ("end" : Str), ("takes" : Str), ("gives" : Str), ("word" : Str), ("text" : Str), ("j" : Str), ("due" : Str), ("number" : Str), ("wide" : Str), ("state" : Str), ("x" : Str)], [("script" : Str)], ⟨1, 22, b34, false⟩⟩
def defs : List DI := [d0, d1, d2, d3, d4, d5, d6, d7, d8, d9, d10, d11, d12, d13, d14, d15, d16, d17, d18, d19, d20, d21, d22, d23, d24, d25, d26, d27, d28, d29, d30, d31, d32, d33, d34]
def pr : Pr := ⟨[(("is_name" : Str), 0), (("names_symbol" : Str), 1), (("is_whole" : Str), 2), (("is_signature" : Str), 3), (("is_move" : Str), 4), (("is_automaton" : Str), 5), (("is_number" : Str), 6), (("is_counts" : Str), 7), (("is_machine" : Str), 8), (("number_of" : Str), 9), (("need_number" : Str), 10), (("signature_text" : Str), 11), (("read_signature" : Str), 12), (("automaton_text" : Str), 13), (("read_automaton" : Str), 14), (("counts_text" : Str), 15), (("read_counts" : Str), 16), (("machine_text" : Str), 17), (("read_machine" : Str), 18), (("_law_stream" : Str), 19), (("_law_draw" : Str), 20), (("_law_pick" : Str), 21), (("_law_same" : Str), 22), (("_law_machine" : Str), 23), (("_law_signature" : Str), 24), (("_law_automaton" : Str), 25), (("_law_number" : Str), 26), (("_law_numbers" : Str), 27), (("_law_is_symbol" : Str), 28), (("_law_read_signature" : Str), 29), (("_law_read_automaton" : Str), 30), (("_law_read_machine" : Str), 31), (("_law_told" : Str), 32), (("_law_hurt" : Str), 33), (("law" : Str), 34)], [(("LETTERS" : Str), (.str ("abcdefghijklmnopqrstuvwxyzABCDEFGHIJKLMNOPQRSTUVWXYZ" : Str))), (("GOING_ON" : Str), (.str ("abcdefghijklmnopqrstuvwxyzABCDEFGHIJKLMNOPQRSTUVWXYZ0123456789_" : Str))), (("FIRST_VARIABLES" : Str), (.str ("uvwxyz" : Str))), (("MOST_LETTERS" : Str), (.int 8)), (("MOST_SYMBOLS" : Str), (.int 6)), (("MOST_ARGUMENTS" : Str), (.int 3)), (("MOST_SETS" : Str), (.int 400)), (("MOST_COUNTERS" : Str), (.int 5)), (("MOST_MOVES" : Str), (.int 8)), (("MOST_NUMBER" : Str), (.int 9)), (("DIGITS" : Str), (.str ("0123456789" : Str))), (("MOST_SIGNS" : Str), (.int 9))], [("abs" : Str), ("all" : Str), ("any" : Str), ("bool" : Str), ("dict" : Str), ("enumerate" : Str), ("int" : Str), ("isinstance" : Str), ("len" : Str), ("list" : Str), ("range" : Str), ("sorted" : Str), ("str" : Str), ("tuple" : Str)], true⟩
theorem k0 : diB pr d0 = true := by decide +kernel
theorem k1 : diB pr d1 = true := by decide +kernel
theorem k2 : diB pr d2 = true := by decide +kernel
theorem k3 : diB pr d3 = true := by decide +kernel
theorem k4 : diB pr d4 = true := by decide +kernel
theorem k5 : diB pr d5 = true := by decide +kernel
theorem k6 : diB pr d6 = true := by decide +kernel
theorem k7 : diB pr d7 = true := by decide +kernel
theorem k8 : diB pr d8 = true := by decide +kernel
theorem k9 : diB pr d9 = true := by decide +kernel
theorem k10 : diB pr d10 = true := by decide +kernel
theorem k11 : diB pr d11 = true := by decide +kernel
theorem k12 : diB pr d12 = true := by decide +kernel
theorem k13 : diB pr d13 = true := by decide +kernel
theorem k14 : diB pr d14 = true := by decide +kernel
theorem k15 : diB pr d15 = true := by decide +kernel
theorem k16 : diB pr d16 = true := by decide +kernel
theorem k17 : diB pr d17 = true := by decide +kernel
theorem k18 : diB pr d18 = true := by decide +kernel
theorem k19 : diB pr d19 = true := by decide +kernel
theorem k20 : diB pr d20 = true := by decide +kernel
theorem k21 : diB pr d21 = true := by decide +kernel
theorem k22 : diB pr d22 = true := by decide +kernel
theorem k23 : diB pr d23 = true := by decide +kernel
theorem k24 : diB pr d24 = true := by decide +kernel
theorem k25 : diB pr d25 = true := by decide +kernel
theorem k26 : diB pr d26 = true := by decide +kernel
theorem k27 : diB pr d27 = true := by decide +kernel
theorem k28 : diB pr d28 = true := by decide +kernel
theorem k29 : diB pr d29 = true := by decide +kernel
theorem k30 : diB pr d30 = true := by decide +kernel
theorem k31 : diB pr d31 = true := by decide +kernel
theorem k32 : diB pr d32 = true := by decide +kernel
theorem k33 : diB pr d33 = true := by decide +kernel
theorem k34 : diB pr d34 = true := by decide +kernel
theorem kAll : defs.all (diB pr) = true := by
  simp only [defs, List.all_cons, List.all_nil, k0, k1, k2, k3, k4, k5, k6, k7, k8, k9, k10, k11, k12, k13, k14, k15, k16, k17, k18, k19, k20, k21, k22, k23, k24, k25, k26, k27, k28, k29, k30, k31, k32, k33, k34, Bool.and_self]
abbrev pg : List Df := defs.map (·.df)
open He in
def fn : List DefD := defs.map fun d => ⟨(d.name, none), d.name, d.name, defArgs d.st, defBody d.st, defScope d.st, [], []⟩
open He in
def fa : List Fa := [.glo ("is_name" : Str), .glo ("names_symbol" : Str), .glo ("is_whole" : Str), .glo ("is_signature" : Str), .glo ("is_move" : Str), .glo ("is_automaton" : Str), .glo ("is_number" : Str), .glo ("is_counts" : Str), .glo ("is_machine" : Str), .glo ("number_of" : Str), .glo ("need_number" : Str), .glo ("signature_text" : Str), .glo ("read_signature" : Str), .glo ("automaton_text" : Str), .glo ("read_automaton" : Str), .glo ("counts_text" : Str), .glo ("read_counts" : Str), .glo ("machine_text" : Str), .glo ("read_machine" : Str), .glo ("_law_stream" : Str), .glo ("_law_draw" : Str), .glo ("_law_pick" : Str), .glo ("_law_same" : Str), .glo ("_law_machine" : Str), .glo ("_law_signature" : Str), .glo ("_law_automaton" : Str), .glo ("_law_number" : Str), .glo ("_law_numbers" : Str), .glo ("_law_is_symbol" : Str), .glo ("_law_read_signature" : Str), .glo ("_law_read_automaton" : Str), .glo ("_law_read_machine" : Str), .glo ("_law_told" : Str), .glo ("_law_hurt" : Str), .glo ("law" : Str), .str ("LETTERS" : Str) ("abcdefghijklmnopqrstuvwxyzABCDEFGHIJKLMNOPQRSTUVWXYZ" : Str), .str ("GOING_ON" : Str) ("abcdefghijklmnopqrstuvwxyzABCDEFGHIJKLMNOPQRSTUVWXYZ0123456789_" : Str), .str ("FIRST_VARIABLES" : Str) ("uvwxyz" : Str), .int ("MOST_LETTERS" : Str) 8, .int ("MOST_SYMBOLS" : Str) 6, .int ("MOST_ARGUMENTS" : Str) 3, .int ("MOST_SETS" : Str) 400, .int ("MOST_COUNTERS" : Str) 5, .int ("MOST_MOVES" : Str) 8, .int ("MOST_NUMBER" : Str) 9, .str ("DIGITS" : Str) ("0123456789" : Str), .int ("MOST_SIGNS" : Str) 9, .free ("abs" : Str), .free ("all" : Str), .free ("any" : Str), .free ("bool" : Str), .free ("dict" : Str), .free ("enumerate" : Str), .free ("int" : Str), .free ("isinstance" : Str), .free ("len" : Str), .free ("list" : Str), .free ("range" : Str), .free ("sorted" : Str), .free ("str" : Str), .free ("tuple" : Str)]
section
variable {K : PySem.W.Frag} {mg : Str → Option Value} {h : Heap}
theorem bi0 {f : Addr} {fd : FuncData} (F : FunD K d0.name d0.name (defArgs d0.st) (defBody d0.st) (defScope d0.st) [] [] f fd) : Binds K fd d0.ps [] :=
  FunD.bindsN F fun _ _ _ _ _ _ us hl => match us, hl with | [_], _ => rfl
theorem bi1 {f : Addr} {fd : FuncData} (F : FunD K d1.name d1.name (defArgs d1.st) (defBody d1.st) (defScope d1.st) [] [] f fd) : Binds K fd d1.ps [] :=
  FunD.bindsN F fun _ _ _ _ _ _ us hl => match us, hl with | [_], _ => rfl
theorem bi2 {f : Addr} {fd : FuncData} (F : FunD K d2.name d2.name (defArgs d2.st) (defBody d2.st) (defScope d2.st) [] [] f fd) : Binds K fd d2.ps [] :=
  FunD.bindsN F fun _ _ _ _ _ _ us hl => match us, hl with | [_, _], _ => rfl
theorem bi3 {f : Addr} {fd : FuncData} (F : FunD K d3.name d3.name (defArgs d3.st) (defBody d3.st) (defScope d3.st) [] [] f fd) : Binds K fd d3.ps [] :=
  FunD.bindsN F fun _ _ _ _ _ _ us hl => match us, hl with | [_], _ => rfl
theorem bi4 {f : Addr} {fd : FuncData} (F : FunD K d4.name d4.name (defArgs d4.st) (defBody d4.st) (defScope d4.st) [] [] f fd) : Binds K fd d4.ps [] :=
  FunD.bindsN F fun _ _ _ _ _ _ us hl => match us, hl with | [_, _, _], _ => rfl
theorem bi5 {f : Addr} {fd : FuncData} (F : FunD K d5.name d5.name (defArgs d5.st) (defBody d5.st) (defScope d5.st) [] [] f fd) : Binds K fd d5.ps [] :=
  FunD.bindsN F fun _ _ _ _ _ _ us hl => match us, hl with | [_, _], _ => rfl
theorem bi6 {f : Addr} {fd : FuncData} (F : FunD K d6.name d6.name (defArgs d6.st) (defBody d6.st) (defScope d6.st) [] [] f fd) : Binds K fd d6.ps [] :=
  FunD.bindsN F fun _ _ _ _ _ _ us hl => match us, hl with | [_, _], _ => rfl
theorem bi7 {f : Addr} {fd : FuncData} (F : FunD K d7.name d7.name (defArgs d7.st) (defBody d7.st) (defScope d7.st) [] [] f fd) : Binds K fd d7.ps [] :=
  FunD.bindsN F fun _ _ _ _ _ _ us hl => match us, hl with | [_, _, _], _ => rfl
theorem bi8 {f : Addr} {fd : FuncData} (F : FunD K d8.name d8.name (defArgs d8.st) (defBody d8.st) (defScope d8.st) [] [] f fd) : Binds K fd d8.ps [] :=
  FunD.bindsN F fun _ _ _ _ _ _ us hl => match us, hl with | [_], _ => rfl
theorem bi9 {f : Addr} {fd : FuncData} (F : FunD K d9.name d9.name (defArgs d9.st) (defBody d9.st) (defScope d9.st) [] [] f fd) : Binds K fd d9.ps [] :=
  FunD.bindsN F fun _ _ _ _ _ _ us hl => match us, hl with | [_], _ => rfl
theorem bi10 {f : Addr} {fd : FuncData} (F : FunD K d10.name d10.name (defArgs d10.st) (defBody d10.st) (defScope d10.st) [] [] f fd) : Binds K fd d10.ps [] :=
  FunD.bindsN F fun _ _ _ _ _ _ us hl => match us, hl with | [_, _], _ => rfl
theorem bi11 {f : Addr} {fd : FuncData} (F : FunD K d11.name d11.name (defArgs d11.st) (defBody d11.st) (defScope d11.st) [] [] f fd) : Binds K fd d11.ps [] :=
  FunD.bindsN F fun _ _ _ _ _ _ us hl => match us, hl with | [_], _ => rfl
theorem bi12 {f : Addr} {fd : FuncData} (F : FunD K d12.name d12.name (defArgs d12.st) (defBody d12.st) (defScope d12.st) [] [] f fd) : Binds K fd d12.ps [] :=
  FunD.bindsN F fun _ _ _ _ _ _ us hl => match us, hl with | [_], _ => rfl
theorem bi13 {f : Addr} {fd : FuncData} (F : FunD K d13.name d13.name (defArgs d13.st) (defBody d13.st) (defScope d13.st) [] [] f fd) : Binds K fd d13.ps [] :=
  FunD.bindsN F fun _ _ _ _ _ _ us hl => match us, hl with | [_], _ => rfl
theorem bi14 {f : Addr} {fd : FuncData} (F : FunD K d14.name d14.name (defArgs d14.st) (defBody d14.st) (defScope d14.st) [] [] f fd) : Binds K fd d14.ps [] :=
  FunD.bindsN F fun _ _ _ _ _ _ us hl => match us, hl with | [_, _], _ => rfl
theorem bi15 {f : Addr} {fd : FuncData} (F : FunD K d15.name d15.name (defArgs d15.st) (defBody d15.st) (defScope d15.st) [] [] f fd) : Binds K fd d15.ps [] :=
  FunD.bindsN F fun _ _ _ _ _ _ us hl => match us, hl with | [_], _ => rfl
theorem bi16 {f : Addr} {fd : FuncData} (F : FunD K d16.name d16.name (defArgs d16.st) (defBody d16.st) (defScope d16.st) [] [] f fd) : Binds K fd d16.ps [] :=
  FunD.bindsN F fun _ _ _ _ _ _ us hl => match us, hl with | [_, _], _ => rfl
theorem bi17 {f : Addr} {fd : FuncData} (F : FunD K d17.name d17.name (defArgs d17.st) (defBody d17.st) (defScope d17.st) [] [] f fd) : Binds K fd d17.ps [] :=
  FunD.bindsN F fun _ _ _ _ _ _ us hl => match us, hl with | [_], _ => rfl
theorem bi18 {f : Addr} {fd : FuncData} (F : FunD K d18.name d18.name (defArgs d18.st) (defBody d18.st) (defScope d18.st) [] [] f fd) : Binds K fd d18.ps [] :=
  FunD.bindsN F fun _ _ _ _ _ _ us hl => match us, hl with | [_], _ => rfl
theorem bi19 {f : Addr} {fd : FuncData} (F : FunD K d19.name d19.name (defArgs d19.st) (defBody d19.st) (defScope d19.st) [] [] f fd) : Binds K fd d19.ps [] :=
  FunD.bindsN F fun _ _ _ _ _ _ us hl => match us, hl with | [_], _ => rfl
theorem bi20 {f : Addr} {fd : FuncData} (F : FunD K d20.name d20.name (defArgs d20.st) (defBody d20.st) (defScope d20.st) [] [] f fd) : Binds K fd d20.ps [] :=
  FunD.bindsN F fun _ _ _ _ _ _ us hl => match us, hl with | [_, _], _ => rfl
theorem bi21 {f : Addr} {fd : FuncData} (F : FunD K d21.name d21.name (defArgs d21.st) (defBody d21.st) (defScope d21.st) [] [] f fd) : Binds K fd d21.ps [] :=
  FunD.bindsN F fun _ _ _ _ _ _ us hl => match us, hl with | [_, _], _ => rfl
theorem bi22 {f : Addr} {fd : FuncData} (F : FunD K d22.name d22.name (defArgs d22.st) (defBody d22.st) (defScope d22.st) [] [] f fd) : Binds K fd d22.ps [] :=
  FunD.bindsN F fun _ _ _ _ _ _ us hl => match us, hl with | [_, _], _ => rfl
theorem bi23 {f : Addr} {fd : FuncData} (F : FunD K d23.name d23.name (defArgs d23.st) (defBody d23.st) (defScope d23.st) [] [] f fd) : Binds K fd d23.ps [] :=
  FunD.bindsN F fun _ _ _ _ _ _ us hl => match us, hl with | [_, _], _ => rfl
theorem bi24 {f : Addr} {fd : FuncData} (F : FunD K d24.name d24.name (defArgs d24.st) (defBody d24.st) (defScope d24.st) [] [] f fd) : Binds K fd d24.ps [] :=
  FunD.bindsN F fun _ _ _ _ _ _ us hl => match us, hl with | [_], _ => rfl
theorem bi25 {f : Addr} {fd : FuncData} (F : FunD K d25.name d25.name (defArgs d25.st) (defBody d25.st) (defScope d25.st) [] [] f fd) : Binds K fd d25.ps [] :=
  FunD.bindsN F fun _ _ _ _ _ _ us hl => match us, hl with | [_, _], _ => rfl
theorem bi26 {f : Addr} {fd : FuncData} (F : FunD K d26.name d26.name (defArgs d26.st) (defBody d26.st) (defScope d26.st) [] [] f fd) : Binds K fd d26.ps [] :=
  FunD.bindsN F fun _ _ _ _ _ _ us hl => match us, hl with | [_], _ => rfl
theorem bi27 {f : Addr} {fd : FuncData} (F : FunD K d27.name d27.name (defArgs d27.st) (defBody d27.st) (defScope d27.st) [] [] f fd) : Binds K fd d27.ps [] :=
  FunD.bindsN F fun _ _ _ _ _ _ us hl => match us, hl with | [_], _ => rfl
theorem bi28 {f : Addr} {fd : FuncData} (F : FunD K d28.name d28.name (defArgs d28.st) (defBody d28.st) (defScope d28.st) [] [] f fd) : Binds K fd d28.ps [] :=
  FunD.bindsN F fun _ _ _ _ _ _ us hl => match us, hl with | [_], _ => rfl
theorem bi29 {f : Addr} {fd : FuncData} (F : FunD K d29.name d29.name (defArgs d29.st) (defBody d29.st) (defScope d29.st) [] [] f fd) : Binds K fd d29.ps [] :=
  FunD.bindsN F fun _ _ _ _ _ _ us hl => match us, hl with | [_], _ => rfl
theorem bi30 {f : Addr} {fd : FuncData} (F : FunD K d30.name d30.name (defArgs d30.st) (defBody d30.st) (defScope d30.st) [] [] f fd) : Binds K fd d30.ps [] :=
  FunD.bindsN F fun _ _ _ _ _ _ us hl => match us, hl with | [_, _], _ => rfl
theorem bi31 {f : Addr} {fd : FuncData} (F : FunD K d31.name d31.name (defArgs d31.st) (defBody d31.st) (defScope d31.st) [] [] f fd) : Binds K fd d31.ps [] :=
  FunD.bindsN F fun _ _ _ _ _ _ us hl => match us, hl with | [_], _ => rfl
theorem bi32 {f : Addr} {fd : FuncData} (F : FunD K d32.name d32.name (defArgs d32.st) (defBody d32.st) (defScope d32.st) [] [] f fd) : Binds K fd d32.ps [] :=
  FunD.bindsN F fun _ _ _ _ _ _ us hl => match us, hl with | [_, _, _], _ => rfl
theorem bi33 {f : Addr} {fd : FuncData} (F : FunD K d33.name d33.name (defArgs d33.st) (defBody d33.st) (defScope d33.st) [] [] f fd) : Binds K fd d33.ps [] :=
  FunD.bindsN F fun _ _ _ _ _ _ us hl => match us, hl with | [_, _], _ => rfl
theorem bi34 {f : Addr} {fd : FuncData} (F : FunD K d34.name d34.name (defArgs d34.st) (defBody d34.st) (defScope d34.st) [] [] f fd) : Binds K fd d34.ps [] :=
  FunD.bindsN F fun _ _ _ _ _ _ us hl => match us, hl with | [_], _ => rfl
theorem facts {P : Program} (X : K.In h) (G : h.Ns mainGlobals mg) (c : He.SaysD fa fn K) (T : TE.Txt P K mg (TE.teC K) (TE.teF K) (TE.teCell K) (TE.teCda K)) : Facts P (TE.teC K) (TE.teF K) (TE.teCell K) (TE.teCda K) K mg pr defs := by
  refine ⟨fun x j e => ?_, fun j di e => ?_, fun x d e => ?_, fun x e => ?_, fun _ => T⟩
  · have e := PySem.mem_of_lookup e
    simp only [pr, List.mem_cons, Prod.mk.injEq, List.not_mem_nil, or_false] at e
    rcases e with ⟨rfl, rfl⟩ | ⟨rfl, rfl⟩ | ⟨rfl, rfl⟩ | ⟨rfl, rfl⟩ | ⟨rfl, rfl⟩ | ⟨rfl, rfl⟩ | ⟨rfl, rfl⟩ | ⟨rfl, rfl⟩ | ⟨rfl, rfl⟩ | ⟨rfl, rfl⟩ | ⟨rfl, rfl⟩ | ⟨rfl, rfl⟩ | ⟨rfl, rfl⟩ | ⟨rfl, rfl⟩ | ⟨rfl, rfl⟩ | ⟨rfl, rfl⟩ | ⟨rfl, rfl⟩ | ⟨rfl, rfl⟩ | ⟨rfl, rfl⟩ | ⟨rfl, rfl⟩ | ⟨rfl, rfl⟩ | ⟨rfl, rfl⟩ | ⟨rfl, rfl⟩ | ⟨rfl, rfl⟩ | ⟨rfl, rfl⟩ | ⟨rfl, rfl⟩ | ⟨rfl, rfl⟩ | ⟨rfl, rfl⟩ | ⟨rfl, rfl⟩ | ⟨rfl, rfl⟩ | ⟨rfl, rfl⟩ | ⟨rfl, rfl⟩ | ⟨rfl, rfl⟩ | ⟨rfl, rfl⟩ | ⟨rfl, rfl⟩
    all_goals exact ⟨_, rfl, rfl⟩
  · have key : ∀ (j : Nat) (hj : j < 35), ∀ di, defs[j]? = some di → ∃ f fd, mg di.name = some (.ref f) ∧ FunD K di.name di.name (defArgs di.st) (defBody di.st) (defScope di.st) [] [] f fd ∧ Binds K fd di.ps [] := by
      intro j hj di e
      match j, hj with
      | 0, _ =>
        cases e
        obtain ⟨fd, F⟩ := c.def_ 0 (d := ⟨(d0.name, none), d0.name, d0.name, defArgs d0.st, defBody d0.st, defScope d0.st, [], []⟩) rfl
        exact ⟨_, fd, He.glo_ok X G (c.fact 0 (f := .glo d0.name) rfl), F, bi0 F⟩
      | 1, _ =>
        cases e
        obtain ⟨fd, F⟩ := c.def_ 1 (d := ⟨(d1.name, none), d1.name, d1.name, defArgs d1.st, defBody d1.st, defScope d1.st, [], []⟩) rfl
        exact ⟨_, fd, He.glo_ok X G (c.fact 1 (f := .glo d1.name) rfl), F, bi1 F⟩
      | 2, _ =>
        cases e
        obtain ⟨fd, F⟩ := c.def_ 2 (d := ⟨(d2.name, none), d2.name, d2.name, defArgs d2.st, defBody d2.st, defScope d2.st, [], []⟩) rfl
        exact ⟨_, fd, He.glo_ok X G (c.fact 2 (f := .glo d2.name) rfl), F, bi2 F⟩
      | 3, _ =>
        cases e
        obtain ⟨fd, F⟩ := c.def_ 3 (d := ⟨(d3.name, none), d3.name, d3.name, defArgs d3.st, defBody d3.st, defScope d3.st, [], []⟩) rfl
        exact ⟨_, fd, He.glo_ok X G (c.fact 3 (f := .glo d3.name) rfl), F, bi3 F⟩
      | 4, _ =>
        cases e
        obtain ⟨fd, F⟩ := c.def_ 4 (d := ⟨(d4.name, none), d4.name, d4.name, defArgs d4.st, defBody d4.st, defScope d4.st, [], []⟩) rfl
        exact ⟨_, fd, He.glo_ok X G (c.fact 4 (f := .glo d4.name) rfl), F, bi4 F⟩
      | 5, _ =>
        cases e
        obtain ⟨fd, F⟩ := c.def_ 5 (d := ⟨(d5.name, none), d5.name, d5.name, defArgs d5.st, defBody d5.st, defScope d5.st, [], []⟩) rfl
        exact ⟨_, fd, He.glo_ok X G (c.fact 5 (f := .glo d5.name) rfl), F, bi5 F⟩
      | 6, _ =>
        cases e
        obtain ⟨fd, F⟩ := c.def_ 6 (d := ⟨(d6.name, none), d6.name, d6.name, defArgs d6.st, defBody d6.st, defScope d6.st, [], []⟩) rfl
        exact ⟨_, fd, He.glo_ok X G (c.fact 6 (f := .glo d6.name) rfl), F, bi6 F⟩
      | 7, _ =>
        cases e
        obtain ⟨fd, F⟩ := c.def_ 7 (d := ⟨(d7.name, none), d7.name, d7.name, defArgs d7.st, defBody d7.st, defScope d7.st, [], []⟩) rfl
        exact ⟨_, fd, He.glo_ok X G (c.fact 7 (f := .glo d7.name) rfl), F, bi7 F⟩
      | 8, _ =>
        cases e
        obtain ⟨fd, F⟩ := c.def_ 8 (d := ⟨(d8.name, none), d8.name, d8.name, defArgs d8.st, defBody d8.st, defScope d8.st, [], []⟩) rfl
        exact ⟨_, fd, He.glo_ok X G (c.fact 8 (f := .glo d8.name) rfl), F, bi8 F⟩
      | 9, _ =>
        cases e
        obtain ⟨fd, F⟩ := c.def_ 9 (d := ⟨(d9.name, none), d9.name, d9.name, defArgs d9.st, defBody d9.st, defScope d9.st, [], []⟩) rfl
        exact ⟨_, fd, He.glo_ok X G (c.fact 9 (f := .glo d9.name) rfl), F, bi9 F⟩
      | 10, _ =>
        cases e
        obtain ⟨fd, F⟩ := c.def_ 10 (d := ⟨(d10.name, none), d10.name, d10.name, defArgs d10.st, defBody d10.st, defScope d10.st, [], []⟩) rfl
        exact ⟨_, fd, He.glo_ok X G (c.fact 10 (f := .glo d10.name) rfl), F, bi10 F⟩
      | 11, _ =>
        cases e
        obtain ⟨fd, F⟩ := c.def_ 11 (d := ⟨(d11.name, none), d11.name, d11.name, defArgs d11.st, defBody d11.st, defScope d11.st, [], []⟩) rfl
        exact ⟨_, fd, He.glo_ok X G (c.fact 11 (f := .glo d11.name) rfl), F, bi11 F⟩
      | 12, _ =>
        cases e
        obtain ⟨fd, F⟩ := c.def_ 12 (d := ⟨(d12.name, none), d12.name, d12.name, defArgs d12.st, defBody d12.st, defScope d12.st, [], []⟩) rfl
        exact ⟨_, fd, He.glo_ok X G (c.fact 12 (f := .glo d12.name) rfl), F, bi12 F⟩
      | 13, _ =>
        cases e
        obtain ⟨fd, F⟩ := c.def_ 13 (d := ⟨(d13.name, none), d13.name, d13.name, defArgs d13.st, defBody d13.st, defScope d13.st, [], []⟩) rfl
        exact ⟨_, fd, He.glo_ok X G (c.fact 13 (f := .glo d13.name) rfl), F, bi13 F⟩
      | 14, _ =>
        cases e
        obtain ⟨fd, F⟩ := c.def_ 14 (d := ⟨(d14.name, none), d14.name, d14.name, defArgs d14.st, defBody d14.st, defScope d14.st, [], []⟩) rfl
        exact ⟨_, fd, He.glo_ok X G (c.fact 14 (f := .glo d14.name) rfl), F, bi14 F⟩
      | 15, _ =>
        cases e
        obtain ⟨fd, F⟩ := c.def_ 15 (d := ⟨(d15.name, none), d15.name, d15.name, defArgs d15.st, defBody d15.st, defScope d15.st, [], []⟩) rfl
        exact ⟨_, fd, He.glo_ok X G (c.fact 15 (f := .glo d15.name) rfl), F, bi15 F⟩
      | 16, _ =>
        cases e
        obtain ⟨fd, F⟩ := c.def_ 16 (d := ⟨(d16.name, none), d16.name, d16.name, defArgs d16.st, defBody d16.st, defScope d16.st, [], []⟩) rfl
        exact ⟨_, fd, He.glo_ok X G (c.fact 16 (f := .glo d16.name) rfl), F, bi16 F⟩
      | 17, _ =>
        cases e
        obtain ⟨fd, F⟩ := c.def_ 17 (d := ⟨(d17.name, none), d17.name, d17.name, defArgs d17.st, defBody d17.st, defScope d17.st, [], []⟩) rfl
        exact ⟨_, fd, He.glo_ok X G (c.fact 17 (f := .glo d17.name) rfl), F, bi17 F⟩
      | 18, _ =>
        cases e
        obtain ⟨fd, F⟩ := c.def_ 18 (d := ⟨(d18.name, none), d18.name, d18.name, defArgs d18.st, defBody d18.st, defScope d18.st, [], []⟩) rfl
        exact ⟨_, fd, He.glo_ok X G (c.fact 18 (f := .glo d18.name) rfl), F, bi18 F⟩
      | 19, _ =>
        cases e
        obtain ⟨fd, F⟩ := c.def_ 19 (d := ⟨(d19.name, none), d19.name, d19.name, defArgs d19.st, defBody d19.st, defScope d19.st, [], []⟩) rfl
        exact ⟨_, fd, He.glo_ok X G (c.fact 19 (f := .glo d19.name) rfl), F, bi19 F⟩
      | 20, _ =>
        cases e
        obtain ⟨fd, F⟩ := c.def_ 20 (d := ⟨(d20.name, none), d20.name, d20.name, defArgs d20.st, defBody d20.st, defScope d20.st, [], []⟩) rfl
        exact ⟨_, fd, He.glo_ok X G (c.fact 20 (f := .glo d20.name) rfl), F, bi20 F⟩
      | 21, _ =>
        cases e
        obtain ⟨fd, F⟩ := c.def_ 21 (d := ⟨(d21.name, none), d21.name, d21.name, defArgs d21.st, defBody d21.st, defScope d21.st, [], []⟩) rfl
        exact ⟨_, fd, He.glo_ok X G (c.fact 21 (f := .glo d21.name) rfl), F, bi21 F⟩
      | 22, _ =>
        cases e
        obtain ⟨fd, F⟩ := c.def_ 22 (d := ⟨(d22.name, none), d22.name, d22.name, defArgs d22.st, defBody d22.st, defScope d22.st, [], []⟩) rfl
        exact ⟨_, fd, He.glo_ok X G (c.fact 22 (f := .glo d22.name) rfl), F, bi22 F⟩
      | 23, _ =>
        cases e
        obtain ⟨fd, F⟩ := c.def_ 23 (d := ⟨(d23.name, none), d23.name, d23.name, defArgs d23.st, defBody d23.st, defScope d23.st, [], []⟩) rfl
        exact ⟨_, fd, He.glo_ok X G (c.fact 23 (f := .glo d23.name) rfl), F, bi23 F⟩
      | 24, _ =>
        cases e
        obtain ⟨fd, F⟩ := c.def_ 24 (d := ⟨(d24.name, none), d24.name, d24.name, defArgs d24.st, defBody d24.st, defScope d24.st, [], []⟩) rfl
        exact ⟨_, fd, He.glo_ok X G (c.fact 24 (f := .glo d24.name) rfl), F, bi24 F⟩
      | 25, _ =>
        cases e
        obtain ⟨fd, F⟩ := c.def_ 25 (d := ⟨(d25.name, none), d25.name, d25.name, defArgs d25.st, defBody d25.st, defScope d25.st, [], []⟩) rfl
        exact ⟨_, fd, He.glo_ok X G (c.fact 25 (f := .glo d25.name) rfl), F, bi25 F⟩
      | 26, _ =>
        cases e
        obtain ⟨fd, F⟩ := c.def_ 26 (d := ⟨(d26.name, none), d26.name, d26.name, defArgs d26.st, defBody d26.st, defScope d26.st, [], []⟩) rfl
        exact ⟨_, fd, He.glo_ok X G (c.fact 26 (f := .glo d26.name) rfl), F, bi26 F⟩
      | 27, _ =>
        cases e
        obtain ⟨fd, F⟩ := c.def_ 27 (d := ⟨(d27.name, none), d27.name, d27.name, defArgs d27.st, defBody d27.st, defScope d27.st, [], []⟩) rfl
        exact ⟨_, fd, He.glo_ok X G (c.fact 27 (f := .glo d27.name) rfl), F, bi27 F⟩
      | 28, _ =>
        cases e
        obtain ⟨fd, F⟩ := c.def_ 28 (d := ⟨(d28.name, none), d28.name, d28.name, defArgs d28.st, defBody d28.st, defScope d28.st, [], []⟩) rfl
        exact ⟨_, fd, He.glo_ok X G (c.fact 28 (f := .glo d28.name) rfl), F, bi28 F⟩
      | 29, _ =>
        cases e
        obtain ⟨fd, F⟩ := c.def_ 29 (d := ⟨(d29.name, none), d29.name, d29.name, defArgs d29.st, defBody d29.st, defScope d29.st, [], []⟩) rfl
        exact ⟨_, fd, He.glo_ok X G (c.fact 29 (f := .glo d29.name) rfl), F, bi29 F⟩
      | 30, _ =>
        cases e
        obtain ⟨fd, F⟩ := c.def_ 30 (d := ⟨(d30.name, none), d30.name, d30.name, defArgs d30.st, defBody d30.st, defScope d30.st, [], []⟩) rfl
        exact ⟨_, fd, He.glo_ok X G (c.fact 30 (f := .glo d30.name) rfl), F, bi30 F⟩
      | 31, _ =>
        cases e
        obtain ⟨fd, F⟩ := c.def_ 31 (d := ⟨(d31.name, none), d31.name, d31.name, defArgs d31.st, defBody d31.st, defScope d31.st, [], []⟩) rfl
        exact ⟨_, fd, He.glo_ok X G (c.fact 31 (f := .glo d31.name) rfl), F, bi31 F⟩
      | 32, _ =>
        cases e
        obtain ⟨fd, F⟩ := c.def_ 32 (d := ⟨(d32.name, none), d32.name, d32.name, defArgs d32.st, defBody d32.st, defScope d32.st, [], []⟩) rfl
        exact ⟨_, fd, He.glo_ok X G (c.fact 32 (f := .glo d32.name) rfl), F, bi32 F⟩
      | 33, _ =>
        cases e
        obtain ⟨fd, F⟩ := c.def_ 33 (d := ⟨(d33.name, none), d33.name, d33.name, defArgs d33.st, defBody d33.st, defScope d33.st, [], []⟩) rfl
        exact ⟨_, fd, He.glo_ok X G (c.fact 33 (f := .glo d33.name) rfl), F, bi33 F⟩
      | 34, _ =>
        cases e
        obtain ⟨fd, F⟩ := c.def_ 34 (d := ⟨(d34.name, none), d34.name, d34.name, defArgs d34.st, defBody d34.st, defScope d34.st, [], []⟩) rfl
        exact ⟨_, fd, He.glo_ok X G (c.fact 34 (f := .glo d34.name) rfl), F, bi34 F⟩
    exact key j (List.getElem?_eq_some_iff.mp e).1 di e
  · have e := PySem.mem_of_lookup e
    simp only [pr, List.mem_cons, Prod.mk.injEq, List.not_mem_nil, or_false] at e
    rcases e with ⟨rfl, rfl⟩ | ⟨rfl, rfl⟩ | ⟨rfl, rfl⟩ | ⟨rfl, rfl⟩ | ⟨rfl, rfl⟩ | ⟨rfl, rfl⟩ | ⟨rfl, rfl⟩ | ⟨rfl, rfl⟩ | ⟨rfl, rfl⟩ | ⟨rfl, rfl⟩ | ⟨rfl, rfl⟩ | ⟨rfl, rfl⟩
    · obtain ⟨t, e⟩ := He.str_ok X G (c.fact 35 (f := .str ("LETTERS" : Str) ("abcdefghijklmnopqrstuvwxyzABCDEFGHIJKLMNOPQRSTUVWXYZ" : Str)) rfl)
      exact ⟨_, .str ("abcdefghijklmnopqrstuvwxyzABCDEFGHIJKLMNOPQRSTUVWXYZ" : Str), e, ⟨t, rfl⟩, fun _ _ => rep_str.mpr rfl⟩
    · obtain ⟨t, e⟩ := He.str_ok X G (c.fact 36 (f := .str ("GOING_ON" : Str) ("abcdefghijklmnopqrstuvwxyzABCDEFGHIJKLMNOPQRSTUVWXYZ0123456789_" : Str)) rfl)
      exact ⟨_, .str ("abcdefghijklmnopqrstuvwxyzABCDEFGHIJKLMNOPQRSTUVWXYZ0123456789_" : Str), e, ⟨t, rfl⟩, fun _ _ => rep_str.mpr rfl⟩
    · obtain ⟨t, e⟩ := He.str_ok X G (c.fact 37 (f := .str ("FIRST_VARIABLES" : Str) ("uvwxyz" : Str)) rfl)
      exact ⟨_, .str ("uvwxyz" : Str), e, ⟨t, rfl⟩, fun _ _ => rep_str.mpr rfl⟩
    · obtain ⟨t, e⟩ := He.int_ok X G (c.fact 38 (f := .int ("MOST_LETTERS" : Str) 8) rfl)
      exact ⟨_, .int 8, e, ⟨t, rfl⟩, fun _ _ => rep_int.mpr rfl⟩
    · obtain ⟨t, e⟩ := He.int_ok X G (c.fact 39 (f := .int ("MOST_SYMBOLS" : Str) 6) rfl)
      exact ⟨_, .int 6, e, ⟨t, rfl⟩, fun _ _ => rep_int.mpr rfl⟩
    · obtain ⟨t, e⟩ := He.int_ok X G (c.fact 40 (f := .int ("MOST_ARGUMENTS" : Str) 3) rfl)
      exact ⟨_, .int 3, e, ⟨t, rfl⟩, fun _ _ => rep_int.mpr rfl⟩
    · obtain ⟨t, e⟩ := He.int_ok X G (c.fact 41 (f := .int ("MOST_SETS" : Str) 400) rfl)
      exact ⟨_, .int 400, e, ⟨t, rfl⟩, fun _ _ => rep_int.mpr rfl⟩
    · obtain ⟨t, e⟩ := He.int_ok X G (c.fact 42 (f := .int ("MOST_COUNTERS" : Str) 5) rfl)
      exact ⟨_, .int 5, e, ⟨t, rfl⟩, fun _ _ => rep_int.mpr rfl⟩
    · obtain ⟨t, e⟩ := He.int_ok X G (c.fact 43 (f := .int ("MOST_MOVES" : Str) 8) rfl)
      exact ⟨_, .int 8, e, ⟨t, rfl⟩, fun _ _ => rep_int.mpr rfl⟩
    · obtain ⟨t, e⟩ := He.int_ok X G (c.fact 44 (f := .int ("MOST_NUMBER" : Str) 9) rfl)
      exact ⟨_, .int 9, e, ⟨t, rfl⟩, fun _ _ => rep_int.mpr rfl⟩
    · obtain ⟨t, e⟩ := He.str_ok X G (c.fact 45 (f := .str ("DIGITS" : Str) ("0123456789" : Str)) rfl)
      exact ⟨_, .str ("0123456789" : Str), e, ⟨t, rfl⟩, fun _ _ => rep_str.mpr rfl⟩
    · obtain ⟨t, e⟩ := He.int_ok X G (c.fact 46 (f := .int ("MOST_SIGNS" : Str) 9) rfl)
      exact ⟨_, .int 9, e, ⟨t, rfl⟩, fun _ _ => rep_int.mpr rfl⟩
  · simp only [pr, List.mem_cons, List.not_mem_nil, or_false] at e
    rcases e with rfl | rfl | rfl | rfl | rfl | rfl | rfl | rfl | rfl | rfl | rfl | rfl | rfl | rfl
    · exact He.free_ok X G (c.fact 47 (f := .free ("abs" : Str)) rfl)
    · exact He.free_ok X G (c.fact 48 (f := .free ("all" : Str)) rfl)
    · exact He.free_ok X G (c.fact 49 (f := .free ("any" : Str)) rfl)
    · exact He.free_ok X G (c.fact 50 (f := .free ("bool" : Str)) rfl)
    · exact He.free_ok X G (c.fact 51 (f := .free ("dict" : Str)) rfl)
    · exact He.free_ok X G (c.fact 52 (f := .free ("enumerate" : Str)) rfl)
    · exact He.free_ok X G (c.fact 53 (f := .free ("int" : Str)) rfl)
    · exact He.free_ok X G (c.fact 54 (f := .free ("isinstance" : Str)) rfl)
    · exact He.free_ok X G (c.fact 55 (f := .free ("len" : Str)) rfl)
    · exact He.free_ok X G (c.fact 56 (f := .free ("list" : Str)) rfl)
    · exact He.free_ok X G (c.fact 57 (f := .free ("range" : Str)) rfl)
    · exact He.free_ok X G (c.fact 58 (f := .free ("sorted" : Str)) rfl)
    · exact He.free_ok X G (c.fact 59 (f := .free ("str" : Str)) rfl)
    · exact He.free_ok X G (c.fact 60 (f := .free ("tuple" : Str)) rfl)
end
def names0 : List PySem.Str := [("TermtideError" : Str), ("TextError" : Str), ("LETTERS" : Str), ("GOING_ON" : Str), ("FIRST_VARIABLES" : Str), ("MOST_LETTERS" : Str), ("MOST_SYMBOLS" : Str), ("MOST_ARGUMENTS" : Str), ("MOST_SETS" : Str), ("MOST_COUNTERS" : Str), ("MOST_MOVES" : Str), ("MOST_NUMBER" : Str), ("DIGITS" : Str), ("MOST_SIGNS" : Str), ("is_name" : Str), ("names_symbol" : Str), ("is_whole" : Str), ("is_signature" : Str), ("is_move" : Str), ("is_automaton" : Str), ("is_number" : Str), ("is_counts" : Str), ("is_machine" : Str), ("number_of" : Str), ("need_number" : Str), ("signature_text" : Str), ("read_signature" : Str), ("automaton_text" : Str), ("read_automaton" : Str), ("counts_text" : Str), ("read_counts" : Str), ("machine_text" : Str), ("read_machine" : Str), ("_law_stream" : Str), ("_law_draw" : Str), ("_law_pick" : Str), ("_law_same" : Str), ("_law_machine" : Str), ("_law_signature" : Str), ("_law_automaton" : Str)]
def names1 : List PySem.Str := [("_law_number" : Str), ("_law_numbers" : Str), ("_law_is_symbol" : Str), ("_law_read_signature" : Str), ("_law_read_automaton" : Str), ("_law_read_machine" : Str), ("_law_told" : Str), ("_law_hurt" : Str)]
def names : List PySem.Str := names0 ++ names1
abbrev fl : PySem.Str := (PySem.Challenge.rw_termtide_k64_whole_texts_of_sets).prog.main.file
abbrev hk : PySem.W.Hook := TE.hookX fl 4 fa fn
def ob (s : PySem.W.SharedT) : TE.AlX := TE.obsX fl 4 fa fn (HandSHeadRun.getT s)
theorem ob_eq (s : PySem.W.SharedT) : ob s = hk.obs s.abs := TE.obsX_eq (HandSHeadRun.getT_eq s)
abbrev R : PySem.W.OpenRow := PySem.W.OpenLaw.row PySem.Challenge.rw_termtide_k64_whole_texts_of_sets
theorem run (w : World) : HandSHeadRun.RunEq R (PySem.W.view R.prog [54]) hk ob 2800 names w := by
  intro os
  kernel_rfl
theorem law_at {w : World} {K : PySem.W.Frag} {mg : Str → Option Value} {h : Heap} {f : Addr} {P : Program} (k : Nat) (X : K.In h) (G : h.Ns mainGlobals mg) (hfa : mg ("law" : Str) = some (.ref f)) (c : He.SaysD fa fn K) (T : TE.Txt P K mg (TE.teC K) (TE.teF K) (TE.teCell K) (TE.teCda K)) :
    ∃ fd : FuncData, (∀ (s : Shared) (v : Value), BindsTo s fd ⟨[v], []⟩ [("script", v)]) ∧ ∀ base : Heap, K.In base → base.Ns mainGlobals mg → FnOk P w K mg base (L2.CX P w) (k + 1) f fd ["script"] (spC K (TE.teC K) (calls pg (k + 1)) 34) := by
  obtain ⟨fd, F⟩ := c.def_ 34 (d := ⟨(d34.name, none), d34.name, d34.name, defArgs d34.st, defBody d34.st, defScope d34.st, [], []⟩) rfl
  have e := hfa.symm.trans (He.glo_ok X G (c.fact 34 (f := .glo d34.name) rfl))
  cases e
  have b := FunD.bindsA (ps := ["script"]) F fun _ _ _ _ _ _ us hl => match us, hl with | [_], _ => rfl
  exact ⟨fd, fun s v => b s [v] rfl, fun base _ _ => def_ok (facts X G c T) k34 rfl F (defs_ok (facts X G c T) kAll k)⟩
end Tt.P
open PySem PySem.W PySem.Calls PyProof.Rows Tt
theorem Tt.P.holds (k : Nat) (hk : k + 1 ≤ 120) (H : ∀ ns : List Int, ns.length ≤ 63 → ∃ S', Tt.calls Tt.P.pg (k + 1) 34 [.fzl (ns.map .int)] [] = some (.ok (.bl true), S')) : PySem.Challenge.rw_termtide_k64_whole_texts_of_sets.Holds := by
  w_on; o_law
  refine HandSHeadRun.head_any (r := OpenLaw.row PySem.Challenge.rw_termtide_k64_whole_texts_of_sets) (q := view (OpenLaw.row PySem.Challenge.rw_termtide_k64_whole_texts_of_sets).prog [54]) (H := Tt.P.hk) (ob := Tt.P.ob) (M := 2800) (loose := Tt.P.names) (d := HandSHeadRun.topDef (OpenLaw.row PySem.Challenge.rw_termtide_k64_whole_texts_of_sets).prog 54) (kwd := []) Tt.P.ob_eq
    (by kernel_rfl) (fun s => by kernel_rfl) Tt.P.run (by kernel_rfl) (by kernel_rfl) (by kernel_rfl) (by rfl) (by first | assumption | decide +kernel) (by decide +kernel) ⟨rfl, rfl, rfl, rfl, rfl, by decide +kernel⟩ ?hw ?hc
  case hw => w_witness2
  case hc =>
    refine L2.walk_ofE (l := PySem.Challenge.rw_termtide_k64_whole_texts_of_sets) (n := 63) (k := k + 1) (x := "script") (CX := fun _ _ _ _ _ _ => False) rfl (by decide) (by kernel_rfl) ⟨rfl, Nat.lt_of_le_of_lt (Nat.add_le_add_right (Nat.add_le_add_left (Nat.mul_le_mul_left 3 hk) _) _) (by decide), ?un⟩ ?F (fun _ _ _ _ z => z)
    case un => exact Nat.lt_of_le_of_lt (Nat.add_le_add_right (Nat.add_le_add_left (Nat.mul_le_mul_left 16 hk) _) _) (by decide)
    intro w mg fa h Y G hmg0
    obtain ⟨K, KX, c⟩ := Y
    have hmg : mg ("law" : PySem.Str) = some (.ref fa) := by
      have e : (HandSHeadRun.topDef (OpenLaw.row PySem.Challenge.rw_termtide_k64_whole_texts_of_sets).prog 54).name = ("law" : PySem.Str) := by kernel_rfl
      rw [← e]
      exact hmg0
    obtain ⟨fd, hb, hF⟩ := Tt.P.law_at (P := (PySem.Challenge.rw_termtide_k64_whole_texts_of_sets).prog) (w := w) k KX G hmg c.d (TE.txt_of KX G rfl (by kernel_rfl) c.w c.b)
    exact ⟨K, fd, fun vs H Q _ => Tt.spC K (TE.teC K) (Tt.calls Tt.P.pg (k + 1)) 34 vs H Q fun _ _ _ => False, KX, hb, fun H0 a ns hl hO hS => Tt.law_sp (C := TE.teC K) H H0 a ns hl hO hS, fun base b1 b2 => Tt.noX (hF base b1 b2)⟩
end

section
/-! What an evaluation comes to: rules, one a form. -/
namespace Tt
open PySem L2

/-! ### what an evaluation comes to -/
def W {α : Type} (o : Option (α × Sto)) (Q : α → Sto → Prop) : Prop := ∃ d S, o = some (d, S) ∧ Q d S
def WS (o : Option (Fl × En × Sto)) (Q : Fl → En → Sto → Prop) : Prop := ∃ f e S, o = some (f, e, S) ∧ Q f e S
def WC {α : Type} (o : Option α) (Q : α → Prop) : Prop := ∃ d, o = some d ∧ Q d
section
variable {α β : Type} {Q : α → Sto → Prop}
theorem W.mono {o : Option (α × Sto)} {Q' : α → Sto → Prop} (h : W o Q) (w : ∀ d S, Q d S → Q' d S) : W o Q' := by
  obtain ⟨d, S, e, q⟩ := h; exact ⟨d, S, e, w d S q⟩
theorem WS.mono {o : Option (Fl × En × Sto)} {Q Q' : Fl → En → Sto → Prop} (h : WS o Q) (w : ∀ f e S, Q f e S → Q' f e S) : WS o Q' := by
  obtain ⟨f, e, S, h, q⟩ := h; exact ⟨f, e, S, h, w f e S q⟩
theorem WC.mono {o : Option α} {Q Q' : α → Prop} (h : WC o Q) (w : ∀ d, Q d → Q' d) : WC o Q' := by
  obtain ⟨d, e, q⟩ := h; exact ⟨d, e, w d q⟩
theorem W_some {o : Option (α × Sto)} {d : α} {S : Sto} (h : o = some (d, S)) (q : Q d S) : W o Q := ⟨d, S, h, q⟩
theorem WC_some {o : Option α} {Q : α → Prop} {d : α} (h : o = some d) (q : Q d) : WC o Q := ⟨d, h, q⟩
theorem W_bind {o : Option (β × Sto)} {f : β × Sto → Option (α × Sto)} (h : W o fun x S1 => W (f (x, S1)) Q) : W (o.bind f) Q := by
  obtain ⟨d, S, e, d2, S2, e2, q⟩ := h
  exact ⟨d2, S2, by rw [e]; exact e2, q⟩
theorem W_map {o : Option (β × Sto)} {f : β × Sto → α × Sto} (h : W o fun x S1 => Q (f (x, S1)).1 (f (x, S1)).2) : W (o.map f) Q := by
  obtain ⟨d, S, e, q⟩ := h
  exact ⟨_, _, by rw [e]; rfl, q⟩
theorem W_bindC {o : Option β} {f : β → Option (α × Sto)} (h : WC o fun x => W (f x) Q) : W (o.bind f) Q := by
  obtain ⟨d, e, d2, S2, e2, q⟩ := h
  exact ⟨d2, S2, by rw [e]; exact e2, q⟩
theorem W_mapC {o : Option β} {f : β → α × Sto} (h : WC o fun x => Q (f x).1 (f x).2) : W (o.map f) Q := by
  obtain ⟨d, e, q⟩ := h
  exact ⟨_, _, by rw [e]; rfl, q⟩
theorem WC_map {o : Option β} {f : β → α} {Q : α → Prop} (h : WC o fun x => Q (f x)) : WC (o.map f) Q := by
  obtain ⟨d, e, q⟩ := h
  exact ⟨_, by rw [e]; rfl, q⟩
theorem WC_bind {o : Option β} {f : β → Option α} {Q : α → Prop} (h : WC o fun x => WC (f x) Q) : WC (o.bind f) Q := by
  obtain ⟨d, e, d2, e2, q⟩ := h
  exact ⟨d2, by rw [e]; exact e2, q⟩
theorem W_if {c : Prop} [Decidable c] {a : Option (α × Sto)} (h : c) (q : W a Q) : W (if c then a else none) Q := by rw [if_pos h]; exact q
theorem WS_bind {o : Option (β × Sto)} {f : β × Sto → Option (Fl × En × Sto)} {Q : Fl → En → Sto → Prop} (h : W o fun x S1 => WS (f (x, S1)) Q) : WS (o.bind f) Q := by
  obtain ⟨d, S, e, d2, e2, S2, h2, q⟩ := h
  exact ⟨d2, e2, S2, by rw [e]; exact h2, q⟩
theorem WS_map {o : Option (β × Sto)} {f : β × Sto → Fl × En × Sto} {Q : Fl → En → Sto → Prop} (h : W o fun x S1 => Q (f (x, S1)).1 (f (x, S1)).2.1 (f (x, S1)).2.2) : WS (o.map f) Q := by
  obtain ⟨d, S, e, q⟩ := h
  exact ⟨_, _, _, by rw [e]; rfl, q⟩
theorem WS_mapC {o : Option β} {f : β → Fl × En × Sto} {Q : Fl → En → Sto → Prop} (h : WC o fun x => Q (f x).1 (f x).2.1 (f x).2.2) : WS (o.map f) Q := by
  obtain ⟨d, e, q⟩ := h
  exact ⟨_, _, _, by rw [e]; rfl, q⟩
theorem WS_some {f : Fl} {e : En} {S : Sto} {Q : Fl → En → Sto → Prop} (q : Q f e S) : WS (some (f, e, S)) Q := ⟨f, e, S, rfl, q⟩
end

/-- .. without an error -/
def WO (o : Option (Rz × Sto)) (Q : D → Sto → Prop) : Prop := W o fun r S => ∃ d, r = .ok d ∧ Q d S
theorem WO.mono {o : Option (Rz × Sto)} {Q Q' : D → Sto → Prop} (h : WO o Q) (w : ∀ d S, Q d S → Q' d S) : WO o Q' :=
  W.mono h fun r S ⟨d, e, q⟩ => ⟨d, e, w d S q⟩
theorem WO.okB {f : List D → Sto → Option (Rz × Sto)} {ds : List D} {S : Sto} {Q : D → Sto → Prop} (h : WO (f ds S) Q) : W (okB f ds S) Q := by
  obtain ⟨r, S1, e, d, rfl, q⟩ := h
  exact ⟨d, S1, by unfold Tt.okB; rw [e]; rfl, q⟩
/-! ### expressions -/
section
variable {cal : Cal} {d : Nat} {env : En} {S : Sto} {a b c : E} {es : List E} {Q : D → Sto → Prop} {QT : Bool → Sto → Prop} {QA : List D → Sto → Prop}
theorem w_var {i : Nat} {x : D} (h : env[i]? = some (some x)) (q : Q x S) : W (ev cal (d + 1) (.var i) env S) Q := ⟨x, S, by show (match env[i]? with | some (some x) => some (x, S) | _ => none) = _; rw [h], q⟩
theorem w_cst {x : D} (q : Q x S) : W (ev cal (d + 1) (.cst x) env S) Q := ⟨x, S, rfl, q⟩
theorem w_glob {y : Str} {x : D} (q : Q x S) : W (ev cal (d + 1) (.glob y x) env S) Q := ⟨x, S, rfl, q⟩
theorem w_nil (q : QA [] S) : W (evs (ev cal d) [] env S) QA := ⟨[], S, rfl, q⟩
theorem w_cons {e : E} (h : W (ev cal d e env S) fun x S1 => W (evs (ev cal d) es env S1) fun xs S2 => QA (x :: xs) S2) : W (evs (ev cal d) (e :: es) env S) QA :=
  W_bind (h.mono fun x S1 h => W_bind (h.mono fun xs S2 h => ⟨_, _, rfl, h⟩))
theorem w_tup (h : W (evs (ev cal d) es env S) fun xs S1 => xs.length ≤ sizeLine ∧ Q (.tup xs) S1) : W (ev cal (d + 1) (.tup es) env S) Q :=
  W_bind (h.mono fun x S1 h => W_if h.1 ⟨_, _, rfl, h.2⟩)
theorem w_lstT (h : W (evs (ev cal d) es env S) fun xs S1 => xs.length ≤ sizeLine ∧ Q (.lst xs) S1) : W (ev cal (d + 1) (.lst true es) env S) Q :=
  W_bind (h.mono fun x S1 h => ⟨_, _, by show mkL true x S1 = _; unfold mkL; rw [if_pos h.1]; rfl, h.2⟩)
theorem w_lstF (h : W (evs (ev cal d) es env S) fun xs S1 => xs.length ≤ sizeLine ∧ Q (.ref S1.length) (S1 ++ [.lst xs])) : W (ev cal (d + 1) (.lst false es) env S) Q :=
  W_bind (h.mono fun x S1 h => ⟨_, _, by show mkL false x S1 = _; unfold mkL; rw [if_pos h.1]; rfl, h.2⟩)
theorem e_and (h : W (ev cal d a env S) fun x S1 => ∃ k, x = .bl k ∧ if k = true then W (ev cal d b env S1) Q else Q (.bl false) S1) : W (ev cal (d + 1) (.and a b) env S) Q :=
  W_bind (h.mono fun x S1 h => by
    obtain ⟨k, rfl, h⟩ := h
    cases k with
    | true => exact h
    | false => exact ⟨_, _, rfl, h⟩)
theorem e_or (h : W (ev cal d a env S) fun x S1 => ∃ k, x = .bl k ∧ if k = true then Q (.bl true) S1 else W (ev cal d b env S1) Q) : W (ev cal (d + 1) (.or a b) env S) Q :=
  W_bind (h.mono fun x S1 h => by
    obtain ⟨k, rfl, h⟩ := h
    cases k with
    | true => exact ⟨_, _, rfl, h⟩
    | false => exact h)
theorem w_not (h : W (ev cal d a env S) fun x S1 => ∃ k, x = .bl k ∧ Q (.bl (!k)) S1) : W (ev cal (d + 1) (.not a) env S) Q :=
  W_bind (h.mono fun x S1 h => by
    obtain ⟨k, rfl, h⟩ := h
    exact ⟨_, _, rfl, h⟩)
theorem w_neg (h : W (ev cal d a env S) fun x S1 => ∃ k, x = .int k ∧ Q (.int (-k)) S1) : W (ev cal (d + 1) (.neg a) env S) Q :=
  W_bind (h.mono fun x S1 h => by
    obtain ⟨k, rfl, h⟩ := h
    exact ⟨_, _, rfl, h⟩)
theorem w_ite {t : T} (h : W (evT cal d t env S) fun k S1 => if k = true then W (ev cal d a env S1) Q else W (ev cal d b env S1) Q) : W (ev cal (d + 1) (.ite t a b) env S) Q :=
  W_bind (h.mono fun x S1 h => by
    cases x with
    | true => exact h
    | false => exact h)
theorem w_bin {op : Bop} (h : W (ev cal d a env S) fun x S1 => W (ev cal d b env S1) fun y S2 => W (opB op x y S2) Q) : W (ev cal (d + 1) (.bin op a b) env S) Q :=
  W_bind (h.mono fun x S1 h => W_bind h)
theorem w_cmp {op : Cop} (h : W (ev cal d a env S) fun x S1 => W (ev cal d b env S1) fun y S2 => WC (cmpD op x y S2) fun k => Q (.bl k) S2) : W (ev cal (d + 1) (.cmp op a b) env S) Q :=
  W_map (W_bind (h.mono fun x S1 h => W_bind (h.mono fun y S2 h => W_mapC h)))
theorem w_chain {op op' : Cop} (h : W (ev cal d a env S) fun x S1 => W (ev cal d b env S1) fun y S2 => WC (cmpD op x y S2) fun k => if k = true then W (ev cal d c env S2) fun z S3 => WC (cmpD op' y z S3) fun k => Q (.bl k) S3 else Q (.bl false) S2) :
    W (ev cal (d + 1) (.chain op op' a b c) env S) Q :=
  W_map (W_bind (h.mono fun x S1 h => W_bind (h.mono fun y S2 h => W_bindC (h.mono fun k h => by
    cases k with
    | true => exact W_bind (W.mono h fun z S3 h => W_mapC h)
    | false => exact ⟨_, _, rfl, h⟩))))
theorem w_ix (h : W (ev cal d a env S) fun x S1 => W (ev cal d b env S1) fun y S2 => WC (ixD x y S2) fun r => Q r S2) : W (ev cal (d + 1) (.ix a b) env S) Q :=
  W_bind (h.mono fun x S1 h => W_bind (h.mono fun y S2 h => W_mapC h))
theorem w_call {f : Nat} (h : W (evs (ev cal d) es env S) fun xs S1 => WO (cal f xs S1) Q) : W (ev cal (d + 1) (.call f es) env S) Q := W_bind (h.mono fun xs S1 h => h.okB)
theorem w_isi {t : Ty} (h : W (ev cal d a env S) fun x S1 => WC (isiD S1 t x) fun k => Q (.bl k) S1) : W (ev cal (d + 1) (.isi a t) env S) Q :=
  W_bind (h.mono fun x S1 h => W_mapC h)
theorem w_blt {fz : Bool} {b : Blt} (h : W (evs (ev cal d) es env S) fun xs S1 => W (bltD fz b xs S1) Q) : W (ev cal (d + 1) (.blt fz b es) env S) Q := W_bind h
theorem w_meth {m : Mth} (h : W (ev cal d a env S) fun o S1 => mthChk m o S1 = true ∧ W (evs (ev cal d) es env S1) fun xs S2 => W (mthD m o xs S2) Q) : W (ev cal (d + 1) (.meth m a es) env S) Q :=
  W_bind (h.mono fun o S1 h => W_if h.1 (W_bind h.2))
theorem w_slice {lo hi : Option E} (h : W (ev cal d a env S) fun x S1 => W (evOpt (ev cal d) lo env S1) fun l S2 => W (evOpt (ev cal d) hi env S2) fun r S3 => W (slD x l r S3) Q) : W (ev cal (d + 1) (.slice a lo hi) env S) Q :=
  W_bind (h.mono fun x S1 h => W_bind (h.mono fun l S2 h => W_bind h))
theorem w_oN {QO : Option Int → Sto → Prop} (q : QO none S) : W (evOpt (ev cal d) none env S) QO := ⟨none, S, rfl, q⟩
theorem w_oS {QO : Option Int → Sto → Prop} (h : W (ev cal d a env S) fun x S1 => ∃ i, x = .int i ∧ QO (some i) S1) : W (evOpt (ev cal d) (some a) env S) QO :=
  W_bind (h.mono fun x S1 h => by
    obtain ⟨i, rfl, h⟩ := h
    exact ⟨_, _, rfl, h⟩)
/-! ### tests -/
theorem t_val' (h : W (ev cal d a env S) fun x S1 => WC (truth S1 x) fun k => QT k S1) : W (evT cal (d + 1) (.val a) env S) QT := W_bind (h.mono fun x S1 h => W_mapC h)
theorem t_cmp' {op : Cop} (h : W (ev cal d a env S) fun x S1 => W (ev cal d b env S1) fun y S2 => WC (cmpD op x y S2) fun k => QT k S2) : W (evT cal (d + 1) (.cmp op a b) env S) QT :=
  W_bind (h.mono fun x S1 h => W_bind (h.mono fun y S2 h => W_mapC h))
theorem t_chain' {op op' : Cop} (h : W (ev cal d a env S) fun x S1 => W (ev cal d b env S1) fun y S2 => WC (cmpD op x y S2) fun k => if k = true then W (ev cal d c env S2) fun z S3 => WC (cmpD op' y z S3) fun k => QT k S3 else QT false S2) :
    W (evT cal (d + 1) (.chain op op' a b c) env S) QT :=
  W_bind (h.mono fun x S1 h => W_bind (h.mono fun y S2 h => W_bindC (h.mono fun k h => by
    cases k with
    | true => exact W_bind (W.mono h fun z S3 h => W_mapC h)
    | false => exact ⟨_, _, rfl, h⟩)))
theorem t_not' {t : T} (h : W (evT cal d t env S) fun k S1 => QT (!k) S1) : W (evT cal (d + 1) (.not t) env S) QT := W_map h
theorem t_and' {t u : T} (h : W (evT cal d t env S) fun k S1 => if k = true then W (evT cal d u env S1) QT else QT false S1) : W (evT cal (d + 1) (.and t u) env S) QT :=
  W_bind (h.mono fun x S1 h => by
    cases x with
    | true => exact h
    | false => exact ⟨_, _, rfl, h⟩)
theorem t_or' {t u : T} (h : W (evT cal d t env S) fun k S1 => if k = true then QT true S1 else W (evT cal d u env S1) QT) : W (evT cal (d + 1) (.or t u) env S) QT :=
  W_bind (h.mono fun x S1 h => by
    cases x with
    | true => exact ⟨_, _, rfl, h⟩
    | false => exact h)
theorem ts_nil {ts : T → En → Sto → Option (Bool × Sto)} (q : QT true S) : W (evTs ts [] env S) QT := ⟨true, S, rfl, q⟩
theorem ts_cons {t : T} {ts : List T} (h : W (evT cal d t env S) fun k S1 => if k = true then W (evTs (evT cal d) ts env S1) QT else QT false S1) : W (evTs (evT cal d) (t :: ts) env S) QT :=
  W_bind (h.mono fun x S1 h => by
    cases x with
    | true => exact h
    | false => exact ⟨_, _, rfl, h⟩)
/-! ### sources, loops -/
def WR (o : Option (Src × Sto)) (Q : Src → Sto → Prop) : Prop := W o Q
theorem r_seq {e : E} {QR : Src → Sto → Prop} (h : W (ev cal d e env S) fun x S1 => WC (srcOf S1 x) fun s => QR s S1) : W (evSr (ev cal d) (.seq e) env S) QR := W_bind (h.mono fun x S1 h => W_mapC h)
theorem r_rng {e : E} {QR : Src → Sto → Prop} (h : W (ev cal d e env S) fun x S1 => ∃ j, x = .int j ∧ (-(2 ^ 62) ≤ j ∧ j < 2 ^ 62) ∧ QR ⟨fun _ => some (rngL 0 j.toNat), j.toNat⟩ S1) : W (evSr (ev cal d) (.rng e) env S) QR :=
  W_bind (h.mono fun x S1 h => by
    obtain ⟨j, rfl, h1, h2⟩ := h
    exact W_if h1 ⟨_, _, rfl, h2⟩)
theorem r_rng2 {e e' : E} {QR : Src → Sto → Prop} (h : W (ev cal d e env S) fun x S1 => W (ev cal d e' env S1) fun y S2 => ∃ i j, x = .int i ∧ y = .int j ∧ (-(2 ^ 62) ≤ i ∧ i < 2 ^ 62 ∧ -(2 ^ 62) ≤ j ∧ j < 2 ^ 62) ∧ QR ⟨fun _ => some (rngL i (j - i).toNat), (j - i).toNat⟩ S2) :
    W (evSr (ev cal d) (.rng2 e e') env S) QR :=
  W_bind (h.mono fun x S1 h => W_bind (h.mono fun y S2 h => by
    obtain ⟨i, j, rfl, rfl, h1, h2⟩ := h
    exact W_if h1 ⟨_, _, rfl, h2⟩))
theorem r_enum {e : E} {QR : Src → Sto → Prop} (h : W (ev cal d e env S) fun x S1 => WC (litems S1 x) fun l => QR ⟨fun S' => (litems S' x).map (numbered 0), l.length⟩ S1) : W (evSr (ev cal d) (.enum e) env S) QR := W_bind (h.mono fun x S1 h => W_mapC h)
/-- a comprehension's loop: what it keeps -/
theorem lc_inv {s : Src} {tg : Tg} {body : En → Sto → Option (Option D × Sto)} {l : List D} {QL : List D → Sto → Prop} (Inv : Nat → List D → Sto → Prop) (hn : s.n = l.length) (h0 : Inv 0 [] S)
    (rd : ∀ i acc S, Inv i acc S → s.rd S = some l)
    (step : ∀ i x acc S, l[i]? = some x → Inv i acc S → ∃ env1, bindT tg x env = some env1 ∧ W (body env1 S) fun r S2 => match r with
      | some y => acc.length < sizeLine ∧ Inv (i + 1) (acc ++ [y]) S2
      | none => Inv (i + 1) acc S2)
    (fin : ∀ acc S, Inv l.length acc S → QL acc S) : W (loopC s tg env body s.n 0 [] S) QL := by
  have key : ∀ (m i : Nat) (acc : List D) (S : Sto), i + m = l.length → Inv i acc S → W (loopC s tg env body m i acc S) QL := by
    intro m
    induction m with
    | zero =>
      intro i acc S hi h
      have : i = l.length := by omega
      subst this
      refine W_bindC (WC_some (rd _ _ _ h) ?_)
      rw [if_pos hn.symm]
      exact ⟨_, _, rfl, fin _ _ h⟩
    | succ m ih =>
      intro i acc S hi h
      have hlt : i < l.length := by omega
      obtain ⟨env1, e1, hb⟩ := step i l[i] acc S (List.getElem?_eq_getElem hlt) h
      refine W_bindC (WC_some (rd _ _ _ h) ?_)
      rw [if_pos hn.symm]
      refine W_bindC (WC_some (List.getElem?_eq_getElem hlt) ?_)
      refine W_bindC (WC_some e1 (W_bind (hb.mono fun r S2 h2 => ?_)))
      cases r with
      | none => exact ih _ _ _ (by omega) h2
      | some y =>
        obtain ⟨h3, h4⟩ := h2
        show W (if acc.length < sizeLine then _ else none) QL
        rw [if_pos h3]
        exact ih _ _ _ (by omega) h4
  rw [hn]
  exact key l.length 0 [] S (by omega) h0
theorem dc_inv {s : Src} {tg : Tg} {body : En → Sto → Option (Option (D × D) × Sto)} {l : List D} {QL : List (Key × D) → Sto → Prop} (Inv : Nat → List (Key × D) → Sto → Prop) (hn : s.n = l.length) (h0 : Inv 0 [] S)
    (rd : ∀ i acc S, Inv i acc S → s.rd S = some l)
    (step : ∀ i x acc S, l[i]? = some x → Inv i acc S → ∃ env1, bindT tg x env = some env1 ∧ W (body env1 S) fun r S2 => match r with
      | some (k, v) => ∃ k', kD k = some k' ∧ acc.length < sizeLine ∧ Inv (i + 1) (putK acc k' v) S2
      | none => Inv (i + 1) acc S2)
    (fin : ∀ acc S, Inv l.length acc S → QL acc S) : W (loopD s tg env body s.n 0 [] S) QL := by
  have key : ∀ (m i : Nat) (acc : List (Key × D)) (S : Sto), i + m = l.length → Inv i acc S → W (loopD s tg env body m i acc S) QL := by
    intro m
    induction m with
    | zero =>
      intro i acc S hi h
      have : i = l.length := by omega
      subst this
      refine W_bindC (WC_some (rd _ _ _ h) ?_)
      rw [if_pos hn.symm]
      exact ⟨_, _, rfl, fin _ _ h⟩
    | succ m ih =>
      intro i acc S hi h
      have hlt : i < l.length := by omega
      obtain ⟨env1, e1, hb⟩ := step i l[i] acc S (List.getElem?_eq_getElem hlt) h
      refine W_bindC (WC_some (rd _ _ _ h) ?_)
      rw [if_pos hn.symm]
      refine W_bindC (WC_some (List.getElem?_eq_getElem hlt) ?_)
      refine W_bindC (WC_some e1 (W_bind (hb.mono fun r S2 h2 => ?_)))
      cases r with
      | none => exact ih _ _ _ (by omega) h2
      | some y =>
        obtain ⟨yk, yv⟩ := y
        obtain ⟨k', h5, h3, h4⟩ := h2
        refine W_bindC (WC_some h5 ?_)
        rw [if_pos h3]
        exact ih _ _ _ (by omega) h4
  rw [hn]
  exact key l.length 0 [] S (by omega) h0
theorem w_comp {fz : Bool} {own : List Nat} {tg : Tg} {src : Sr} {ifs : List T} {elt : E}
    (h : W (evSr (ev cal d) src env S) fun s S1 => W (loopC s tg (wipeD env own) (fun env1 S1 => (evTs (evT cal d) ifs env1 S1).bind fun c => if c.1 = true then (ev cal d elt env1 c.2).map fun r => (some r.1, r.2) else some (none, c.2)) s.n 0 [] S1) fun l S2 => W (mkL fz l S2) Q) :
    W (ev cal (d + 1) (.comp fz own tg src ifs elt) env S) Q := W_bind (h.mono fun s S1 h => W_bind h)
theorem w_dcomp {own : List Nat} {tg : Tg} {src : Sr} {ifs : List T} {kx vx : E}
    (h : W (evSr (ev cal d) src env S) fun s S1 => W (loopD s tg (wipeD env own) (fun env1 S1 => (evTs (evT cal d) ifs env1 S1).bind fun c => if c.1 = true then
        (ev cal d kx env1 c.2).bind fun rk => (ev cal d vx env1 rk.2).map fun r => (some (rk.1, r.1), r.2) else some (none, c.2)) s.n 0 [] S1) fun l S2 => Q (.ref S2.length) (S2 ++ [.dic l])) :
    W (ev cal (d + 1) (.dcomp own tg src ifs kx vx) env S) Q := W_bind (h.mono fun s S1 h => W_bind (h.mono fun l S2 h => ⟨_, _, rfl, h⟩))
theorem w_body {t : En → Sto → Option (Bool × Sto)} {m : En → Sto → Option (D × Sto)} {QO : Option D → Sto → Prop} (h : W (t env S) fun k S1 => if k = true then W (m env S1) fun y S2 => QO (some y) S2 else QO none S1) :
    W ((t env S).bind fun c => if c.1 = true then (m env c.2).map fun r => (some r.1, r.2) else some (none, c.2)) QO :=
  W_bind (h.mono fun k S1 h => by
    cases k with
    | true => exact W_map h
    | false => exact ⟨_, _, rfl, h⟩)
theorem w_bodyD {t : En → Sto → Option (Bool × Sto)} {mk mv : En → Sto → Option (D × Sto)} {QO : Option (D × D) → Sto → Prop} (h : W (t env S) fun k S1 => if k = true then W (mk env S1) fun y S2 => W (mv env S2) fun z S3 => QO (some (y, z)) S3 else QO none S1) :
    W ((t env S).bind fun c => if c.1 = true then (mk env c.2).bind fun rk => (mv env rk.2).map fun r => (some (rk.1, r.1), r.2) else some (none, c.2)) QO :=
  W_bind (h.mono fun k S1 h => by
    cases k with
    | true => exact W_bind (W.mono h fun y S2 h => W_map h)
    | false => exact ⟨_, _, rfl, h⟩)
end

/-! ### statements -/
section
variable {cal : Cal} {d : Nat} {env : En} {S : Sto} {a b c e : E} {es : List E} {Q : Fl → En → Sto → Prop}
theorem x_nil {f : Sm → En → Sto → Option (Fl × En × Sto)} (q : Q .nx env S) : WS (exs f [] env S) Q := ⟨_, _, _, rfl, q⟩
theorem x_cons {f : Sm → En → Sto → Option (Fl × En × Sto)} {s : Sm} {ss : List Sm} (h : WS (f s env S) fun fl e2 S2 => match fl with | .nx => WS (exs f ss e2 S2) Q | fl => Q fl e2 S2) : WS (exs f (s :: ss) env S) Q := by
  obtain ⟨fl, e2, S2, h1, h2⟩ := h
  cases fl with
  | nx =>
    obtain ⟨f3, e3, S3, h3, q⟩ := h2
    exact ⟨f3, e3, S3, by simp only [exs]; rw [h1]; exact h3, q⟩
  | _ => exact ⟨_, _, _, by simp only [exs]; rw [h1]; rfl, h2⟩
theorem x_set {i : Nat} (h : W (ev cal d e env S) fun x S1 => Q .nx (env.set i (some x)) S1) : WS (ex cal (d + 1) (.set i e) env S) Q := WS_map h
theorem x_expr (h : W (ev cal d e env S) fun x S1 => Q .nx env S1) : WS (ex cal (d + 1) (.expr e) env S) Q := WS_map h
theorem x_ret (h : W (ev cal d e env S) fun x S1 => Q (.rt x) env S1) : WS (ex cal (d + 1) (.ret e) env S) Q := WS_map h
theorem x_retN (q : Q (.rt .non) env S) : WS (ex cal (d + 1) .retN env S) Q := WS_some q
theorem x_brk (q : Q .bk env S) : WS (ex cal (d + 1) .brk env S) Q := WS_some q
theorem x_cont (q : Q .ct env S) : WS (ex cal (d + 1) .cont env S) Q := WS_some q
theorem x_unpack {is : List Nat} (h : W (ev cal d e env S) fun x S1 => ∃ ds env1, x = .tup ds ∧ setAll is ds env = some env1 ∧ Q .nx env1 S1) : WS (ex cal (d + 1) (.unpack is e) env S) Q :=
  WS_bind (h.mono fun x S1 h => by
    obtain ⟨ds, env1, rfl, h1, h2⟩ := h
    exact WS_mapC (WC_some h1 h2))
theorem x_setIx {o ix v : E} (h : W (ev cal d v env S) fun x S1 => W (ev cal d o env S1) fun y S2 => W (ev cal d ix env S2) fun z S3 => WC (setIxD y z x S3) fun S4 => Q .nx env S4) : WS (ex cal (d + 1) (.setIx o ix v) env S) Q :=
  WS_bind (h.mono fun x S1 h => WS_bind (h.mono fun y S2 h => WS_bind (h.mono fun z S3 h => WS_mapC h)))
theorem x_ifs {t : T} {p q : List Sm} (h : W (evT cal d t env S) fun k S1 => if k = true then WS (exs (ex cal d) p env S1) Q else WS (exs (ex cal d) q env S1) Q) : WS (ex cal (d + 1) (.ifs t p q) env S) Q :=
  WS_bind (h.mono fun k S1 h => by
    cases k with
    | true => exact h
    | false => exact h)
theorem x_for {tg : Tg} {src : Sr} {body : List Sm} (h : W (evSr (ev cal d) src env S) fun s S1 => WS (loopL s tg (exs (ex cal d) body) s.n 0 env S1) Q) : WS (ex cal (d + 1) (.for_ tg src body) env S) Q := WS_bind h
theorem for_inv {s : Src} {tg : Tg} {body : En → Sto → Option (Fl × En × Sto)} {l : List D} (Inv : Nat → En → Sto → Prop) (hn : s.n = l.length) (h0 : Inv 0 env S)
    (rd : ∀ i env S, Inv i env S → s.rd S = some l)
    (step : ∀ i x env S, l[i]? = some x → Inv i env S → ∃ env1, bindT tg x env = some env1 ∧ WS (body env1 S) fun fl e2 S2 => match fl with
      | .nx => Inv (i + 1) e2 S2
      | .ct => Inv (i + 1) e2 S2
      | .bk => Q .nx e2 S2
      | .rt y => Q (.rt y) e2 S2
      | .rs z => Q (.rs z) e2 S2)
    (fin : ∀ env S, Inv l.length env S → Q .nx env S) : WS (loopL s tg body s.n 0 env S) Q := by
  have key : ∀ (m i : Nat) (env : En) (S : Sto), i + m = l.length → Inv i env S → WS (loopL s tg body m i env S) Q := by
    intro m
    induction m with
    | zero =>
      intro i env S hi h
      have : i = l.length := by omega
      subst this
      have h1 := rd _ _ _ h
      exact ⟨_, _, _, by simp only [loopL]; rw [h1]; show (if l.length = s.n then _ else _) = _; rw [if_pos hn.symm], fin _ _ h⟩
    | succ m ih =>
      intro i env S hi h
      have hlt : i < l.length := by omega
      obtain ⟨env1, e1, fl, e2, S2, hb, h2⟩ := step i l[i] env S (List.getElem?_eq_getElem hlt) h
      have h1 := rd _ _ _ h
      have h3 : loopL s tg body (m + 1) i env S = (match ((fl, e2, S2) : Fl × En × Sto) with
        | (.nx, e2, S2) => loopL s tg body m (i + 1) e2 S2
        | (.ct, e2, S2) => loopL s tg body m (i + 1) e2 S2
        | (.bk, e2, S2) => some (.nx, e2, S2)
        | (.rt d, e2, S2) => some (.rt d, e2, S2)
        | (.rs z, e2, S2) => some (.rs z, e2, S2)) := by
        simp only [loopL]
        rw [h1]
        show (if l.length = s.n then _ else _) = _
        rw [if_pos hn.symm, List.getElem?_eq_getElem hlt]
        show (bindT tg l[i] env).bind _ = _
        rw [e1]
        show (body env1 S).bind _ = _
        rw [hb]
        rfl
      rw [h3]
      cases fl with
      | nx => exact ih _ _ _ (by omega) h2
      | ct => exact ih _ _ _ (by omega) h2
      | bk => exact ⟨_, _, _, rfl, h2⟩
      | rt y => exact ⟨_, _, _, rfl, h2⟩
      | rs z => exact ⟨_, _, _, rfl, h2⟩
  rw [hn]
  exact key l.length 0 env S (by omega) h0
end
/-! ### what may raise -/
section
variable {cal : Cal} {d : Nat} {env : En} {S : Sto} {a b c e : E} {es : List E} {Q : Fl → En → Sto → Prop} {QR : Rz → Sto → Prop} {QL : List D ⊕ Int → Sto → Prop}
theorem c_pure (h : W (ev cal d e env S) fun x S1 => QR (.ok x) S1) : W (evRC cal d (.pure e) env S) QR := W_map h
theorem c_call {f : Nat} (h : W (evs (ev cal d) es env S) fun xs S1 => W (cal f xs S1) QR) : W (evRC cal d (.call f es) env S) QR := W_bind h
theorem cs_nil {f : RC → En → Sto → Option (Rz × Sto)} (q : QL (.inl []) S) : W (evRs f [] env S) QL := ⟨_, _, rfl, q⟩
theorem cs_cons {f : RC → En → Sto → Option (Rz × Sto)} {x : RC} {xs : List RC} (h : W (f x env S) fun r S1 => match r with
    | .ok y => W (evRs f xs env S1) fun l S2 => match l with
      | .inl ds => QL (.inl (y :: ds)) S2
      | .inr z => QL (.inr z) S2
    | .er z => QL (.inr z) S1) : W (evRs f (x :: xs) env S) QL :=
  W_bind (h.mono fun r S1 h => by
    cases r with
    | ok y => exact W_map (W.mono h fun l S2 h => by cases l <;> exact h)
    | er z => exact ⟨_, _, rfl, h⟩)
theorem q_c {x : RC} (h : W (evRC cal d x env S) QR) : W (evR cal d (.c x) env S) QR := h
theorem q_tup {xs : List RC} (h : W (evRs (evRC cal d) xs env S) fun l S1 => match l with
    | .inl ds => ds.length ≤ sizeLine ∧ QR (.ok (.tup ds)) S1
    | .inr z => QR (.er z) S1) : W (evR cal d (.tup xs) env S) QR :=
  W_bind (h.mono fun l S1 h => by
    cases l with
    | inl ds => exact W_if h.1 ⟨_, _, rfl, h.2⟩
    | inr z => exact ⟨_, _, rfl, h⟩)
theorem q_tupC {own : List Nat} {tg : Tg} {src : Sr} {x : RC} (h : W (evX cal d own tg src x env S) fun l S1 => match l with
    | .inl ds => ds.length ≤ sizeLine ∧ QR (.ok (.tup ds)) S1
    | .inr z => QR (.er z) S1) : W (evR cal d (.tupC own tg src x) env S) QR :=
  W_bind (h.mono fun l S1 h => by
    cases l with
    | inl ds => exact W_if h.1 ⟨_, _, rfl, h.2⟩
    | inr z => exact ⟨_, _, rfl, h⟩)
theorem q_ite {t : T} {x y : RC} (h : W (evT cal d t env S) fun k S1 => if k = true then W (evRC cal d x env S1) QR else W (evRC cal d y env S1) QR) : W (evR cal d (.ite t x y) env S) QR :=
  W_bind (h.mono fun k S1 h => by
    cases k with
    | true => exact h
    | false => exact h)
theorem x_raise (h : W (ev cal d e env S) fun x S1 => ∃ z, x = .int z ∧ Q (.rs z) env S1) : WS (ex cal (d + 1) (.raise e) env S) Q :=
  WS_bind (h.mono fun x S1 h => by
    obtain ⟨z, rfl, h⟩ := h
    exact WS_some h)
theorem x_setR {i : Nat} {r : R} (h : W (evR cal d r env S) fun x S1 => match x with
    | .ok y => Q .nx (env.set i (some y)) S1
    | .er z => Q (.rs z) env S1) : WS (ex cal (d + 1) (.setR i r) env S) Q :=
  WS_map (h.mono fun x S1 h => by cases x <;> exact h)
theorem x_retR {r : R} (h : W (evR cal d r env S) fun x S1 => match x with
    | .ok y => Q (.rt y) env S1
    | .er z => Q (.rs z) env S1) : WS (ex cal (d + 1) (.retR r) env S) Q :=
  WS_map (h.mono fun x S1 h => by cases x <;> exact h)
theorem x_setC {i : Nat} {own : List Nat} {tg : Tg} {src : Sr} {x : RC} (h : W (evX cal d own tg src x env S) fun l S1 => match l with
    | .inl ds => ds.length ≤ sizeLine ∧ Q .nx (env.set i (some (.lst ds))) S1
    | .inr z => Q (.rs z) env S1) : WS (ex cal (d + 1) (.setC i own tg src x) env S) Q :=
  WS_bind (h.mono fun l S1 h => by
    cases l with
    | inl ds =>
      show WS (if ds.length ≤ sizeLine then _ else none) Q
      rw [if_pos h.1]
      exact WS_some h.2
    | inr z => exact WS_some h)
theorem x_appR {o : E} {r : R} (h : W (ev cal d o env S) fun q S1 => mthChk .append q S1 = true ∧ W (evR cal d r env S1) fun x S2 => match x with
    | .ok y => W (mthD .append q [y] S2) fun _ S3 => Q .nx env S3
    | .er z => Q (.rs z) env S2) : WS (ex cal (d + 1) (.appR o r) env S) Q :=
  WS_bind (h.mono fun q S1 h => by
    show WS (if mthChk .append q S1 = true then _ else none) Q
    rw [if_pos h.1]
    exact WS_bind (h.2.mono fun x S2 h => by
      cases x with
      | ok y => exact WS_map h
      | er z => exact WS_some h))
theorem x_try {n : Nat} {body : List Sm} (h : WS (exs (ex cal d) body env S) fun fl e2 S2 => match fl with
    | .rs z => Q (.rt (.int z)) e2 S2
    | fl => Q fl e2 S2) : WS (ex cal (d + 1) (.tryE body n) env S) Q := by
  obtain ⟨fl, e2, S2, h1, h2⟩ := h
  have e : ex cal (d + 1) (.tryE body n) env S = (exs (ex cal d) body env S).map fun r => match r with
      | (.rs z, e2, S2) => (.rt (.int z), e2, S2)
      | r => r := rfl
  cases fl <;> exact ⟨_, _, _, by rw [e, h1]; rfl, h2⟩
/-- a comprehension whose element may raise -/
theorem lx_inv {s : Src} {tg : Tg} {body : En → Sto → Option (Rz × Sto)} {l : List D} (Inv : Nat → List D → Sto → Prop) (hn : s.n = l.length) (h0 : Inv 0 [] S)
    (rd : ∀ i acc S, Inv i acc S → s.rd S = some l)
    (step : ∀ i x acc S, l[i]? = some x → Inv i acc S → ∃ env1, bindT tg x env = some env1 ∧ W (body env1 S) fun r S2 => match r with
      | .ok y => acc.length < sizeLine ∧ Inv (i + 1) (acc ++ [y]) S2
      | .er z => QL (.inr z) S2)
    (fin : ∀ acc S, Inv l.length acc S → QL (.inl acc) S) : W (loopX s tg env body s.n 0 [] S) QL := by
  have key : ∀ (m i : Nat) (acc : List D) (S : Sto), i + m = l.length → Inv i acc S → W (loopX s tg env body m i acc S) QL := by
    intro m
    induction m with
    | zero =>
      intro i acc S hi h
      have : i = l.length := by omega
      subst this
      refine W_bindC (WC_some (rd _ _ _ h) ?_)
      rw [if_pos hn.symm]
      exact ⟨_, _, rfl, fin _ _ h⟩
    | succ m ih =>
      intro i acc S hi h
      have hlt : i < l.length := by omega
      obtain ⟨env1, e1, hb⟩ := step i l[i] acc S (List.getElem?_eq_getElem hlt) h
      refine W_bindC (WC_some (rd _ _ _ h) ?_)
      rw [if_pos hn.symm]
      refine W_bindC (WC_some (List.getElem?_eq_getElem hlt) ?_)
      refine W_bindC (WC_some e1 (W_bind (hb.mono fun r S2 h2 => ?_)))
      cases r with
      | er z => exact ⟨_, _, rfl, h2⟩
      | ok y =>
        obtain ⟨h3, h4⟩ := h2
        show W (if acc.length < sizeLine then _ else none) QL
        rw [if_pos h3]
        exact ih _ _ _ (by omega) h4
  rw [hn]
  exact key l.length 0 [] S (by omega) h0
theorem w_x {own : List Nat} {tg : Tg} {src : Sr} {x : RC} (h : W (evSr (ev cal d) src env S) fun s S1 => W (loopX s tg (wipeD env own) (evRC cal d x) s.n 0 [] S1) QL) : W (evX cal d own tg src x env S) QL := W_bind h
end

/-! ### defs -/
mutual
/-- no reference within -/
def puD : D → Bool
  | .ref _ => false
  | .tup l => puL l
  | .lst l => puL l
  | .fzl l => puL l
  | _ => true
def puL : List D → Bool
  | [] => true
  | d :: r => puD d && puL r
end
def puO : O → Bool
  | .lst l => puL l
  | .dic kvs => puL (kvs.map (·.2))
  | .dead => true
mutual
theorem pu_cl (n : Nat) : ∀ {d : D}, puD d = true → clD n d = true
  | .non, _ => rfl
  | .bl _, _ => rfl
  | .int _, _ => rfl
  | .str _, _ => rfl
  | .tup l, h => by simp only [puD] at h; simp only [clD]; exact pus_cl n h
  | .lst l, h => by simp only [puD] at h; simp only [clD]; exact pus_cl n h
  | .fzl l, h => by simp only [puD] at h; simp only [clD]; exact pus_cl n h
  | .ref _, h => by simp [puD] at h
theorem pus_cl (n : Nat) : ∀ {l : List D}, puL l = true → clL n l = true
  | [], _ => rfl
  | d :: r, h => by
    simp only [puL, Bool.and_eq_true] at h
    simp only [clL, Bool.and_eq_true]
    exact ⟨pu_cl n h.1, pus_cl n h.2⟩
end
theorem puO_cl (n : Nat) {o : O} (h : puO o = true) : clO n o = true := by
  cases o with
  | lst l => exact pus_cl n h
  | dic l => exact pus_cl n h
  | dead => rfl
theorem puL_append {l r : List D} : puL (l ++ r) = (puL l && puL r) := by
  induction l with
  | nil => rfl
  | cons a l ih => simp [puL, ih, Bool.and_assoc]
theorem puL_get {l : List D} (h : puL l = true) {i : Nat} {d : D} (e : l[i]? = some d) : puD d = true := by
  induction l generalizing i with
  | nil => simp at e
  | cons a l ih =>
    simp only [puL, Bool.and_eq_true] at h
    cases i with
    | zero => simp at e; subst e; exact h.1
    | succ i => exact ih h.2 (by simpa using e)
theorem puL_mem {l : List D} : puL l = true ↔ ∀ d ∈ l, puD d = true := by
  induction l with
  | nil => simp [puL]
  | cons a l ih => simp [puL, ih]
/-- a result without references leaves; the store shrinks to what it was, written maybe -/
theorem fin_pure {df : Df} {n : Nat} {d : D} {S : Sto} {Q : D → Sto → Prop} (hk : df.keep = false) (hd : puD d = true) (hS : (S.take n).all puO = true) (q : Q d (S.take n)) : W (fin df n d S) Q := by
  refine ⟨d, S.take n, ?_, q⟩
  unfold fin leave
  rw [hk, pu_cl n hd]
  have : (S.take n).all (clO n) = true := List.all_eq_true.mpr fun o ho => puO_cl n (List.all_eq_true.mp hS o ho)
  simp [this]
theorem fin_keep {df : Df} {n : Nat} {d : D} {S : Sto} {Q : D → Sto → Prop} (hk : df.keep = true) (q : Q d S) : W (fin df n d S) Q := by
  refine ⟨d, S, ?_, q⟩
  unfold fin
  rw [hk]
  rfl
theorem w_runX {cal : Cal} {df : Df} {args : List D} {S : Sto} {Q : Rz → Sto → Prop} (hl : args.length = df.ps) (h : WS (exs (ex cal 60) df.body (args.map some ++ List.replicate (df.n - args.length) none) S) fun fl _ S1 => match fl with
    | .rt d => W (fin df S.length d S1) fun d S2 => Q (.ok d) S2
    | .nx => W (fin df S.length .non S1) fun d S2 => Q (.ok d) S2
    | .rs z => W (finX df S.length z S1) Q
    | _ => False) : W (run cal df args S) Q := by
  obtain ⟨fl, e, S1, h1, h2⟩ := h
  unfold run
  have h1 : exs (ex cal DP) df.body (args.map some ++ List.replicate (df.n - args.length) none) S = some (fl, e, S1) := h1
  rw [if_pos hl, h1]
  cases fl with
  | nx => exact W_map h2
  | rt d => exact W_map h2
  | rs z => exact h2
  | bk => exact h2.elim
  | ct => exact h2.elim
theorem w_run {cal : Cal} {df : Df} {args : List D} {S : Sto} {Q : D → Sto → Prop} (hl : args.length = df.ps) (h : WS (exs (ex cal 60) df.body (args.map some ++ List.replicate (df.n - args.length) none) S) fun fl _ S1 => match fl with
    | .rt d => W (fin df S.length d S1) Q
    | .nx => W (fin df S.length .non S1) Q
    | _ => False) : WO (run cal df args S) Q := by
  refine w_runX hl (h.mono fun fl e S1 h => ?_)
  cases fl with
  | nx => exact W.mono h fun d S2 q => ⟨d, rfl, q⟩
  | rt d => exact W.mono h fun d S2 q => ⟨d, rfl, q⟩
  | rs z => exact h.elim
  | bk => exact h.elim
  | ct => exact h.elim
theorem finX_pure {df : Df} {n : Nat} {z : Int} {S : Sto} {Q : Rz → Sto → Prop} (hk : df.keep = false) (hS : (S.take n).all puO = true) (q : Q (.er z) (S.take n)) : W (finX df n z S) Q := by
  refine ⟨_, S.take n, ?_, q⟩
  unfold finX
  rw [hk]
  have : (S.take n).all (clO n) = true := List.all_eq_true.mpr fun o ho => puO_cl n (List.all_eq_true.mp hS o ho)
  simp [this]

/-! ### leaves -/
theorem ifT' {b : Bool} {A B : Prop} (h : b = true) (a : A) : if b = true then A else B := by rw [if_pos h]; exact a
theorem ifF' {b : Bool} {A B : Prop} (h : b = false) (a : B) : if b = true then A else B := by rw [if_neg (by rw [h]; exact Bool.false_ne_true)]; exact a
theorem ifB {b : Bool} {A B : Prop} (h1 : b = true → A) (h2 : b = false → B) : if b = true then A else B := by
  cases b with
  | true => exact h1 rfl
  | false => exact h2 rfl
section
variable {S : Sto} {Q : D → Sto → Prop} {QC : Bool → Prop}
theorem l_add {i j : Int} (q : Q (.int (i + j)) S) : W (opB .add (.int i) (.int j) S) Q := ⟨_, _, rfl, q⟩
theorem l_sub {i j : Int} (q : Q (.int (i - j)) S) : W (opB .sub (.int i) (.int j) S) Q := ⟨_, _, rfl, q⟩
theorem l_mul {i j : Int} (h : (-(2 ^ 64) < i ∧ i < 2 ^ 64) ∨ (-(2 ^ 64) < j ∧ j < 2 ^ 64)) (q : Q (.int (i * j)) S) : W (opB .mul (.int i) (.int j) S) Q := ⟨_, _, by simp only [opB]; rw [if_pos h], q⟩
theorem l_fdiv {i j : Int} (h : 0 < j ∧ j < 1073741824) (q : Q (.int (i / j)) S) : W (opB .fdiv (.int i) (.int j) S) Q := ⟨_, _, by simp only [opB]; rw [if_pos h], q⟩
theorem l_mod {i j : Int} (h : 0 < j) (q : Q (.int (i % j)) S) : W (opB .mod (.int i) (.int j) S) Q := ⟨_, _, by simp only [opB]; rw [if_pos h], q⟩
theorem l_cat {i j : Str} (h : i.length + j.length ≤ sizeLine) (q : Q (.str (i ++ j)) S) : W (opB .add (.str i) (.str j) S) Q := ⟨_, _, by simp only [opB]; rw [if_pos h], q⟩
theorem l_catT {i j : List D} (h : i.length + j.length ≤ sizeLine) (q : Q (.tup (i ++ j)) S) : W (opB .add (.tup i) (.tup j) S) Q := ⟨_, _, by simp only [opB]; rw [if_pos h], q⟩
theorem l_eqI {i j : Int} (q : QC (i == j)) : WC (cmpD .eq (.int i) (.int j) S) QC := ⟨_, rfl, q⟩
theorem l_neI {i j : Int} (q : QC (!(i == j))) : WC (cmpD .ne (.int i) (.int j) S) QC := ⟨_, rfl, q⟩
theorem l_eqB {i j : Bool} (q : QC (i == j)) : WC (cmpD .eq (.bl i) (.bl j) S) QC := ⟨_, rfl, q⟩
theorem l_neB {i j : Bool} (q : QC (!(i == j))) : WC (cmpD .ne (.bl i) (.bl j) S) QC := ⟨_, rfl, q⟩
theorem l_lt {i j : Int} (q : QC (decide (i < j))) : WC (cmpD .lt (.int i) (.int j) S) QC := ⟨_, rfl, q⟩
theorem l_le {i j : Int} (q : QC (decide (i ≤ j))) : WC (cmpD .le (.int i) (.int j) S) QC := ⟨_, rfl, q⟩
theorem l_gt {i j : Int} (q : QC (decide (j < i))) : WC (cmpD .gt (.int i) (.int j) S) QC := ⟨_, rfl, q⟩
theorem l_ge {i j : Int} (q : QC (decide (j ≤ i))) : WC (cmpD .ge (.int i) (.int j) S) QC := ⟨_, rfl, q⟩
theorem l_eqS {i j : Str} (h1 : i.cps.all (· < 0x110000) = true) (h2 : j.cps.all (· < 0x110000) = true) (q : QC (i == j)) : WC (cmpD .eq (.str i) (.str j) S) QC := by
  refine ⟨_, ?_, q⟩
  show (if (SeqAt.shaped (.str i) && SeqAt.shaped (.str j)) = true then some (PyData.eqv (.str i) (.str j)) else none) = _
  have e1 : SeqAt.shaped (.str i) = true := Bool.and_eq_true_iff.mpr ⟨by simp only [PyData.canLay0]; exact h1, by simp [PyData.depth]⟩
  have e2 : SeqAt.shaped (.str j) = true := Bool.and_eq_true_iff.mpr ⟨by simp only [PyData.canLay0]; exact h2, by simp [PyData.depth]⟩
  rw [e1, e2]
  rfl
end
end Tt
end

section
/-! More rules: comprehensions that write nothing, built-ins. -/
namespace Tt
open PySem L2
section
variable {cal : Cal} {d : Nat} {env : En} {S : Sto} {Q : D → Sto → Prop}
/-- [elt for tg in src], nothing written: r is what is told -/
theorem w_mapR {own : List Nat} {tg : Tg} {src : Sr} {elt : E} (l r : List D) (hl : l.length ≤ sizeLine) (hr : r.length = l.length)
    (h : W (evSr (ev cal d) src env S) fun s S1 => s.n = l.length ∧ s.rd S1 = some l ∧ (∀ (i : Nat) x y, l[i]? = some x → r[i]? = some y → ∃ env1, bindT tg x (wipeD env own) = some env1 ∧ W (ev cal d elt env1 S1) fun z S2 => z = y ∧ S2 = S1) ∧ Q (.lst r) S1) :
    W (ev cal (d + 1) (.comp true own tg src [] elt) env S) Q := by
  refine w_comp (h.mono fun s S1 ⟨hn, rd, st, q⟩ => ?_)
  refine lc_inv (l := l) (fun i acc S2 => S2 = S1 ∧ acc = r.take i) hn ⟨rfl, rfl⟩ (fun i acc S2 ⟨e, _⟩ => by rw [e]; exact rd) ?_ ?_
  · rintro i x acc S2 hx ⟨rfl, rfl⟩
    have hi : i < l.length := (List.getElem?_eq_some_iff.mp hx).1
    have hy : r[i]? = some (r[i]'(by omega)) := List.getElem?_eq_getElem (by omega)
    obtain ⟨env1, e1, hw⟩ := st i x _ hx hy
    refine ⟨env1, e1, w_body (ts_nil (iteT ?_))⟩
    refine hw.mono fun z S3 ⟨e2, e3⟩ => ?_
    subst e2 e3
    refine ⟨by rw [List.length_take]; omega, rfl, ?_⟩
    rw [List.take_succ, hy]
    rfl
  · rintro acc S2 ⟨rfl, rfl⟩
    refine ⟨_, _, ?_, q⟩
    unfold mkL
    rw [← hr, List.take_length, if_pos (by rw [hr]; exact hl), if_pos rfl]
theorem bools_map {α : Type} (g : α → Bool) : ∀ l : List α, bools (l.map fun x => .bl (g x)) = some (l.map g)
  | [] => rfl
  | a :: l => by simp [bools, bools_map g l]
theorem l_all {α : Type} {fz : Bool} {g : α → Bool} {l : List α} (q : Q (.bl (l.all g)) S) : W (bltD fz .all [.lst (l.map fun x => .bl (g x))] S) Q := by
  refine ⟨_, _, ?_, q⟩
  simp only [bltD, litems, Option.bind_some, bools_map, Option.map_some]
  rw [List.all_map]
  rfl
theorem l_any {α : Type} {fz : Bool} {g : α → Bool} {l : List α} (q : Q (.bl (l.any g)) S) : W (bltD fz .any [.lst (l.map fun x => .bl (g x))] S) Q := by
  refine ⟨_, _, ?_, q⟩
  simp only [bltD, litems, Option.bind_some, bools_map, Option.map_some]
  rw [List.any_map]
  rfl
theorem l_lenS {fz : Bool} {z : Str} (h : z.length ≤ sizeLine) (q : Q (.int z.length) S) : W (bltD fz .len [.str z] S) Q := ⟨_, _, by simp only [bltD]; rw [if_pos h], q⟩
theorem l_ixS {z : Str} {i : Nat} {c : Nat} {QC : D → Prop} (h : z.length ≤ sizeLine) (hc : z.cps.toList[i]? = some c) (q : QC (.str ⟨#[c]⟩)) : WC (ixD (.str z) (.int i) S) QC := by
  refine ⟨_, ?_, q⟩
  have hl : i < z.cps.toList.length := (List.getElem?_eq_some_iff.mp hc).1
  have e : L2.atI z.cps.toList (i : Int) = some c := by
    simp only [L2.atI, L2.ixN]
    rw [if_pos (by omega), if_pos (by omega)]
    simpa using hc
  simp only [ixD]
  rw [if_pos h, e]
  rfl
theorem l_slS {z : Str} {lo hi : Option Int} (h : z.length ≤ sizeLine) (q : Q (.str (L2.cutS z lo hi)) S) : W (slD (.str z) lo hi S) Q := ⟨_, _, by simp only [slD]; rw [if_pos h], q⟩
theorem chars_length (z : Str) : (chars z).length = z.cps.size := by simp [chars]
theorem l_ixL {l : List D} {i : Nat} {x : D} {QC : D → Prop} (h : l[i]? = some x) (q : QC x) : WC (ixD (.lst l) (.int i) S) QC := by
  refine ⟨_, ?_, q⟩
  have hl : i < l.length := (List.getElem?_eq_some_iff.mp h).1
  show L2.atI l i = _
  simp only [L2.atI, L2.ixN]
  rw [if_pos (by omega), if_pos (by omega)]
  simpa using h
theorem l_ixT {l : List D} {i : Nat} {x : D} {QC : D → Prop} (h : l[i]? = some x) (q : QC x) : WC (ixD (.tup l) (.int i) S) QC := by
  refine ⟨_, ?_, q⟩
  have hl : i < l.length := (List.getElem?_eq_some_iff.mp h).1
  show L2.atI l i = _
  simp only [L2.atI, L2.ixN]
  rw [if_pos (by omega), if_pos (by omega)]
  simpa using h
end
end Tt
end

section
/-! Dicts as sets of keys. -/
namespace Tt
open PySem L2
theorem putK_mem {kvs : List (Key × D)} {k k' : Key} {v : D} : k' ∈ (putK kvs k v).map (·.1) ↔ k' = k ∨ k' ∈ kvs.map (·.1) := by
  unfold putK
  split
  · rename_i h
    rw [List.any_eq_true] at h
    obtain ⟨p, hp, hk⟩ := h
    have hk : p.1 = k := of_decide_eq_true hk
    have e : (kvs.map fun kv => if kv.1 = k then (kv.1, v) else kv).map (·.1) = kvs.map (·.1) := by
      rw [List.map_map]
      refine List.map_congr_left fun x _ => ?_
      show (if x.1 = k then (x.1, v) else x).1 = x.1
      split <;> rfl
    rw [e]
    refine ⟨.inr, fun h => h.elim (fun z => ?_) id⟩
    rw [z, ← hk]; exact List.mem_map_of_mem hp
  · simp only [List.map_append, List.map_cons, List.map_nil, List.mem_append, List.mem_singleton]
    exact Or.comm
theorem putK_new {kvs : List (Key × D)} {k : Key} {v : D} (h : k ∉ kvs.map (·.1)) : putK kvs k v = kvs ++ [(k, v)] := by
  unfold putK
  rw [if_neg]
  intro z
  obtain ⟨p, hp, hk⟩ := List.any_eq_true.mp z
  exact h (List.mem_map.mpr ⟨p, hp, of_decide_eq_true hk⟩)
theorem putK_old {kvs : List (Key × D)} {k : Key} {v : D} (h : k ∈ kvs.map (·.1)) : (putK kvs k v).map (·.1) = kvs.map (·.1) := by
  unfold putK
  rw [if_pos]
  · rw [List.map_map]
    refine List.map_congr_left fun x _ => ?_
    show (if x.1 = k then (x.1, v) else x).1 = x.1
    split <;> rfl
  · obtain ⟨p, hp, hk⟩ := List.mem_map.mp h
    exact List.any_eq_true.mpr ⟨p, hp, decide_eq_true hk⟩
theorem putK_len_old {kvs : List (Key × D)} {k : Key} {v : D} (h : k ∈ kvs.map (·.1)) : (putK kvs k v).length = kvs.length := by
  have := congrArg List.length (putK_old (v := v) h)
  simpa using this
theorem putK_len_new {kvs : List (Key × D)} {k : Key} {v : D} (h : k ∉ kvs.map (·.1)) : (putK kvs k v).length = kvs.length + 1 := by
  rw [putK_new h]; simp
/-- the dict of some keys, one after another -/
def keyed (v : D) (ks : List Key) : List (Key × D) := ks.foldl (fun acc k => putK acc k v) []
theorem keyed_snoc (v : D) (ks : List Key) (k : Key) : keyed v (ks ++ [k]) = putK (keyed v ks) k v := by simp [keyed]
theorem snoc_ind {α : Type} {P : List α → Prop} (h0 : P []) (h1 : ∀ l a, P l → P (l ++ [a])) : ∀ l, P l := by
  intro l
  have : ∀ r : List α, P r.reverse := by
    intro r; induction r with
    | nil => exact h0
    | cons a r ih => rw [List.reverse_cons]; exact h1 _ _ ih
  have h := this l.reverse
  rwa [List.reverse_reverse] at h
theorem keyed_mem {v : D} {ks : List Key} : ∀ k, k ∈ (keyed v ks).map (·.1) ↔ k ∈ ks := by
  refine snoc_ind (P := fun ks => ∀ k, k ∈ (keyed v ks).map (·.1) ↔ k ∈ ks) ?_ ?_ ks
  · intro k; simp [keyed]
  · intro l a ih k
    rw [keyed_snoc, putK_mem, ih]
    simp only [List.mem_append, List.mem_singleton]
    exact Or.comm
theorem nodup_snoc {α : Type} {l : List α} {a : α} : (l ++ [a]).Nodup ↔ l.Nodup ∧ a ∉ l := by
  rw [List.nodup_append]
  constructor
  · rintro ⟨h1, _, h3⟩
    exact ⟨h1, fun z => h3 a z a (by simp) rfl⟩
  · rintro ⟨h1, h2⟩
    refine ⟨h1, by simp, fun x hx y hy => ?_⟩
    have : y = a := by simpa using hy
    subst this
    exact fun e => h2 (e ▸ hx)
theorem keyed_len {v : D} {ks : List Key} : (keyed v ks).length ≤ ks.length ∧ ((keyed v ks).length = ks.length ↔ ks.Nodup) := by
  refine snoc_ind (P := fun ks => (keyed v ks).length ≤ ks.length ∧ ((keyed v ks).length = ks.length ↔ ks.Nodup)) ?_ ?_ ks
  · simp [keyed]
  · rintro l a ⟨h1, h2⟩
    rw [keyed_snoc, nodup_snoc, List.length_append]
    by_cases h : a ∈ l
    · rw [putK_len_old ((keyed_mem a).mpr h)]
      refine ⟨by simp; omega, ⟨fun z => ?_, fun z => absurd h z.2⟩⟩
      simp at z; omega
    · rw [putK_len_new fun z => h ((keyed_mem a).mp z)]
      refine ⟨by simp; omega, ⟨fun z => ⟨h2.mp (by simp at z; omega), h⟩, fun z => ?_⟩⟩
      have := h2.mpr z.1
      simp; omega
theorem keyed_keys_nodup {v : D} {ks : List Key} : ((keyed v ks).map (·.1)).Nodup := by
  refine snoc_ind (P := fun ks => ((keyed v ks).map (·.1)).Nodup) ?_ ?_ ks
  · simp [keyed]
  · intro l a ih
    rw [keyed_snoc]
    by_cases h : a ∈ (keyed v l).map (·.1)
    · rw [putK_old h]; exact ih
    · rw [putK_new h, List.map_append, List.map_cons, List.map_nil, nodup_snoc]
      exact ⟨ih, h⟩
theorem keyed_nodup {v : D} {ks : List Key} (h : ks.Nodup) : (keyed v ks).map (·.1) = ks := by
  refine snoc_ind (P := fun ks => ks.Nodup → (keyed v ks).map (·.1) = ks) ?_ ?_ ks h
  · intro _; rfl
  · intro l a ih hn
    obtain ⟨h1, h2⟩ := nodup_snoc.mp hn
    rw [keyed_snoc, putK_new (fun z => h2 ((keyed_mem a).mp z)), List.map_append, ih h1]
    rfl
section
variable {cal : Cal} {d : Nat} {env : En} {S : Sto} {Q : D → Sto → Prop}
/-- {key: True for tg in src}, nothing written -/
theorem w_keyed {own : List Nat} {tg : Tg} {src : Sr} {kx vx : E} (l : List D) (ks : List Key) (v : D) (hl : l.length < sizeLine) (hr : ks.length = l.length)
    (h : W (evSr (ev cal d) src env S) fun s S1 => s.n = l.length ∧ s.rd S1 = some l ∧ (∀ (i : Nat) x k, l[i]? = some x → ks[i]? = some k → ∃ env1, bindT tg x (wipeD env own) = some env1 ∧ W (ev cal d kx env1 S1) fun z S2 => kD z = some k ∧ S2 = S1 ∧ W (ev cal d vx env1 S1) fun z' S3 => z' = v ∧ S3 = S1) ∧
      Q (.ref S1.length) (S1 ++ [.dic (keyed v ks)])) :
    W (ev cal (d + 1) (.dcomp own tg src [] kx vx) env S) Q := by
  refine w_dcomp (h.mono fun s S1 ⟨hn, rd, st, q⟩ => ?_)
  refine dc_inv (l := l) (fun i acc S2 => S2 = S1 ∧ acc = keyed v (ks.take i)) hn ⟨rfl, rfl⟩ (fun i acc S2 ⟨e, _⟩ => by rw [e]; exact rd) ?_ ?_
  · rintro i x acc S2 hx ⟨rfl, rfl⟩
    have hi : i < l.length := (List.getElem?_eq_some_iff.mp hx).1
    have hy : ks[i]? = some (ks[i]'(by omega)) := List.getElem?_eq_getElem (by omega)
    obtain ⟨env1, e1, hw⟩ := st i x _ hx hy
    refine ⟨env1, e1, w_bodyD (ts_nil (iteT ?_))⟩
    refine hw.mono fun z S3 ⟨e2, e3, h3⟩ => ?_
    subst e3
    refine h3.mono fun z' S4 ⟨e4, e5⟩ => ?_
    subst e4 e5
    refine ⟨_, e2, Nat.lt_of_le_of_lt (keyed_len).1 (by rw [List.length_take]; omega), rfl, ?_⟩
    rw [List.take_succ, hy]
    exact (keyed_snoc _ _ _).symm
  · rintro acc S2 ⟨rfl, rfl⟩
    rw [← hr, List.take_length]
    exact q
end
end Tt
end

section
/-! Sorted ints. -/
namespace Tt
open PySem L2
theorem insI_mem {x y : Int} : ∀ {l : List Int}, y ∈ insI x l ↔ y = x ∨ y ∈ l
  | [] => by simp [insI]
  | z :: l => by
    unfold insI
    split
    · simp
    · rw [List.mem_cons, insI_mem, List.mem_cons]
      exact ⟨fun h => by rcases h with h | h | h <;> simp [h], fun h => by rcases h with h | h | h <;> simp [h]⟩
theorem insI_len {x : Int} : ∀ {l : List Int}, (insI x l).length = l.length + 1
  | [] => rfl
  | z :: l => by
    unfold insI
    split
    · simp
    · simp [insI_len]
theorem sortI_len : ∀ {l : List Int}, (sortI l).length = l.length
  | [] => rfl
  | a :: l => by simp [sortI, insI_len, sortI_len]
theorem sortI_mem {y : Int} : ∀ {l : List Int}, y ∈ sortI l ↔ y ∈ l
  | [] => by simp [sortI]
  | a :: l => by simp only [sortI]; rw [insI_mem, sortI_mem, List.mem_cons]
theorem insI_lt {x : Int} : ∀ {l : List Int}, l.Pairwise (· < ·) → x ∉ l → (insI x l).Pairwise (· < ·)
  | [], _, _ => by simp [insI]
  | z :: l, h, hn => by
    rw [List.pairwise_cons] at h
    simp only [List.mem_cons, not_or] at hn
    unfold insI
    split
    · rename_i hle
      rw [List.pairwise_cons, List.pairwise_cons]
      refine ⟨fun y hy => ?_, h.1, h.2⟩
      have hx : x < z := by have := hn.1; omega
      rcases List.mem_cons.mp hy with e | hy
      · omega
      · have := h.1 y hy; omega
    · rename_i hle
      rw [List.pairwise_cons]
      refine ⟨fun y hy => ?_, insI_lt h.2 hn.2⟩
      rcases insI_mem.mp hy with e | hy
      · omega
      · exact h.1 y hy
theorem sortI_lt : ∀ {l : List Int}, l.Nodup → (sortI l).Pairwise (· < ·)
  | [], _ => by simp [sortI]
  | a :: l, h => by
    rw [List.nodup_cons] at h
    exact insI_lt (sortI_lt h.2) fun z => h.1 (sortI_mem.mp z)
theorem insI_head {x : Int} {l : List Int} (h : ∀ y ∈ l, x < y) : insI x l = x :: l := by
  cases l with
  | nil => rfl
  | cons z l =>
    have := h z (by simp)
    unfold insI
    rw [if_pos (by omega)]
theorem sortI_self : ∀ {l : List Int}, l.Pairwise (· < ·) → sortI l = l
  | [], _ => rfl
  | a :: l, h => by
    rw [List.pairwise_cons] at h
    simp only [sortI]
    rw [sortI_self h.2, insI_head h.1]
theorem lt_nodup {l : List Int} (h : l.Pairwise (· < ·)) : l.Nodup := h.imp fun h => by omega
theorem keysI_of {v : D} : ∀ {kvs : List (Key × D)} {ns : List Int}, kvs.map (·.1) = ns.map Sum.inl → keysI kvs = some ns
  | [], [], _ => rfl
  | [], _ :: _, h => by cases h
  | _ :: _, [], h => by cases h
  | (k, x) :: kvs, n :: ns, h => by
    simp only [List.map_cons, List.cons.injEq] at h
    obtain ⟨h1, h2⟩ := h
    subst h1
    simp only [keysI, keysI_of (v := v) h2, Option.map_some]
/-- the keys of a dict of ints -/
theorem keyed_ints (v : D) (es : List Int) : ∃ ks : List Int, (keyed v (es.map Sum.inl)).map (·.1) = ks.map Sum.inl ∧ ks.Nodup ∧ (es.Nodup → ks = es) ∧ ks.length ≤ es.length := by
  have hall : ∀ k ∈ (keyed v (es.map Sum.inl)).map (·.1), ∃ i : Int, k = Sum.inl i := fun k hk => by
    obtain ⟨i, _, e⟩ := List.mem_map.mp ((keyed_mem k).mp hk)
    exact ⟨i, e.symm⟩
  have ex : ∀ l : List Key, (∀ k ∈ l, ∃ i : Int, k = Sum.inl i) → ∃ ks : List Int, l = ks.map Sum.inl := by
    intro l
    induction l with
    | nil => exact fun _ => ⟨[], rfl⟩
    | cons a l ih =>
      intro h
      obtain ⟨i, rfl⟩ := h a (by simp)
      obtain ⟨ks, rfl⟩ := ih fun k hk => h k (by simp [hk])
      exact ⟨i :: ks, rfl⟩
  have inj : ∀ {l r : List Int}, l.map (Sum.inl : Int → Key) = r.map Sum.inl → l = r := by
    intro l
    induction l with
    | nil => intro r h; cases r <;> simp_all
    | cons a l ih =>
      intro r h
      cases r with
      | nil => cases h
      | cons b r =>
        simp only [List.map_cons, List.cons.injEq] at h
        have h1 : a = b := by have := h.1; cases this; rfl
        rw [h1, ih h.2]
  have nd : ∀ {l : List Int}, (l.map (Sum.inl : Int → Key)).Nodup ↔ l.Nodup := by
    intro l
    induction l with
    | nil => simp
    | cons a r ih =>
      rw [List.map_cons, List.nodup_cons, List.nodup_cons, ih]
      refine and_congr_left fun _ => not_congr ⟨fun h => ?_, fun h => List.mem_map_of_mem h⟩
      obtain ⟨b, hb, e⟩ := List.mem_map.mp h
      cases e; exact hb
  obtain ⟨ks, e⟩ := ex _ hall
  refine ⟨ks, e, nd.mp (by rw [← e]; exact keyed_keys_nodup), fun h => ?_, ?_⟩
  · have := keyed_nodup (v := v) (nd.mpr h)
    rw [e] at this
    exact inj this
  · have h1 := (keyed_len (v := v) (ks := es.map Sum.inl)).1
    have h2 := congrArg List.length e
    simp at h1 h2
    omega
def incB (es : List Int) : Bool := decide (es.Pairwise (· < ·))
/-- list(ends) is sorted({..}) exactly where they go up -/
theorem inc_sorted {es ks : List Int} (h1 : ks.Nodup) (h2 : es.Nodup → ks = es) : (es == sortI ks) = incB es := by
  unfold incB
  by_cases h : es.Pairwise (· < ·)
  · rw [decide_eq_true h, h2 (lt_nodup h), sortI_self h]
    simp
  · rw [decide_eq_false h]
    refine beq_eq_false_iff_ne.mpr fun e => h ?_
    rw [e]
    exact sortI_lt h1
theorem inc_steps : ∀ {es : List Int}, es.Pairwise (· < ·) ↔ ∀ (i : Nat) (h : i + 1 < es.length), es[i] < es[i + 1]
  | [] => by simp
  | [a] => by simp
  | a :: b :: r => by
    rw [List.pairwise_cons, inc_steps (es := b :: r)]
    constructor
    · rintro ⟨h1, h2⟩ i hi
      cases i with
      | zero => exact h1 b (by simp)
      | succ i => exact h2 i (by simpa using hi)
    · intro h
      have h2 : ∀ (i : Nat) (hi : i + 1 < (b :: r).length), (b :: r)[i] < (b :: r)[i + 1] := fun i hi => h (i + 1) (by simpa using hi)
      have hp : (b :: r).Pairwise (· < ·) := inc_steps.mpr h2
      refine ⟨fun y hy => ?_, h2⟩
      have hab : a < b := h 0 (by simp)
      rcases List.mem_cons.mp hy with e | hy
      · omega
      · have := (List.pairwise_cons.mp hp).1 y hy; omega
theorem eqD_ints {a b : List Int} : eqD (.lst (a.map .int)) (.lst (b.map .int)) = some (a == b) := by
  have h1 : ∀ l : List Int, pyL (l.map .int) = some (l.map .int) := by
    intro l; induction l with
    | nil => rfl
    | cons a l ih => simp [pyL, pyD, ih]
  have h2 : ∀ l : List Int, SeqAt.shaped (.list (l.map .int)) = true := by
    intro l
    have c : PyData.canLayAll0 (l.map .int) = true := by
      induction l with
      | nil => simp [PyData.canLayAll0]
      | cons a l ih => simp [PyData.canLayAll0, PyData.canLay0, ih]
    have dp : PyData.depthAll (l.map .int) = 0 := by
      induction l with
      | nil => simp [PyData.depthAll]
      | cons a l ih =>
        simp only [List.map_cons, PyData.canLayAll0, Bool.and_eq_true] at c
        simp [PyData.depthAll, PyData.depth, ih c.2]
    exact Bool.and_eq_true_iff.mpr ⟨by simp only [PyData.canLay0]; exact c, by simp [PyData.depth, dp]⟩
  have h3 : ∀ a b : List Int, PyData.eqvAll (a.map .int) (b.map .int) = (a == b) := by
    intro a
    induction a with
    | nil => intro b; cases b <;> rfl
    | cons x a ih =>
      intro b
      cases b with
      | nil => rfl
      | cons y b =>
        simp only [List.map_cons, PyData.eqvAll, PyData.eqv, ih]
        rfl
  simp only [eqD, pyD, h1, Option.map_some, Option.bind_some, h2, Bool.and_self, if_true, PyData.eqv, h3]
end Tt
end

section
/-! The plain law of k64. -/
namespace Tt.L
open PySem Tt Tt.P
/-- the stream of draws, as an object of the store -/
def Stm (o : O) : Prop := ∃ (cells : List Int) (a p s : Int), o = .lst [.lst (cells.map .int), .int a, .int p, .int s] ∧ 0 ≤ p
theorem Stm.pu {o : O} (h : Stm o) : puO o = true := by
  obtain ⟨cells, a, p, s, rfl, _⟩ := h
  have : ∀ l : List Int, puL (l.map .int) = true := by
    intro l; induction l with
    | nil => rfl
    | cons a l ih => simp [puL, puD, ih]
  simp [puO, puL, puD, this]
theorem call_run {k j : Nat} {di : DI} {args : List D} {S : Sto} {Q : D → Sto → Prop} (hd : defs[j]? = some di) (h : WO (Tt.run (calls pg k) di.df args S) Q) : WO (calls pg (k + 1) j args S) Q := by
  have e : calls pg (k + 1) j args S = Tt.run (calls pg k) di.df args S := by
    simp only [calls, List.getElem?_map, hd, Option.map_some]
  rw [e]; exact h
theorem take_all {R : Sto} {o : O} {n : Nat} (hn : n = R.length + 1) (ho : puO o = true) (hR : R.all puO = true) : ((o :: R).take n).all puO = true := by
  subst hn
  rw [List.take_of_length_le (by simp)]
  simp [ho, hR]
theorem take_eq {R : Sto} {o : O} {n : Nat} (hn : n = R.length + 1) : (o :: R).take n = o :: R := by
  subst hn
  exact List.take_of_length_le (by simp)
theorem fin_st {df : Df} {n : Nat} {d : D} {o : O} {R : Sto} {Q : D → Sto → Prop} (hk : df.keep = false) (hn : n = R.length + 1) (st : Stm o) (hR : R.all puO = true) (hd : puD d = true) (q : Q d (o :: R)) : W (fin df n d (o :: R)) Q := by
  refine fin_pure hk hd (take_all hn st.pu hR) ?_
  rw [take_eq hn]
  exact q
theorem draw_tail {k n : Nat} {many a p s : Int} {cells : List Int} {R : Sto} {Q : D → Sto → Prop} (hn : n = R.length + 1) (hp : 0 ≤ p) (hR : R.all puO = true) (hm : 0 < many) (hm2 : many < 1073741824)
    (q : ∀ (r : Int) o', Stm o' → 0 ≤ r → r < many → Q (.int r) (o' :: R)) :
    WS (exs (ex (calls pg k) 60) (b20.drop 1) [some (.ref 0), some (.int many), none] (.lst [.lst (cells.map .int), .int a, .int p, .int s] :: R)) fun fl _ S1 => match fl with
      | .rt d => W (fin d20.df n d S1) Q
      | .nx => W (fin d20.df n .non S1) Q
      | _ => False := by
  (repeat (first | refine w_var rfl ?_ | refine w_cst ?_ | refine w_glob ?_ | refine w_nil ?_ | refine w_cons ?_ | refine w_bin ?_ | refine w_ix ?_ | refine w_call ?_ | refine w_blt ?_ | refine w_isi ?_ | refine w_tup ?_ | refine w_lstT ?_ | refine w_lstF ?_ | refine e_and ?_ | refine e_or ?_ | refine w_not ?_ | refine w_neg ?_ | refine w_ite ?_ | refine w_cmp ?_ | refine w_chain ?_ | refine w_slice ?_ | refine w_oN ?_ | refine w_oS ?_ | refine t_val' ?_ | refine t_cmp' ?_ | refine t_chain' ?_ | refine t_not' ?_ | refine t_and' ?_ | refine t_or' ?_ | refine ts_nil ?_ | refine ts_cons ?_ | refine x_nil ?_ | refine x_cons ?_ | refine x_set ?_ | refine x_expr ?_ | refine x_ret ?_ | refine x_retN ?_ | refine x_ifs ?_ | refine x_setIx ?_ | refine x_unpack ?_ | refine l_add ?_ | refine l_sub ?_ | refine l_eqI ?_ | refine l_neI ?_ | refine l_eqB ?_ | refine l_neB ?_ | refine l_lt ?_ | refine l_le ?_ | refine l_gt ?_ | refine l_ge ?_ | refine ifT' rfl ?_ | refine ifF' rfl ?_ | refine ⟨_, rfl, ?_⟩ | refine ⟨rfl, ?_⟩ | refine ⟨Nat.le_of_ble_eq_true rfl, ?_⟩ | refine WC_some rfl ?_ | refine W_some rfl ?_))
  refine ifB (fun h => ?_) (fun h => ?_)
  · (repeat (first | refine w_var rfl ?_ | refine w_cst ?_ | refine w_glob ?_ | refine w_nil ?_ | refine w_cons ?_ | refine w_bin ?_ | refine w_ix ?_ | refine w_call ?_ | refine w_blt ?_ | refine w_isi ?_ | refine w_tup ?_ | refine w_lstT ?_ | refine w_lstF ?_ | refine e_and ?_ | refine e_or ?_ | refine w_not ?_ | refine w_neg ?_ | refine w_ite ?_ | refine w_cmp ?_ | refine w_chain ?_ | refine w_slice ?_ | refine w_oN ?_ | refine w_oS ?_ | refine t_val' ?_ | refine t_cmp' ?_ | refine t_chain' ?_ | refine t_not' ?_ | refine t_and' ?_ | refine t_or' ?_ | refine ts_nil ?_ | refine ts_cons ?_ | refine x_nil ?_ | refine x_cons ?_ | refine x_set ?_ | refine x_expr ?_ | refine x_ret ?_ | refine x_retN ?_ | refine x_ifs ?_ | refine x_setIx ?_ | refine x_unpack ?_ | refine l_add ?_ | refine l_sub ?_ | refine l_eqI ?_ | refine l_neI ?_ | refine l_eqB ?_ | refine l_neB ?_ | refine l_lt ?_ | refine l_le ?_ | refine l_gt ?_ | refine l_ge ?_ | refine ifT' rfl ?_ | refine ifF' rfl ?_ | refine ⟨_, rfl, ?_⟩ | refine ⟨rfl, ?_⟩ | refine ⟨Nat.le_of_ble_eq_true rfl, ?_⟩ | refine WC_some rfl ?_ | refine W_some rfl ?_))
    refine l_mul (.inr ⟨by decide, by decide⟩) ?_
    (repeat (first | refine w_var rfl ?_ | refine w_cst ?_ | refine w_glob ?_ | refine w_nil ?_ | refine w_cons ?_ | refine w_bin ?_ | refine w_ix ?_ | refine w_call ?_ | refine w_blt ?_ | refine w_isi ?_ | refine w_tup ?_ | refine w_lstT ?_ | refine w_lstF ?_ | refine e_and ?_ | refine e_or ?_ | refine w_not ?_ | refine w_neg ?_ | refine w_ite ?_ | refine w_cmp ?_ | refine w_chain ?_ | refine w_slice ?_ | refine w_oN ?_ | refine w_oS ?_ | refine t_val' ?_ | refine t_cmp' ?_ | refine t_chain' ?_ | refine t_not' ?_ | refine t_and' ?_ | refine t_or' ?_ | refine ts_nil ?_ | refine ts_cons ?_ | refine x_nil ?_ | refine x_cons ?_ | refine x_set ?_ | refine x_expr ?_ | refine x_ret ?_ | refine x_retN ?_ | refine x_ifs ?_ | refine x_setIx ?_ | refine x_unpack ?_ | refine l_add ?_ | refine l_sub ?_ | refine l_eqI ?_ | refine l_neI ?_ | refine l_eqB ?_ | refine l_neB ?_ | refine l_lt ?_ | refine l_le ?_ | refine l_gt ?_ | refine l_ge ?_ | refine ifT' rfl ?_ | refine ifF' rfl ?_ | refine ⟨_, rfl, ?_⟩ | refine ⟨rfl, ?_⟩ | refine ⟨Nat.le_of_ble_eq_true rfl, ?_⟩ | refine WC_some rfl ?_ | refine W_some rfl ?_))
    refine l_mod hm ?_
    (repeat (first | refine w_var rfl ?_ | refine w_cst ?_ | refine w_glob ?_ | refine w_nil ?_ | refine w_cons ?_ | refine w_bin ?_ | refine w_ix ?_ | refine w_call ?_ | refine w_blt ?_ | refine w_isi ?_ | refine w_tup ?_ | refine w_lstT ?_ | refine w_lstF ?_ | refine e_and ?_ | refine e_or ?_ | refine w_not ?_ | refine w_neg ?_ | refine w_ite ?_ | refine w_cmp ?_ | refine w_chain ?_ | refine w_slice ?_ | refine w_oN ?_ | refine w_oS ?_ | refine t_val' ?_ | refine t_cmp' ?_ | refine t_chain' ?_ | refine t_not' ?_ | refine t_and' ?_ | refine t_or' ?_ | refine ts_nil ?_ | refine ts_cons ?_ | refine x_nil ?_ | refine x_cons ?_ | refine x_set ?_ | refine x_expr ?_ | refine x_ret ?_ | refine x_retN ?_ | refine x_ifs ?_ | refine x_setIx ?_ | refine x_unpack ?_ | refine l_add ?_ | refine l_sub ?_ | refine l_eqI ?_ | refine l_neI ?_ | refine l_eqB ?_ | refine l_neB ?_ | refine l_lt ?_ | refine l_le ?_ | refine l_gt ?_ | refine l_ge ?_ | refine ifT' rfl ?_ | refine ifF' rfl ?_ | refine ⟨_, rfl, ?_⟩ | refine ⟨rfl, ?_⟩ | refine ⟨Nat.le_of_ble_eq_true rfl, ?_⟩ | refine WC_some rfl ?_ | refine W_some rfl ?_))
    have st : Stm (.lst [.lst (cells.map .int), .int a, .int p, .int ((s * 48271 + 11) % 2147483647)]) := ⟨cells, a, p, _, rfl, hp⟩
    exact fin_st rfl hn st hR rfl (q _ _ st (Int.emod_nonneg _ (by omega)) (Int.emod_lt_of_pos _ hm))
  · (repeat (first | refine w_var rfl ?_ | refine w_cst ?_ | refine w_glob ?_ | refine w_nil ?_ | refine w_cons ?_ | refine w_bin ?_ | refine w_ix ?_ | refine w_call ?_ | refine w_blt ?_ | refine w_isi ?_ | refine w_tup ?_ | refine w_lstT ?_ | refine w_lstF ?_ | refine e_and ?_ | refine e_or ?_ | refine w_not ?_ | refine w_neg ?_ | refine w_ite ?_ | refine w_cmp ?_ | refine w_chain ?_ | refine w_slice ?_ | refine w_oN ?_ | refine w_oS ?_ | refine t_val' ?_ | refine t_cmp' ?_ | refine t_chain' ?_ | refine t_not' ?_ | refine t_and' ?_ | refine t_or' ?_ | refine ts_nil ?_ | refine ts_cons ?_ | refine x_nil ?_ | refine x_cons ?_ | refine x_set ?_ | refine x_expr ?_ | refine x_ret ?_ | refine x_retN ?_ | refine x_ifs ?_ | refine x_setIx ?_ | refine x_unpack ?_ | refine l_add ?_ | refine l_sub ?_ | refine l_eqI ?_ | refine l_neI ?_ | refine l_eqB ?_ | refine l_neB ?_ | refine l_lt ?_ | refine l_le ?_ | refine l_gt ?_ | refine l_ge ?_ | refine ifT' rfl ?_ | refine ifF' rfl ?_ | refine ⟨_, rfl, ?_⟩ | refine ⟨rfl, ?_⟩ | refine ⟨Nat.le_of_ble_eq_true rfl, ?_⟩ | refine WC_some rfl ?_ | refine W_some rfl ?_))
    refine l_mod hm ?_
    (repeat (first | refine w_var rfl ?_ | refine w_cst ?_ | refine w_glob ?_ | refine w_nil ?_ | refine w_cons ?_ | refine w_bin ?_ | refine w_ix ?_ | refine w_call ?_ | refine w_blt ?_ | refine w_isi ?_ | refine w_tup ?_ | refine w_lstT ?_ | refine w_lstF ?_ | refine e_and ?_ | refine e_or ?_ | refine w_not ?_ | refine w_neg ?_ | refine w_ite ?_ | refine w_cmp ?_ | refine w_chain ?_ | refine w_slice ?_ | refine w_oN ?_ | refine w_oS ?_ | refine t_val' ?_ | refine t_cmp' ?_ | refine t_chain' ?_ | refine t_not' ?_ | refine t_and' ?_ | refine t_or' ?_ | refine ts_nil ?_ | refine ts_cons ?_ | refine x_nil ?_ | refine x_cons ?_ | refine x_set ?_ | refine x_expr ?_ | refine x_ret ?_ | refine x_retN ?_ | refine x_ifs ?_ | refine x_setIx ?_ | refine x_unpack ?_ | refine l_add ?_ | refine l_sub ?_ | refine l_eqI ?_ | refine l_neI ?_ | refine l_eqB ?_ | refine l_neB ?_ | refine l_lt ?_ | refine l_le ?_ | refine l_gt ?_ | refine l_ge ?_ | refine ifT' rfl ?_ | refine ifF' rfl ?_ | refine ⟨_, rfl, ?_⟩ | refine ⟨rfl, ?_⟩ | refine ⟨Nat.le_of_ble_eq_true rfl, ?_⟩ | refine WC_some rfl ?_ | refine W_some rfl ?_))
    refine l_fdiv ⟨hm, hm2⟩ ?_
    (repeat (first | refine w_var rfl ?_ | refine w_cst ?_ | refine w_glob ?_ | refine w_nil ?_ | refine w_cons ?_ | refine w_bin ?_ | refine w_ix ?_ | refine w_call ?_ | refine w_blt ?_ | refine w_isi ?_ | refine w_tup ?_ | refine w_lstT ?_ | refine w_lstF ?_ | refine e_and ?_ | refine e_or ?_ | refine w_not ?_ | refine w_neg ?_ | refine w_ite ?_ | refine w_cmp ?_ | refine w_chain ?_ | refine w_slice ?_ | refine w_oN ?_ | refine w_oS ?_ | refine t_val' ?_ | refine t_cmp' ?_ | refine t_chain' ?_ | refine t_not' ?_ | refine t_and' ?_ | refine t_or' ?_ | refine ts_nil ?_ | refine ts_cons ?_ | refine x_nil ?_ | refine x_cons ?_ | refine x_set ?_ | refine x_expr ?_ | refine x_ret ?_ | refine x_retN ?_ | refine x_ifs ?_ | refine x_setIx ?_ | refine x_unpack ?_ | refine l_add ?_ | refine l_sub ?_ | refine l_eqI ?_ | refine l_neI ?_ | refine l_eqB ?_ | refine l_neB ?_ | refine l_lt ?_ | refine l_le ?_ | refine l_gt ?_ | refine l_ge ?_ | refine ifT' rfl ?_ | refine ifF' rfl ?_ | refine ⟨_, rfl, ?_⟩ | refine ⟨rfl, ?_⟩ | refine ⟨Nat.le_of_ble_eq_true rfl, ?_⟩ | refine WC_some rfl ?_ | refine W_some rfl ?_))
    have st : Stm (.lst [.lst (cells.map .int), .int (a / many), .int p, .int s]) := ⟨cells, _, p, _, rfl, hp⟩
    exact fin_st rfl hn st hR rfl (q _ _ st (Int.emod_nonneg _ (by omega)) (Int.emod_lt_of_pos _ hm))
theorem draw {k : Nat} {many : Int} {o : O} {R : Sto} {Q : D → Sto → Prop} (ho : Stm o) (hR : R.all puO = true) (hm : 0 < many) (hm2 : many < 1073741824)
    (q : ∀ (r : Int) o', Stm o' → 0 ≤ r → r < many → Q (.int r) (o' :: R)) : WO (calls pg (k + 1) 20 [.ref 0, .int many] (o :: R)) Q := by
  refine call_run (di := d20) rfl (w_run rfl ?_)
  obtain ⟨cells, a, p, s, rfl, hp⟩ := ho
  refine x_cons ?_
  (repeat (first | refine w_var rfl ?_ | refine w_cst ?_ | refine w_glob ?_ | refine w_nil ?_ | refine w_cons ?_ | refine w_bin ?_ | refine w_ix ?_ | refine w_call ?_ | refine w_blt ?_ | refine w_isi ?_ | refine w_tup ?_ | refine w_lstT ?_ | refine w_lstF ?_ | refine e_and ?_ | refine e_or ?_ | refine w_not ?_ | refine w_neg ?_ | refine w_ite ?_ | refine w_cmp ?_ | refine w_chain ?_ | refine w_slice ?_ | refine w_oN ?_ | refine w_oS ?_ | refine t_val' ?_ | refine t_cmp' ?_ | refine t_chain' ?_ | refine t_not' ?_ | refine t_and' ?_ | refine t_or' ?_ | refine ts_nil ?_ | refine ts_cons ?_ | refine x_nil ?_ | refine x_set ?_ | refine x_expr ?_ | refine x_ret ?_ | refine x_retN ?_ | refine x_ifs ?_ | refine x_setIx ?_ | refine x_unpack ?_ | refine l_add ?_ | refine l_sub ?_ | refine l_eqI ?_ | refine l_neI ?_ | refine l_eqB ?_ | refine l_neB ?_ | refine l_lt ?_ | refine l_le ?_ | refine l_gt ?_ | refine l_ge ?_ | refine ifT' rfl ?_ | refine ifF' rfl ?_ | refine ⟨_, rfl, ?_⟩ | refine ⟨rfl, ?_⟩ | refine ⟨Nat.le_of_ble_eq_true rfl, ?_⟩ | refine WC_some rfl ?_ | refine W_some rfl ?_))
  refine ifB (fun h => ?_) (fun h => ?_)
  · (repeat (first | refine w_var rfl ?_ | refine w_cst ?_ | refine w_glob ?_ | refine w_nil ?_ | refine w_cons ?_ | refine w_bin ?_ | refine w_ix ?_ | refine w_call ?_ | refine w_blt ?_ | refine w_isi ?_ | refine w_tup ?_ | refine w_lstT ?_ | refine w_lstF ?_ | refine e_and ?_ | refine e_or ?_ | refine w_not ?_ | refine w_neg ?_ | refine w_ite ?_ | refine w_cmp ?_ | refine w_chain ?_ | refine w_slice ?_ | refine w_oN ?_ | refine w_oS ?_ | refine t_val' ?_ | refine t_cmp' ?_ | refine t_chain' ?_ | refine t_not' ?_ | refine t_and' ?_ | refine t_or' ?_ | refine ts_nil ?_ | refine ts_cons ?_ | refine x_nil ?_ | refine x_set ?_ | refine x_expr ?_ | refine x_ret ?_ | refine x_retN ?_ | refine x_ifs ?_ | refine x_setIx ?_ | refine x_unpack ?_ | refine l_add ?_ | refine l_sub ?_ | refine l_eqI ?_ | refine l_neI ?_ | refine l_eqB ?_ | refine l_neB ?_ | refine l_lt ?_ | refine l_le ?_ | refine l_gt ?_ | refine l_ge ?_ | refine ifT' rfl ?_ | refine ifF' rfl ?_ | refine ⟨_, rfl, ?_⟩ | refine ⟨rfl, ?_⟩ | refine ⟨Nat.le_of_ble_eq_true rfl, ?_⟩ | refine WC_some rfl ?_ | refine W_some rfl ?_))
    refine ifB (fun h2 => ?_) (fun h2 => ?_)
    · have h2' : p < (cells.length : Int) := by simpa using of_decide_eq_true h2
      have hlt : p.toNat < cells.length := by omega
      refine x_cons ?_
      (repeat (first | refine w_var rfl ?_ | refine w_cst ?_ | refine w_glob ?_ | refine w_nil ?_ | refine w_cons ?_ | refine w_bin ?_ | refine w_ix ?_ | refine w_call ?_ | refine w_blt ?_ | refine w_isi ?_ | refine w_tup ?_ | refine w_lstT ?_ | refine w_lstF ?_ | refine e_and ?_ | refine e_or ?_ | refine w_not ?_ | refine w_neg ?_ | refine w_ite ?_ | refine w_cmp ?_ | refine w_chain ?_ | refine w_slice ?_ | refine w_oN ?_ | refine w_oS ?_ | refine t_val' ?_ | refine t_cmp' ?_ | refine t_chain' ?_ | refine t_not' ?_ | refine t_and' ?_ | refine t_or' ?_ | refine ts_nil ?_ | refine ts_cons ?_ | refine x_nil ?_ | refine x_set ?_ | refine x_expr ?_ | refine x_ret ?_ | refine x_retN ?_ | refine x_ifs ?_ | refine x_setIx ?_ | refine x_unpack ?_ | refine l_add ?_ | refine l_sub ?_ | refine l_eqI ?_ | refine l_neI ?_ | refine l_eqB ?_ | refine l_neB ?_ | refine l_lt ?_ | refine l_le ?_ | refine l_gt ?_ | refine l_ge ?_ | refine ifT' rfl ?_ | refine ifF' rfl ?_ | refine ⟨_, rfl, ?_⟩ | refine ⟨rfl, ?_⟩ | refine ⟨Nat.le_of_ble_eq_true rfl, ?_⟩ | refine WC_some rfl ?_ | refine W_some rfl ?_))
      refine WC_some (d := .int cells[p.toNat]) ?_ ?_
      · show L2.atI (cells.map D.int) p = _
        simp [L2.atI, L2.ixN, hp, h2', hlt]
      · (repeat (first | refine w_var rfl ?_ | refine w_cst ?_ | refine w_glob ?_ | refine w_nil ?_ | refine w_cons ?_ | refine w_bin ?_ | refine w_ix ?_ | refine w_call ?_ | refine w_blt ?_ | refine w_isi ?_ | refine w_tup ?_ | refine w_lstT ?_ | refine w_lstF ?_ | refine e_and ?_ | refine e_or ?_ | refine w_not ?_ | refine w_neg ?_ | refine w_ite ?_ | refine w_cmp ?_ | refine w_chain ?_ | refine w_slice ?_ | refine w_oN ?_ | refine w_oS ?_ | refine t_val' ?_ | refine t_cmp' ?_ | refine t_chain' ?_ | refine t_not' ?_ | refine t_and' ?_ | refine t_or' ?_ | refine ts_nil ?_ | refine ts_cons ?_ | refine x_nil ?_ | refine x_set ?_ | refine x_expr ?_ | refine x_ret ?_ | refine x_retN ?_ | refine x_ifs ?_ | refine x_setIx ?_ | refine x_unpack ?_ | refine l_add ?_ | refine l_sub ?_ | refine l_eqI ?_ | refine l_neI ?_ | refine l_eqB ?_ | refine l_neB ?_ | refine l_lt ?_ | refine l_le ?_ | refine l_gt ?_ | refine l_ge ?_ | refine ifT' rfl ?_ | refine ifF' rfl ?_ | refine ⟨_, rfl, ?_⟩ | refine ⟨rfl, ?_⟩ | refine ⟨Nat.le_of_ble_eq_true rfl, ?_⟩ | refine WC_some rfl ?_ | refine W_some rfl ?_))
        refine x_cons ?_
        (repeat (first | refine w_var rfl ?_ | refine w_cst ?_ | refine w_glob ?_ | refine w_nil ?_ | refine w_cons ?_ | refine w_bin ?_ | refine w_ix ?_ | refine w_call ?_ | refine w_blt ?_ | refine w_isi ?_ | refine w_tup ?_ | refine w_lstT ?_ | refine w_lstF ?_ | refine e_and ?_ | refine e_or ?_ | refine w_not ?_ | refine w_neg ?_ | refine w_ite ?_ | refine w_cmp ?_ | refine w_chain ?_ | refine w_slice ?_ | refine w_oN ?_ | refine w_oS ?_ | refine t_val' ?_ | refine t_cmp' ?_ | refine t_chain' ?_ | refine t_not' ?_ | refine t_and' ?_ | refine t_or' ?_ | refine ts_nil ?_ | refine ts_cons ?_ | refine x_nil ?_ | refine x_set ?_ | refine x_expr ?_ | refine x_ret ?_ | refine x_retN ?_ | refine x_ifs ?_ | refine x_setIx ?_ | refine x_unpack ?_ | refine l_add ?_ | refine l_sub ?_ | refine l_eqI ?_ | refine l_neI ?_ | refine l_eqB ?_ | refine l_neB ?_ | refine l_lt ?_ | refine l_le ?_ | refine l_gt ?_ | refine l_ge ?_ | refine ifT' rfl ?_ | refine ifF' rfl ?_ | refine ⟨_, rfl, ?_⟩ | refine ⟨rfl, ?_⟩ | refine ⟨Nat.le_of_ble_eq_true rfl, ?_⟩ | refine WC_some rfl ?_ | refine W_some rfl ?_))
        exact draw_tail rfl (by omega) hR hm hm2 q
    · refine x_nil ?_
      exact draw_tail rfl hp hR hm hm2 q
  · refine ifF' rfl ?_
    refine x_nil ?_
    exact draw_tail rfl hp hR hm hm2 q
/-! values that may be looked at: nothing written, texts short -/
mutual
def gd : D → Bool
  | .non => true
  | .bl _ => true
  | .int _ => true
  | .str s => s.cps.all (· < 0x110000) && decide (s.cps.size ≤ 100)
  | .tup l => decide (l.length ≤ 60) && gds l
  | .lst l => decide (l.length ≤ 60) && gds l
  | .fzl _ => false
  | .ref _ => false
def gds : List D → Bool
  | [] => true
  | d :: r => gd d && gds r
end
mutual
theorem gd_pu : ∀ {d : D}, gd d = true → puD d = true
  | .non, _ => rfl
  | .bl _, _ => rfl
  | .int _, _ => rfl
  | .str _, _ => rfl
  | .tup l, h => by simp only [gd, Bool.and_eq_true] at h; simp only [puD]; exact gds_pu h.2
  | .lst l, h => by simp only [gd, Bool.and_eq_true] at h; simp only [puD]; exact gds_pu h.2
  | .fzl _, h => by simp [gd] at h
  | .ref _, h => by simp [gd] at h
theorem gds_pu : ∀ {l : List D}, gds l = true → puL l = true
  | [], _ => rfl
  | d :: r, h => by
    simp only [gds, Bool.and_eq_true] at h
    simp only [puL, Bool.and_eq_true]
    exact ⟨gd_pu h.1, gds_pu h.2⟩
end
theorem gds_get {l : List D} (h : gds l = true) {i : Nat} {d : D} (e : l[i]? = some d) : gd d = true := by
  induction l generalizing i with
  | nil => simp at e
  | cons a l ih =>
    simp only [gds, Bool.and_eq_true] at h
    cases i with
    | zero => simp at e; subst e; exact h.1
    | succ i => exact ih h.2 (by simpa using e)
theorem fin_same {df : Df} {d : D} {S : Sto} {Q : D → Sto → Prop} (hk : df.keep = false) (hS : S.all puO = true) (hd : puD d = true) (q : Q d S) : W (fin df S.length d S) Q := by
  refine fin_pure hk hd (by rw [List.take_length]; exact hS) ?_
  rw [List.take_length]
  exact q
theorem pick {k : Nat} {rows : D} {l : List D} {o : O} {R : Sto} {Q : D → Sto → Prop} (hr : rows = .lst l ∨ rows = .tup l) (h0 : 0 < l.length) (hz : l.length < 1073741824) (hp : puL l = true) (ho : Stm o) (hR : R.all puO = true)
    (q : ∀ (i : Nat) d o', Stm o' → l[i]? = some d → Q d (o' :: R)) : WO (calls pg (k + 2) 21 [.ref 0, rows] (o :: R)) Q := by
  refine call_run (di := d21) rfl (w_run rfl ?_)
  rcases hr with rfl | rfl <;>
  · (repeat (first | refine w_var rfl ?_ | refine w_cst ?_ | refine w_glob ?_ | refine w_nil ?_ | refine w_cons ?_ | refine w_bin ?_ | refine w_ix ?_ | refine w_call ?_ | refine w_blt ?_ | refine w_isi ?_ | refine w_tup ?_ | refine w_lstT ?_ | refine w_lstF ?_ | refine e_and ?_ | refine e_or ?_ | refine w_not ?_ | refine w_neg ?_ | refine w_ite ?_ | refine w_cmp ?_ | refine w_chain ?_ | refine w_slice ?_ | refine w_oN ?_ | refine w_oS ?_ | refine t_val' ?_ | refine t_cmp' ?_ | refine t_chain' ?_ | refine t_not' ?_ | refine t_and' ?_ | refine t_or' ?_ | refine ts_nil ?_ | refine ts_cons ?_ | refine x_nil ?_ | refine x_cons ?_ | refine x_set ?_ | refine x_expr ?_ | refine x_ret ?_ | refine x_retN ?_ | refine x_ifs ?_ | refine x_setIx ?_ | refine x_unpack ?_ | refine l_add ?_ | refine l_sub ?_ | refine l_eqI ?_ | refine l_neI ?_ | refine l_eqB ?_ | refine l_neB ?_ | refine l_lt ?_ | refine l_le ?_ | refine l_gt ?_ | refine l_ge ?_ | refine ifT' rfl ?_ | refine ifF' rfl ?_ | refine ⟨_, rfl, ?_⟩ | refine ⟨rfl, ?_⟩ | refine ⟨Nat.le_of_ble_eq_true rfl, ?_⟩ | refine WC_some rfl ?_ | refine W_some rfl ?_))
    refine draw ho hR (by omega) (by omega) fun r o' ho' h1 h2 => ?_
    have hlt : r.toNat < l.length := by omega
    refine WC_some (d := l[r.toNat]) ?_ ?_
    · show L2.atI l r = _
      simp [L2.atI, L2.ixN, h1, h2, hlt]
    · exact fin_st rfl rfl ho' hR (puL_get hp (List.getElem?_eq_getElem hlt)) (q r.toNat _ o' ho' (List.getElem?_eq_getElem hlt))
def wholeB : D → Int → Bool
  | .int i, m => decide (0 ≤ i) && decide (i ≤ m)
  | _, _ => false
theorem whole {k : Nat} {v : D} {m : Int} {S : Sto} {Q : D → Sto → Prop} (hv : gd v = true) (hS : S.all puO = true) (q : Q (.bl (wholeB v m)) S) : WO (calls pg (k + 1) 2 [v, .int m] S) Q := by
  refine call_run (di := d2) rfl (w_run rfl ?_)
  cases v with
  | int i =>
    (repeat (first | refine w_var rfl ?_ | refine w_cst ?_ | refine w_glob ?_ | refine w_nil ?_ | refine w_cons ?_ | refine w_bin ?_ | refine w_ix ?_ | refine w_call ?_ | refine w_blt ?_ | refine w_isi ?_ | refine w_tup ?_ | refine w_lstT ?_ | refine w_lstF ?_ | refine e_and ?_ | refine e_or ?_ | refine w_not ?_ | refine w_neg ?_ | refine w_ite ?_ | refine w_cmp ?_ | refine w_chain ?_ | refine w_slice ?_ | refine w_oN ?_ | refine w_oS ?_ | refine t_val' ?_ | refine t_cmp' ?_ | refine t_chain' ?_ | refine t_not' ?_ | refine t_and' ?_ | refine t_or' ?_ | refine ts_nil ?_ | refine ts_cons ?_ | refine x_nil ?_ | refine x_cons ?_ | refine x_set ?_ | refine x_expr ?_ | refine x_ret ?_ | refine x_retN ?_ | refine x_ifs ?_ | refine x_setIx ?_ | refine x_unpack ?_ | refine l_add ?_ | refine l_sub ?_ | refine l_eqI ?_ | refine l_neI ?_ | refine l_eqB ?_ | refine l_neB ?_ | refine l_lt ?_ | refine l_le ?_ | refine l_gt ?_ | refine l_ge ?_ | refine ifT' rfl ?_ | refine ifF' rfl ?_ | refine ⟨_, rfl, ?_⟩ | refine ⟨rfl, ?_⟩ | refine ⟨Nat.le_of_ble_eq_true rfl, ?_⟩ | refine WC_some rfl ?_ | refine W_some rfl ?_))
    refine ifB (fun h => ?_) (fun h => ?_)
    · (repeat (first | refine w_var rfl ?_ | refine w_cst ?_ | refine w_glob ?_ | refine w_nil ?_ | refine w_cons ?_ | refine w_bin ?_ | refine w_ix ?_ | refine w_call ?_ | refine w_blt ?_ | refine w_isi ?_ | refine w_tup ?_ | refine w_lstT ?_ | refine w_lstF ?_ | refine e_and ?_ | refine e_or ?_ | refine w_not ?_ | refine w_neg ?_ | refine w_ite ?_ | refine w_cmp ?_ | refine w_chain ?_ | refine w_slice ?_ | refine w_oN ?_ | refine w_oS ?_ | refine t_val' ?_ | refine t_cmp' ?_ | refine t_chain' ?_ | refine t_not' ?_ | refine t_and' ?_ | refine t_or' ?_ | refine ts_nil ?_ | refine ts_cons ?_ | refine x_nil ?_ | refine x_cons ?_ | refine x_set ?_ | refine x_expr ?_ | refine x_ret ?_ | refine x_retN ?_ | refine x_ifs ?_ | refine x_setIx ?_ | refine x_unpack ?_ | refine l_add ?_ | refine l_sub ?_ | refine l_eqI ?_ | refine l_neI ?_ | refine l_eqB ?_ | refine l_neB ?_ | refine l_lt ?_ | refine l_le ?_ | refine l_gt ?_ | refine l_ge ?_ | refine ifT' rfl ?_ | refine ifF' rfl ?_ | refine ⟨_, rfl, ?_⟩ | refine ⟨rfl, ?_⟩ | refine ⟨Nat.le_of_ble_eq_true rfl, ?_⟩ | refine WC_some rfl ?_ | refine W_some rfl ?_))
      refine fin_same rfl hS rfl ?_
      simpa [wholeB, h] using q
    · refine fin_same rfl hS rfl ?_
      simpa [wholeB, h] using q
  | fzl _ => simp [gd] at hv
  | ref _ => simp [gd] at hv
  | _ =>
    (repeat (first | refine w_var rfl ?_ | refine w_cst ?_ | refine w_glob ?_ | refine w_nil ?_ | refine w_cons ?_ | refine w_bin ?_ | refine w_ix ?_ | refine w_call ?_ | refine w_blt ?_ | refine w_isi ?_ | refine w_tup ?_ | refine w_lstT ?_ | refine w_lstF ?_ | refine e_and ?_ | refine e_or ?_ | refine w_not ?_ | refine w_neg ?_ | refine w_ite ?_ | refine w_cmp ?_ | refine w_chain ?_ | refine w_slice ?_ | refine w_oN ?_ | refine w_oS ?_ | refine t_val' ?_ | refine t_cmp' ?_ | refine t_chain' ?_ | refine t_not' ?_ | refine t_and' ?_ | refine t_or' ?_ | refine ts_nil ?_ | refine ts_cons ?_ | refine x_nil ?_ | refine x_cons ?_ | refine x_set ?_ | refine x_expr ?_ | refine x_ret ?_ | refine x_retN ?_ | refine x_ifs ?_ | refine x_setIx ?_ | refine x_unpack ?_ | refine l_add ?_ | refine l_sub ?_ | refine l_eqI ?_ | refine l_neI ?_ | refine l_eqB ?_ | refine l_neB ?_ | refine l_lt ?_ | refine l_le ?_ | refine l_gt ?_ | refine l_ge ?_ | refine ifT' rfl ?_ | refine ifF' rfl ?_ | refine ⟨_, rfl, ?_⟩ | refine ⟨rfl, ?_⟩ | refine ⟨Nat.le_of_ble_eq_true rfl, ?_⟩ | refine WC_some rfl ?_ | refine W_some rfl ?_))
    exact fin_same rfl hS rfl q
theorem number {k : Nat} {v : D} {m : Int} {S : Sto} {Q : D → Sto → Prop} (hv : gd v = true) (hS : S.all puO = true) (q : Q (.bl (wholeB v m)) S) : WO (calls pg (k + 1) 6 [v, .int m] S) Q := by
  refine call_run (di := d6) rfl (w_run rfl ?_)
  cases v with
  | int i =>
    (repeat (first | refine w_var rfl ?_ | refine w_cst ?_ | refine w_glob ?_ | refine w_nil ?_ | refine w_cons ?_ | refine w_bin ?_ | refine w_ix ?_ | refine w_call ?_ | refine w_blt ?_ | refine w_isi ?_ | refine w_tup ?_ | refine w_lstT ?_ | refine w_lstF ?_ | refine e_and ?_ | refine e_or ?_ | refine w_not ?_ | refine w_neg ?_ | refine w_ite ?_ | refine w_cmp ?_ | refine w_chain ?_ | refine w_slice ?_ | refine w_oN ?_ | refine w_oS ?_ | refine t_val' ?_ | refine t_cmp' ?_ | refine t_chain' ?_ | refine t_not' ?_ | refine t_and' ?_ | refine t_or' ?_ | refine ts_nil ?_ | refine ts_cons ?_ | refine x_nil ?_ | refine x_cons ?_ | refine x_set ?_ | refine x_expr ?_ | refine x_ret ?_ | refine x_retN ?_ | refine x_ifs ?_ | refine x_setIx ?_ | refine x_unpack ?_ | refine l_add ?_ | refine l_sub ?_ | refine l_eqI ?_ | refine l_neI ?_ | refine l_eqB ?_ | refine l_neB ?_ | refine l_lt ?_ | refine l_le ?_ | refine l_gt ?_ | refine l_ge ?_ | refine ifT' rfl ?_ | refine ifF' rfl ?_ | refine ⟨_, rfl, ?_⟩ | refine ⟨rfl, ?_⟩ | refine ⟨Nat.le_of_ble_eq_true rfl, ?_⟩ | refine WC_some rfl ?_ | refine W_some rfl ?_))
    refine ifB (fun h => ?_) (fun h => ?_)
    · (repeat (first | refine w_var rfl ?_ | refine w_cst ?_ | refine w_glob ?_ | refine w_nil ?_ | refine w_cons ?_ | refine w_bin ?_ | refine w_ix ?_ | refine w_call ?_ | refine w_blt ?_ | refine w_isi ?_ | refine w_tup ?_ | refine w_lstT ?_ | refine w_lstF ?_ | refine e_and ?_ | refine e_or ?_ | refine w_not ?_ | refine w_neg ?_ | refine w_ite ?_ | refine w_cmp ?_ | refine w_chain ?_ | refine w_slice ?_ | refine w_oN ?_ | refine w_oS ?_ | refine t_val' ?_ | refine t_cmp' ?_ | refine t_chain' ?_ | refine t_not' ?_ | refine t_and' ?_ | refine t_or' ?_ | refine ts_nil ?_ | refine ts_cons ?_ | refine x_nil ?_ | refine x_cons ?_ | refine x_set ?_ | refine x_expr ?_ | refine x_ret ?_ | refine x_retN ?_ | refine x_ifs ?_ | refine x_setIx ?_ | refine x_unpack ?_ | refine l_add ?_ | refine l_sub ?_ | refine l_eqI ?_ | refine l_neI ?_ | refine l_eqB ?_ | refine l_neB ?_ | refine l_lt ?_ | refine l_le ?_ | refine l_gt ?_ | refine l_ge ?_ | refine ifT' rfl ?_ | refine ifF' rfl ?_ | refine ⟨_, rfl, ?_⟩ | refine ⟨rfl, ?_⟩ | refine ⟨Nat.le_of_ble_eq_true rfl, ?_⟩ | refine WC_some rfl ?_ | refine W_some rfl ?_))
      refine fin_same rfl hS rfl ?_
      simpa [wholeB, h] using q
    · refine fin_same rfl hS rfl ?_
      simpa [wholeB, h] using q
  | fzl _ => simp [gd] at hv
  | ref _ => simp [gd] at hv
  | _ =>
    (repeat (first | refine w_var rfl ?_ | refine w_cst ?_ | refine w_glob ?_ | refine w_nil ?_ | refine w_cons ?_ | refine w_bin ?_ | refine w_ix ?_ | refine w_call ?_ | refine w_blt ?_ | refine w_isi ?_ | refine w_tup ?_ | refine w_lstT ?_ | refine w_lstF ?_ | refine e_and ?_ | refine e_or ?_ | refine w_not ?_ | refine w_neg ?_ | refine w_ite ?_ | refine w_cmp ?_ | refine w_chain ?_ | refine w_slice ?_ | refine w_oN ?_ | refine w_oS ?_ | refine t_val' ?_ | refine t_cmp' ?_ | refine t_chain' ?_ | refine t_not' ?_ | refine t_and' ?_ | refine t_or' ?_ | refine ts_nil ?_ | refine ts_cons ?_ | refine x_nil ?_ | refine x_cons ?_ | refine x_set ?_ | refine x_expr ?_ | refine x_ret ?_ | refine x_retN ?_ | refine x_ifs ?_ | refine x_setIx ?_ | refine x_unpack ?_ | refine l_add ?_ | refine l_sub ?_ | refine l_eqI ?_ | refine l_neI ?_ | refine l_eqB ?_ | refine l_neB ?_ | refine l_lt ?_ | refine l_le ?_ | refine l_gt ?_ | refine l_ge ?_ | refine ifT' rfl ?_ | refine ifF' rfl ?_ | refine ⟨_, rfl, ?_⟩ | refine ⟨rfl, ?_⟩ | refine ⟨Nat.le_of_ble_eq_true rfl, ?_⟩ | refine WC_some rfl ?_ | refine W_some rfl ?_))
    exact fin_same rfl hS rfl q
end Tt.L
end

section
/-! k64: names. -/
namespace Tt.L
open PySem Tt Tt.P
def LET : List Nat := ("abcdefghijklmnopqrstuvwxyzABCDEFGHIJKLMNOPQRSTUVWXYZ" : Str).cps.toList
def GO : List Nat := ("abcdefghijklmnopqrstuvwxyzABCDEFGHIJKLMNOPQRSTUVWXYZ0123456789_" : Str).cps.toList
def VAR : List Nat := ("uvwxyz" : Str).cps.toList
def bodyS (w : Str) : Str := if Txt.endswith w "#" = true then L2.cutS w none (some (-1)) else w
def inB (l : List Nat) (c : Nat) : Bool := decide (c ∈ l)
def nameB (w : Str) : Bool := match w.cps.toList with
  | [] => false
  | c :: _ => !decide (8 < (w.length : Int)) && (inB LET c && (bodyS w).cps.toList.all (inB GO))
theorem small100 {n : Nat} (h : n ≤ 100) : n ≤ sizeLine := Nat.le_trans h (by decide)
/-- all signs of a text are among some -/
theorem signs {cal : Cal} {d : Nat} {env : En} {S : Sto} {Q : D → Sto → Prop} {own : List Nat} {tg : Tg} {e elt : E} {w : Str} {g : Nat → Bool} (hz : w.cps.size ≤ sizeLine)
    (he : W (ev cal d e env S) fun x S1 => x = .str w ∧ S1 = S)
    (h : ∀ c, ∃ env1, bindT tg (.str ⟨#[c]⟩) (wipeD env own) = some env1 ∧ W (ev cal d elt env1 S) fun z S2 => z = .bl (g c) ∧ S2 = S)
    (q : Q (.lst (w.cps.toList.map fun c => .bl (g c))) S) : W (ev cal (d + 1) (.comp true own tg (.seq e) [] elt) env S) Q := by
  refine w_mapR (chars w) (w.cps.toList.map fun c => .bl (g c)) (by rw [chars_length]; exact hz) (by simp [chars]) (r_seq (he.mono fun x S1 ⟨e1, e2⟩ => ?_))
  subst e1 e2
  refine WC_some rfl ⟨(chars_length w).symm, rfl, fun i x y hx hy => ?_, q⟩
  simp only [chars, List.getElem?_map, Option.map_eq_some_iff] at hx hy
  obtain ⟨c, hc, rfl⟩ := hx
  obtain ⟨c', hc', rfl⟩ := hy
  rw [hc] at hc'; cases hc'
  exact h c
theorem name {k : Nat} {w : Str} {S : Sto} {Q : D → Sto → Prop} (hw : w.cps.all (· < 0x110000) = true) (hz : w.cps.size ≤ 100) (hS : S.all puO = true) (q : Q (.bl (nameB w)) S) : WO (calls pg (k + 1) 0 [.str w] S) Q := by
  refine call_run (di := d0) rfl (w_run rfl ?_)
  have hl : w.length ≤ sizeLine := small100 hz
  refine x_cons ?_
  refine x_ifs ?_
  refine t_or' ?_
  (repeat (first | refine w_var rfl ?_ | refine w_cst ?_ | refine w_glob ?_ | refine w_nil ?_ | refine w_cons ?_ | refine w_bin ?_ | refine w_ix ?_ | refine w_call ?_ | refine w_blt ?_ | refine w_isi ?_ | refine w_tup ?_ | refine w_lstT ?_ | refine w_lstF ?_ | refine e_and ?_ | refine e_or ?_ | refine w_not ?_ | refine w_neg ?_ | refine w_ite ?_ | refine w_cmp ?_ | refine w_chain ?_ | refine w_slice ?_ | refine w_oN ?_ | refine w_oS ?_ | refine t_val' ?_ | refine t_cmp' ?_ | refine t_chain' ?_ | refine t_not' ?_ | refine t_and' ?_ | refine t_or' ?_ | refine ts_nil ?_ | refine ts_cons ?_ | refine x_nil ?_ | refine x_set ?_ | refine x_expr ?_ | refine x_ret ?_ | refine x_retN ?_ | refine x_ifs ?_ | refine x_setIx ?_ | refine x_unpack ?_ | refine l_add ?_ | refine l_sub ?_ | refine l_eqI ?_ | refine l_neI ?_ | refine l_eqB ?_ | refine l_neB ?_ | refine l_lt ?_ | refine l_le ?_ | refine l_gt ?_ | refine l_ge ?_ | refine ifT' rfl ?_ | refine ifF' rfl ?_ | refine ⟨_, rfl, ?_⟩ | refine ⟨rfl, ?_⟩ | refine ⟨Nat.le_of_ble_eq_true rfl, ?_⟩ | refine WC_some rfl ?_ | refine W_some rfl ?_))
  refine l_eqS hw (by decide +kernel) ?_
  refine ifB (fun h => ?_) (fun h => ?_)
  · have : w = "" := by simpa using h
    subst this
    (repeat (first | refine w_var rfl ?_ | refine w_cst ?_ | refine w_glob ?_ | refine w_nil ?_ | refine w_cons ?_ | refine w_bin ?_ | refine w_ix ?_ | refine w_call ?_ | refine w_blt ?_ | refine w_isi ?_ | refine w_tup ?_ | refine w_lstT ?_ | refine w_lstF ?_ | refine e_and ?_ | refine e_or ?_ | refine w_not ?_ | refine w_neg ?_ | refine w_ite ?_ | refine w_cmp ?_ | refine w_chain ?_ | refine w_slice ?_ | refine w_oN ?_ | refine w_oS ?_ | refine t_val' ?_ | refine t_cmp' ?_ | refine t_chain' ?_ | refine t_not' ?_ | refine t_and' ?_ | refine t_or' ?_ | refine ts_nil ?_ | refine ts_cons ?_ | refine x_nil ?_ | refine x_cons ?_ | refine x_set ?_ | refine x_expr ?_ | refine x_ret ?_ | refine x_retN ?_ | refine x_ifs ?_ | refine x_setIx ?_ | refine x_unpack ?_ | refine l_add ?_ | refine l_sub ?_ | refine l_eqI ?_ | refine l_neI ?_ | refine l_eqB ?_ | refine l_neB ?_ | refine l_lt ?_ | refine l_le ?_ | refine l_gt ?_ | refine l_ge ?_ | refine ifT' rfl ?_ | refine ifF' rfl ?_ | refine ⟨_, rfl, ?_⟩ | refine ⟨rfl, ?_⟩ | refine ⟨Nat.le_of_ble_eq_true rfl, ?_⟩ | refine WC_some rfl ?_ | refine W_some rfl ?_))
    exact fin_same rfl hS rfl q
  obtain ⟨c, cs, hc⟩ : ∃ c cs, w.cps.toList = c :: cs := by
    cases e : w.cps.toList with
    | nil =>
      have : w = "" := by
        cases w with
        | mk a => cases a with
          | mk l => have : l = [] := e; subst this; rfl
      simp [this] at h
    | cons c cs => exact ⟨c, cs, rfl⟩
  have e0 : nameB w = (!decide (8 < (w.length : Int)) && (inB LET c && (bodyS w).cps.toList.all (inB GO))) := by unfold nameB; rw [hc]
  (repeat (first | refine w_var rfl ?_ | refine w_cst ?_ | refine w_glob ?_ | refine w_nil ?_ | refine w_cons ?_ | refine w_bin ?_ | refine w_ix ?_ | refine w_call ?_ | refine w_blt ?_ | refine w_isi ?_ | refine w_tup ?_ | refine w_lstT ?_ | refine w_lstF ?_ | refine e_and ?_ | refine e_or ?_ | refine w_not ?_ | refine w_neg ?_ | refine w_ite ?_ | refine w_cmp ?_ | refine w_chain ?_ | refine w_slice ?_ | refine w_oN ?_ | refine w_oS ?_ | refine t_val' ?_ | refine t_cmp' ?_ | refine t_chain' ?_ | refine t_not' ?_ | refine t_and' ?_ | refine t_or' ?_ | refine ts_nil ?_ | refine ts_cons ?_ | refine x_nil ?_ | refine x_set ?_ | refine x_expr ?_ | refine x_ret ?_ | refine x_retN ?_ | refine x_ifs ?_ | refine x_setIx ?_ | refine x_unpack ?_ | refine l_add ?_ | refine l_sub ?_ | refine l_eqI ?_ | refine l_neI ?_ | refine l_eqB ?_ | refine l_neB ?_ | refine l_lt ?_ | refine l_le ?_ | refine l_gt ?_ | refine l_ge ?_ | refine ifT' rfl ?_ | refine ifF' rfl ?_ | refine ⟨_, rfl, ?_⟩ | refine ⟨rfl, ?_⟩ | refine ⟨Nat.le_of_ble_eq_true rfl, ?_⟩ | refine WC_some rfl ?_ | refine W_some rfl ?_))
  refine l_lenS hl ?_
  (repeat (first | refine w_var rfl ?_ | refine w_cst ?_ | refine w_glob ?_ | refine w_nil ?_ | refine w_cons ?_ | refine w_bin ?_ | refine w_ix ?_ | refine w_call ?_ | refine w_blt ?_ | refine w_isi ?_ | refine w_tup ?_ | refine w_lstT ?_ | refine w_lstF ?_ | refine e_and ?_ | refine e_or ?_ | refine w_not ?_ | refine w_neg ?_ | refine w_ite ?_ | refine w_cmp ?_ | refine w_chain ?_ | refine w_slice ?_ | refine w_oN ?_ | refine w_oS ?_ | refine t_val' ?_ | refine t_cmp' ?_ | refine t_chain' ?_ | refine t_not' ?_ | refine t_and' ?_ | refine t_or' ?_ | refine ts_nil ?_ | refine ts_cons ?_ | refine x_nil ?_ | refine x_set ?_ | refine x_expr ?_ | refine x_ret ?_ | refine x_retN ?_ | refine x_ifs ?_ | refine x_setIx ?_ | refine x_unpack ?_ | refine l_add ?_ | refine l_sub ?_ | refine l_eqI ?_ | refine l_neI ?_ | refine l_eqB ?_ | refine l_neB ?_ | refine l_lt ?_ | refine l_le ?_ | refine l_gt ?_ | refine l_ge ?_ | refine ifT' rfl ?_ | refine ifF' rfl ?_ | refine ⟨_, rfl, ?_⟩ | refine ⟨rfl, ?_⟩ | refine ⟨Nat.le_of_ble_eq_true rfl, ?_⟩ | refine WC_some rfl ?_ | refine W_some rfl ?_))
  refine ifB (fun h8 => ?_) (fun h8 => ?_)
  · (repeat (first | refine w_var rfl ?_ | refine w_cst ?_ | refine w_glob ?_ | refine w_nil ?_ | refine w_cons ?_ | refine w_bin ?_ | refine w_ix ?_ | refine w_call ?_ | refine w_blt ?_ | refine w_isi ?_ | refine w_tup ?_ | refine w_lstT ?_ | refine w_lstF ?_ | refine e_and ?_ | refine e_or ?_ | refine w_not ?_ | refine w_neg ?_ | refine w_ite ?_ | refine w_cmp ?_ | refine w_chain ?_ | refine w_slice ?_ | refine w_oN ?_ | refine w_oS ?_ | refine t_val' ?_ | refine t_cmp' ?_ | refine t_chain' ?_ | refine t_not' ?_ | refine t_and' ?_ | refine t_or' ?_ | refine ts_nil ?_ | refine ts_cons ?_ | refine x_nil ?_ | refine x_cons ?_ | refine x_set ?_ | refine x_expr ?_ | refine x_ret ?_ | refine x_retN ?_ | refine x_ifs ?_ | refine x_setIx ?_ | refine x_unpack ?_ | refine l_add ?_ | refine l_sub ?_ | refine l_eqI ?_ | refine l_neI ?_ | refine l_eqB ?_ | refine l_neB ?_ | refine l_lt ?_ | refine l_le ?_ | refine l_gt ?_ | refine l_ge ?_ | refine ifT' rfl ?_ | refine ifF' rfl ?_ | refine ⟨_, rfl, ?_⟩ | refine ⟨rfl, ?_⟩ | refine ⟨Nat.le_of_ble_eq_true rfl, ?_⟩ | refine WC_some rfl ?_ | refine W_some rfl ?_))
    refine fin_same rfl hS rfl ?_
    rw [e0, h8] at q
    exact q
  (repeat (first | refine w_var rfl ?_ | refine w_cst ?_ | refine w_glob ?_ | refine w_nil ?_ | refine w_cons ?_ | refine w_bin ?_ | refine w_ix ?_ | refine w_call ?_ | refine w_blt ?_ | refine w_isi ?_ | refine w_tup ?_ | refine w_lstT ?_ | refine w_lstF ?_ | refine e_and ?_ | refine e_or ?_ | refine w_not ?_ | refine w_neg ?_ | refine w_ite ?_ | refine w_cmp ?_ | refine w_chain ?_ | refine w_slice ?_ | refine w_oN ?_ | refine w_oS ?_ | refine t_val' ?_ | refine t_cmp' ?_ | refine t_chain' ?_ | refine t_not' ?_ | refine t_and' ?_ | refine t_or' ?_ | refine ts_nil ?_ | refine ts_cons ?_ | refine x_nil ?_ | refine x_set ?_ | refine x_expr ?_ | refine x_ret ?_ | refine x_retN ?_ | refine x_ifs ?_ | refine x_setIx ?_ | refine x_unpack ?_ | refine l_add ?_ | refine l_sub ?_ | refine l_eqI ?_ | refine l_neI ?_ | refine l_eqB ?_ | refine l_neB ?_ | refine l_lt ?_ | refine l_le ?_ | refine l_gt ?_ | refine l_ge ?_ | refine ifT' rfl ?_ | refine ifF' rfl ?_ | refine ⟨_, rfl, ?_⟩ | refine ⟨rfl, ?_⟩ | refine ⟨Nat.le_of_ble_eq_true rfl, ?_⟩ | refine WC_some rfl ?_ | refine W_some rfl ?_))
  refine l_ixS (i := 0) (c := c) hl (by rw [hc]; rfl) ?_
  (repeat (first | refine w_var rfl ?_ | refine w_cst ?_ | refine w_glob ?_ | refine w_nil ?_ | refine w_cons ?_ | refine w_bin ?_ | refine w_ix ?_ | refine w_call ?_ | refine w_blt ?_ | refine w_isi ?_ | refine w_tup ?_ | refine w_lstT ?_ | refine w_lstF ?_ | refine e_and ?_ | refine e_or ?_ | refine w_not ?_ | refine w_neg ?_ | refine w_ite ?_ | refine w_cmp ?_ | refine w_chain ?_ | refine w_slice ?_ | refine w_oN ?_ | refine w_oS ?_ | refine t_val' ?_ | refine t_cmp' ?_ | refine t_chain' ?_ | refine t_not' ?_ | refine t_and' ?_ | refine t_or' ?_ | refine ts_nil ?_ | refine ts_cons ?_ | refine x_nil ?_ | refine x_set ?_ | refine x_expr ?_ | refine x_ret ?_ | refine x_retN ?_ | refine x_ifs ?_ | refine x_setIx ?_ | refine x_unpack ?_ | refine l_add ?_ | refine l_sub ?_ | refine l_eqI ?_ | refine l_neI ?_ | refine l_eqB ?_ | refine l_neB ?_ | refine l_lt ?_ | refine l_le ?_ | refine l_gt ?_ | refine l_ge ?_ | refine ifT' rfl ?_ | refine ifF' rfl ?_ | refine ⟨_, rfl, ?_⟩ | refine ⟨rfl, ?_⟩ | refine ⟨Nat.le_of_ble_eq_true rfl, ?_⟩ | refine WC_some rfl ?_ | refine W_some rfl ?_))
  refine ifB (fun hc1 => ?_) (fun hc1 => ?_)
  · (repeat (first | refine w_var rfl ?_ | refine w_cst ?_ | refine w_glob ?_ | refine w_nil ?_ | refine w_cons ?_ | refine w_bin ?_ | refine w_ix ?_ | refine w_call ?_ | refine w_blt ?_ | refine w_isi ?_ | refine w_tup ?_ | refine w_lstT ?_ | refine w_lstF ?_ | refine e_and ?_ | refine e_or ?_ | refine w_not ?_ | refine w_neg ?_ | refine w_ite ?_ | refine w_cmp ?_ | refine w_chain ?_ | refine w_slice ?_ | refine w_oN ?_ | refine w_oS ?_ | refine t_val' ?_ | refine t_cmp' ?_ | refine t_chain' ?_ | refine t_not' ?_ | refine t_and' ?_ | refine t_or' ?_ | refine ts_nil ?_ | refine ts_cons ?_ | refine x_nil ?_ | refine x_cons ?_ | refine x_set ?_ | refine x_expr ?_ | refine x_ret ?_ | refine x_retN ?_ | refine x_ifs ?_ | refine x_setIx ?_ | refine x_unpack ?_ | refine l_add ?_ | refine l_sub ?_ | refine l_eqI ?_ | refine l_neI ?_ | refine l_eqB ?_ | refine l_neB ?_ | refine l_lt ?_ | refine l_le ?_ | refine l_gt ?_ | refine l_ge ?_ | refine ifT' rfl ?_ | refine ifF' rfl ?_ | refine ⟨_, rfl, ?_⟩ | refine ⟨rfl, ?_⟩ | refine ⟨Nat.le_of_ble_eq_true rfl, ?_⟩ | refine WC_some rfl ?_ | refine W_some rfl ?_))
    refine fin_same rfl hS rfl ?_
    have : inB LET c = false := by simpa [inB, LET] using hc1
    rw [e0, this] at q
    simpa using q
  have hc2 : inB LET c = true := by simpa [inB, LET] using hc1
  rw [e0, h8, hc2] at q
  refine x_nil ?_
  refine x_cons ?_
  refine x_set ?_
  have body : ∀ {Q' : D → Sto → Prop}, Q' (.str (bodyS w)) S → W (ev (calls pg k) 59 (.ite (.val (.meth .endswith (.var 0) [(.cst (.str ("#" : Str)))])) (.slice (.var 0) none (some (.neg (.cst (.int 1))))) (.var 0)) [some (.str w), none, none] S) Q' := by
    intro Q' q'
    refine w_ite ?_
    refine t_val' ?_
    refine w_meth ?_
    (repeat (first | refine w_var rfl ?_ | refine w_cst ?_ | refine w_glob ?_ | refine w_nil ?_ | refine w_cons ?_ | refine w_bin ?_ | refine w_ix ?_ | refine w_call ?_ | refine w_blt ?_ | refine w_isi ?_ | refine w_tup ?_ | refine w_lstT ?_ | refine w_lstF ?_ | refine e_and ?_ | refine e_or ?_ | refine w_not ?_ | refine w_neg ?_ | refine w_ite ?_ | refine w_cmp ?_ | refine w_chain ?_ | refine w_slice ?_ | refine w_oN ?_ | refine w_oS ?_ | refine t_val' ?_ | refine t_cmp' ?_ | refine t_chain' ?_ | refine t_not' ?_ | refine t_and' ?_ | refine t_or' ?_ | refine ts_nil ?_ | refine ts_cons ?_ | refine x_nil ?_ | refine x_set ?_ | refine x_expr ?_ | refine x_ret ?_ | refine x_retN ?_ | refine x_ifs ?_ | refine x_setIx ?_ | refine x_unpack ?_ | refine l_add ?_ | refine l_sub ?_ | refine l_eqI ?_ | refine l_neI ?_ | refine l_eqB ?_ | refine l_neB ?_ | refine l_lt ?_ | refine l_le ?_ | refine l_gt ?_ | refine l_ge ?_ | refine ifT' rfl ?_ | refine ifF' rfl ?_ | refine ⟨_, rfl, ?_⟩ | refine ⟨rfl, ?_⟩ | refine ⟨Nat.le_of_ble_eq_true rfl, ?_⟩ | refine WC_some rfl ?_ | refine W_some rfl ?_))
    refine ifB (fun h => ?_) (fun h => ?_)
    · (repeat (first | refine w_var rfl ?_ | refine w_cst ?_ | refine w_glob ?_ | refine w_nil ?_ | refine w_cons ?_ | refine w_bin ?_ | refine w_ix ?_ | refine w_call ?_ | refine w_blt ?_ | refine w_isi ?_ | refine w_tup ?_ | refine w_lstT ?_ | refine w_lstF ?_ | refine e_and ?_ | refine e_or ?_ | refine w_not ?_ | refine w_neg ?_ | refine w_ite ?_ | refine w_cmp ?_ | refine w_chain ?_ | refine w_slice ?_ | refine w_oN ?_ | refine w_oS ?_ | refine t_val' ?_ | refine t_cmp' ?_ | refine t_chain' ?_ | refine t_not' ?_ | refine t_and' ?_ | refine t_or' ?_ | refine ts_nil ?_ | refine ts_cons ?_ | refine x_nil ?_ | refine x_set ?_ | refine x_expr ?_ | refine x_ret ?_ | refine x_retN ?_ | refine x_ifs ?_ | refine x_setIx ?_ | refine x_unpack ?_ | refine l_add ?_ | refine l_sub ?_ | refine l_eqI ?_ | refine l_neI ?_ | refine l_eqB ?_ | refine l_neB ?_ | refine l_lt ?_ | refine l_le ?_ | refine l_gt ?_ | refine l_ge ?_ | refine ifT' rfl ?_ | refine ifF' rfl ?_ | refine ⟨_, rfl, ?_⟩ | refine ⟨rfl, ?_⟩ | refine ⟨Nat.le_of_ble_eq_true rfl, ?_⟩ | refine WC_some rfl ?_ | refine W_some rfl ?_))
      refine l_slS hl ?_
      have : bodyS w = L2.cutS w none (some (-1)) := by unfold bodyS; rw [if_pos h]
      rw [this] at q'
      exact q'
    · (repeat (first | refine w_var rfl ?_ | refine w_cst ?_ | refine w_glob ?_ | refine w_nil ?_ | refine w_cons ?_ | refine w_bin ?_ | refine w_ix ?_ | refine w_call ?_ | refine w_blt ?_ | refine w_isi ?_ | refine w_tup ?_ | refine w_lstT ?_ | refine w_lstF ?_ | refine e_and ?_ | refine e_or ?_ | refine w_not ?_ | refine w_neg ?_ | refine w_ite ?_ | refine w_cmp ?_ | refine w_chain ?_ | refine w_slice ?_ | refine w_oN ?_ | refine w_oS ?_ | refine t_val' ?_ | refine t_cmp' ?_ | refine t_chain' ?_ | refine t_not' ?_ | refine t_and' ?_ | refine t_or' ?_ | refine ts_nil ?_ | refine ts_cons ?_ | refine x_nil ?_ | refine x_set ?_ | refine x_expr ?_ | refine x_ret ?_ | refine x_retN ?_ | refine x_ifs ?_ | refine x_setIx ?_ | refine x_unpack ?_ | refine l_add ?_ | refine l_sub ?_ | refine l_eqI ?_ | refine l_neI ?_ | refine l_eqB ?_ | refine l_neB ?_ | refine l_lt ?_ | refine l_le ?_ | refine l_gt ?_ | refine l_ge ?_ | refine ifT' rfl ?_ | refine ifF' rfl ?_ | refine ⟨_, rfl, ?_⟩ | refine ⟨rfl, ?_⟩ | refine ⟨Nat.le_of_ble_eq_true rfl, ?_⟩ | refine WC_some rfl ?_ | refine W_some rfl ?_))
      have : bodyS w = w := by unfold bodyS; rw [if_neg (by rw [h]; exact Bool.false_ne_true)]
      rw [this] at q'
      exact q'
  refine body ?_
  have hb : (bodyS w).cps.size ≤ sizeLine := by
    unfold bodyS
    split
    · exact Nat.le_trans (L2.cutS_length w _ _) hl
    · exact hl
  refine x_cons ?_
  refine x_ret ?_
  refine w_blt ?_
  refine w_cons ?_
  refine signs (w := bodyS w) (g := inB GO) hb (by (repeat (first | refine w_var rfl ?_ | refine w_cst ?_ | refine w_glob ?_ | refine w_nil ?_ | refine w_cons ?_ | refine w_bin ?_ | refine w_ix ?_ | refine w_call ?_ | refine w_blt ?_ | refine w_isi ?_ | refine w_tup ?_ | refine w_lstT ?_ | refine w_lstF ?_ | refine e_and ?_ | refine e_or ?_ | refine w_not ?_ | refine w_neg ?_ | refine w_ite ?_ | refine w_cmp ?_ | refine w_chain ?_ | refine w_slice ?_ | refine w_oN ?_ | refine w_oS ?_ | refine t_val' ?_ | refine t_cmp' ?_ | refine t_chain' ?_ | refine t_not' ?_ | refine t_and' ?_ | refine t_or' ?_ | refine ts_nil ?_ | refine ts_cons ?_ | refine x_nil ?_ | refine x_set ?_ | refine x_expr ?_ | refine x_ret ?_ | refine x_retN ?_ | refine x_ifs ?_ | refine x_setIx ?_ | refine x_unpack ?_ | refine l_add ?_ | refine l_sub ?_ | refine l_eqI ?_ | refine l_neI ?_ | refine l_eqB ?_ | refine l_neB ?_ | refine l_lt ?_ | refine l_le ?_ | refine l_gt ?_ | refine l_ge ?_ | refine ifT' rfl ?_ | refine ifF' rfl ?_ | refine ⟨_, rfl, ?_⟩ | refine ⟨rfl, ?_⟩ | refine ⟨Nat.le_of_ble_eq_true rfl, ?_⟩ | refine WC_some rfl ?_ | refine W_some rfl ?_)); exact rfl) (fun c => ⟨_, rfl, ?_⟩) ?_
  · (repeat (first | refine w_var rfl ?_ | refine w_cst ?_ | refine w_glob ?_ | refine w_nil ?_ | refine w_cons ?_ | refine w_bin ?_ | refine w_ix ?_ | refine w_call ?_ | refine w_blt ?_ | refine w_isi ?_ | refine w_tup ?_ | refine w_lstT ?_ | refine w_lstF ?_ | refine e_and ?_ | refine e_or ?_ | refine w_not ?_ | refine w_neg ?_ | refine w_ite ?_ | refine w_cmp ?_ | refine w_chain ?_ | refine w_slice ?_ | refine w_oN ?_ | refine w_oS ?_ | refine t_val' ?_ | refine t_cmp' ?_ | refine t_chain' ?_ | refine t_not' ?_ | refine t_and' ?_ | refine t_or' ?_ | refine ts_nil ?_ | refine ts_cons ?_ | refine x_nil ?_ | refine x_set ?_ | refine x_expr ?_ | refine x_ret ?_ | refine x_retN ?_ | refine x_ifs ?_ | refine x_setIx ?_ | refine x_unpack ?_ | refine l_add ?_ | refine l_sub ?_ | refine l_eqI ?_ | refine l_neI ?_ | refine l_eqB ?_ | refine l_neB ?_ | refine l_lt ?_ | refine l_le ?_ | refine l_gt ?_ | refine l_ge ?_ | refine ifT' rfl ?_ | refine ifF' rfl ?_ | refine ⟨_, rfl, ?_⟩ | refine ⟨rfl, ?_⟩ | refine ⟨Nat.le_of_ble_eq_true rfl, ?_⟩ | refine WC_some rfl ?_ | refine W_some rfl ?_))
    exact rfl
  · (repeat (first | refine w_var rfl ?_ | refine w_cst ?_ | refine w_glob ?_ | refine w_nil ?_ | refine w_cons ?_ | refine w_bin ?_ | refine w_ix ?_ | refine w_call ?_ | refine w_blt ?_ | refine w_isi ?_ | refine w_tup ?_ | refine w_lstT ?_ | refine w_lstF ?_ | refine e_and ?_ | refine e_or ?_ | refine w_not ?_ | refine w_neg ?_ | refine w_ite ?_ | refine w_cmp ?_ | refine w_chain ?_ | refine w_slice ?_ | refine w_oN ?_ | refine w_oS ?_ | refine t_val' ?_ | refine t_cmp' ?_ | refine t_chain' ?_ | refine t_not' ?_ | refine t_and' ?_ | refine t_or' ?_ | refine ts_nil ?_ | refine ts_cons ?_ | refine x_nil ?_ | refine x_set ?_ | refine x_expr ?_ | refine x_ret ?_ | refine x_retN ?_ | refine x_ifs ?_ | refine x_setIx ?_ | refine x_unpack ?_ | refine l_add ?_ | refine l_sub ?_ | refine l_eqI ?_ | refine l_neI ?_ | refine l_eqB ?_ | refine l_neB ?_ | refine l_lt ?_ | refine l_le ?_ | refine l_gt ?_ | refine l_ge ?_ | refine ifT' rfl ?_ | refine ifF' rfl ?_ | refine ⟨_, rfl, ?_⟩ | refine ⟨rfl, ?_⟩ | refine ⟨Nat.le_of_ble_eq_true rfl, ?_⟩ | refine WC_some rfl ?_ | refine W_some rfl ?_))
    refine l_all ?_
    exact fin_same rfl hS rfl q
end Tt.L
end

section
/-! k64: symbols. -/
namespace Tt.L
open PySem Tt Tt.P
def headIn (l : List Nat) (w : Str) : Bool := match w.cps.toList with
  | [] => false
  | c :: _ => inB l c
theorem head_cases (w : Str) : w = "" ∨ ∃ c cs, w.cps.toList = c :: cs := by
  cases e : w.cps.toList with
  | nil =>
    left
    cases w with
    | mk a => cases a with
      | mk l => have : l = [] := e; subst this; rfl
  | cons c cs => exact .inr ⟨c, cs, rfl⟩
theorem symP {k : Nat} {w : Str} {S : Sto} {Q : D → Sto → Prop} (hw : w.cps.all (· < 0x110000) = true) (hz : w.cps.size ≤ 100) (hS : S.all puO = true) (q : Q (.bl (nameB w && !headIn VAR w)) S) : WO (calls pg (k + 2) 1 [.str w] S) Q := by
  refine call_run (di := d1) rfl (w_run rfl ?_)
  (repeat (first | refine w_var rfl ?_ | refine w_cst ?_ | refine w_glob ?_ | refine w_nil ?_ | refine w_cons ?_ | refine w_bin ?_ | refine w_ix ?_ | refine w_call ?_ | refine w_blt ?_ | refine w_isi ?_ | refine w_tup ?_ | refine w_lstT ?_ | refine w_lstF ?_ | refine e_and ?_ | refine e_or ?_ | refine w_not ?_ | refine w_neg ?_ | refine w_ite ?_ | refine w_cmp ?_ | refine w_chain ?_ | refine w_slice ?_ | refine w_oN ?_ | refine w_oS ?_ | refine t_val' ?_ | refine t_cmp' ?_ | refine t_chain' ?_ | refine t_not' ?_ | refine t_and' ?_ | refine t_or' ?_ | refine ts_nil ?_ | refine ts_cons ?_ | refine x_nil ?_ | refine x_cons ?_ | refine x_set ?_ | refine x_expr ?_ | refine x_ret ?_ | refine x_retN ?_ | refine x_ifs ?_ | refine x_setIx ?_ | refine x_unpack ?_ | refine l_add ?_ | refine l_sub ?_ | refine l_eqI ?_ | refine l_neI ?_ | refine l_eqB ?_ | refine l_neB ?_ | refine l_lt ?_ | refine l_le ?_ | refine l_gt ?_ | refine l_ge ?_ | refine ifT' rfl ?_ | refine ifF' rfl ?_ | refine ⟨_, rfl, ?_⟩ | refine ⟨rfl, ?_⟩ | refine ⟨Nat.le_of_ble_eq_true rfl, ?_⟩ | refine WC_some rfl ?_ | refine W_some rfl ?_))
  refine name hw hz hS ?_
  refine ⟨_, rfl, ?_⟩
  refine ifB (fun h => ?_) (fun h => ?_)
  · rcases head_cases w with e | ⟨c, cs, hc⟩
    · subst e; cases h
    · (repeat (first | refine w_var rfl ?_ | refine w_cst ?_ | refine w_glob ?_ | refine w_nil ?_ | refine w_cons ?_ | refine w_bin ?_ | refine w_ix ?_ | refine w_call ?_ | refine w_blt ?_ | refine w_isi ?_ | refine w_tup ?_ | refine w_lstT ?_ | refine w_lstF ?_ | refine e_and ?_ | refine e_or ?_ | refine w_not ?_ | refine w_neg ?_ | refine w_ite ?_ | refine w_cmp ?_ | refine w_chain ?_ | refine w_slice ?_ | refine w_oN ?_ | refine w_oS ?_ | refine t_val' ?_ | refine t_cmp' ?_ | refine t_chain' ?_ | refine t_not' ?_ | refine t_and' ?_ | refine t_or' ?_ | refine ts_nil ?_ | refine ts_cons ?_ | refine x_nil ?_ | refine x_set ?_ | refine x_expr ?_ | refine x_ret ?_ | refine x_retN ?_ | refine x_ifs ?_ | refine x_setIx ?_ | refine x_unpack ?_ | refine l_add ?_ | refine l_sub ?_ | refine l_eqI ?_ | refine l_neI ?_ | refine l_eqB ?_ | refine l_neB ?_ | refine l_lt ?_ | refine l_le ?_ | refine l_gt ?_ | refine l_ge ?_ | refine ifT' rfl ?_ | refine ifF' rfl ?_ | refine ⟨_, rfl, ?_⟩ | refine ⟨rfl, ?_⟩ | refine ⟨Nat.le_of_ble_eq_true rfl, ?_⟩ | refine WC_some rfl ?_ | refine W_some rfl ?_))
      refine l_ixS (i := 0) (c := c) (small100 hz) (by rw [hc]; rfl) ?_
      (repeat (first | refine w_var rfl ?_ | refine w_cst ?_ | refine w_glob ?_ | refine w_nil ?_ | refine w_cons ?_ | refine w_bin ?_ | refine w_ix ?_ | refine w_call ?_ | refine w_blt ?_ | refine w_isi ?_ | refine w_tup ?_ | refine w_lstT ?_ | refine w_lstF ?_ | refine e_and ?_ | refine e_or ?_ | refine w_not ?_ | refine w_neg ?_ | refine w_ite ?_ | refine w_cmp ?_ | refine w_chain ?_ | refine w_slice ?_ | refine w_oN ?_ | refine w_oS ?_ | refine t_val' ?_ | refine t_cmp' ?_ | refine t_chain' ?_ | refine t_not' ?_ | refine t_and' ?_ | refine t_or' ?_ | refine ts_nil ?_ | refine ts_cons ?_ | refine x_nil ?_ | refine x_set ?_ | refine x_expr ?_ | refine x_ret ?_ | refine x_retN ?_ | refine x_ifs ?_ | refine x_setIx ?_ | refine x_unpack ?_ | refine l_add ?_ | refine l_sub ?_ | refine l_eqI ?_ | refine l_neI ?_ | refine l_eqB ?_ | refine l_neB ?_ | refine l_lt ?_ | refine l_le ?_ | refine l_gt ?_ | refine l_ge ?_ | refine ifT' rfl ?_ | refine ifF' rfl ?_ | refine ⟨_, rfl, ?_⟩ | refine ⟨rfl, ?_⟩ | refine ⟨Nat.le_of_ble_eq_true rfl, ?_⟩ | refine WC_some rfl ?_ | refine W_some rfl ?_))
      refine fin_same rfl hS rfl ?_
      have : headIn VAR w = inB VAR c := by unfold headIn; rw [hc]
      rw [h, this] at q
      exact q
  · refine fin_same rfl hS rfl ?_
    rw [h] at q
    exact q
def symB (w : Str) : Bool := decide (1 ≤ (w.length : Int)) && decide ((w.length : Int) ≤ 8) && headIn LET w && !headIn VAR w && w.cps.toList.all (inB GO)
theorem ends_mem {w : Str} (h : Txt.endswith w "#" = true) : (35 : Nat) ∈ w.cps.toList := by
  unfold Txt.endswith at h
  rw [Bool.and_eq_true] at h
  obtain ⟨h1, h2⟩ := h
  unfold Builtin.Str.subAt at h2
  have h3 := eq_of_beq h2
  have h4 : (w.cps.extract (w.length - ("#" : Str).length) (w.length - ("#" : Str).length + ("#" : Str).length)).toList = [35] := by
    rw [h3]; decide +kernel
  rw [Array.toList_extract] at h4
  have h5 : (35 : Nat) ∈ w.cps.toList.extract (w.length - ("#" : Str).length) (w.length - ("#" : Str).length + ("#" : Str).length) := by rw [h4]; simp
  unfold List.extract at h5
  exact List.mem_of_mem_drop (List.mem_of_mem_take h5)
/-- the program's look at a symbol is the law's -/
theorem sym_eq (w : Str) : (nameB w && !headIn VAR w && !Txt.endswith w "#") = symB w := by
  cases he : Txt.endswith w "#" with
  | false =>
    have hb : bodyS w = w := by unfold bodyS; rw [if_neg (by rw [he]; exact Bool.false_ne_true)]
    rcases head_cases w with e | ⟨c, cs, hc⟩
    · subst e; rfl
    · unfold nameB symB headIn
      rw [hb, hc]
      have h1 : decide (1 ≤ (w.length : Int)) = true := by
        have : w.cps.toList.length = w.length := by simp [Str.length]
        rw [hc] at this
        simp at this
        simp
        omega
      have h2 : (!decide (8 < (w.length : Int))) = decide ((w.length : Int) ≤ 8) := by
        by_cases h : 8 < (w.length : Int)
        · simp [h]
        · simp [h]; omega
      rw [h1, h2]
      dsimp only
      generalize decide ((w.length : Int) ≤ 8) = a
      generalize inB LET c = b
      generalize inB VAR c = e
      generalize (c :: cs).all (inB GO) = f
      cases a <;> cases b <;> cases e <;> cases f <;> rfl
  | true =>
    have hm := ends_mem he
    have : w.cps.toList.all (inB GO) = false := by
      rw [List.all_eq_false]
      exact ⟨35, hm, by decide +kernel⟩
    unfold symB
    rw [this]
    simp
end Tt.L
end

section
/-! k64: signatures. -/
namespace Tt.L
open PySem Tt Tt.P L2
def pairB : D → Bool
  | .tup [.str w, n] => symB w && wholeB n 3
  | _ => false
def nmOf : D → Str
  | .tup (.str w :: _) => w
  | _ => ""
def sigB : D → Bool
  | .tup l => decide (1 ≤ (l.length : Int)) && decide ((l.length : Int) ≤ 6) && l.all pairB && decide (l.map nmOf).Nodup
  | _ => false
theorem fin_drop {df : Df} {d : D} {S R : Sto} {Q : D → Sto → Prop} (hk : df.keep = false) (hS : S.all puO = true) (hd : puD d = true) (q : Q d S) : W (fin df S.length d (S ++ R)) Q := by
  have e : (S ++ R).take S.length = S := by simp
  refine fin_pure hk hd (by rw [e]; exact hS) ?_
  rw [e]
  exact q
theorem pair_cases {x : D} (h : pairB x = true) : ∃ w n, x = .tup [.str w, n] ∧ symB w = true ∧ wholeB n 3 = true := by
  unfold pairB at h
  split at h
  · rw [Bool.and_eq_true] at h
    exact ⟨_, _, rfl, h.1, h.2⟩
  · cases h
theorem gds_mem {l : List D} (h : gds l = true) {x : D} (hx : x ∈ l) : gd x = true := by
  obtain ⟨i, hi, e⟩ := List.getElem_of_mem hx
  exact gds_get h (by rw [List.getElem?_eq_getElem hi, e])
theorem sig_bad {l : List D} {i : Nat} {x : D} (hx : l[i]? = some x) (h : pairB x = false) : sigB (.tup l) = false := by
  have : l.all pairB = false := by
    rw [List.all_eq_false]
    exact ⟨x, List.mem_of_getElem? hx, by rw [h]; exact Bool.false_ne_true⟩
  simp [sigB, this]
theorem nodup_inr {ws : List Str} : (ws.map (Sum.inr : Str → Key)).Nodup ↔ ws.Nodup := by
  induction ws with
  | nil => simp
  | cons a r ih =>
    rw [List.map_cons, List.nodup_cons, List.nodup_cons, ih]
    refine and_congr_left fun _ => not_congr ⟨fun h => ?_, fun h => List.mem_map_of_mem h⟩
    obtain ⟨b, hb, e⟩ := List.mem_map.mp h
    cases e; exact hb
theorem l_lenD {fz : Bool} {n : Nat} {kvs : List (Key × D)} {S : Sto} {Q : D → Sto → Prop} (h : S[n]? = some (.dic kvs)) (q : Q (.int kvs.length) S) : W (bltD fz .len [.ref n] S) Q := ⟨_, _, by simp only [bltD]; rw [h], q⟩
theorem sigP {k : Nat} {v : D} {S : Sto} {Q : D → Sto → Prop} (hv : gd v = true) (hS : S.all puO = true) (q : Q (.bl (sigB v)) S) : WO (calls pg (k + 3) 3 [v] S) Q := by
  refine call_run (di := d3) rfl (w_run rfl ?_)
  cases v with
  | tup l =>
    simp only [gd, Bool.and_eq_true, decide_eq_true_eq] at hv
    obtain ⟨hl, hg⟩ := hv
    refine x_cons ?_
    (repeat (first | refine w_var rfl ?_ | refine w_cst ?_ | refine w_glob ?_ | refine w_nil ?_ | refine w_cons ?_ | refine w_bin ?_ | refine w_ix ?_ | refine w_call ?_ | refine w_blt ?_ | refine w_isi ?_ | refine w_tup ?_ | refine w_lstT ?_ | refine w_lstF ?_ | refine e_and ?_ | refine e_or ?_ | refine w_not ?_ | refine w_neg ?_ | refine w_ite ?_ | refine w_cmp ?_ | refine w_chain ?_ | refine w_slice ?_ | refine w_oN ?_ | refine w_oS ?_ | refine t_val' ?_ | refine t_cmp' ?_ | refine t_chain' ?_ | refine t_not' ?_ | refine t_and' ?_ | refine t_or' ?_ | refine ts_nil ?_ | refine ts_cons ?_ | refine x_nil ?_ | refine x_set ?_ | refine x_expr ?_ | refine x_ret ?_ | refine x_retN ?_ | refine x_ifs ?_ | refine x_setIx ?_ | refine x_unpack ?_ | refine l_add ?_ | refine l_sub ?_ | refine l_eqI ?_ | refine l_neI ?_ | refine l_eqB ?_ | refine l_neB ?_ | refine l_lt ?_ | refine l_le ?_ | refine l_gt ?_ | refine l_ge ?_ | refine ifT' rfl ?_ | refine ifF' rfl ?_ | refine ⟨_, rfl, ?_⟩ | refine ⟨rfl, ?_⟩ | refine ⟨Nat.le_of_ble_eq_true rfl, ?_⟩ | refine WC_some rfl ?_ | refine W_some rfl ?_))
    refine ifB (fun h1 => ?_) (fun h1 => ?_)
    case refine_2 =>
      (repeat (first | refine w_var rfl ?_ | refine w_cst ?_ | refine w_glob ?_ | refine w_nil ?_ | refine w_cons ?_ | refine w_bin ?_ | refine w_ix ?_ | refine w_call ?_ | refine w_blt ?_ | refine w_isi ?_ | refine w_tup ?_ | refine w_lstT ?_ | refine w_lstF ?_ | refine e_and ?_ | refine e_or ?_ | refine w_not ?_ | refine w_neg ?_ | refine w_ite ?_ | refine w_cmp ?_ | refine w_chain ?_ | refine w_slice ?_ | refine w_oN ?_ | refine w_oS ?_ | refine t_val' ?_ | refine t_cmp' ?_ | refine t_chain' ?_ | refine t_not' ?_ | refine t_and' ?_ | refine t_or' ?_ | refine ts_nil ?_ | refine ts_cons ?_ | refine x_nil ?_ | refine x_cons ?_ | refine x_set ?_ | refine x_expr ?_ | refine x_ret ?_ | refine x_retN ?_ | refine x_ifs ?_ | refine x_setIx ?_ | refine x_unpack ?_ | refine l_add ?_ | refine l_sub ?_ | refine l_eqI ?_ | refine l_neI ?_ | refine l_eqB ?_ | refine l_neB ?_ | refine l_lt ?_ | refine l_le ?_ | refine l_gt ?_ | refine l_ge ?_ | refine ifT' rfl ?_ | refine ifF' rfl ?_ | refine ⟨_, rfl, ?_⟩ | refine ⟨rfl, ?_⟩ | refine ⟨Nat.le_of_ble_eq_true rfl, ?_⟩ | refine WC_some rfl ?_ | refine W_some rfl ?_))
      refine fin_same rfl hS rfl ?_
      simpa [sigB, h1] using q
    (repeat (first | refine w_var rfl ?_ | refine w_cst ?_ | refine w_glob ?_ | refine w_nil ?_ | refine w_cons ?_ | refine w_bin ?_ | refine w_ix ?_ | refine w_call ?_ | refine w_blt ?_ | refine w_isi ?_ | refine w_tup ?_ | refine w_lstT ?_ | refine w_lstF ?_ | refine e_and ?_ | refine e_or ?_ | refine w_not ?_ | refine w_neg ?_ | refine w_ite ?_ | refine w_cmp ?_ | refine w_chain ?_ | refine w_slice ?_ | refine w_oN ?_ | refine w_oS ?_ | refine t_val' ?_ | refine t_cmp' ?_ | refine t_chain' ?_ | refine t_not' ?_ | refine t_and' ?_ | refine t_or' ?_ | refine ts_nil ?_ | refine ts_cons ?_ | refine x_nil ?_ | refine x_set ?_ | refine x_expr ?_ | refine x_ret ?_ | refine x_retN ?_ | refine x_ifs ?_ | refine x_setIx ?_ | refine x_unpack ?_ | refine l_add ?_ | refine l_sub ?_ | refine l_eqI ?_ | refine l_neI ?_ | refine l_eqB ?_ | refine l_neB ?_ | refine l_lt ?_ | refine l_le ?_ | refine l_gt ?_ | refine l_ge ?_ | refine ifT' rfl ?_ | refine ifF' rfl ?_ | refine ⟨_, rfl, ?_⟩ | refine ⟨rfl, ?_⟩ | refine ⟨Nat.le_of_ble_eq_true rfl, ?_⟩ | refine WC_some rfl ?_ | refine W_some rfl ?_))
    refine ifB (fun h6 => ?_) (fun h6 => ?_)
    · have h6' : decide ((l.length : Int) ≤ 6) = false := by simpa using h6
      (repeat (first | refine w_var rfl ?_ | refine w_cst ?_ | refine w_glob ?_ | refine w_nil ?_ | refine w_cons ?_ | refine w_bin ?_ | refine w_ix ?_ | refine w_call ?_ | refine w_blt ?_ | refine w_isi ?_ | refine w_tup ?_ | refine w_lstT ?_ | refine w_lstF ?_ | refine e_and ?_ | refine e_or ?_ | refine w_not ?_ | refine w_neg ?_ | refine w_ite ?_ | refine w_cmp ?_ | refine w_chain ?_ | refine w_slice ?_ | refine w_oN ?_ | refine w_oS ?_ | refine t_val' ?_ | refine t_cmp' ?_ | refine t_chain' ?_ | refine t_not' ?_ | refine t_and' ?_ | refine t_or' ?_ | refine ts_nil ?_ | refine ts_cons ?_ | refine x_nil ?_ | refine x_cons ?_ | refine x_set ?_ | refine x_expr ?_ | refine x_ret ?_ | refine x_retN ?_ | refine x_ifs ?_ | refine x_setIx ?_ | refine x_unpack ?_ | refine l_add ?_ | refine l_sub ?_ | refine l_eqI ?_ | refine l_neI ?_ | refine l_eqB ?_ | refine l_neB ?_ | refine l_lt ?_ | refine l_le ?_ | refine l_gt ?_ | refine l_ge ?_ | refine ifT' rfl ?_ | refine ifF' rfl ?_ | refine ⟨_, rfl, ?_⟩ | refine ⟨rfl, ?_⟩ | refine ⟨Nat.le_of_ble_eq_true rfl, ?_⟩ | refine WC_some rfl ?_ | refine W_some rfl ?_))
      refine fin_same rfl hS rfl ?_
      simpa [sigB, h6'] using q
    have h6' : decide ((l.length : Int) ≤ 6) = true := by simpa using h6
    refine x_nil ?_
    refine x_cons ?_
    refine x_for ?_
    refine r_seq ?_
    refine w_var rfl ?_
    refine WC_some rfl ?_
    refine for_inv (l := l) (fun i env S2 => S2 = S ∧ (∃ y, env = [some (.tup l), y]) ∧ ∀ j x, j < i → l[j]? = some x → pairB x = true) rfl ⟨rfl, ⟨_, rfl⟩, fun j x h => by omega⟩ (fun i env S2 ⟨e, _, _⟩ => rfl) ?_ ?_
    · rintro i x env S2 hx ⟨rfl, ⟨y, rfl⟩, hall⟩
      refine ⟨_, rfl, ?_⟩
      have hxg : gd x = true := gds_get hg hx
      have bad : pairB x = false → W (fin d3.df S2.length (.bl false) S2) Q := fun h => by
        refine fin_same rfl hS rfl ?_
        rw [sig_bad hx h] at q
        exact q
      have good : pairB x = true → ∀ j z, j < i + 1 → l[j]? = some z → pairB z = true := fun h j z hj hz => by
        by_cases e : j = i
        · subst e; rw [hx] at hz; cases hz; exact h
        · exact hall j z (by omega) hz
      cases x with
      | tup p =>
        simp only [gd, Bool.and_eq_true, decide_eq_true_eq] at hxg
        by_cases hp : p.length = 2
        · obtain ⟨a, b, rfl⟩ : ∃ a b, p = [a, b] := by
            match p, hp with
            | [a, b], _ => exact ⟨a, b, rfl⟩
          have ha : gd a = true := by have := hxg.2; simp only [gds, Bool.and_eq_true] at this; exact this.1
          have hb : gd b = true := by have := hxg.2; simp only [gds, Bool.and_eq_true] at this; exact this.2.1
          cases a with
          | str w =>
            simp only [gd, Bool.and_eq_true, decide_eq_true_eq] at ha
            refine x_cons ?_
            (repeat (first | refine w_var rfl ?_ | refine w_cst ?_ | refine w_glob ?_ | refine w_nil ?_ | refine w_cons ?_ | refine w_bin ?_ | refine w_ix ?_ | refine w_call ?_ | refine w_blt ?_ | refine w_isi ?_ | refine w_tup ?_ | refine w_lstT ?_ | refine w_lstF ?_ | refine e_and ?_ | refine e_or ?_ | refine w_not ?_ | refine w_neg ?_ | refine w_ite ?_ | refine w_cmp ?_ | refine w_chain ?_ | refine w_slice ?_ | refine w_oN ?_ | refine w_oS ?_ | refine t_val' ?_ | refine t_cmp' ?_ | refine t_chain' ?_ | refine t_not' ?_ | refine t_and' ?_ | refine t_or' ?_ | refine ts_nil ?_ | refine ts_cons ?_ | refine x_nil ?_ | refine x_set ?_ | refine x_expr ?_ | refine x_ret ?_ | refine x_retN ?_ | refine x_ifs ?_ | refine x_setIx ?_ | refine x_unpack ?_ | refine l_add ?_ | refine l_sub ?_ | refine l_eqI ?_ | refine l_neI ?_ | refine l_eqB ?_ | refine l_neB ?_ | refine l_lt ?_ | refine l_le ?_ | refine l_gt ?_ | refine l_ge ?_ | refine ifT' rfl ?_ | refine ifF' rfl ?_ | refine ⟨_, rfl, ?_⟩ | refine ⟨rfl, ?_⟩ | refine ⟨Nat.le_of_ble_eq_true rfl, ?_⟩ | refine WC_some rfl ?_ | refine W_some rfl ?_))
            refine symP ha.1 ha.2 hS ?_
            (repeat (first | refine w_var rfl ?_ | refine w_cst ?_ | refine w_glob ?_ | refine w_nil ?_ | refine w_cons ?_ | refine w_bin ?_ | refine w_ix ?_ | refine w_call ?_ | refine w_blt ?_ | refine w_isi ?_ | refine w_tup ?_ | refine w_lstT ?_ | refine w_lstF ?_ | refine e_and ?_ | refine e_or ?_ | refine w_not ?_ | refine w_neg ?_ | refine w_ite ?_ | refine w_cmp ?_ | refine w_chain ?_ | refine w_slice ?_ | refine w_oN ?_ | refine w_oS ?_ | refine t_val' ?_ | refine t_cmp' ?_ | refine t_chain' ?_ | refine t_not' ?_ | refine t_and' ?_ | refine t_or' ?_ | refine ts_nil ?_ | refine ts_cons ?_ | refine x_nil ?_ | refine x_set ?_ | refine x_expr ?_ | refine x_ret ?_ | refine x_retN ?_ | refine x_ifs ?_ | refine x_setIx ?_ | refine x_unpack ?_ | refine l_add ?_ | refine l_sub ?_ | refine l_eqI ?_ | refine l_neI ?_ | refine l_eqB ?_ | refine l_neB ?_ | refine l_lt ?_ | refine l_le ?_ | refine l_gt ?_ | refine l_ge ?_ | refine ifT' rfl ?_ | refine ifF' rfl ?_ | refine ⟨_, rfl, ?_⟩ | refine ⟨rfl, ?_⟩ | refine ⟨Nat.le_of_ble_eq_true rfl, ?_⟩ | refine WC_some rfl ?_ | refine W_some rfl ?_))
            refine ifB (fun hs => ?_) (fun hs => ?_)
            · (repeat (first | refine w_var rfl ?_ | refine w_cst ?_ | refine w_glob ?_ | refine w_nil ?_ | refine w_cons ?_ | refine w_bin ?_ | refine w_ix ?_ | refine w_call ?_ | refine w_blt ?_ | refine w_isi ?_ | refine w_tup ?_ | refine w_lstT ?_ | refine w_lstF ?_ | refine e_and ?_ | refine e_or ?_ | refine w_not ?_ | refine w_neg ?_ | refine w_ite ?_ | refine w_cmp ?_ | refine w_chain ?_ | refine w_slice ?_ | refine w_oN ?_ | refine w_oS ?_ | refine t_val' ?_ | refine t_cmp' ?_ | refine t_chain' ?_ | refine t_not' ?_ | refine t_and' ?_ | refine t_or' ?_ | refine ts_nil ?_ | refine ts_cons ?_ | refine x_nil ?_ | refine x_cons ?_ | refine x_set ?_ | refine x_expr ?_ | refine x_ret ?_ | refine x_retN ?_ | refine x_ifs ?_ | refine x_setIx ?_ | refine x_unpack ?_ | refine l_add ?_ | refine l_sub ?_ | refine l_eqI ?_ | refine l_neI ?_ | refine l_eqB ?_ | refine l_neB ?_ | refine l_lt ?_ | refine l_le ?_ | refine l_gt ?_ | refine l_ge ?_ | refine ifT' rfl ?_ | refine ifF' rfl ?_ | refine ⟨_, rfl, ?_⟩ | refine ⟨rfl, ?_⟩ | refine ⟨Nat.le_of_ble_eq_true rfl, ?_⟩ | refine WC_some rfl ?_ | refine W_some rfl ?_))
              refine bad ?_
              have : symB w = false := by rw [← sym_eq]; simp only [Bool.not_eq_true'] at hs; rw [hs]; rfl
              simp [pairB, this]
            have hs' : (nameB w && !headIn VAR w) = true := by simpa using hs
            refine x_nil ?_
            refine x_cons ?_
            (repeat (first | refine w_var rfl ?_ | refine w_cst ?_ | refine w_glob ?_ | refine w_nil ?_ | refine w_cons ?_ | refine w_bin ?_ | refine w_ix ?_ | refine w_call ?_ | refine w_blt ?_ | refine w_isi ?_ | refine w_tup ?_ | refine w_lstT ?_ | refine w_lstF ?_ | refine e_and ?_ | refine e_or ?_ | refine w_not ?_ | refine w_neg ?_ | refine w_ite ?_ | refine w_cmp ?_ | refine w_chain ?_ | refine w_slice ?_ | refine w_oN ?_ | refine w_oS ?_ | refine t_val' ?_ | refine t_cmp' ?_ | refine t_chain' ?_ | refine t_not' ?_ | refine t_and' ?_ | refine t_or' ?_ | refine ts_nil ?_ | refine ts_cons ?_ | refine x_nil ?_ | refine x_set ?_ | refine x_expr ?_ | refine x_ret ?_ | refine x_retN ?_ | refine x_ifs ?_ | refine x_setIx ?_ | refine x_unpack ?_ | refine l_add ?_ | refine l_sub ?_ | refine l_eqI ?_ | refine l_neI ?_ | refine l_eqB ?_ | refine l_neB ?_ | refine l_lt ?_ | refine l_le ?_ | refine l_gt ?_ | refine l_ge ?_ | refine ifT' rfl ?_ | refine ifF' rfl ?_ | refine ⟨_, rfl, ?_⟩ | refine ⟨rfl, ?_⟩ | refine ⟨Nat.le_of_ble_eq_true rfl, ?_⟩ | refine WC_some rfl ?_ | refine W_some rfl ?_))
            refine whole hb hS ?_
            (repeat (first | refine w_var rfl ?_ | refine w_cst ?_ | refine w_glob ?_ | refine w_nil ?_ | refine w_cons ?_ | refine w_bin ?_ | refine w_ix ?_ | refine w_call ?_ | refine w_blt ?_ | refine w_isi ?_ | refine w_tup ?_ | refine w_lstT ?_ | refine w_lstF ?_ | refine e_and ?_ | refine e_or ?_ | refine w_not ?_ | refine w_neg ?_ | refine w_ite ?_ | refine w_cmp ?_ | refine w_chain ?_ | refine w_slice ?_ | refine w_oN ?_ | refine w_oS ?_ | refine t_val' ?_ | refine t_cmp' ?_ | refine t_chain' ?_ | refine t_not' ?_ | refine t_and' ?_ | refine t_or' ?_ | refine ts_nil ?_ | refine ts_cons ?_ | refine x_nil ?_ | refine x_set ?_ | refine x_expr ?_ | refine x_ret ?_ | refine x_retN ?_ | refine x_ifs ?_ | refine x_setIx ?_ | refine x_unpack ?_ | refine l_add ?_ | refine l_sub ?_ | refine l_eqI ?_ | refine l_neI ?_ | refine l_eqB ?_ | refine l_neB ?_ | refine l_lt ?_ | refine l_le ?_ | refine l_gt ?_ | refine l_ge ?_ | refine ifT' rfl ?_ | refine ifF' rfl ?_ | refine ⟨_, rfl, ?_⟩ | refine ⟨rfl, ?_⟩ | refine ⟨Nat.le_of_ble_eq_true rfl, ?_⟩ | refine WC_some rfl ?_ | refine W_some rfl ?_))
            refine ifB (fun hn => ?_) (fun hn => ?_)
            · (repeat (first | refine w_var rfl ?_ | refine w_cst ?_ | refine w_glob ?_ | refine w_nil ?_ | refine w_cons ?_ | refine w_bin ?_ | refine w_ix ?_ | refine w_call ?_ | refine w_blt ?_ | refine w_isi ?_ | refine w_tup ?_ | refine w_lstT ?_ | refine w_lstF ?_ | refine e_and ?_ | refine e_or ?_ | refine w_not ?_ | refine w_neg ?_ | refine w_ite ?_ | refine w_cmp ?_ | refine w_chain ?_ | refine w_slice ?_ | refine w_oN ?_ | refine w_oS ?_ | refine t_val' ?_ | refine t_cmp' ?_ | refine t_chain' ?_ | refine t_not' ?_ | refine t_and' ?_ | refine t_or' ?_ | refine ts_nil ?_ | refine ts_cons ?_ | refine x_nil ?_ | refine x_cons ?_ | refine x_set ?_ | refine x_expr ?_ | refine x_ret ?_ | refine x_retN ?_ | refine x_ifs ?_ | refine x_setIx ?_ | refine x_unpack ?_ | refine l_add ?_ | refine l_sub ?_ | refine l_eqI ?_ | refine l_neI ?_ | refine l_eqB ?_ | refine l_neB ?_ | refine l_lt ?_ | refine l_le ?_ | refine l_gt ?_ | refine l_ge ?_ | refine ifT' rfl ?_ | refine ifF' rfl ?_ | refine ⟨_, rfl, ?_⟩ | refine ⟨rfl, ?_⟩ | refine ⟨Nat.le_of_ble_eq_true rfl, ?_⟩ | refine WC_some rfl ?_ | refine W_some rfl ?_))
              refine bad ?_
              have : wholeB b 3 = false := by simpa using hn
              simp [pairB, this]
            have hn' : wholeB b 3 = true := by simpa using hn
            (repeat (first | refine w_var rfl ?_ | refine w_cst ?_ | refine w_glob ?_ | refine w_nil ?_ | refine w_cons ?_ | refine w_bin ?_ | refine w_ix ?_ | refine w_call ?_ | refine w_blt ?_ | refine w_isi ?_ | refine w_tup ?_ | refine w_lstT ?_ | refine w_lstF ?_ | refine e_and ?_ | refine e_or ?_ | refine w_not ?_ | refine w_neg ?_ | refine w_ite ?_ | refine w_cmp ?_ | refine w_chain ?_ | refine w_slice ?_ | refine w_oN ?_ | refine w_oS ?_ | refine t_val' ?_ | refine t_cmp' ?_ | refine t_chain' ?_ | refine t_not' ?_ | refine t_and' ?_ | refine t_or' ?_ | refine ts_nil ?_ | refine ts_cons ?_ | refine x_nil ?_ | refine x_set ?_ | refine x_expr ?_ | refine x_ret ?_ | refine x_retN ?_ | refine x_ifs ?_ | refine x_setIx ?_ | refine x_unpack ?_ | refine l_add ?_ | refine l_sub ?_ | refine l_eqI ?_ | refine l_neI ?_ | refine l_eqB ?_ | refine l_neB ?_ | refine l_lt ?_ | refine l_le ?_ | refine l_gt ?_ | refine l_ge ?_ | refine ifT' rfl ?_ | refine ifF' rfl ?_ | refine ⟨_, rfl, ?_⟩ | refine ⟨rfl, ?_⟩ | refine ⟨Nat.le_of_ble_eq_true rfl, ?_⟩ | refine WC_some rfl ?_ | refine W_some rfl ?_))
            refine ifB (fun he => ?_) (fun he => ?_)
            · (repeat (first | refine w_var rfl ?_ | refine w_cst ?_ | refine w_glob ?_ | refine w_nil ?_ | refine w_cons ?_ | refine w_bin ?_ | refine w_ix ?_ | refine w_call ?_ | refine w_blt ?_ | refine w_isi ?_ | refine w_tup ?_ | refine w_lstT ?_ | refine w_lstF ?_ | refine e_and ?_ | refine e_or ?_ | refine w_not ?_ | refine w_neg ?_ | refine w_ite ?_ | refine w_cmp ?_ | refine w_chain ?_ | refine w_slice ?_ | refine w_oN ?_ | refine w_oS ?_ | refine t_val' ?_ | refine t_cmp' ?_ | refine t_chain' ?_ | refine t_not' ?_ | refine t_and' ?_ | refine t_or' ?_ | refine ts_nil ?_ | refine ts_cons ?_ | refine x_nil ?_ | refine x_cons ?_ | refine x_set ?_ | refine x_expr ?_ | refine x_ret ?_ | refine x_retN ?_ | refine x_ifs ?_ | refine x_setIx ?_ | refine x_unpack ?_ | refine l_add ?_ | refine l_sub ?_ | refine l_eqI ?_ | refine l_neI ?_ | refine l_eqB ?_ | refine l_neB ?_ | refine l_lt ?_ | refine l_le ?_ | refine l_gt ?_ | refine l_ge ?_ | refine ifT' rfl ?_ | refine ifF' rfl ?_ | refine ⟨_, rfl, ?_⟩ | refine ⟨rfl, ?_⟩ | refine ⟨Nat.le_of_ble_eq_true rfl, ?_⟩ | refine WC_some rfl ?_ | refine W_some rfl ?_))
              refine bad ?_
              have : symB w = false := by rw [← sym_eq, he]; simp
              simp [pairB, this]
            have hs2 : symB w = true := by rw [← sym_eq, he, hs']; rfl
            (repeat (first | refine w_var rfl ?_ | refine w_cst ?_ | refine w_glob ?_ | refine w_nil ?_ | refine w_cons ?_ | refine w_bin ?_ | refine w_ix ?_ | refine w_call ?_ | refine w_blt ?_ | refine w_isi ?_ | refine w_tup ?_ | refine w_lstT ?_ | refine w_lstF ?_ | refine e_and ?_ | refine e_or ?_ | refine w_not ?_ | refine w_neg ?_ | refine w_ite ?_ | refine w_cmp ?_ | refine w_chain ?_ | refine w_slice ?_ | refine w_oN ?_ | refine w_oS ?_ | refine t_val' ?_ | refine t_cmp' ?_ | refine t_chain' ?_ | refine t_not' ?_ | refine t_and' ?_ | refine t_or' ?_ | refine ts_nil ?_ | refine ts_cons ?_ | refine x_nil ?_ | refine x_cons ?_ | refine x_set ?_ | refine x_expr ?_ | refine x_ret ?_ | refine x_retN ?_ | refine x_ifs ?_ | refine x_setIx ?_ | refine x_unpack ?_ | refine l_add ?_ | refine l_sub ?_ | refine l_eqI ?_ | refine l_neI ?_ | refine l_eqB ?_ | refine l_neB ?_ | refine l_lt ?_ | refine l_le ?_ | refine l_gt ?_ | refine l_ge ?_ | refine ifT' rfl ?_ | refine ifF' rfl ?_ | refine ⟨_, rfl, ?_⟩ | refine ⟨rfl, ?_⟩ | refine ⟨Nat.le_of_ble_eq_true rfl, ?_⟩ | refine WC_some rfl ?_ | refine W_some rfl ?_))
            refine ⟨⟨_, rfl⟩, good ?_⟩
            simp [pairB, hs2, hn']
          | fzl _ => simp [gd] at ha
          | ref _ => simp [gd] at ha
          | _ =>
            (repeat (first | refine w_var rfl ?_ | refine w_cst ?_ | refine w_glob ?_ | refine w_nil ?_ | refine w_cons ?_ | refine w_bin ?_ | refine w_ix ?_ | refine w_call ?_ | refine w_blt ?_ | refine w_isi ?_ | refine w_tup ?_ | refine w_lstT ?_ | refine w_lstF ?_ | refine e_and ?_ | refine e_or ?_ | refine w_not ?_ | refine w_neg ?_ | refine w_ite ?_ | refine w_cmp ?_ | refine w_chain ?_ | refine w_slice ?_ | refine w_oN ?_ | refine w_oS ?_ | refine t_val' ?_ | refine t_cmp' ?_ | refine t_chain' ?_ | refine t_not' ?_ | refine t_and' ?_ | refine t_or' ?_ | refine ts_nil ?_ | refine ts_cons ?_ | refine x_nil ?_ | refine x_cons ?_ | refine x_set ?_ | refine x_expr ?_ | refine x_ret ?_ | refine x_retN ?_ | refine x_ifs ?_ | refine x_setIx ?_ | refine x_unpack ?_ | refine l_add ?_ | refine l_sub ?_ | refine l_eqI ?_ | refine l_neI ?_ | refine l_eqB ?_ | refine l_neB ?_ | refine l_lt ?_ | refine l_le ?_ | refine l_gt ?_ | refine l_ge ?_ | refine ifT' rfl ?_ | refine ifF' rfl ?_ | refine ⟨_, rfl, ?_⟩ | refine ⟨rfl, ?_⟩ | refine ⟨Nat.le_of_ble_eq_true rfl, ?_⟩ | refine WC_some rfl ?_ | refine W_some rfl ?_))
            exact bad rfl
        · refine x_cons ?_
          (repeat (first | refine w_var rfl ?_ | refine w_cst ?_ | refine w_glob ?_ | refine w_nil ?_ | refine w_cons ?_ | refine w_bin ?_ | refine w_ix ?_ | refine w_call ?_ | refine w_blt ?_ | refine w_isi ?_ | refine w_tup ?_ | refine w_lstT ?_ | refine w_lstF ?_ | refine e_and ?_ | refine e_or ?_ | refine w_not ?_ | refine w_neg ?_ | refine w_ite ?_ | refine w_cmp ?_ | refine w_chain ?_ | refine w_slice ?_ | refine w_oN ?_ | refine w_oS ?_ | refine t_val' ?_ | refine t_cmp' ?_ | refine t_chain' ?_ | refine t_not' ?_ | refine t_and' ?_ | refine t_or' ?_ | refine ts_nil ?_ | refine ts_cons ?_ | refine x_nil ?_ | refine x_set ?_ | refine x_expr ?_ | refine x_ret ?_ | refine x_retN ?_ | refine x_ifs ?_ | refine x_setIx ?_ | refine x_unpack ?_ | refine l_add ?_ | refine l_sub ?_ | refine l_eqI ?_ | refine l_neI ?_ | refine l_eqB ?_ | refine l_neB ?_ | refine l_lt ?_ | refine l_le ?_ | refine l_gt ?_ | refine l_ge ?_ | refine ifT' rfl ?_ | refine ifF' rfl ?_ | refine ⟨_, rfl, ?_⟩ | refine ⟨rfl, ?_⟩ | refine ⟨Nat.le_of_ble_eq_true rfl, ?_⟩ | refine WC_some rfl ?_ | refine W_some rfl ?_))
          refine ifT' (by simp; omega) ?_
          (repeat (first | refine w_var rfl ?_ | refine w_cst ?_ | refine w_glob ?_ | refine w_nil ?_ | refine w_cons ?_ | refine w_bin ?_ | refine w_ix ?_ | refine w_call ?_ | refine w_blt ?_ | refine w_isi ?_ | refine w_tup ?_ | refine w_lstT ?_ | refine w_lstF ?_ | refine e_and ?_ | refine e_or ?_ | refine w_not ?_ | refine w_neg ?_ | refine w_ite ?_ | refine w_cmp ?_ | refine w_chain ?_ | refine w_slice ?_ | refine w_oN ?_ | refine w_oS ?_ | refine t_val' ?_ | refine t_cmp' ?_ | refine t_chain' ?_ | refine t_not' ?_ | refine t_and' ?_ | refine t_or' ?_ | refine ts_nil ?_ | refine ts_cons ?_ | refine x_nil ?_ | refine x_cons ?_ | refine x_set ?_ | refine x_expr ?_ | refine x_ret ?_ | refine x_retN ?_ | refine x_ifs ?_ | refine x_setIx ?_ | refine x_unpack ?_ | refine l_add ?_ | refine l_sub ?_ | refine l_eqI ?_ | refine l_neI ?_ | refine l_eqB ?_ | refine l_neB ?_ | refine l_lt ?_ | refine l_le ?_ | refine l_gt ?_ | refine l_ge ?_ | refine ifT' rfl ?_ | refine ifF' rfl ?_ | refine ⟨_, rfl, ?_⟩ | refine ⟨rfl, ?_⟩ | refine ⟨Nat.le_of_ble_eq_true rfl, ?_⟩ | refine WC_some rfl ?_ | refine W_some rfl ?_))
          refine bad ?_
          unfold pairB
          split
          · rename_i e; cases e; exact absurd rfl hp
          · rfl
      | fzl _ => simp [gd] at hxg
      | ref _ => simp [gd] at hxg
      | _ =>
        (repeat (first | refine w_var rfl ?_ | refine w_cst ?_ | refine w_glob ?_ | refine w_nil ?_ | refine w_cons ?_ | refine w_bin ?_ | refine w_ix ?_ | refine w_call ?_ | refine w_blt ?_ | refine w_isi ?_ | refine w_tup ?_ | refine w_lstT ?_ | refine w_lstF ?_ | refine e_and ?_ | refine e_or ?_ | refine w_not ?_ | refine w_neg ?_ | refine w_ite ?_ | refine w_cmp ?_ | refine w_chain ?_ | refine w_slice ?_ | refine w_oN ?_ | refine w_oS ?_ | refine t_val' ?_ | refine t_cmp' ?_ | refine t_chain' ?_ | refine t_not' ?_ | refine t_and' ?_ | refine t_or' ?_ | refine ts_nil ?_ | refine ts_cons ?_ | refine x_nil ?_ | refine x_cons ?_ | refine x_set ?_ | refine x_expr ?_ | refine x_ret ?_ | refine x_retN ?_ | refine x_ifs ?_ | refine x_setIx ?_ | refine x_unpack ?_ | refine l_add ?_ | refine l_sub ?_ | refine l_eqI ?_ | refine l_neI ?_ | refine l_eqB ?_ | refine l_neB ?_ | refine l_lt ?_ | refine l_le ?_ | refine l_gt ?_ | refine l_ge ?_ | refine ifT' rfl ?_ | refine ifF' rfl ?_ | refine ⟨_, rfl, ?_⟩ | refine ⟨rfl, ?_⟩ | refine ⟨Nat.le_of_ble_eq_true rfl, ?_⟩ | refine WC_some rfl ?_ | refine W_some rfl ?_))
        exact bad rfl
    · rintro env S2 ⟨rfl, ⟨y, rfl⟩, hall⟩
      have hp : l.all pairB = true := List.all_eq_true.mpr fun x hx => by
        obtain ⟨i, hi, e⟩ := List.getElem_of_mem hx
        exact hall i x hi (by rw [List.getElem?_eq_getElem hi, e])
      refine x_cons ?_
      refine x_ret ?_
      refine w_cmp ?_
      refine w_blt ?_
      refine w_cons ?_
      refine w_keyed l ((l.map nmOf).map Sum.inr) (.bl true) (Nat.lt_of_le_of_lt hl (by decide)) (by simp) (r_seq (w_var rfl (WC_some rfl ⟨rfl, rfl, fun i x key hx hk => ?_, ?_⟩)))
      · refine ⟨_, rfl, ?_⟩
        obtain ⟨w, n, rfl, _, _⟩ := pair_cases (List.all_eq_true.mp hp x (List.mem_of_getElem? hx))
        simp only [List.getElem?_map, hx, Option.map_some, Option.some.injEq] at hk
        subst hk
        (repeat (first | refine w_var rfl ?_ | refine w_cst ?_ | refine w_glob ?_ | refine w_nil ?_ | refine w_cons ?_ | refine w_bin ?_ | refine w_ix ?_ | refine w_call ?_ | refine w_blt ?_ | refine w_isi ?_ | refine w_tup ?_ | refine w_lstT ?_ | refine w_lstF ?_ | refine e_and ?_ | refine e_or ?_ | refine w_not ?_ | refine w_neg ?_ | refine w_ite ?_ | refine w_cmp ?_ | refine w_chain ?_ | refine w_slice ?_ | refine w_oN ?_ | refine w_oS ?_ | refine t_val' ?_ | refine t_cmp' ?_ | refine t_chain' ?_ | refine t_not' ?_ | refine t_and' ?_ | refine t_or' ?_ | refine ts_nil ?_ | refine ts_cons ?_ | refine x_nil ?_ | refine x_cons ?_ | refine x_set ?_ | refine x_expr ?_ | refine x_ret ?_ | refine x_retN ?_ | refine x_ifs ?_ | refine x_setIx ?_ | refine x_unpack ?_ | refine l_add ?_ | refine l_sub ?_ | refine l_eqI ?_ | refine l_neI ?_ | refine l_eqB ?_ | refine l_neB ?_ | refine l_lt ?_ | refine l_le ?_ | refine l_gt ?_ | refine l_ge ?_ | refine ifT' rfl ?_ | refine ifF' rfl ?_ | refine ⟨_, rfl, ?_⟩ | refine ⟨rfl, ?_⟩ | refine ⟨Nat.le_of_ble_eq_true rfl, ?_⟩ | refine WC_some rfl ?_ | refine W_some rfl ?_))
        exact rfl
      · refine w_nil ?_
        refine l_lenD (kvs := keyed (.bl true) ((l.map nmOf).map Sum.inr)) (by simp) ?_
        (repeat (first | refine w_var rfl ?_ | refine w_cst ?_ | refine w_glob ?_ | refine w_nil ?_ | refine w_cons ?_ | refine w_bin ?_ | refine w_ix ?_ | refine w_call ?_ | refine w_blt ?_ | refine w_isi ?_ | refine w_tup ?_ | refine w_lstT ?_ | refine w_lstF ?_ | refine e_and ?_ | refine e_or ?_ | refine w_not ?_ | refine w_neg ?_ | refine w_ite ?_ | refine w_cmp ?_ | refine w_chain ?_ | refine w_slice ?_ | refine w_oN ?_ | refine w_oS ?_ | refine t_val' ?_ | refine t_cmp' ?_ | refine t_chain' ?_ | refine t_not' ?_ | refine t_and' ?_ | refine t_or' ?_ | refine ts_nil ?_ | refine ts_cons ?_ | refine x_nil ?_ | refine x_set ?_ | refine x_expr ?_ | refine x_ret ?_ | refine x_retN ?_ | refine x_ifs ?_ | refine x_setIx ?_ | refine x_unpack ?_ | refine l_add ?_ | refine l_sub ?_ | refine l_eqI ?_ | refine l_neI ?_ | refine l_eqB ?_ | refine l_neB ?_ | refine l_lt ?_ | refine l_le ?_ | refine l_gt ?_ | refine l_ge ?_ | refine ifT' rfl ?_ | refine ifF' rfl ?_ | refine ⟨_, rfl, ?_⟩ | refine ⟨rfl, ?_⟩ | refine ⟨Nat.le_of_ble_eq_true rfl, ?_⟩ | refine WC_some rfl ?_ | refine W_some rfl ?_))
        refine fin_drop rfl hS rfl ?_
        have e : (((keyed (.bl true) ((l.map nmOf).map Sum.inr)).length : Int) == (l.length : Int)) = decide (l.map nmOf).Nodup := by
          have h := (keyed_len (v := .bl true) (ks := (l.map nmOf).map Sum.inr)).2
          rw [nodup_inr] at h
          simp only [List.length_map] at h
          by_cases hd : (l.map nmOf).Nodup
          · rw [h.mpr hd]; simp [hd]
          · simp only [hd, decide_false, beq_eq_false_iff_ne, ne_eq]
            intro z
            exact hd (h.mp (by omega))
        rw [e]
        simpa [sigB, h1, h6', hp] using q
  | fzl _ => simp [gd] at hv
  | ref _ => simp [gd] at hv
  | _ =>
    (repeat (first | refine w_var rfl ?_ | refine w_cst ?_ | refine w_glob ?_ | refine w_nil ?_ | refine w_cons ?_ | refine w_bin ?_ | refine w_ix ?_ | refine w_call ?_ | refine w_blt ?_ | refine w_isi ?_ | refine w_tup ?_ | refine w_lstT ?_ | refine w_lstF ?_ | refine e_and ?_ | refine e_or ?_ | refine w_not ?_ | refine w_neg ?_ | refine w_ite ?_ | refine w_cmp ?_ | refine w_chain ?_ | refine w_slice ?_ | refine w_oN ?_ | refine w_oS ?_ | refine t_val' ?_ | refine t_cmp' ?_ | refine t_chain' ?_ | refine t_not' ?_ | refine t_and' ?_ | refine t_or' ?_ | refine ts_nil ?_ | refine ts_cons ?_ | refine x_nil ?_ | refine x_cons ?_ | refine x_set ?_ | refine x_expr ?_ | refine x_ret ?_ | refine x_retN ?_ | refine x_ifs ?_ | refine x_setIx ?_ | refine x_unpack ?_ | refine l_add ?_ | refine l_sub ?_ | refine l_eqI ?_ | refine l_neI ?_ | refine l_eqB ?_ | refine l_neB ?_ | refine l_lt ?_ | refine l_le ?_ | refine l_gt ?_ | refine l_ge ?_ | refine ifT' rfl ?_ | refine ifF' rfl ?_ | refine ⟨_, rfl, ?_⟩ | refine ⟨rfl, ?_⟩ | refine ⟨Nat.le_of_ble_eq_true rfl, ?_⟩ | refine WC_some rfl ?_ | refine W_some rfl ?_))
    exact fin_same rfl hS rfl q
end Tt.L
end

section
/-! k64: moves. -/
namespace Tt.L
open PySem Tt Tt.P L2
def tabOk (tab : List (Key × D)) : Prop := ∀ k d, lookK tab k = some d → ∃ m : Int, d = .int m
def moveB (tab : List (Key × D)) (many : Int) : D → Bool
  | .tup [.str w, .tup args, st] => (match lookK tab (.inr w) with
      | some (.int m) => ((args.length : Int) == m) && (args ++ [st]).all fun s => wholeB s (many - 1)
      | _ => false)
  | _ => false
theorem l_notInD {n : Nat} {tab : List (Key × D)} {w : Str} {S : Sto} {QC : Bool → Prop} (h : S[n]? = some (.dic tab)) (q : QC (!(lookK tab (.inr w)).isSome)) : WC (cmpD .notIn (.str w) (.ref n) S) QC := by
  refine ⟨_, ?_, q⟩
  simp only [cmpD, isIn, h, kD, Option.map_some]
theorem l_ixD {n : Nat} {tab : List (Key × D)} {w : Str} {d : D} {S : Sto} {QC : D → Prop} (h : S[n]? = some (.dic tab)) (hd : lookK tab (.inr w) = some d) (q : QC d) : WC (ixD (.ref n) (.str w) S) QC := by
  refine ⟨_, ?_, q⟩
  simp only [ixD, h, kD, Option.bind_some, hd]
theorem gds_append {l r : List D} : gds (l ++ r) = (gds l && gds r) := by
  induction l with
  | nil => rfl
  | cons a l ih => simp [gds, ih, Bool.and_assoc]
theorem moveP {k n : Nat} {x : D} {tab : List (Key × D)} {many : Int} {S : Sto} {Q : D → Sto → Prop} (hx : gd x = true) (hS : S.all puO = true) (hn : S[n]? = some (.dic tab)) (ht : tabOk tab) (q : Q (.bl (moveB tab many x)) S) :
    WO (calls pg (k + 2) 4 [x, .ref n, .int many] S) Q := by
  refine call_run (di := d4) rfl (w_run rfl ?_)
  cases x with
  | tup p =>
    simp only [gd, Bool.and_eq_true, decide_eq_true_eq] at hx
    by_cases hp : p.length = 3
    · obtain ⟨a, b, c, rfl⟩ : ∃ a b c, p = [a, b, c] := by
        match p, hp with
        | [a, b, c], _ => exact ⟨a, b, c, rfl⟩
      have hg := hx.2
      simp only [gds, Bool.and_eq_true] at hg
      obtain ⟨ga, gb, gc, _⟩ := hg
      cases a with
      | str w =>
        refine x_cons ?_
        (repeat (first | refine w_var rfl ?_ | refine w_cst ?_ | refine w_glob ?_ | refine w_nil ?_ | refine w_cons ?_ | refine w_bin ?_ | refine w_ix ?_ | refine w_call ?_ | refine w_blt ?_ | refine w_isi ?_ | refine w_tup ?_ | refine w_lstT ?_ | refine w_lstF ?_ | refine e_and ?_ | refine e_or ?_ | refine w_not ?_ | refine w_neg ?_ | refine w_ite ?_ | refine w_cmp ?_ | refine w_chain ?_ | refine w_slice ?_ | refine w_oN ?_ | refine w_oS ?_ | refine t_val' ?_ | refine t_cmp' ?_ | refine t_chain' ?_ | refine t_not' ?_ | refine t_and' ?_ | refine t_or' ?_ | refine ts_nil ?_ | refine ts_cons ?_ | refine x_nil ?_ | refine x_set ?_ | refine x_expr ?_ | refine x_ret ?_ | refine x_retN ?_ | refine x_ifs ?_ | refine x_setIx ?_ | refine x_unpack ?_ | refine l_add ?_ | refine l_sub ?_ | refine l_eqI ?_ | refine l_neI ?_ | refine l_eqB ?_ | refine l_neB ?_ | refine l_lt ?_ | refine l_le ?_ | refine l_gt ?_ | refine l_ge ?_ | refine ifT' rfl ?_ | refine ifF' rfl ?_ | refine ⟨_, rfl, ?_⟩ | refine ⟨rfl, ?_⟩ | refine ⟨Nat.le_of_ble_eq_true rfl, ?_⟩ | refine WC_some rfl ?_ | refine W_some rfl ?_))
        refine l_notInD hn ?_
        cases hk : lookK tab (.inr w) with
        | none =>
          (repeat (first | refine w_var rfl ?_ | refine w_cst ?_ | refine w_glob ?_ | refine w_nil ?_ | refine w_cons ?_ | refine w_bin ?_ | refine w_ix ?_ | refine w_call ?_ | refine w_blt ?_ | refine w_isi ?_ | refine w_tup ?_ | refine w_lstT ?_ | refine w_lstF ?_ | refine e_and ?_ | refine e_or ?_ | refine w_not ?_ | refine w_neg ?_ | refine w_ite ?_ | refine w_cmp ?_ | refine w_chain ?_ | refine w_slice ?_ | refine w_oN ?_ | refine w_oS ?_ | refine t_val' ?_ | refine t_cmp' ?_ | refine t_chain' ?_ | refine t_not' ?_ | refine t_and' ?_ | refine t_or' ?_ | refine ts_nil ?_ | refine ts_cons ?_ | refine x_nil ?_ | refine x_cons ?_ | refine x_set ?_ | refine x_expr ?_ | refine x_ret ?_ | refine x_retN ?_ | refine x_ifs ?_ | refine x_setIx ?_ | refine x_unpack ?_ | refine l_add ?_ | refine l_sub ?_ | refine l_eqI ?_ | refine l_neI ?_ | refine l_eqB ?_ | refine l_neB ?_ | refine l_lt ?_ | refine l_le ?_ | refine l_gt ?_ | refine l_ge ?_ | refine ifT' rfl ?_ | refine ifF' rfl ?_ | refine ⟨_, rfl, ?_⟩ | refine ⟨rfl, ?_⟩ | refine ⟨Nat.le_of_ble_eq_true rfl, ?_⟩ | refine WC_some rfl ?_ | refine W_some rfl ?_))
          refine fin_same rfl hS rfl ?_
          have : moveB tab many (.tup [.str w, b, c]) = false := by
            cases b <;> simp [moveB, hk]
          rw [this] at q
          exact q
        | some d =>
          obtain ⟨m, rfl⟩ := ht _ _ hk
          (repeat (first | refine w_var rfl ?_ | refine w_cst ?_ | refine w_glob ?_ | refine w_nil ?_ | refine w_cons ?_ | refine w_bin ?_ | refine w_ix ?_ | refine w_call ?_ | refine w_blt ?_ | refine w_isi ?_ | refine w_tup ?_ | refine w_lstT ?_ | refine w_lstF ?_ | refine e_and ?_ | refine e_or ?_ | refine w_not ?_ | refine w_neg ?_ | refine w_ite ?_ | refine w_cmp ?_ | refine w_chain ?_ | refine w_slice ?_ | refine w_oN ?_ | refine w_oS ?_ | refine t_val' ?_ | refine t_cmp' ?_ | refine t_chain' ?_ | refine t_not' ?_ | refine t_and' ?_ | refine t_or' ?_ | refine ts_nil ?_ | refine ts_cons ?_ | refine x_nil ?_ | refine x_set ?_ | refine x_expr ?_ | refine x_ret ?_ | refine x_retN ?_ | refine x_ifs ?_ | refine x_setIx ?_ | refine x_unpack ?_ | refine l_add ?_ | refine l_sub ?_ | refine l_eqI ?_ | refine l_neI ?_ | refine l_eqB ?_ | refine l_neB ?_ | refine l_lt ?_ | refine l_le ?_ | refine l_gt ?_ | refine l_ge ?_ | refine ifT' rfl ?_ | refine ifF' rfl ?_ | refine ⟨_, rfl, ?_⟩ | refine ⟨rfl, ?_⟩ | refine ⟨Nat.le_of_ble_eq_true rfl, ?_⟩ | refine WC_some rfl ?_ | refine W_some rfl ?_))
          refine x_cons ?_
          cases b with
          | tup args =>
            simp only [gd, Bool.and_eq_true, decide_eq_true_eq] at gb
            (repeat (first | refine w_var rfl ?_ | refine w_cst ?_ | refine w_glob ?_ | refine w_nil ?_ | refine w_cons ?_ | refine w_bin ?_ | refine w_ix ?_ | refine w_call ?_ | refine w_blt ?_ | refine w_isi ?_ | refine w_tup ?_ | refine w_lstT ?_ | refine w_lstF ?_ | refine e_and ?_ | refine e_or ?_ | refine w_not ?_ | refine w_neg ?_ | refine w_ite ?_ | refine w_cmp ?_ | refine w_chain ?_ | refine w_slice ?_ | refine w_oN ?_ | refine w_oS ?_ | refine t_val' ?_ | refine t_cmp' ?_ | refine t_chain' ?_ | refine t_not' ?_ | refine t_and' ?_ | refine t_or' ?_ | refine ts_nil ?_ | refine ts_cons ?_ | refine x_nil ?_ | refine x_set ?_ | refine x_expr ?_ | refine x_ret ?_ | refine x_retN ?_ | refine x_ifs ?_ | refine x_setIx ?_ | refine x_unpack ?_ | refine l_add ?_ | refine l_sub ?_ | refine l_eqI ?_ | refine l_neI ?_ | refine l_eqB ?_ | refine l_neB ?_ | refine l_lt ?_ | refine l_le ?_ | refine l_gt ?_ | refine l_ge ?_ | refine ifT' rfl ?_ | refine ifF' rfl ?_ | refine ⟨_, rfl, ?_⟩ | refine ⟨rfl, ?_⟩ | refine ⟨Nat.le_of_ble_eq_true rfl, ?_⟩ | refine WC_some rfl ?_ | refine W_some rfl ?_))
            refine l_ixD hn hk ?_
            (repeat (first | refine w_var rfl ?_ | refine w_cst ?_ | refine w_glob ?_ | refine w_nil ?_ | refine w_cons ?_ | refine w_bin ?_ | refine w_ix ?_ | refine w_call ?_ | refine w_blt ?_ | refine w_isi ?_ | refine w_tup ?_ | refine w_lstT ?_ | refine w_lstF ?_ | refine e_and ?_ | refine e_or ?_ | refine w_not ?_ | refine w_neg ?_ | refine w_ite ?_ | refine w_cmp ?_ | refine w_chain ?_ | refine w_slice ?_ | refine w_oN ?_ | refine w_oS ?_ | refine t_val' ?_ | refine t_cmp' ?_ | refine t_chain' ?_ | refine t_not' ?_ | refine t_and' ?_ | refine t_or' ?_ | refine ts_nil ?_ | refine ts_cons ?_ | refine x_nil ?_ | refine x_set ?_ | refine x_expr ?_ | refine x_ret ?_ | refine x_retN ?_ | refine x_ifs ?_ | refine x_setIx ?_ | refine x_unpack ?_ | refine l_add ?_ | refine l_sub ?_ | refine l_eqI ?_ | refine l_neI ?_ | refine l_eqB ?_ | refine l_neB ?_ | refine l_lt ?_ | refine l_le ?_ | refine l_gt ?_ | refine l_ge ?_ | refine ifT' rfl ?_ | refine ifF' rfl ?_ | refine ⟨_, rfl, ?_⟩ | refine ⟨rfl, ?_⟩ | refine ⟨Nat.le_of_ble_eq_true rfl, ?_⟩ | refine WC_some rfl ?_ | refine W_some rfl ?_))
            refine ifB (fun hl => ?_) (fun hl => ?_)
            · (repeat (first | refine w_var rfl ?_ | refine w_cst ?_ | refine w_glob ?_ | refine w_nil ?_ | refine w_cons ?_ | refine w_bin ?_ | refine w_ix ?_ | refine w_call ?_ | refine w_blt ?_ | refine w_isi ?_ | refine w_tup ?_ | refine w_lstT ?_ | refine w_lstF ?_ | refine e_and ?_ | refine e_or ?_ | refine w_not ?_ | refine w_neg ?_ | refine w_ite ?_ | refine w_cmp ?_ | refine w_chain ?_ | refine w_slice ?_ | refine w_oN ?_ | refine w_oS ?_ | refine t_val' ?_ | refine t_cmp' ?_ | refine t_chain' ?_ | refine t_not' ?_ | refine t_and' ?_ | refine t_or' ?_ | refine ts_nil ?_ | refine ts_cons ?_ | refine x_nil ?_ | refine x_cons ?_ | refine x_set ?_ | refine x_expr ?_ | refine x_ret ?_ | refine x_retN ?_ | refine x_ifs ?_ | refine x_setIx ?_ | refine x_unpack ?_ | refine l_add ?_ | refine l_sub ?_ | refine l_eqI ?_ | refine l_neI ?_ | refine l_eqB ?_ | refine l_neB ?_ | refine l_lt ?_ | refine l_le ?_ | refine l_gt ?_ | refine l_ge ?_ | refine ifT' rfl ?_ | refine ifF' rfl ?_ | refine ⟨_, rfl, ?_⟩ | refine ⟨rfl, ?_⟩ | refine ⟨Nat.le_of_ble_eq_true rfl, ?_⟩ | refine WC_some rfl ?_ | refine W_some rfl ?_))
              refine fin_same rfl hS rfl ?_
              have : ((args.length : Int) == m) = false := by simpa using hl
              simpa [moveB, hk, this] using q
            have hl' : ((args.length : Int) == m) = true := by simpa using hl
            refine x_nil ?_
            refine x_cons ?_
            refine x_ret ?_
            refine w_blt ?_
            refine w_cons ?_
            have hlen : (args ++ [c]).length ≤ sizeLine := by rw [List.length_append]; exact Nat.le_trans (Nat.add_le_add_right gb.1 _) (show 60 + 1 ≤ sizeLine by decide)
            refine w_mapR (args ++ [c]) ((args ++ [c]).map fun s => .bl (wholeB s (many - 1))) hlen (by simp) (r_seq ?_)
            (repeat (first | refine w_var rfl ?_ | refine w_cst ?_ | refine w_glob ?_ | refine w_nil ?_ | refine w_cons ?_ | refine w_bin ?_ | refine w_ix ?_ | refine w_call ?_ | refine w_blt ?_ | refine w_isi ?_ | refine w_tup ?_ | refine w_lstT ?_ | refine w_lstF ?_ | refine e_and ?_ | refine e_or ?_ | refine w_not ?_ | refine w_neg ?_ | refine w_ite ?_ | refine w_cmp ?_ | refine w_chain ?_ | refine w_slice ?_ | refine w_oN ?_ | refine w_oS ?_ | refine t_val' ?_ | refine t_cmp' ?_ | refine t_chain' ?_ | refine t_not' ?_ | refine t_and' ?_ | refine t_or' ?_ | refine ts_nil ?_ | refine ts_cons ?_ | refine x_nil ?_ | refine x_set ?_ | refine x_expr ?_ | refine x_ret ?_ | refine x_retN ?_ | refine x_ifs ?_ | refine x_setIx ?_ | refine x_unpack ?_ | refine l_add ?_ | refine l_sub ?_ | refine l_eqI ?_ | refine l_neI ?_ | refine l_eqB ?_ | refine l_neB ?_ | refine l_lt ?_ | refine l_le ?_ | refine l_gt ?_ | refine l_ge ?_ | refine ifT' rfl ?_ | refine ifF' rfl ?_ | refine ⟨_, rfl, ?_⟩ | refine ⟨rfl, ?_⟩ | refine ⟨Nat.le_of_ble_eq_true rfl, ?_⟩ | refine WC_some rfl ?_ | refine W_some rfl ?_))
            refine l_catT (by rw [← List.length_append]; exact hlen) ?_
            refine WC_some rfl ⟨rfl, rfl, fun i y z hy hz => ?_, ?_⟩
            · refine ⟨_, rfl, ?_⟩
              simp only [List.getElem?_map, hy, Option.map_some, Option.some.injEq] at hz
              subst hz
              have hyg : gd y = true := gds_get (l := args ++ [c]) (by rw [gds_append, gb.2]; simp [gds, gc]) hy
              (repeat (first | refine w_var rfl ?_ | refine w_cst ?_ | refine w_glob ?_ | refine w_nil ?_ | refine w_cons ?_ | refine w_bin ?_ | refine w_ix ?_ | refine w_call ?_ | refine w_blt ?_ | refine w_isi ?_ | refine w_tup ?_ | refine w_lstT ?_ | refine w_lstF ?_ | refine e_and ?_ | refine e_or ?_ | refine w_not ?_ | refine w_neg ?_ | refine w_ite ?_ | refine w_cmp ?_ | refine w_chain ?_ | refine w_slice ?_ | refine w_oN ?_ | refine w_oS ?_ | refine t_val' ?_ | refine t_cmp' ?_ | refine t_chain' ?_ | refine t_not' ?_ | refine t_and' ?_ | refine t_or' ?_ | refine ts_nil ?_ | refine ts_cons ?_ | refine x_nil ?_ | refine x_set ?_ | refine x_expr ?_ | refine x_ret ?_ | refine x_retN ?_ | refine x_ifs ?_ | refine x_setIx ?_ | refine x_unpack ?_ | refine l_add ?_ | refine l_sub ?_ | refine l_eqI ?_ | refine l_neI ?_ | refine l_eqB ?_ | refine l_neB ?_ | refine l_lt ?_ | refine l_le ?_ | refine l_gt ?_ | refine l_ge ?_ | refine ifT' rfl ?_ | refine ifF' rfl ?_ | refine ⟨_, rfl, ?_⟩ | refine ⟨rfl, ?_⟩ | refine ⟨Nat.le_of_ble_eq_true rfl, ?_⟩ | refine WC_some rfl ?_ | refine W_some rfl ?_))
              refine whole hyg hS ?_
              (repeat (first | refine w_var rfl ?_ | refine w_cst ?_ | refine w_glob ?_ | refine w_nil ?_ | refine w_cons ?_ | refine w_bin ?_ | refine w_ix ?_ | refine w_call ?_ | refine w_blt ?_ | refine w_isi ?_ | refine w_tup ?_ | refine w_lstT ?_ | refine w_lstF ?_ | refine e_and ?_ | refine e_or ?_ | refine w_not ?_ | refine w_neg ?_ | refine w_ite ?_ | refine w_cmp ?_ | refine w_chain ?_ | refine w_slice ?_ | refine w_oN ?_ | refine w_oS ?_ | refine t_val' ?_ | refine t_cmp' ?_ | refine t_chain' ?_ | refine t_not' ?_ | refine t_and' ?_ | refine t_or' ?_ | refine ts_nil ?_ | refine ts_cons ?_ | refine x_nil ?_ | refine x_set ?_ | refine x_expr ?_ | refine x_ret ?_ | refine x_retN ?_ | refine x_ifs ?_ | refine x_setIx ?_ | refine x_unpack ?_ | refine l_add ?_ | refine l_sub ?_ | refine l_eqI ?_ | refine l_neI ?_ | refine l_eqB ?_ | refine l_neB ?_ | refine l_lt ?_ | refine l_le ?_ | refine l_gt ?_ | refine l_ge ?_ | refine ifT' rfl ?_ | refine ifF' rfl ?_ | refine ⟨_, rfl, ?_⟩ | refine ⟨rfl, ?_⟩ | refine ⟨Nat.le_of_ble_eq_true rfl, ?_⟩ | refine WC_some rfl ?_ | refine W_some rfl ?_))
              exact rfl
            · (repeat (first | refine w_var rfl ?_ | refine w_cst ?_ | refine w_glob ?_ | refine w_nil ?_ | refine w_cons ?_ | refine w_bin ?_ | refine w_ix ?_ | refine w_call ?_ | refine w_blt ?_ | refine w_isi ?_ | refine w_tup ?_ | refine w_lstT ?_ | refine w_lstF ?_ | refine e_and ?_ | refine e_or ?_ | refine w_not ?_ | refine w_neg ?_ | refine w_ite ?_ | refine w_cmp ?_ | refine w_chain ?_ | refine w_slice ?_ | refine w_oN ?_ | refine w_oS ?_ | refine t_val' ?_ | refine t_cmp' ?_ | refine t_chain' ?_ | refine t_not' ?_ | refine t_and' ?_ | refine t_or' ?_ | refine ts_nil ?_ | refine ts_cons ?_ | refine x_nil ?_ | refine x_set ?_ | refine x_expr ?_ | refine x_ret ?_ | refine x_retN ?_ | refine x_ifs ?_ | refine x_setIx ?_ | refine x_unpack ?_ | refine l_add ?_ | refine l_sub ?_ | refine l_eqI ?_ | refine l_neI ?_ | refine l_eqB ?_ | refine l_neB ?_ | refine l_lt ?_ | refine l_le ?_ | refine l_gt ?_ | refine l_ge ?_ | refine ifT' rfl ?_ | refine ifF' rfl ?_ | refine ⟨_, rfl, ?_⟩ | refine ⟨rfl, ?_⟩ | refine ⟨Nat.le_of_ble_eq_true rfl, ?_⟩ | refine WC_some rfl ?_ | refine W_some rfl ?_))
              refine l_all ?_
              refine fin_same rfl hS rfl ?_
              simpa [moveB, hk, hl'] using q
          | fzl _ => simp [gd] at gb
          | ref _ => simp [gd] at gb
          | _ =>
            (repeat (first | refine w_var rfl ?_ | refine w_cst ?_ | refine w_glob ?_ | refine w_nil ?_ | refine w_cons ?_ | refine w_bin ?_ | refine w_ix ?_ | refine w_call ?_ | refine w_blt ?_ | refine w_isi ?_ | refine w_tup ?_ | refine w_lstT ?_ | refine w_lstF ?_ | refine e_and ?_ | refine e_or ?_ | refine w_not ?_ | refine w_neg ?_ | refine w_ite ?_ | refine w_cmp ?_ | refine w_chain ?_ | refine w_slice ?_ | refine w_oN ?_ | refine w_oS ?_ | refine t_val' ?_ | refine t_cmp' ?_ | refine t_chain' ?_ | refine t_not' ?_ | refine t_and' ?_ | refine t_or' ?_ | refine ts_nil ?_ | refine ts_cons ?_ | refine x_nil ?_ | refine x_cons ?_ | refine x_set ?_ | refine x_expr ?_ | refine x_ret ?_ | refine x_retN ?_ | refine x_ifs ?_ | refine x_setIx ?_ | refine x_unpack ?_ | refine l_add ?_ | refine l_sub ?_ | refine l_eqI ?_ | refine l_neI ?_ | refine l_eqB ?_ | refine l_neB ?_ | refine l_lt ?_ | refine l_le ?_ | refine l_gt ?_ | refine l_ge ?_ | refine ifT' rfl ?_ | refine ifF' rfl ?_ | refine ⟨_, rfl, ?_⟩ | refine ⟨rfl, ?_⟩ | refine ⟨Nat.le_of_ble_eq_true rfl, ?_⟩ | refine WC_some rfl ?_ | refine W_some rfl ?_))
            exact fin_same rfl hS rfl q
      | fzl _ => simp [gd] at ga
      | ref _ => simp [gd] at ga
      | _ =>
        (repeat (first | refine w_var rfl ?_ | refine w_cst ?_ | refine w_glob ?_ | refine w_nil ?_ | refine w_cons ?_ | refine w_bin ?_ | refine w_ix ?_ | refine w_call ?_ | refine w_blt ?_ | refine w_isi ?_ | refine w_tup ?_ | refine w_lstT ?_ | refine w_lstF ?_ | refine e_and ?_ | refine e_or ?_ | refine w_not ?_ | refine w_neg ?_ | refine w_ite ?_ | refine w_cmp ?_ | refine w_chain ?_ | refine w_slice ?_ | refine w_oN ?_ | refine w_oS ?_ | refine t_val' ?_ | refine t_cmp' ?_ | refine t_chain' ?_ | refine t_not' ?_ | refine t_and' ?_ | refine t_or' ?_ | refine ts_nil ?_ | refine ts_cons ?_ | refine x_nil ?_ | refine x_cons ?_ | refine x_set ?_ | refine x_expr ?_ | refine x_ret ?_ | refine x_retN ?_ | refine x_ifs ?_ | refine x_setIx ?_ | refine x_unpack ?_ | refine l_add ?_ | refine l_sub ?_ | refine l_eqI ?_ | refine l_neI ?_ | refine l_eqB ?_ | refine l_neB ?_ | refine l_lt ?_ | refine l_le ?_ | refine l_gt ?_ | refine l_ge ?_ | refine ifT' rfl ?_ | refine ifF' rfl ?_ | refine ⟨_, rfl, ?_⟩ | refine ⟨rfl, ?_⟩ | refine ⟨Nat.le_of_ble_eq_true rfl, ?_⟩ | refine WC_some rfl ?_ | refine W_some rfl ?_))
        exact fin_same rfl hS rfl q
    · refine x_cons ?_
      (repeat (first | refine w_var rfl ?_ | refine w_cst ?_ | refine w_glob ?_ | refine w_nil ?_ | refine w_cons ?_ | refine w_bin ?_ | refine w_ix ?_ | refine w_call ?_ | refine w_blt ?_ | refine w_isi ?_ | refine w_tup ?_ | refine w_lstT ?_ | refine w_lstF ?_ | refine e_and ?_ | refine e_or ?_ | refine w_not ?_ | refine w_neg ?_ | refine w_ite ?_ | refine w_cmp ?_ | refine w_chain ?_ | refine w_slice ?_ | refine w_oN ?_ | refine w_oS ?_ | refine t_val' ?_ | refine t_cmp' ?_ | refine t_chain' ?_ | refine t_not' ?_ | refine t_and' ?_ | refine t_or' ?_ | refine ts_nil ?_ | refine ts_cons ?_ | refine x_nil ?_ | refine x_set ?_ | refine x_expr ?_ | refine x_ret ?_ | refine x_retN ?_ | refine x_ifs ?_ | refine x_setIx ?_ | refine x_unpack ?_ | refine l_add ?_ | refine l_sub ?_ | refine l_eqI ?_ | refine l_neI ?_ | refine l_eqB ?_ | refine l_neB ?_ | refine l_lt ?_ | refine l_le ?_ | refine l_gt ?_ | refine l_ge ?_ | refine ifT' rfl ?_ | refine ifF' rfl ?_ | refine ⟨_, rfl, ?_⟩ | refine ⟨rfl, ?_⟩ | refine ⟨Nat.le_of_ble_eq_true rfl, ?_⟩ | refine WC_some rfl ?_ | refine W_some rfl ?_))
      refine ifT' (by simp; omega) ?_
      (repeat (first | refine w_var rfl ?_ | refine w_cst ?_ | refine w_glob ?_ | refine w_nil ?_ | refine w_cons ?_ | refine w_bin ?_ | refine w_ix ?_ | refine w_call ?_ | refine w_blt ?_ | refine w_isi ?_ | refine w_tup ?_ | refine w_lstT ?_ | refine w_lstF ?_ | refine e_and ?_ | refine e_or ?_ | refine w_not ?_ | refine w_neg ?_ | refine w_ite ?_ | refine w_cmp ?_ | refine w_chain ?_ | refine w_slice ?_ | refine w_oN ?_ | refine w_oS ?_ | refine t_val' ?_ | refine t_cmp' ?_ | refine t_chain' ?_ | refine t_not' ?_ | refine t_and' ?_ | refine t_or' ?_ | refine ts_nil ?_ | refine ts_cons ?_ | refine x_nil ?_ | refine x_cons ?_ | refine x_set ?_ | refine x_expr ?_ | refine x_ret ?_ | refine x_retN ?_ | refine x_ifs ?_ | refine x_setIx ?_ | refine x_unpack ?_ | refine l_add ?_ | refine l_sub ?_ | refine l_eqI ?_ | refine l_neI ?_ | refine l_eqB ?_ | refine l_neB ?_ | refine l_lt ?_ | refine l_le ?_ | refine l_gt ?_ | refine l_ge ?_ | refine ifT' rfl ?_ | refine ifF' rfl ?_ | refine ⟨_, rfl, ?_⟩ | refine ⟨rfl, ?_⟩ | refine ⟨Nat.le_of_ble_eq_true rfl, ?_⟩ | refine WC_some rfl ?_ | refine W_some rfl ?_))
      refine fin_same rfl hS rfl ?_
      have : moveB tab many (.tup p) = false := by
        unfold moveB
        split
        · rename_i e; cases e; exact absurd rfl hp
        · rfl
      rw [this] at q
      exact q
  | fzl _ => simp [gd] at hx
  | ref _ => simp [gd] at hx
  | _ =>
    (repeat (first | refine w_var rfl ?_ | refine w_cst ?_ | refine w_glob ?_ | refine w_nil ?_ | refine w_cons ?_ | refine w_bin ?_ | refine w_ix ?_ | refine w_call ?_ | refine w_blt ?_ | refine w_isi ?_ | refine w_tup ?_ | refine w_lstT ?_ | refine w_lstF ?_ | refine e_and ?_ | refine e_or ?_ | refine w_not ?_ | refine w_neg ?_ | refine w_ite ?_ | refine w_cmp ?_ | refine w_chain ?_ | refine w_slice ?_ | refine w_oN ?_ | refine w_oS ?_ | refine t_val' ?_ | refine t_cmp' ?_ | refine t_chain' ?_ | refine t_not' ?_ | refine t_and' ?_ | refine t_or' ?_ | refine ts_nil ?_ | refine ts_cons ?_ | refine x_nil ?_ | refine x_cons ?_ | refine x_set ?_ | refine x_expr ?_ | refine x_ret ?_ | refine x_retN ?_ | refine x_ifs ?_ | refine x_setIx ?_ | refine x_unpack ?_ | refine l_add ?_ | refine l_sub ?_ | refine l_eqI ?_ | refine l_neI ?_ | refine l_eqB ?_ | refine l_neB ?_ | refine l_lt ?_ | refine l_le ?_ | refine l_gt ?_ | refine l_ge ?_ | refine ifT' rfl ?_ | refine ifF' rfl ?_ | refine ⟨_, rfl, ?_⟩ | refine ⟨rfl, ?_⟩ | refine ⟨Nat.le_of_ble_eq_true rfl, ?_⟩ | refine WC_some rfl ?_ | refine W_some rfl ?_))
    exact fin_same rfl hS rfl q
end Tt.L
end

section
/-! k64: automata. -/
namespace Tt.L
open PySem Tt Tt.P L2
def arOf : D → D
  | .tup [_, n] => n
  | _ => .non
def kvsOf (sg : List D) : List (Key × D) := sg.map fun x => (.inr (nmOf x), arOf x)
def tab (sg : List D) : List (Key × D) := mergeK [] (kvsOf sg)
def intOf : D → Int
  | .int i => i
  | _ => 0
def autB (sg : List D) : D → Bool
  | .tup [.int many, .tup moves, .tup ends] => wholeB (.int many) 400 && ((ends.all fun s => wholeB s (many - 1)) && (incB (ends.map intOf) && moves.all (moveB (tab sg) many)))
  | _ => false
theorem kpairs_sig : ∀ {sg : List D}, sg.all pairB = true → kpairs sg = some (kvsOf sg)
  | [], _ => rfl
  | x :: sg, h => by
    rw [List.all_cons, Bool.and_eq_true] at h
    obtain ⟨w, n, rfl, _, _⟩ := pair_cases h.1
    simp only [kpairs, kD, Option.bind_some, kpairs_sig h.2, Option.map_some]
    rfl
theorem merge_nodup {kvs : List (Key × D)} (h : (kvs.map (·.1)).Nodup) : mergeK [] kvs = kvs := by
  refine snoc_ind (P := fun kvs => (kvs.map (·.1)).Nodup → mergeK [] kvs = kvs) (fun _ => rfl) ?_ kvs h
  intro l a ih hn
  rw [List.map_append, List.map_cons, List.map_nil, nodup_snoc] at hn
  have : mergeK [] (l ++ [a]) = putK (mergeK [] l) a.1 a.2 := by simp [mergeK]
  rw [this, ih hn.1, putK_new hn.2]
/-- a signature as it should be -/
structure SigOk (sg : List D) : Prop where
  all : sg.all pairB = true
  nd : (sg.map nmOf).Nodup
  len : sg.length ≤ 6
  pos : 0 < sg.length
  gd : gds sg = true
theorem SigOk.tab {sg : List D} (h : SigOk sg) : tab sg = kvsOf sg := by
  refine merge_nodup ?_
  have : (kvsOf sg).map (·.1) = (sg.map nmOf).map Sum.inr := by simp [kvsOf]
  rw [this, nodup_inr]
  exact h.nd
theorem SigOk.ints {sg : List D} (h : SigOk sg) : ∀ p ∈ kvsOf sg, ∃ m : Int, p.2 = .int m := fun p hp => by
  obtain ⟨x, hx, rfl⟩ := List.mem_map.mp hp
  obtain ⟨w, n, rfl, _, h2⟩ := pair_cases (List.all_eq_true.mp h.all x hx)
  cases n <;> first
    | exact ⟨_, rfl⟩
    | simp [wholeB] at h2
theorem SigOk.ok {sg : List D} (h : SigOk sg) : tabOk (L.tab sg) := fun k d hk => by
  rw [h.tab] at hk
  unfold lookK at hk
  rw [Option.map_eq_some_iff] at hk
  obtain ⟨p, hp, rfl⟩ := hk
  exact h.ints p (List.mem_of_find?_eq_some hp)
theorem SigOk.pu {sg : List D} (h : SigOk sg) : puO (.dic (L.tab sg)) = true := by
  rw [h.tab]
  show puL ((kvsOf sg).map (·.2)) = true
  rw [puL_mem]
  intro d hd
  obtain ⟨p, hp, rfl⟩ := List.mem_map.mp hd
  obtain ⟨m, e⟩ := h.ints p hp
  rw [e]; rfl
theorem keyed_vals {v : D} {ks : List Key} (hv : puD v = true) : puO (.dic (keyed v ks)) = true := by
  show puL ((keyed v ks).map (·.2)) = true
  refine snoc_ind (P := fun ks => puL ((keyed v ks).map (·.2)) = true) rfl ?_ ks
  intro l a ih
  rw [keyed_snoc]
  unfold putK
  split
  · rw [puL_mem] at ih ⊢
    intro d hd
    rw [List.map_map] at hd
    obtain ⟨p, hp, rfl⟩ := List.mem_map.mp hd
    show puD (if p.1 = a then (p.1, v) else p).2 = true
    split
    · exact hv
    · exact ih _ (List.mem_map_of_mem hp)
  · rw [List.map_append, puL_append, ih]
    simp [puL, hv]
theorem l_dictT {fz : Bool} {sg : List D} {S : Sto} {Q : D → Sto → Prop} (h : SigOk sg) (q : Q (.ref S.length) (S ++ [.dic (tab sg)])) : W (bltD fz .dict [.tup sg] S) Q := by
  refine ⟨_, _, ?_, q⟩
  simp only [bltD, items, Option.bind_some, kpairs_sig h.all, Option.map_some]
  rfl
theorem l_listT {l : List D} {S : Sto} {Q : D → Sto → Prop} (h : l.length ≤ sizeLine) (q : Q (.lst l) S) : W (bltD true .list [.tup l] S) Q := by
  refine ⟨_, _, ?_, q⟩
  simp only [bltD, items, Option.bind_some]
  unfold mkL
  rw [if_pos h, if_pos rfl]
theorem l_sortedD {n : Nat} {kvs : List (Key × D)} {ks : List Int} {S : Sto} {Q : D → Sto → Prop} (h : S[n]? = some (.dic kvs)) (hk : keysI kvs = some ks) (hl : ks.length < 64) (q : Q (.lst ((sortI ks).map .int)) S) : W (bltD true .sorted [.ref n] S) Q := by
  refine ⟨_, _, ?_, q⟩
  simp only [bltD, h, hk, Option.bind_some]
  rw [if_pos hl]
  unfold mkL
  rw [if_pos (by rw [List.length_map, sortI_len]; exact Nat.le_trans (Nat.le_of_lt hl) (by decide)), if_pos rfl]
theorem l_neL {a b : List Int} {S : Sto} {QC : Bool → Prop} (q : QC (!(a == b))) : WC (cmpD .ne (.lst (a.map .int)) (.lst (b.map .int)) S) QC := by
  refine ⟨_, ?_, q⟩
  simp only [cmpD, eqD_ints, Option.map_some]
theorem ints_of {l : List D} {m : Int} (h : (l.all fun s => wholeB s m) = true) : l = (l.map intOf).map .int := by
  rw [List.map_map]
  refine (List.map_id l).symm.trans (List.map_congr_left fun x hx => ?_)
  have := List.all_eq_true.mp h x hx
  cases x <;> first
    | rfl
    | simp [wholeB] at this
theorem whole_int {v : D} {m : Int} (h : wholeB v m = true) : ∃ i : Int, v = .int i := by
  cases v <;> first
    | exact ⟨_, rfl⟩
    | simp [wholeB] at h
theorem autP {k : Nat} {sg : List D} {v : D} {S : Sto} {Q : D → Sto → Prop} (hs : SigOk sg) (hv : gd v = true) (hS : S.all puO = true) (q : Q (.bl (autB sg v)) S) : WO (calls pg (k + 3) 5 [.tup sg, v] S) Q := by
  refine call_run (di := d5) rfl (w_run rfl ?_)
  cases v with
  | tup p =>
    simp only [gd, Bool.and_eq_true, decide_eq_true_eq] at hv
    by_cases hp : p.length = 3
    · obtain ⟨a, b, c, rfl⟩ : ∃ a b c, p = [a, b, c] := by
        match p, hp with
        | [a, b, c], _ => exact ⟨a, b, c, rfl⟩
      have hg := hv.2
      simp only [gds, Bool.and_eq_true] at hg
      obtain ⟨ga, gb, gc, _⟩ := hg
      refine x_cons ?_
      (repeat (first | refine w_var rfl ?_ | refine w_cst ?_ | refine w_glob ?_ | refine w_nil ?_ | refine w_cons ?_ | refine w_bin ?_ | refine w_ix ?_ | refine w_call ?_ | refine w_blt ?_ | refine w_isi ?_ | refine w_tup ?_ | refine w_lstT ?_ | refine w_lstF ?_ | refine e_and ?_ | refine e_or ?_ | refine w_not ?_ | refine w_neg ?_ | refine w_ite ?_ | refine w_cmp ?_ | refine w_chain ?_ | refine w_slice ?_ | refine w_oN ?_ | refine w_oS ?_ | refine t_val' ?_ | refine t_cmp' ?_ | refine t_chain' ?_ | refine t_not' ?_ | refine t_and' ?_ | refine t_or' ?_ | refine ts_nil ?_ | refine ts_cons ?_ | refine x_nil ?_ | refine x_set ?_ | refine x_expr ?_ | refine x_ret ?_ | refine x_retN ?_ | refine x_ifs ?_ | refine x_setIx ?_ | refine x_unpack ?_ | refine l_add ?_ | refine l_sub ?_ | refine l_eqI ?_ | refine l_neI ?_ | refine l_eqB ?_ | refine l_neB ?_ | refine l_lt ?_ | refine l_le ?_ | refine l_gt ?_ | refine l_ge ?_ | refine ifT' rfl ?_ | refine ifF' rfl ?_ | refine ⟨_, rfl, ?_⟩ | refine ⟨rfl, ?_⟩ | refine ⟨Nat.le_of_ble_eq_true rfl, ?_⟩ | refine WC_some rfl ?_ | refine W_some rfl ?_))
      refine whole ga hS ?_
      (repeat (first | refine w_var rfl ?_ | refine w_cst ?_ | refine w_glob ?_ | refine w_nil ?_ | refine w_cons ?_ | refine w_bin ?_ | refine w_ix ?_ | refine w_call ?_ | refine w_blt ?_ | refine w_isi ?_ | refine w_tup ?_ | refine w_lstT ?_ | refine w_lstF ?_ | refine e_and ?_ | refine e_or ?_ | refine w_not ?_ | refine w_neg ?_ | refine w_ite ?_ | refine w_cmp ?_ | refine w_chain ?_ | refine w_slice ?_ | refine w_oN ?_ | refine w_oS ?_ | refine t_val' ?_ | refine t_cmp' ?_ | refine t_chain' ?_ | refine t_not' ?_ | refine t_and' ?_ | refine t_or' ?_ | refine ts_nil ?_ | refine ts_cons ?_ | refine x_nil ?_ | refine x_set ?_ | refine x_expr ?_ | refine x_ret ?_ | refine x_retN ?_ | refine x_ifs ?_ | refine x_setIx ?_ | refine x_unpack ?_ | refine l_add ?_ | refine l_sub ?_ | refine l_eqI ?_ | refine l_neI ?_ | refine l_eqB ?_ | refine l_neB ?_ | refine l_lt ?_ | refine l_le ?_ | refine l_gt ?_ | refine l_ge ?_ | refine ifT' rfl ?_ | refine ifF' rfl ?_ | refine ⟨_, rfl, ?_⟩ | refine ⟨rfl, ?_⟩ | refine ⟨Nat.le_of_ble_eq_true rfl, ?_⟩ | refine WC_some rfl ?_ | refine W_some rfl ?_))
      refine ifB (fun hm => ?_) (fun hm => ?_)
      · (repeat (first | refine w_var rfl ?_ | refine w_cst ?_ | refine w_glob ?_ | refine w_nil ?_ | refine w_cons ?_ | refine w_bin ?_ | refine w_ix ?_ | refine w_call ?_ | refine w_blt ?_ | refine w_isi ?_ | refine w_tup ?_ | refine w_lstT ?_ | refine w_lstF ?_ | refine e_and ?_ | refine e_or ?_ | refine w_not ?_ | refine w_neg ?_ | refine w_ite ?_ | refine w_cmp ?_ | refine w_chain ?_ | refine w_slice ?_ | refine w_oN ?_ | refine w_oS ?_ | refine t_val' ?_ | refine t_cmp' ?_ | refine t_chain' ?_ | refine t_not' ?_ | refine t_and' ?_ | refine t_or' ?_ | refine ts_nil ?_ | refine ts_cons ?_ | refine x_nil ?_ | refine x_cons ?_ | refine x_set ?_ | refine x_expr ?_ | refine x_ret ?_ | refine x_retN ?_ | refine x_ifs ?_ | refine x_setIx ?_ | refine x_unpack ?_ | refine l_add ?_ | refine l_sub ?_ | refine l_eqI ?_ | refine l_neI ?_ | refine l_eqB ?_ | refine l_neB ?_ | refine l_lt ?_ | refine l_le ?_ | refine l_gt ?_ | refine l_ge ?_ | refine ifT' rfl ?_ | refine ifF' rfl ?_ | refine ⟨_, rfl, ?_⟩ | refine ⟨rfl, ?_⟩ | refine ⟨Nat.le_of_ble_eq_true rfl, ?_⟩ | refine WC_some rfl ?_ | refine W_some rfl ?_))
        refine fin_same rfl hS rfl ?_
        have hm' : wholeB a 400 = false := by simpa using hm
        have : autB sg (.tup [a, b, c]) = false := by
          unfold autB
          split
          · rename_i e; cases e; rw [hm']; rfl
          · rfl
        rw [this] at q
        exact q
      have hm' : wholeB a 400 = true := by simpa using hm
      obtain ⟨many, rfl⟩ := whole_int hm'
      refine x_nil ?_
      refine x_cons ?_
      refine x_unpack ?_
      refine w_var rfl ?_
      refine ⟨_, _, rfl, rfl, ?_⟩
      refine x_cons ?_
      cases b with
      | tup moves =>
        cases c with
        | tup ends =>
          simp only [gd, Bool.and_eq_true, decide_eq_true_eq] at gb gc
          (repeat (first | refine w_var rfl ?_ | refine w_cst ?_ | refine w_glob ?_ | refine w_nil ?_ | refine w_cons ?_ | refine w_bin ?_ | refine w_ix ?_ | refine w_call ?_ | refine w_blt ?_ | refine w_isi ?_ | refine w_tup ?_ | refine w_lstT ?_ | refine w_lstF ?_ | refine e_and ?_ | refine e_or ?_ | refine w_not ?_ | refine w_neg ?_ | refine w_ite ?_ | refine w_cmp ?_ | refine w_chain ?_ | refine w_slice ?_ | refine w_oN ?_ | refine w_oS ?_ | refine t_val' ?_ | refine t_cmp' ?_ | refine t_chain' ?_ | refine t_not' ?_ | refine t_and' ?_ | refine t_or' ?_ | refine ts_nil ?_ | refine ts_cons ?_ | refine x_nil ?_ | refine x_set ?_ | refine x_expr ?_ | refine x_ret ?_ | refine x_retN ?_ | refine x_ifs ?_ | refine x_setIx ?_ | refine x_unpack ?_ | refine l_add ?_ | refine l_sub ?_ | refine l_eqI ?_ | refine l_neI ?_ | refine l_eqB ?_ | refine l_neB ?_ | refine l_lt ?_ | refine l_le ?_ | refine l_gt ?_ | refine l_ge ?_ | refine ifT' rfl ?_ | refine ifF' rfl ?_ | refine ⟨_, rfl, ?_⟩ | refine ⟨rfl, ?_⟩ | refine ⟨Nat.le_of_ble_eq_true rfl, ?_⟩ | refine WC_some rfl ?_ | refine W_some rfl ?_))
          refine x_cons ?_
          refine x_set ?_
          (repeat (first | refine w_var rfl ?_ | refine w_cst ?_ | refine w_glob ?_ | refine w_nil ?_ | refine w_cons ?_ | refine w_bin ?_ | refine w_ix ?_ | refine w_call ?_ | refine w_blt ?_ | refine w_isi ?_ | refine w_tup ?_ | refine w_lstT ?_ | refine w_lstF ?_ | refine e_and ?_ | refine e_or ?_ | refine w_not ?_ | refine w_neg ?_ | refine w_ite ?_ | refine w_cmp ?_ | refine w_chain ?_ | refine w_slice ?_ | refine w_oN ?_ | refine w_oS ?_ | refine t_val' ?_ | refine t_cmp' ?_ | refine t_chain' ?_ | refine t_not' ?_ | refine t_and' ?_ | refine t_or' ?_ | refine ts_nil ?_ | refine ts_cons ?_ | refine x_nil ?_ | refine x_set ?_ | refine x_expr ?_ | refine x_ret ?_ | refine x_retN ?_ | refine x_ifs ?_ | refine x_setIx ?_ | refine x_unpack ?_ | refine l_add ?_ | refine l_sub ?_ | refine l_eqI ?_ | refine l_neI ?_ | refine l_eqB ?_ | refine l_neB ?_ | refine l_lt ?_ | refine l_le ?_ | refine l_gt ?_ | refine l_ge ?_ | refine ifT' rfl ?_ | refine ifF' rfl ?_ | refine ⟨_, rfl, ?_⟩ | refine ⟨rfl, ?_⟩ | refine ⟨Nat.le_of_ble_eq_true rfl, ?_⟩ | refine WC_some rfl ?_ | refine W_some rfl ?_))
          refine l_dictT hs ?_
          have hS1 : (S ++ [O.dic (tab sg)]).all puO = true := by rw [List.all_append, hS]; simp [hs.pu]
          refine x_cons ?_
          refine x_ifs ?_
          refine t_or' ?_
          refine t_not' ?_
          refine t_val' ?_
          refine w_blt ?_
          refine w_cons ?_
          refine w_mapR ends (ends.map fun s => .bl (wholeB s (many - 1))) (Nat.le_trans gc.1 (by decide)) (by simp) (r_seq (w_var rfl (WC_some rfl ⟨rfl, rfl, fun i y z hy hz => ?_, ?_⟩)))
          · refine ⟨_, rfl, ?_⟩
            simp only [List.getElem?_map, hy, Option.map_some, Option.some.injEq] at hz
            subst hz
            (repeat (first | refine w_var rfl ?_ | refine w_cst ?_ | refine w_glob ?_ | refine w_nil ?_ | refine w_cons ?_ | refine w_bin ?_ | refine w_ix ?_ | refine w_call ?_ | refine w_blt ?_ | refine w_isi ?_ | refine w_tup ?_ | refine w_lstT ?_ | refine w_lstF ?_ | refine e_and ?_ | refine e_or ?_ | refine w_not ?_ | refine w_neg ?_ | refine w_ite ?_ | refine w_cmp ?_ | refine w_chain ?_ | refine w_slice ?_ | refine w_oN ?_ | refine w_oS ?_ | refine t_val' ?_ | refine t_cmp' ?_ | refine t_chain' ?_ | refine t_not' ?_ | refine t_and' ?_ | refine t_or' ?_ | refine ts_nil ?_ | refine ts_cons ?_ | refine x_nil ?_ | refine x_set ?_ | refine x_expr ?_ | refine x_ret ?_ | refine x_retN ?_ | refine x_ifs ?_ | refine x_setIx ?_ | refine x_unpack ?_ | refine l_add ?_ | refine l_sub ?_ | refine l_eqI ?_ | refine l_neI ?_ | refine l_eqB ?_ | refine l_neB ?_ | refine l_lt ?_ | refine l_le ?_ | refine l_gt ?_ | refine l_ge ?_ | refine ifT' rfl ?_ | refine ifF' rfl ?_ | refine ⟨_, rfl, ?_⟩ | refine ⟨rfl, ?_⟩ | refine ⟨Nat.le_of_ble_eq_true rfl, ?_⟩ | refine WC_some rfl ?_ | refine W_some rfl ?_))
            refine whole (gds_get gc.2 hy) hS1 ?_
            (repeat (first | refine w_var rfl ?_ | refine w_cst ?_ | refine w_glob ?_ | refine w_nil ?_ | refine w_cons ?_ | refine w_bin ?_ | refine w_ix ?_ | refine w_call ?_ | refine w_blt ?_ | refine w_isi ?_ | refine w_tup ?_ | refine w_lstT ?_ | refine w_lstF ?_ | refine e_and ?_ | refine e_or ?_ | refine w_not ?_ | refine w_neg ?_ | refine w_ite ?_ | refine w_cmp ?_ | refine w_chain ?_ | refine w_slice ?_ | refine w_oN ?_ | refine w_oS ?_ | refine t_val' ?_ | refine t_cmp' ?_ | refine t_chain' ?_ | refine t_not' ?_ | refine t_and' ?_ | refine t_or' ?_ | refine ts_nil ?_ | refine ts_cons ?_ | refine x_nil ?_ | refine x_set ?_ | refine x_expr ?_ | refine x_ret ?_ | refine x_retN ?_ | refine x_ifs ?_ | refine x_setIx ?_ | refine x_unpack ?_ | refine l_add ?_ | refine l_sub ?_ | refine l_eqI ?_ | refine l_neI ?_ | refine l_eqB ?_ | refine l_neB ?_ | refine l_lt ?_ | refine l_le ?_ | refine l_gt ?_ | refine l_ge ?_ | refine ifT' rfl ?_ | refine ifF' rfl ?_ | refine ⟨_, rfl, ?_⟩ | refine ⟨rfl, ?_⟩ | refine ⟨Nat.le_of_ble_eq_true rfl, ?_⟩ | refine WC_some rfl ?_ | refine W_some rfl ?_))
            exact rfl
          refine w_nil ?_
          refine l_all ?_
          refine WC_some rfl ?_
          refine ifB (fun ha => ?_) (fun ha => ?_)
          · (repeat (first | refine w_var rfl ?_ | refine w_cst ?_ | refine w_glob ?_ | refine w_nil ?_ | refine w_cons ?_ | refine w_bin ?_ | refine w_ix ?_ | refine w_call ?_ | refine w_blt ?_ | refine w_isi ?_ | refine w_tup ?_ | refine w_lstT ?_ | refine w_lstF ?_ | refine e_and ?_ | refine e_or ?_ | refine w_not ?_ | refine w_neg ?_ | refine w_ite ?_ | refine w_cmp ?_ | refine w_chain ?_ | refine w_slice ?_ | refine w_oN ?_ | refine w_oS ?_ | refine t_val' ?_ | refine t_cmp' ?_ | refine t_chain' ?_ | refine t_not' ?_ | refine t_and' ?_ | refine t_or' ?_ | refine ts_nil ?_ | refine ts_cons ?_ | refine x_nil ?_ | refine x_cons ?_ | refine x_set ?_ | refine x_expr ?_ | refine x_ret ?_ | refine x_retN ?_ | refine x_ifs ?_ | refine x_setIx ?_ | refine x_unpack ?_ | refine l_add ?_ | refine l_sub ?_ | refine l_eqI ?_ | refine l_neI ?_ | refine l_eqB ?_ | refine l_neB ?_ | refine l_lt ?_ | refine l_le ?_ | refine l_gt ?_ | refine l_ge ?_ | refine ifT' rfl ?_ | refine ifF' rfl ?_ | refine ⟨_, rfl, ?_⟩ | refine ⟨rfl, ?_⟩ | refine ⟨Nat.le_of_ble_eq_true rfl, ?_⟩ | refine WC_some rfl ?_ | refine W_some rfl ?_))
            refine fin_drop rfl hS rfl ?_
            have : (ends.all fun s => wholeB s (many - 1)) = false := by simpa using ha
            simpa [autB, this] using q
          have ha' : (ends.all fun s => wholeB s (many - 1)) = true := by simpa using ha
          have he := ints_of ha'
          generalize hes : ends.map intOf = es at he q
          have hel : es.length ≤ 60 := by rw [← hes, List.length_map]; exact gc.1
          obtain ⟨ks, k1, k2, k3, k4⟩ := keyed_ints (.bl true) es
          refine t_cmp' ?_
          refine w_blt ?_
          (repeat (first | refine w_var rfl ?_ | refine w_cst ?_ | refine w_glob ?_ | refine w_nil ?_ | refine w_cons ?_ | refine w_bin ?_ | refine w_ix ?_ | refine w_call ?_ | refine w_blt ?_ | refine w_isi ?_ | refine w_tup ?_ | refine w_lstT ?_ | refine w_lstF ?_ | refine e_and ?_ | refine e_or ?_ | refine w_not ?_ | refine w_neg ?_ | refine w_ite ?_ | refine w_cmp ?_ | refine w_chain ?_ | refine w_slice ?_ | refine w_oN ?_ | refine w_oS ?_ | refine t_val' ?_ | refine t_cmp' ?_ | refine t_chain' ?_ | refine t_not' ?_ | refine t_and' ?_ | refine t_or' ?_ | refine ts_nil ?_ | refine ts_cons ?_ | refine x_nil ?_ | refine x_set ?_ | refine x_expr ?_ | refine x_ret ?_ | refine x_retN ?_ | refine x_ifs ?_ | refine x_setIx ?_ | refine x_unpack ?_ | refine l_add ?_ | refine l_sub ?_ | refine l_eqI ?_ | refine l_neI ?_ | refine l_eqB ?_ | refine l_neB ?_ | refine l_lt ?_ | refine l_le ?_ | refine l_gt ?_ | refine l_ge ?_ | refine ifT' rfl ?_ | refine ifF' rfl ?_ | refine ⟨_, rfl, ?_⟩ | refine ⟨rfl, ?_⟩ | refine ⟨Nat.le_of_ble_eq_true rfl, ?_⟩ | refine WC_some rfl ?_ | refine W_some rfl ?_))
          refine l_listT (Nat.le_trans gc.1 (by decide)) ?_
          refine w_blt ?_
          refine w_cons ?_
          refine w_keyed ends (es.map Sum.inl) (.bl true) (Nat.lt_of_le_of_lt gc.1 (by decide)) (by rw [List.length_map, ← hes, List.length_map]) (r_seq (w_var rfl (WC_some rfl ⟨rfl, rfl, fun i y key hy hk => ?_, ?_⟩)))
          · refine ⟨_, rfl, ?_⟩
            rw [he] at hy
            simp only [List.getElem?_map, Option.map_eq_some_iff] at hy hk
            obtain ⟨j, hj, rfl⟩ := hy
            obtain ⟨j', hj', rfl⟩ := hk
            rw [hj] at hj'; cases hj'
            (repeat (first | refine w_var rfl ?_ | refine w_cst ?_ | refine w_glob ?_ | refine w_nil ?_ | refine w_cons ?_ | refine w_bin ?_ | refine w_ix ?_ | refine w_call ?_ | refine w_blt ?_ | refine w_isi ?_ | refine w_tup ?_ | refine w_lstT ?_ | refine w_lstF ?_ | refine e_and ?_ | refine e_or ?_ | refine w_not ?_ | refine w_neg ?_ | refine w_ite ?_ | refine w_cmp ?_ | refine w_chain ?_ | refine w_slice ?_ | refine w_oN ?_ | refine w_oS ?_ | refine t_val' ?_ | refine t_cmp' ?_ | refine t_chain' ?_ | refine t_not' ?_ | refine t_and' ?_ | refine t_or' ?_ | refine ts_nil ?_ | refine ts_cons ?_ | refine x_nil ?_ | refine x_cons ?_ | refine x_set ?_ | refine x_expr ?_ | refine x_ret ?_ | refine x_retN ?_ | refine x_ifs ?_ | refine x_setIx ?_ | refine x_unpack ?_ | refine l_add ?_ | refine l_sub ?_ | refine l_eqI ?_ | refine l_neI ?_ | refine l_eqB ?_ | refine l_neB ?_ | refine l_lt ?_ | refine l_le ?_ | refine l_gt ?_ | refine l_ge ?_ | refine ifT' rfl ?_ | refine ifF' rfl ?_ | refine ⟨_, rfl, ?_⟩ | refine ⟨rfl, ?_⟩ | refine ⟨Nat.le_of_ble_eq_true rfl, ?_⟩ | refine WC_some rfl ?_ | refine W_some rfl ?_))
            exact rfl
          refine w_nil ?_
          refine l_sortedD (kvs := keyed (.bl true) (es.map Sum.inl)) (by simp) (keysI_of (v := .bl true) k1) (by omega) ?_
          rw [he]
          refine l_neL ?_
          rw [inc_sorted k2 k3]
          refine ifB (fun hi => ?_) (fun hi => ?_)
          · (repeat (first | refine w_var rfl ?_ | refine w_cst ?_ | refine w_glob ?_ | refine w_nil ?_ | refine w_cons ?_ | refine w_bin ?_ | refine w_ix ?_ | refine w_call ?_ | refine w_blt ?_ | refine w_isi ?_ | refine w_tup ?_ | refine w_lstT ?_ | refine w_lstF ?_ | refine e_and ?_ | refine e_or ?_ | refine w_not ?_ | refine w_neg ?_ | refine w_ite ?_ | refine w_cmp ?_ | refine w_chain ?_ | refine w_slice ?_ | refine w_oN ?_ | refine w_oS ?_ | refine t_val' ?_ | refine t_cmp' ?_ | refine t_chain' ?_ | refine t_not' ?_ | refine t_and' ?_ | refine t_or' ?_ | refine ts_nil ?_ | refine ts_cons ?_ | refine x_nil ?_ | refine x_cons ?_ | refine x_set ?_ | refine x_expr ?_ | refine x_ret ?_ | refine x_retN ?_ | refine x_ifs ?_ | refine x_setIx ?_ | refine x_unpack ?_ | refine l_add ?_ | refine l_sub ?_ | refine l_eqI ?_ | refine l_neI ?_ | refine l_eqB ?_ | refine l_neB ?_ | refine l_lt ?_ | refine l_le ?_ | refine l_gt ?_ | refine l_ge ?_ | refine ifT' rfl ?_ | refine ifF' rfl ?_ | refine ⟨_, rfl, ?_⟩ | refine ⟨rfl, ?_⟩ | refine ⟨Nat.le_of_ble_eq_true rfl, ?_⟩ | refine WC_some rfl ?_ | refine W_some rfl ?_))
            rw [List.append_assoc]
            refine fin_drop rfl hS rfl ?_
            have : incB es = false := by simpa using hi
            rw [← he] at *
            simpa [autB, this, hes] using q
          have hi' : incB es = true := by simpa using hi
          rw [← he]
          refine x_nil ?_
          refine x_cons ?_
          refine x_ret ?_
          refine w_blt ?_
          refine w_cons ?_
          rw [List.append_assoc]
          have hS2 : (S ++ ([O.dic (tab sg)] ++ [O.dic (keyed (.bl true) (es.map Sum.inl))])).all puO = true := by
            rw [List.all_append, hS, List.all_append]; simp [hs.pu, keyed_vals (v := .bl true) rfl]
          refine w_mapR moves (moves.map fun s => .bl (moveB (tab sg) many s)) (Nat.le_trans gb.1 (by decide)) (by simp) (r_seq (w_var rfl (WC_some rfl ⟨rfl, rfl, fun i y z hy hz => ?_, ?_⟩)))
          · refine ⟨_, rfl, ?_⟩
            simp only [List.getElem?_map, hy, Option.map_some, Option.some.injEq] at hz
            subst hz
            (repeat (first | refine w_var rfl ?_ | refine w_cst ?_ | refine w_glob ?_ | refine w_nil ?_ | refine w_cons ?_ | refine w_bin ?_ | refine w_ix ?_ | refine w_call ?_ | refine w_blt ?_ | refine w_isi ?_ | refine w_tup ?_ | refine w_lstT ?_ | refine w_lstF ?_ | refine e_and ?_ | refine e_or ?_ | refine w_not ?_ | refine w_neg ?_ | refine w_ite ?_ | refine w_cmp ?_ | refine w_chain ?_ | refine w_slice ?_ | refine w_oN ?_ | refine w_oS ?_ | refine t_val' ?_ | refine t_cmp' ?_ | refine t_chain' ?_ | refine t_not' ?_ | refine t_and' ?_ | refine t_or' ?_ | refine ts_nil ?_ | refine ts_cons ?_ | refine x_nil ?_ | refine x_set ?_ | refine x_expr ?_ | refine x_ret ?_ | refine x_retN ?_ | refine x_ifs ?_ | refine x_setIx ?_ | refine x_unpack ?_ | refine l_add ?_ | refine l_sub ?_ | refine l_eqI ?_ | refine l_neI ?_ | refine l_eqB ?_ | refine l_neB ?_ | refine l_lt ?_ | refine l_le ?_ | refine l_gt ?_ | refine l_ge ?_ | refine ifT' rfl ?_ | refine ifF' rfl ?_ | refine ⟨_, rfl, ?_⟩ | refine ⟨rfl, ?_⟩ | refine ⟨Nat.le_of_ble_eq_true rfl, ?_⟩ | refine WC_some rfl ?_ | refine W_some rfl ?_))
            refine moveP (gds_get gb.2 hy) hS2 (tab := tab sg) (by simp) hs.ok ?_
            exact ⟨rfl, rfl⟩
          refine w_nil ?_
          refine l_all ?_
          refine fin_drop rfl hS rfl ?_
          simpa [autB, hm', ha', hi', hes] using q
        | fzl _ => simp [gd] at gc
        | ref _ => simp [gd] at gc
        | _ =>
          (repeat (first | refine w_var rfl ?_ | refine w_cst ?_ | refine w_glob ?_ | refine w_nil ?_ | refine w_cons ?_ | refine w_bin ?_ | refine w_ix ?_ | refine w_call ?_ | refine w_blt ?_ | refine w_isi ?_ | refine w_tup ?_ | refine w_lstT ?_ | refine w_lstF ?_ | refine e_and ?_ | refine e_or ?_ | refine w_not ?_ | refine w_neg ?_ | refine w_ite ?_ | refine w_cmp ?_ | refine w_chain ?_ | refine w_slice ?_ | refine w_oN ?_ | refine w_oS ?_ | refine t_val' ?_ | refine t_cmp' ?_ | refine t_chain' ?_ | refine t_not' ?_ | refine t_and' ?_ | refine t_or' ?_ | refine ts_nil ?_ | refine ts_cons ?_ | refine x_nil ?_ | refine x_cons ?_ | refine x_set ?_ | refine x_expr ?_ | refine x_ret ?_ | refine x_retN ?_ | refine x_ifs ?_ | refine x_setIx ?_ | refine x_unpack ?_ | refine l_add ?_ | refine l_sub ?_ | refine l_eqI ?_ | refine l_neI ?_ | refine l_eqB ?_ | refine l_neB ?_ | refine l_lt ?_ | refine l_le ?_ | refine l_gt ?_ | refine l_ge ?_ | refine ifT' rfl ?_ | refine ifF' rfl ?_ | refine ⟨_, rfl, ?_⟩ | refine ⟨rfl, ?_⟩ | refine ⟨Nat.le_of_ble_eq_true rfl, ?_⟩ | refine WC_some rfl ?_ | refine W_some rfl ?_))
          exact fin_same rfl hS rfl q
      | fzl _ => simp [gd] at gb
      | ref _ => simp [gd] at gb
      | _ =>
        (repeat (first | refine w_var rfl ?_ | refine w_cst ?_ | refine w_glob ?_ | refine w_nil ?_ | refine w_cons ?_ | refine w_bin ?_ | refine w_ix ?_ | refine w_call ?_ | refine w_blt ?_ | refine w_isi ?_ | refine w_tup ?_ | refine w_lstT ?_ | refine w_lstF ?_ | refine e_and ?_ | refine e_or ?_ | refine w_not ?_ | refine w_neg ?_ | refine w_ite ?_ | refine w_cmp ?_ | refine w_chain ?_ | refine w_slice ?_ | refine w_oN ?_ | refine w_oS ?_ | refine t_val' ?_ | refine t_cmp' ?_ | refine t_chain' ?_ | refine t_not' ?_ | refine t_and' ?_ | refine t_or' ?_ | refine ts_nil ?_ | refine ts_cons ?_ | refine x_nil ?_ | refine x_cons ?_ | refine x_set ?_ | refine x_expr ?_ | refine x_ret ?_ | refine x_retN ?_ | refine x_ifs ?_ | refine x_setIx ?_ | refine x_unpack ?_ | refine l_add ?_ | refine l_sub ?_ | refine l_eqI ?_ | refine l_neI ?_ | refine l_eqB ?_ | refine l_neB ?_ | refine l_lt ?_ | refine l_le ?_ | refine l_gt ?_ | refine l_ge ?_ | refine ifT' rfl ?_ | refine ifF' rfl ?_ | refine ⟨_, rfl, ?_⟩ | refine ⟨rfl, ?_⟩ | refine ⟨Nat.le_of_ble_eq_true rfl, ?_⟩ | refine WC_some rfl ?_ | refine W_some rfl ?_))
        exact fin_same rfl hS rfl q
    · refine x_cons ?_
      (repeat (first | refine w_var rfl ?_ | refine w_cst ?_ | refine w_glob ?_ | refine w_nil ?_ | refine w_cons ?_ | refine w_bin ?_ | refine w_ix ?_ | refine w_call ?_ | refine w_blt ?_ | refine w_isi ?_ | refine w_tup ?_ | refine w_lstT ?_ | refine w_lstF ?_ | refine e_and ?_ | refine e_or ?_ | refine w_not ?_ | refine w_neg ?_ | refine w_ite ?_ | refine w_cmp ?_ | refine w_chain ?_ | refine w_slice ?_ | refine w_oN ?_ | refine w_oS ?_ | refine t_val' ?_ | refine t_cmp' ?_ | refine t_chain' ?_ | refine t_not' ?_ | refine t_and' ?_ | refine t_or' ?_ | refine ts_nil ?_ | refine ts_cons ?_ | refine x_nil ?_ | refine x_set ?_ | refine x_expr ?_ | refine x_ret ?_ | refine x_retN ?_ | refine x_ifs ?_ | refine x_setIx ?_ | refine x_unpack ?_ | refine l_add ?_ | refine l_sub ?_ | refine l_eqI ?_ | refine l_neI ?_ | refine l_eqB ?_ | refine l_neB ?_ | refine l_lt ?_ | refine l_le ?_ | refine l_gt ?_ | refine l_ge ?_ | refine ifT' rfl ?_ | refine ifF' rfl ?_ | refine ⟨_, rfl, ?_⟩ | refine ⟨rfl, ?_⟩ | refine ⟨Nat.le_of_ble_eq_true rfl, ?_⟩ | refine WC_some rfl ?_ | refine W_some rfl ?_))
      refine ifT' (by simp; omega) ?_
      (repeat (first | refine w_var rfl ?_ | refine w_cst ?_ | refine w_glob ?_ | refine w_nil ?_ | refine w_cons ?_ | refine w_bin ?_ | refine w_ix ?_ | refine w_call ?_ | refine w_blt ?_ | refine w_isi ?_ | refine w_tup ?_ | refine w_lstT ?_ | refine w_lstF ?_ | refine e_and ?_ | refine e_or ?_ | refine w_not ?_ | refine w_neg ?_ | refine w_ite ?_ | refine w_cmp ?_ | refine w_chain ?_ | refine w_slice ?_ | refine w_oN ?_ | refine w_oS ?_ | refine t_val' ?_ | refine t_cmp' ?_ | refine t_chain' ?_ | refine t_not' ?_ | refine t_and' ?_ | refine t_or' ?_ | refine ts_nil ?_ | refine ts_cons ?_ | refine x_nil ?_ | refine x_cons ?_ | refine x_set ?_ | refine x_expr ?_ | refine x_ret ?_ | refine x_retN ?_ | refine x_ifs ?_ | refine x_setIx ?_ | refine x_unpack ?_ | refine l_add ?_ | refine l_sub ?_ | refine l_eqI ?_ | refine l_neI ?_ | refine l_eqB ?_ | refine l_neB ?_ | refine l_lt ?_ | refine l_le ?_ | refine l_gt ?_ | refine l_ge ?_ | refine ifT' rfl ?_ | refine ifF' rfl ?_ | refine ⟨_, rfl, ?_⟩ | refine ⟨rfl, ?_⟩ | refine ⟨Nat.le_of_ble_eq_true rfl, ?_⟩ | refine WC_some rfl ?_ | refine W_some rfl ?_))
      refine fin_same rfl hS rfl ?_
      have : autB sg (.tup p) = false := by
        unfold autB
        split
        · rename_i e; cases e; exact absurd rfl hp
        · rfl
      rw [this] at q
      exact q
  | fzl _ => simp [gd] at hv
  | ref _ => simp [gd] at hv
  | _ =>
    (repeat (first | refine w_var rfl ?_ | refine w_cst ?_ | refine w_glob ?_ | refine w_nil ?_ | refine w_cons ?_ | refine w_bin ?_ | refine w_ix ?_ | refine w_call ?_ | refine w_blt ?_ | refine w_isi ?_ | refine w_tup ?_ | refine w_lstT ?_ | refine w_lstF ?_ | refine e_and ?_ | refine e_or ?_ | refine w_not ?_ | refine w_neg ?_ | refine w_ite ?_ | refine w_cmp ?_ | refine w_chain ?_ | refine w_slice ?_ | refine w_oN ?_ | refine w_oS ?_ | refine t_val' ?_ | refine t_cmp' ?_ | refine t_chain' ?_ | refine t_not' ?_ | refine t_and' ?_ | refine t_or' ?_ | refine ts_nil ?_ | refine ts_cons ?_ | refine x_nil ?_ | refine x_cons ?_ | refine x_set ?_ | refine x_expr ?_ | refine x_ret ?_ | refine x_retN ?_ | refine x_ifs ?_ | refine x_setIx ?_ | refine x_unpack ?_ | refine l_add ?_ | refine l_sub ?_ | refine l_eqI ?_ | refine l_neI ?_ | refine l_eqB ?_ | refine l_neB ?_ | refine l_lt ?_ | refine l_le ?_ | refine l_gt ?_ | refine l_ge ?_ | refine ifT' rfl ?_ | refine ifF' rfl ?_ | refine ⟨_, rfl, ?_⟩ | refine ⟨rfl, ?_⟩ | refine ⟨Nat.le_of_ble_eq_true rfl, ?_⟩ | refine WC_some rfl ?_ | refine W_some rfl ?_))
    exact fin_same rfl hS rfl q
end Tt.L
end

section
/-! k64: numbers. -/
namespace Tt.L
open PySem Tt Tt.P
def DIG : List Nat := ("0123456789" : Str).cps.toList
/-- a text whose signs are signs, not too long -/
def tx (w : Str) : Bool := w.cps.all (· < 0x110000) && decide (w.cps.size ≤ 100)
theorem tx1 {w : Str} (h : tx w = true) : w.cps.all (· < 0x110000) = true := (Bool.and_eq_true_iff.mp h).1
theorem tx2 {w : Str} (h : tx w = true) : w.cps.size ≤ 100 := of_decide_eq_true (Bool.and_eq_true_iff.mp h).2
theorem tx3 {w : Str} (h : tx w = true) : w.length ≤ sizeLine := small100 (tx2 h)
/-- whether a word is a number, and which -/
def okN (w : Str) : Bool := decide (1 ≤ (w.length : Int)) && decide ((w.length : Int) ≤ 9) && w.cps.toList.all (inB DIG) && (w == "0" || !headIn [48] w)
def valN (w : Str) : Int := (NumText.digitsVal w.cps.toList : Nat)
def numO (w : Str) : Option Int := if okN w = true then some (valN w) else none
def optD : Option Int → D
  | some i => .int i
  | none => .non
def optL : Option Int → D
  | some i => .lst [.int i]
  | none => .lst []
theorem dig_iff {c : Nat} : inB DIG c = true ↔ 48 ≤ c ∧ c ≤ 57 := by
  have e : DIG = [48, 49, 50, 51, 52, 53, 54, 55, 56, 57] := by decide +kernel
  unfold inB
  rw [e, decide_eq_true_eq]
  simp only [List.mem_cons, List.not_mem_nil, or_false]
  omega
theorem int_ok {w : Str} (h1 : decide (1 ≤ (w.length : Int)) = true) (h2 : decide ((w.length : Int) ≤ 9) = true) (h3 : w.cps.toList.all (inB DIG) = true) : intText? w = some (valN w) := by
  have h1 := of_decide_eq_true h1
  have h2 := of_decide_eq_true h2
  have hl : w.cps.toList.length = w.length := Array.length_toList
  refine intText_digits (fun c hc => dig_iff.mp (List.all_eq_true.mp h3 c hc)) (fun e => ?_) (by omega)
  rw [e] at hl
  simp at hl
  omega
theorem l_intS {fz : Bool} {w : Str} {i : Int} {S : Sto} {Q : D → Sto → Prop} (h : w.length ≤ 640) (e : intText? w = some i) (q : Q (.int i) S) : W (bltD fz .int [.str w] S) Q :=
  ⟨_, _, by simp only [bltD]; rw [if_pos h, e]; rfl, q⟩
theorem eq0_head {w : Str} {c : Nat} {cs : List Nat} (hc : w.cps.toList = c :: cs) : headIn [48] w = ((⟨#[c]⟩ : Str) == "0") := by
  have e1 : headIn [48] w = decide (c = 48) := by
    unfold headIn; rw [hc]
    simp [inB]
  rw [e1]
  by_cases h : c = 48
  · subst h; decide +kernel
  · rw [decide_eq_false h]
    symm
    apply beq_eq_false_iff_ne.mpr
    intro e
    apply h
    have := congrArg (fun s : Str => s.cps.toList) e
    have e2 : ("0" : Str).cps.toList = [48] := by decide +kernel
    rw [e2] at this
    simpa using this
theorem one_sign {c : Nat} {w : Str} (h : w.cps.all (· < 0x110000) = true) (hc : c ∈ w.cps.toList) : (⟨#[c]⟩ : Str).cps.all (· < 0x110000) = true := by
  rw [Array.all_eq_true_iff_forall_mem] at h
  have := h c (by simpa using hc)
  simpa using this
theorem l_neS {i j : Str} {S : Sto} {QC : Bool → Prop} (h1 : i.cps.all (· < 0x110000) = true) (h2 : j.cps.all (· < 0x110000) = true) (q : QC (!(i == j))) : WC (cmpD .ne (.str i) (.str j) S) QC := by
  obtain ⟨r, e, q'⟩ := l_eqS (S := S) (QC := fun b => b = (i == j)) h1 h2 rfl
  refine ⟨!r, ?_, by rw [q']; exact q⟩
  have e : eqD (.str i) (.str j) = some r := e
  show (eqD (.str i) (.str j)).map (!·) = _
  rw [e]; rfl
theorem number_of {k : Nat} {w : Str} {S : Sto} {Q : D → Sto → Prop} (hw : tx w = true) (hS : S.all puO = true) (q : Q (optD (numO w)) S) : WO (calls pg (k + 1) 9 [.str w] S) Q := by
  refine call_run (di := d9) rfl (w_run rfl ?_)
  have hl := tx3 hw
  refine x_cons ?_
  refine x_ifs ?_
  refine t_or' ?_
  refine t_not' ?_
  (repeat (first | refine w_var rfl ?_ | refine w_cst ?_ | refine w_glob ?_ | refine w_nil ?_ | refine w_cons ?_ | refine w_bin ?_ | refine w_ix ?_ | refine w_call ?_ | refine w_blt ?_ | refine w_isi ?_ | refine w_tup ?_ | refine w_lstT ?_ | refine w_lstF ?_ | refine e_and ?_ | refine e_or ?_ | refine w_not ?_ | refine w_neg ?_ | refine w_ite ?_ | refine w_cmp ?_ | refine w_chain ?_ | refine w_slice ?_ | refine w_oN ?_ | refine w_oS ?_ | refine t_val' ?_ | refine t_cmp' ?_ | refine t_chain' ?_ | refine t_not' ?_ | refine t_and' ?_ | refine t_or' ?_ | refine ts_nil ?_ | refine ts_cons ?_ | refine x_nil ?_ | refine x_set ?_ | refine x_expr ?_ | refine x_ret ?_ | refine x_retN ?_ | refine x_ifs ?_ | refine x_setIx ?_ | refine x_unpack ?_ | refine l_add ?_ | refine l_sub ?_ | refine l_eqI ?_ | refine l_neI ?_ | refine l_eqB ?_ | refine l_neB ?_ | refine l_lt ?_ | refine l_le ?_ | refine l_gt ?_ | refine l_ge ?_ | refine ifT' rfl ?_ | refine ifF' rfl ?_ | refine ⟨_, rfl, ?_⟩ | refine ⟨rfl, ?_⟩ | refine ⟨Nat.le_of_ble_eq_true rfl, ?_⟩ | refine WC_some rfl ?_ | refine W_some rfl ?_))
  refine l_lenS hl ?_
  (repeat (first | refine w_var rfl ?_ | refine w_cst ?_ | refine w_glob ?_ | refine w_nil ?_ | refine w_cons ?_ | refine w_bin ?_ | refine w_ix ?_ | refine w_call ?_ | refine w_blt ?_ | refine w_isi ?_ | refine w_tup ?_ | refine w_lstT ?_ | refine w_lstF ?_ | refine e_and ?_ | refine e_or ?_ | refine w_not ?_ | refine w_neg ?_ | refine w_ite ?_ | refine w_cmp ?_ | refine w_chain ?_ | refine w_slice ?_ | refine w_oN ?_ | refine w_oS ?_ | refine t_val' ?_ | refine t_cmp' ?_ | refine t_chain' ?_ | refine t_not' ?_ | refine t_and' ?_ | refine t_or' ?_ | refine ts_nil ?_ | refine ts_cons ?_ | refine x_nil ?_ | refine x_set ?_ | refine x_expr ?_ | refine x_ret ?_ | refine x_retN ?_ | refine x_ifs ?_ | refine x_setIx ?_ | refine x_unpack ?_ | refine l_add ?_ | refine l_sub ?_ | refine l_eqI ?_ | refine l_neI ?_ | refine l_eqB ?_ | refine l_neB ?_ | refine l_lt ?_ | refine l_le ?_ | refine l_gt ?_ | refine l_ge ?_ | refine ifT' rfl ?_ | refine ifF' rfl ?_ | refine ⟨_, rfl, ?_⟩ | refine ⟨rfl, ?_⟩ | refine ⟨Nat.le_of_ble_eq_true rfl, ?_⟩ | refine WC_some rfl ?_ | refine W_some rfl ?_))
  refine ifB (fun h1 => ?_) (fun h1 => ?_)
  case _ =>
    (repeat (first | refine w_var rfl ?_ | refine w_cst ?_ | refine w_glob ?_ | refine w_nil ?_ | refine w_cons ?_ | refine w_bin ?_ | refine w_ix ?_ | refine w_call ?_ | refine w_blt ?_ | refine w_isi ?_ | refine w_tup ?_ | refine w_lstT ?_ | refine w_lstF ?_ | refine e_and ?_ | refine e_or ?_ | refine w_not ?_ | refine w_neg ?_ | refine w_ite ?_ | refine w_cmp ?_ | refine w_chain ?_ | refine w_slice ?_ | refine w_oN ?_ | refine w_oS ?_ | refine t_val' ?_ | refine t_cmp' ?_ | refine t_chain' ?_ | refine t_not' ?_ | refine t_and' ?_ | refine t_or' ?_ | refine ts_nil ?_ | refine ts_cons ?_ | refine x_nil ?_ | refine x_set ?_ | refine x_expr ?_ | refine x_ret ?_ | refine x_retN ?_ | refine x_ifs ?_ | refine x_setIx ?_ | refine x_unpack ?_ | refine l_add ?_ | refine l_sub ?_ | refine l_eqI ?_ | refine l_neI ?_ | refine l_eqB ?_ | refine l_neB ?_ | refine l_lt ?_ | refine l_le ?_ | refine l_gt ?_ | refine l_ge ?_ | refine ifT' rfl ?_ | refine ifF' rfl ?_ | refine ⟨_, rfl, ?_⟩ | refine ⟨rfl, ?_⟩ | refine ⟨Nat.le_of_ble_eq_true rfl, ?_⟩ | refine WC_some rfl ?_ | refine W_some rfl ?_))
    refine ifB (fun h2 => ?_) (fun h2 => ?_)
    · (repeat (first | refine w_var rfl ?_ | refine w_cst ?_ | refine w_glob ?_ | refine w_nil ?_ | refine w_cons ?_ | refine w_bin ?_ | refine w_ix ?_ | refine w_call ?_ | refine w_blt ?_ | refine w_isi ?_ | refine w_tup ?_ | refine w_lstT ?_ | refine w_lstF ?_ | refine e_and ?_ | refine e_or ?_ | refine w_not ?_ | refine w_neg ?_ | refine w_ite ?_ | refine w_cmp ?_ | refine w_chain ?_ | refine w_slice ?_ | refine w_oN ?_ | refine w_oS ?_ | refine t_val' ?_ | refine t_cmp' ?_ | refine t_chain' ?_ | refine t_not' ?_ | refine t_and' ?_ | refine t_or' ?_ | refine ts_nil ?_ | refine ts_cons ?_ | refine x_nil ?_ | refine x_cons ?_ | refine x_set ?_ | refine x_expr ?_ | refine x_ret ?_ | refine x_retN ?_ | refine x_ifs ?_ | refine x_setIx ?_ | refine x_unpack ?_ | refine l_add ?_ | refine l_sub ?_ | refine l_eqI ?_ | refine l_neI ?_ | refine l_eqB ?_ | refine l_neB ?_ | refine l_lt ?_ | refine l_le ?_ | refine l_gt ?_ | refine l_ge ?_ | refine ifT' rfl ?_ | refine ifF' rfl ?_ | refine ⟨_, rfl, ?_⟩ | refine ⟨rfl, ?_⟩ | refine ⟨Nat.le_of_ble_eq_true rfl, ?_⟩ | refine WC_some rfl ?_ | refine W_some rfl ?_))
      refine fin_same rfl hS rfl ?_
      have h2' : decide ((w.length : Int) ≤ 9) = false := by simpa using h2
      have : numO w = none := by unfold numO okN; rw [h2']; simp
      rw [this] at q
      exact q
    have h2' : decide ((w.length : Int) ≤ 9) = true := by simpa using h2
    refine t_not' ?_
    refine t_val' ?_
    refine w_blt ?_
    refine w_cons ?_
    refine signs (w := w) (g := inB DIG) hl (by (repeat (first | refine w_var rfl ?_ | refine w_cst ?_ | refine w_glob ?_ | refine w_nil ?_ | refine w_cons ?_ | refine w_bin ?_ | refine w_ix ?_ | refine w_call ?_ | refine w_blt ?_ | refine w_isi ?_ | refine w_tup ?_ | refine w_lstT ?_ | refine w_lstF ?_ | refine e_and ?_ | refine e_or ?_ | refine w_not ?_ | refine w_neg ?_ | refine w_ite ?_ | refine w_cmp ?_ | refine w_chain ?_ | refine w_slice ?_ | refine w_oN ?_ | refine w_oS ?_ | refine t_val' ?_ | refine t_cmp' ?_ | refine t_chain' ?_ | refine t_not' ?_ | refine t_and' ?_ | refine t_or' ?_ | refine ts_nil ?_ | refine ts_cons ?_ | refine x_nil ?_ | refine x_set ?_ | refine x_expr ?_ | refine x_ret ?_ | refine x_retN ?_ | refine x_ifs ?_ | refine x_setIx ?_ | refine x_unpack ?_ | refine l_add ?_ | refine l_sub ?_ | refine l_eqI ?_ | refine l_neI ?_ | refine l_eqB ?_ | refine l_neB ?_ | refine l_lt ?_ | refine l_le ?_ | refine l_gt ?_ | refine l_ge ?_ | refine ifT' rfl ?_ | refine ifF' rfl ?_ | refine ⟨_, rfl, ?_⟩ | refine ⟨rfl, ?_⟩ | refine ⟨Nat.le_of_ble_eq_true rfl, ?_⟩ | refine WC_some rfl ?_ | refine W_some rfl ?_)); exact rfl) (fun c => ⟨_, rfl, ?_⟩) ?_
    · (repeat (first | refine w_var rfl ?_ | refine w_cst ?_ | refine w_glob ?_ | refine w_nil ?_ | refine w_cons ?_ | refine w_bin ?_ | refine w_ix ?_ | refine w_call ?_ | refine w_blt ?_ | refine w_isi ?_ | refine w_tup ?_ | refine w_lstT ?_ | refine w_lstF ?_ | refine e_and ?_ | refine e_or ?_ | refine w_not ?_ | refine w_neg ?_ | refine w_ite ?_ | refine w_cmp ?_ | refine w_chain ?_ | refine w_slice ?_ | refine w_oN ?_ | refine w_oS ?_ | refine t_val' ?_ | refine t_cmp' ?_ | refine t_chain' ?_ | refine t_not' ?_ | refine t_and' ?_ | refine t_or' ?_ | refine ts_nil ?_ | refine ts_cons ?_ | refine x_nil ?_ | refine x_set ?_ | refine x_expr ?_ | refine x_ret ?_ | refine x_retN ?_ | refine x_ifs ?_ | refine x_setIx ?_ | refine x_unpack ?_ | refine l_add ?_ | refine l_sub ?_ | refine l_eqI ?_ | refine l_neI ?_ | refine l_eqB ?_ | refine l_neB ?_ | refine l_lt ?_ | refine l_le ?_ | refine l_gt ?_ | refine l_ge ?_ | refine ifT' rfl ?_ | refine ifF' rfl ?_ | refine ⟨_, rfl, ?_⟩ | refine ⟨rfl, ?_⟩ | refine ⟨Nat.le_of_ble_eq_true rfl, ?_⟩ | refine WC_some rfl ?_ | refine W_some rfl ?_))
      exact rfl
    (repeat (first | refine w_var rfl ?_ | refine w_cst ?_ | refine w_glob ?_ | refine w_nil ?_ | refine w_cons ?_ | refine w_bin ?_ | refine w_ix ?_ | refine w_call ?_ | refine w_blt ?_ | refine w_isi ?_ | refine w_tup ?_ | refine w_lstT ?_ | refine w_lstF ?_ | refine e_and ?_ | refine e_or ?_ | refine w_not ?_ | refine w_neg ?_ | refine w_ite ?_ | refine w_cmp ?_ | refine w_chain ?_ | refine w_slice ?_ | refine w_oN ?_ | refine w_oS ?_ | refine t_val' ?_ | refine t_cmp' ?_ | refine t_chain' ?_ | refine t_not' ?_ | refine t_and' ?_ | refine t_or' ?_ | refine ts_nil ?_ | refine ts_cons ?_ | refine x_nil ?_ | refine x_set ?_ | refine x_expr ?_ | refine x_ret ?_ | refine x_retN ?_ | refine x_ifs ?_ | refine x_setIx ?_ | refine x_unpack ?_ | refine l_add ?_ | refine l_sub ?_ | refine l_eqI ?_ | refine l_neI ?_ | refine l_eqB ?_ | refine l_neB ?_ | refine l_lt ?_ | refine l_le ?_ | refine l_gt ?_ | refine l_ge ?_ | refine ifT' rfl ?_ | refine ifF' rfl ?_ | refine ⟨_, rfl, ?_⟩ | refine ⟨rfl, ?_⟩ | refine ⟨Nat.le_of_ble_eq_true rfl, ?_⟩ | refine WC_some rfl ?_ | refine W_some rfl ?_))
    refine l_all ?_
    (repeat (first | refine w_var rfl ?_ | refine w_cst ?_ | refine w_glob ?_ | refine w_nil ?_ | refine w_cons ?_ | refine w_bin ?_ | refine w_ix ?_ | refine w_call ?_ | refine w_blt ?_ | refine w_isi ?_ | refine w_tup ?_ | refine w_lstT ?_ | refine w_lstF ?_ | refine e_and ?_ | refine e_or ?_ | refine w_not ?_ | refine w_neg ?_ | refine w_ite ?_ | refine w_cmp ?_ | refine w_chain ?_ | refine w_slice ?_ | refine w_oN ?_ | refine w_oS ?_ | refine t_val' ?_ | refine t_cmp' ?_ | refine t_chain' ?_ | refine t_not' ?_ | refine t_and' ?_ | refine t_or' ?_ | refine ts_nil ?_ | refine ts_cons ?_ | refine x_nil ?_ | refine x_set ?_ | refine x_expr ?_ | refine x_ret ?_ | refine x_retN ?_ | refine x_ifs ?_ | refine x_setIx ?_ | refine x_unpack ?_ | refine l_add ?_ | refine l_sub ?_ | refine l_eqI ?_ | refine l_neI ?_ | refine l_eqB ?_ | refine l_neB ?_ | refine l_lt ?_ | refine l_le ?_ | refine l_gt ?_ | refine l_ge ?_ | refine ifT' rfl ?_ | refine ifF' rfl ?_ | refine ⟨_, rfl, ?_⟩ | refine ⟨rfl, ?_⟩ | refine ⟨Nat.le_of_ble_eq_true rfl, ?_⟩ | refine WC_some rfl ?_ | refine W_some rfl ?_))
    refine ifB (fun h3 => ?_) (fun h3 => ?_)
    · (repeat (first | refine w_var rfl ?_ | refine w_cst ?_ | refine w_glob ?_ | refine w_nil ?_ | refine w_cons ?_ | refine w_bin ?_ | refine w_ix ?_ | refine w_call ?_ | refine w_blt ?_ | refine w_isi ?_ | refine w_tup ?_ | refine w_lstT ?_ | refine w_lstF ?_ | refine e_and ?_ | refine e_or ?_ | refine w_not ?_ | refine w_neg ?_ | refine w_ite ?_ | refine w_cmp ?_ | refine w_chain ?_ | refine w_slice ?_ | refine w_oN ?_ | refine w_oS ?_ | refine t_val' ?_ | refine t_cmp' ?_ | refine t_chain' ?_ | refine t_not' ?_ | refine t_and' ?_ | refine t_or' ?_ | refine ts_nil ?_ | refine ts_cons ?_ | refine x_nil ?_ | refine x_cons ?_ | refine x_set ?_ | refine x_expr ?_ | refine x_ret ?_ | refine x_retN ?_ | refine x_ifs ?_ | refine x_setIx ?_ | refine x_unpack ?_ | refine l_add ?_ | refine l_sub ?_ | refine l_eqI ?_ | refine l_neI ?_ | refine l_eqB ?_ | refine l_neB ?_ | refine l_lt ?_ | refine l_le ?_ | refine l_gt ?_ | refine l_ge ?_ | refine ifT' rfl ?_ | refine ifF' rfl ?_ | refine ⟨_, rfl, ?_⟩ | refine ⟨rfl, ?_⟩ | refine ⟨Nat.le_of_ble_eq_true rfl, ?_⟩ | refine WC_some rfl ?_ | refine W_some rfl ?_))
      refine fin_same rfl hS rfl ?_
      have h3' : (w.cps.toList.all (inB DIG)) = false := by simpa using h3
      have : numO w = none := by unfold numO okN; rw [h3']; simp
      rw [this] at q
      exact q
    have h3' : (w.cps.toList.all (inB DIG)) = true := by simpa using h3
    have hi := int_ok h1 h2' h3'
    have h640 : w.length ≤ 640 := by
      have := of_decide_eq_true h2'
      omega
    obtain ⟨c, cs, hc⟩ : ∃ c cs, w.cps.toList = c :: cs := by
      rcases head_cases w with e | e
      · subst e; exact absurd h1 (by decide)
      · exact e
    refine x_nil ?_
    refine x_cons ?_
    refine x_ret ?_
    refine w_ite ?_
    refine t_or' ?_
    (repeat (first | refine w_var rfl ?_ | refine w_cst ?_ | refine w_glob ?_ | refine w_nil ?_ | refine w_cons ?_ | refine w_bin ?_ | refine w_ix ?_ | refine w_call ?_ | refine w_blt ?_ | refine w_isi ?_ | refine w_tup ?_ | refine w_lstT ?_ | refine w_lstF ?_ | refine e_and ?_ | refine e_or ?_ | refine w_not ?_ | refine w_neg ?_ | refine w_ite ?_ | refine w_cmp ?_ | refine w_chain ?_ | refine w_slice ?_ | refine w_oN ?_ | refine w_oS ?_ | refine t_val' ?_ | refine t_cmp' ?_ | refine t_chain' ?_ | refine t_not' ?_ | refine t_and' ?_ | refine t_or' ?_ | refine ts_nil ?_ | refine ts_cons ?_ | refine x_nil ?_ | refine x_set ?_ | refine x_expr ?_ | refine x_ret ?_ | refine x_retN ?_ | refine x_ifs ?_ | refine x_setIx ?_ | refine x_unpack ?_ | refine l_add ?_ | refine l_sub ?_ | refine l_eqI ?_ | refine l_neI ?_ | refine l_eqB ?_ | refine l_neB ?_ | refine l_lt ?_ | refine l_le ?_ | refine l_gt ?_ | refine l_ge ?_ | refine ifT' rfl ?_ | refine ifF' rfl ?_ | refine ⟨_, rfl, ?_⟩ | refine ⟨rfl, ?_⟩ | refine ⟨Nat.le_of_ble_eq_true rfl, ?_⟩ | refine WC_some rfl ?_ | refine W_some rfl ?_))
    refine l_eqS (tx1 hw) (by decide +kernel) ?_
    refine ifB (fun h4 => ?_) (fun h4 => ?_)
    · (repeat (first | refine w_var rfl ?_ | refine w_cst ?_ | refine w_glob ?_ | refine w_nil ?_ | refine w_cons ?_ | refine w_bin ?_ | refine w_ix ?_ | refine w_call ?_ | refine w_blt ?_ | refine w_isi ?_ | refine w_tup ?_ | refine w_lstT ?_ | refine w_lstF ?_ | refine e_and ?_ | refine e_or ?_ | refine w_not ?_ | refine w_neg ?_ | refine w_ite ?_ | refine w_cmp ?_ | refine w_chain ?_ | refine w_slice ?_ | refine w_oN ?_ | refine w_oS ?_ | refine t_val' ?_ | refine t_cmp' ?_ | refine t_chain' ?_ | refine t_not' ?_ | refine t_and' ?_ | refine t_or' ?_ | refine ts_nil ?_ | refine ts_cons ?_ | refine x_nil ?_ | refine x_set ?_ | refine x_expr ?_ | refine x_ret ?_ | refine x_retN ?_ | refine x_ifs ?_ | refine x_setIx ?_ | refine x_unpack ?_ | refine l_add ?_ | refine l_sub ?_ | refine l_eqI ?_ | refine l_neI ?_ | refine l_eqB ?_ | refine l_neB ?_ | refine l_lt ?_ | refine l_le ?_ | refine l_gt ?_ | refine l_ge ?_ | refine ifT' rfl ?_ | refine ifF' rfl ?_ | refine ⟨_, rfl, ?_⟩ | refine ⟨rfl, ?_⟩ | refine ⟨Nat.le_of_ble_eq_true rfl, ?_⟩ | refine WC_some rfl ?_ | refine W_some rfl ?_))
      refine l_intS h640 hi ?_
      refine fin_same rfl hS rfl ?_
      have : numO w = some (valN w) := by unfold numO okN; rw [h1, h2', h3', h4]; rfl
      rw [this] at q
      exact q
    (repeat (first | refine w_var rfl ?_ | refine w_cst ?_ | refine w_glob ?_ | refine w_nil ?_ | refine w_cons ?_ | refine w_bin ?_ | refine w_ix ?_ | refine w_call ?_ | refine w_blt ?_ | refine w_isi ?_ | refine w_tup ?_ | refine w_lstT ?_ | refine w_lstF ?_ | refine e_and ?_ | refine e_or ?_ | refine w_not ?_ | refine w_neg ?_ | refine w_ite ?_ | refine w_cmp ?_ | refine w_chain ?_ | refine w_slice ?_ | refine w_oN ?_ | refine w_oS ?_ | refine t_val' ?_ | refine t_cmp' ?_ | refine t_chain' ?_ | refine t_not' ?_ | refine t_and' ?_ | refine t_or' ?_ | refine ts_nil ?_ | refine ts_cons ?_ | refine x_nil ?_ | refine x_set ?_ | refine x_expr ?_ | refine x_ret ?_ | refine x_retN ?_ | refine x_ifs ?_ | refine x_setIx ?_ | refine x_unpack ?_ | refine l_add ?_ | refine l_sub ?_ | refine l_eqI ?_ | refine l_neI ?_ | refine l_eqB ?_ | refine l_neB ?_ | refine l_lt ?_ | refine l_le ?_ | refine l_gt ?_ | refine l_ge ?_ | refine ifT' rfl ?_ | refine ifF' rfl ?_ | refine ⟨_, rfl, ?_⟩ | refine ⟨rfl, ?_⟩ | refine ⟨Nat.le_of_ble_eq_true rfl, ?_⟩ | refine WC_some rfl ?_ | refine W_some rfl ?_))
    refine l_ixS (i := 0) (c := c) hl (by rw [hc]; rfl) ?_
    (repeat (first | refine w_var rfl ?_ | refine w_cst ?_ | refine w_glob ?_ | refine w_nil ?_ | refine w_cons ?_ | refine w_bin ?_ | refine w_ix ?_ | refine w_call ?_ | refine w_blt ?_ | refine w_isi ?_ | refine w_tup ?_ | refine w_lstT ?_ | refine w_lstF ?_ | refine e_and ?_ | refine e_or ?_ | refine w_not ?_ | refine w_neg ?_ | refine w_ite ?_ | refine w_cmp ?_ | refine w_chain ?_ | refine w_slice ?_ | refine w_oN ?_ | refine w_oS ?_ | refine t_val' ?_ | refine t_cmp' ?_ | refine t_chain' ?_ | refine t_not' ?_ | refine t_and' ?_ | refine t_or' ?_ | refine ts_nil ?_ | refine ts_cons ?_ | refine x_nil ?_ | refine x_set ?_ | refine x_expr ?_ | refine x_ret ?_ | refine x_retN ?_ | refine x_ifs ?_ | refine x_setIx ?_ | refine x_unpack ?_ | refine l_add ?_ | refine l_sub ?_ | refine l_eqI ?_ | refine l_neI ?_ | refine l_eqB ?_ | refine l_neB ?_ | refine l_lt ?_ | refine l_le ?_ | refine l_gt ?_ | refine l_ge ?_ | refine ifT' rfl ?_ | refine ifF' rfl ?_ | refine ⟨_, rfl, ?_⟩ | refine ⟨rfl, ?_⟩ | refine ⟨Nat.le_of_ble_eq_true rfl, ?_⟩ | refine WC_some rfl ?_ | refine W_some rfl ?_))
    refine l_neS (one_sign (tx1 hw) (by rw [hc]; exact List.mem_cons_self)) (by decide +kernel) ?_
    refine ifB (fun h5 => ?_) (fun h5 => ?_)
    · (repeat (first | refine w_var rfl ?_ | refine w_cst ?_ | refine w_glob ?_ | refine w_nil ?_ | refine w_cons ?_ | refine w_bin ?_ | refine w_ix ?_ | refine w_call ?_ | refine w_blt ?_ | refine w_isi ?_ | refine w_tup ?_ | refine w_lstT ?_ | refine w_lstF ?_ | refine e_and ?_ | refine e_or ?_ | refine w_not ?_ | refine w_neg ?_ | refine w_ite ?_ | refine w_cmp ?_ | refine w_chain ?_ | refine w_slice ?_ | refine w_oN ?_ | refine w_oS ?_ | refine t_val' ?_ | refine t_cmp' ?_ | refine t_chain' ?_ | refine t_not' ?_ | refine t_and' ?_ | refine t_or' ?_ | refine ts_nil ?_ | refine ts_cons ?_ | refine x_nil ?_ | refine x_set ?_ | refine x_expr ?_ | refine x_ret ?_ | refine x_retN ?_ | refine x_ifs ?_ | refine x_setIx ?_ | refine x_unpack ?_ | refine l_add ?_ | refine l_sub ?_ | refine l_eqI ?_ | refine l_neI ?_ | refine l_eqB ?_ | refine l_neB ?_ | refine l_lt ?_ | refine l_le ?_ | refine l_gt ?_ | refine l_ge ?_ | refine ifT' rfl ?_ | refine ifF' rfl ?_ | refine ⟨_, rfl, ?_⟩ | refine ⟨rfl, ?_⟩ | refine ⟨Nat.le_of_ble_eq_true rfl, ?_⟩ | refine WC_some rfl ?_ | refine W_some rfl ?_))
      refine l_intS h640 hi ?_
      refine fin_same rfl hS rfl ?_
      have : numO w = some (valN w) := by unfold numO okN; rw [h1, h2', h3', h4, eq0_head hc, h5]; rfl
      rw [this] at q
      exact q
    · (repeat (first | refine w_var rfl ?_ | refine w_cst ?_ | refine w_glob ?_ | refine w_nil ?_ | refine w_cons ?_ | refine w_bin ?_ | refine w_ix ?_ | refine w_call ?_ | refine w_blt ?_ | refine w_isi ?_ | refine w_tup ?_ | refine w_lstT ?_ | refine w_lstF ?_ | refine e_and ?_ | refine e_or ?_ | refine w_not ?_ | refine w_neg ?_ | refine w_ite ?_ | refine w_cmp ?_ | refine w_chain ?_ | refine w_slice ?_ | refine w_oN ?_ | refine w_oS ?_ | refine t_val' ?_ | refine t_cmp' ?_ | refine t_chain' ?_ | refine t_not' ?_ | refine t_and' ?_ | refine t_or' ?_ | refine ts_nil ?_ | refine ts_cons ?_ | refine x_nil ?_ | refine x_set ?_ | refine x_expr ?_ | refine x_ret ?_ | refine x_retN ?_ | refine x_ifs ?_ | refine x_setIx ?_ | refine x_unpack ?_ | refine l_add ?_ | refine l_sub ?_ | refine l_eqI ?_ | refine l_neI ?_ | refine l_eqB ?_ | refine l_neB ?_ | refine l_lt ?_ | refine l_le ?_ | refine l_gt ?_ | refine l_ge ?_ | refine ifT' rfl ?_ | refine ifF' rfl ?_ | refine ⟨_, rfl, ?_⟩ | refine ⟨rfl, ?_⟩ | refine ⟨Nat.le_of_ble_eq_true rfl, ?_⟩ | refine WC_some rfl ?_ | refine W_some rfl ?_))
      refine fin_same rfl hS rfl ?_
      have : numO w = none := by unfold numO okN; rw [h1, h2', h3', h4, eq0_head hc, h5]; rfl
      rw [this] at q
      exact q
  case _ =>
    (repeat (first | refine w_var rfl ?_ | refine w_cst ?_ | refine w_glob ?_ | refine w_nil ?_ | refine w_cons ?_ | refine w_bin ?_ | refine w_ix ?_ | refine w_call ?_ | refine w_blt ?_ | refine w_isi ?_ | refine w_tup ?_ | refine w_lstT ?_ | refine w_lstF ?_ | refine e_and ?_ | refine e_or ?_ | refine w_not ?_ | refine w_neg ?_ | refine w_ite ?_ | refine w_cmp ?_ | refine w_chain ?_ | refine w_slice ?_ | refine w_oN ?_ | refine w_oS ?_ | refine t_val' ?_ | refine t_cmp' ?_ | refine t_chain' ?_ | refine t_not' ?_ | refine t_and' ?_ | refine t_or' ?_ | refine ts_nil ?_ | refine ts_cons ?_ | refine x_nil ?_ | refine x_cons ?_ | refine x_set ?_ | refine x_expr ?_ | refine x_ret ?_ | refine x_retN ?_ | refine x_ifs ?_ | refine x_setIx ?_ | refine x_unpack ?_ | refine l_add ?_ | refine l_sub ?_ | refine l_eqI ?_ | refine l_neI ?_ | refine l_eqB ?_ | refine l_neB ?_ | refine l_lt ?_ | refine l_le ?_ | refine l_gt ?_ | refine l_ge ?_ | refine ifT' rfl ?_ | refine ifF' rfl ?_ | refine ⟨_, rfl, ?_⟩ | refine ⟨rfl, ?_⟩ | refine ⟨Nat.le_of_ble_eq_true rfl, ?_⟩ | refine WC_some rfl ?_ | refine W_some rfl ?_))
    refine fin_same rfl hS rfl ?_
    have : numO w = none := by unfold numO okN; rw [h1]; simp
    rw [this] at q
    exact q
theorem need_number {k : Nat} {w : Str} {z : Int} {S : Sto} {Q : Rz → Sto → Prop} (hw : tx w = true) (hS : S.all puO = true) (q : Q (match numO w with | some i => .ok (.int i) | none => .er z) S) : W (calls pg (k + 2) 10 [.str w, .int z] S) Q := by
  have e : calls pg (k + 2) 10 [.str w, .int z] S = Tt.run (calls pg (k + 1)) d10.df [.str w, .int z] S := rfl
  rw [e]
  refine w_runX rfl ?_
  (repeat (first | refine w_var rfl ?_ | refine w_cst ?_ | refine w_glob ?_ | refine w_nil ?_ | refine w_cons ?_ | refine w_bin ?_ | refine w_ix ?_ | refine w_call ?_ | refine w_blt ?_ | refine w_isi ?_ | refine w_tup ?_ | refine w_lstT ?_ | refine w_lstF ?_ | refine e_and ?_ | refine e_or ?_ | refine w_not ?_ | refine w_neg ?_ | refine w_ite ?_ | refine w_cmp ?_ | refine w_chain ?_ | refine w_slice ?_ | refine w_oN ?_ | refine w_oS ?_ | refine t_val' ?_ | refine t_cmp' ?_ | refine t_chain' ?_ | refine t_not' ?_ | refine t_and' ?_ | refine t_or' ?_ | refine ts_nil ?_ | refine ts_cons ?_ | refine x_nil ?_ | refine x_cons ?_ | refine x_set ?_ | refine x_expr ?_ | refine x_ret ?_ | refine x_retN ?_ | refine x_ifs ?_ | refine x_setIx ?_ | refine x_unpack ?_ | refine l_add ?_ | refine l_sub ?_ | refine l_eqI ?_ | refine l_neI ?_ | refine l_eqB ?_ | refine l_neB ?_ | refine l_lt ?_ | refine l_le ?_ | refine l_gt ?_ | refine l_ge ?_ | refine ifT' rfl ?_ | refine ifF' rfl ?_ | refine ⟨_, rfl, ?_⟩ | refine ⟨rfl, ?_⟩ | refine ⟨Nat.le_of_ble_eq_true rfl, ?_⟩ | refine WC_some rfl ?_ | refine W_some rfl ?_))
  refine number_of hw hS ?_
  cases hn : numO w with
  | none =>
    rw [hn] at q
    (repeat (first | refine w_var rfl ?_ | refine w_cst ?_ | refine w_glob ?_ | refine w_nil ?_ | refine w_cons ?_ | refine w_bin ?_ | refine w_ix ?_ | refine w_call ?_ | refine w_blt ?_ | refine w_isi ?_ | refine w_tup ?_ | refine w_lstT ?_ | refine w_lstF ?_ | refine e_and ?_ | refine e_or ?_ | refine w_not ?_ | refine w_neg ?_ | refine w_ite ?_ | refine w_cmp ?_ | refine w_chain ?_ | refine w_slice ?_ | refine w_oN ?_ | refine w_oS ?_ | refine t_val' ?_ | refine t_cmp' ?_ | refine t_chain' ?_ | refine t_not' ?_ | refine t_and' ?_ | refine t_or' ?_ | refine ts_nil ?_ | refine ts_cons ?_ | refine x_nil ?_ | refine x_cons ?_ | refine x_set ?_ | refine x_expr ?_ | refine x_ret ?_ | refine x_retN ?_ | refine x_ifs ?_ | refine x_setIx ?_ | refine x_unpack ?_ | refine l_add ?_ | refine l_sub ?_ | refine l_eqI ?_ | refine l_neI ?_ | refine l_eqB ?_ | refine l_neB ?_ | refine l_lt ?_ | refine l_le ?_ | refine l_gt ?_ | refine l_ge ?_ | refine ifT' rfl ?_ | refine ifF' rfl ?_ | refine ⟨_, rfl, ?_⟩ | refine ⟨rfl, ?_⟩ | refine ⟨Nat.le_of_ble_eq_true rfl, ?_⟩ | refine WC_some rfl ?_ | refine W_some rfl ?_))
    refine x_raise ?_
    refine w_var rfl ?_
    refine ⟨_, rfl, ?_⟩
    refine finX_pure rfl (by rw [List.take_length]; exact hS) ?_
    rw [List.take_length]
    exact q
  | some i =>
    rw [hn] at q
    (repeat (first | refine w_var rfl ?_ | refine w_cst ?_ | refine w_glob ?_ | refine w_nil ?_ | refine w_cons ?_ | refine w_bin ?_ | refine w_ix ?_ | refine w_call ?_ | refine w_blt ?_ | refine w_isi ?_ | refine w_tup ?_ | refine w_lstT ?_ | refine w_lstF ?_ | refine e_and ?_ | refine e_or ?_ | refine w_not ?_ | refine w_neg ?_ | refine w_ite ?_ | refine w_cmp ?_ | refine w_chain ?_ | refine w_slice ?_ | refine w_oN ?_ | refine w_oS ?_ | refine t_val' ?_ | refine t_cmp' ?_ | refine t_chain' ?_ | refine t_not' ?_ | refine t_and' ?_ | refine t_or' ?_ | refine ts_nil ?_ | refine ts_cons ?_ | refine x_nil ?_ | refine x_cons ?_ | refine x_set ?_ | refine x_expr ?_ | refine x_ret ?_ | refine x_retN ?_ | refine x_ifs ?_ | refine x_setIx ?_ | refine x_unpack ?_ | refine l_add ?_ | refine l_sub ?_ | refine l_eqI ?_ | refine l_neI ?_ | refine l_eqB ?_ | refine l_neB ?_ | refine l_lt ?_ | refine l_le ?_ | refine l_gt ?_ | refine l_ge ?_ | refine ifT' rfl ?_ | refine ifF' rfl ?_ | refine ⟨_, rfl, ?_⟩ | refine ⟨rfl, ?_⟩ | refine ⟨Nat.le_of_ble_eq_true rfl, ?_⟩ | refine WC_some rfl ?_ | refine W_some rfl ?_))
    refine fin_same rfl hS rfl ?_
    exact q
/-- .. by the law -/
theorem in_chars {c : Nat} : L2.inV (toV (.str ⟨#[c]⟩)) ((chars ("0123456789" : Str)).map toV) = inB DIG c := by
  unfold L2.inV chars
  have e : ("0123456789" : Str).cps.toList = [48, 49, 50, 51, 52, 53, 54, 55, 56, 57] := by decide +kernel
  have e2 : DIG = [48, 49, 50, 51, 52, 53, 54, 55, 56, 57] := by decide +kernel
  have key : ∀ l : List Nat, ((l.map fun c => D.str ⟨#[c]⟩).map toV).any (fun y => L2.eqV y (toV (.str ⟨#[c]⟩))) = decide (c ∈ l) := by
    intro l
    induction l with
    | nil => rfl
    | cons a r ih =>
      rw [List.map_cons, List.map_cons, List.any_cons, ih]
      have : L2.eqV (toV (.str ⟨#[a]⟩)) (toV (.str ⟨#[c]⟩)) = decide (c = a) := by
        show ((⟨#[a]⟩ : Str) == ⟨#[c]⟩) = _
        by_cases h : c = a
        · subst h; simp
        · rw [decide_eq_false h]
          apply beq_eq_false_iff_ne.mpr
          intro e
          have := congrArg (fun s : Str => s.cps.toList) e
          simp at this
          exact h this.symm
      rw [this]
      simp only [List.mem_cons, Bool.decide_or]
  rw [e, key]
  unfold inB
  rw [e2]
theorem numL {k : Nat} {w : Str} {S : Sto} {Q : D → Sto → Prop} (hw : tx w = true) (hS : S.all puO = true) (q : Q (optL (numO w)) S) : WO (calls pg (k + 1) 26 [.str w] S) Q := by
  refine call_run (di := d26) rfl (w_run rfl ?_)
  have hl := tx3 hw
  refine x_cons ?_
  refine x_ifs ?_
  refine t_or' ?_
  refine t_not' ?_
  (repeat (first | refine w_var rfl ?_ | refine w_cst ?_ | refine w_glob ?_ | refine w_nil ?_ | refine w_cons ?_ | refine w_bin ?_ | refine w_ix ?_ | refine w_call ?_ | refine w_blt ?_ | refine w_isi ?_ | refine w_tup ?_ | refine w_lstT ?_ | refine w_lstF ?_ | refine e_and ?_ | refine e_or ?_ | refine w_not ?_ | refine w_neg ?_ | refine w_ite ?_ | refine w_cmp ?_ | refine w_chain ?_ | refine w_slice ?_ | refine w_oN ?_ | refine w_oS ?_ | refine t_val' ?_ | refine t_cmp' ?_ | refine t_chain' ?_ | refine t_not' ?_ | refine t_and' ?_ | refine t_or' ?_ | refine ts_nil ?_ | refine ts_cons ?_ | refine x_nil ?_ | refine x_set ?_ | refine x_expr ?_ | refine x_ret ?_ | refine x_retN ?_ | refine x_ifs ?_ | refine x_setIx ?_ | refine x_unpack ?_ | refine l_add ?_ | refine l_sub ?_ | refine l_eqI ?_ | refine l_neI ?_ | refine l_eqB ?_ | refine l_neB ?_ | refine l_lt ?_ | refine l_le ?_ | refine l_gt ?_ | refine l_ge ?_ | refine ifT' rfl ?_ | refine ifF' rfl ?_ | refine ⟨_, rfl, ?_⟩ | refine ⟨rfl, ?_⟩ | refine ⟨Nat.le_of_ble_eq_true rfl, ?_⟩ | refine WC_some rfl ?_ | refine W_some rfl ?_))
  refine l_lenS hl ?_
  (repeat (first | refine w_var rfl ?_ | refine w_cst ?_ | refine w_glob ?_ | refine w_nil ?_ | refine w_cons ?_ | refine w_bin ?_ | refine w_ix ?_ | refine w_call ?_ | refine w_blt ?_ | refine w_isi ?_ | refine w_tup ?_ | refine w_lstT ?_ | refine w_lstF ?_ | refine e_and ?_ | refine e_or ?_ | refine w_not ?_ | refine w_neg ?_ | refine w_ite ?_ | refine w_cmp ?_ | refine w_chain ?_ | refine w_slice ?_ | refine w_oN ?_ | refine w_oS ?_ | refine t_val' ?_ | refine t_cmp' ?_ | refine t_chain' ?_ | refine t_not' ?_ | refine t_and' ?_ | refine t_or' ?_ | refine ts_nil ?_ | refine ts_cons ?_ | refine x_nil ?_ | refine x_set ?_ | refine x_expr ?_ | refine x_ret ?_ | refine x_retN ?_ | refine x_ifs ?_ | refine x_setIx ?_ | refine x_unpack ?_ | refine l_add ?_ | refine l_sub ?_ | refine l_eqI ?_ | refine l_neI ?_ | refine l_eqB ?_ | refine l_neB ?_ | refine l_lt ?_ | refine l_le ?_ | refine l_gt ?_ | refine l_ge ?_ | refine ifT' rfl ?_ | refine ifF' rfl ?_ | refine ⟨_, rfl, ?_⟩ | refine ⟨rfl, ?_⟩ | refine ⟨Nat.le_of_ble_eq_true rfl, ?_⟩ | refine WC_some rfl ?_ | refine W_some rfl ?_))
  refine ifB (fun h1 => ?_) (fun h1 => ?_)
  case _ =>
    (repeat (first | refine w_var rfl ?_ | refine w_cst ?_ | refine w_glob ?_ | refine w_nil ?_ | refine w_cons ?_ | refine w_bin ?_ | refine w_ix ?_ | refine w_call ?_ | refine w_blt ?_ | refine w_isi ?_ | refine w_tup ?_ | refine w_lstT ?_ | refine w_lstF ?_ | refine e_and ?_ | refine e_or ?_ | refine w_not ?_ | refine w_neg ?_ | refine w_ite ?_ | refine w_cmp ?_ | refine w_chain ?_ | refine w_slice ?_ | refine w_oN ?_ | refine w_oS ?_ | refine t_val' ?_ | refine t_cmp' ?_ | refine t_chain' ?_ | refine t_not' ?_ | refine t_and' ?_ | refine t_or' ?_ | refine ts_nil ?_ | refine ts_cons ?_ | refine x_nil ?_ | refine x_set ?_ | refine x_expr ?_ | refine x_ret ?_ | refine x_retN ?_ | refine x_ifs ?_ | refine x_setIx ?_ | refine x_unpack ?_ | refine l_add ?_ | refine l_sub ?_ | refine l_eqI ?_ | refine l_neI ?_ | refine l_eqB ?_ | refine l_neB ?_ | refine l_lt ?_ | refine l_le ?_ | refine l_gt ?_ | refine l_ge ?_ | refine ifT' rfl ?_ | refine ifF' rfl ?_ | refine ⟨_, rfl, ?_⟩ | refine ⟨rfl, ?_⟩ | refine ⟨Nat.le_of_ble_eq_true rfl, ?_⟩ | refine WC_some rfl ?_ | refine W_some rfl ?_))
    refine ifB (fun h2 => ?_) (fun h2 => ?_)
    · (repeat (first | refine w_var rfl ?_ | refine w_cst ?_ | refine w_glob ?_ | refine w_nil ?_ | refine w_cons ?_ | refine w_bin ?_ | refine w_ix ?_ | refine w_call ?_ | refine w_blt ?_ | refine w_isi ?_ | refine w_tup ?_ | refine w_lstT ?_ | refine w_lstF ?_ | refine e_and ?_ | refine e_or ?_ | refine w_not ?_ | refine w_neg ?_ | refine w_ite ?_ | refine w_cmp ?_ | refine w_chain ?_ | refine w_slice ?_ | refine w_oN ?_ | refine w_oS ?_ | refine t_val' ?_ | refine t_cmp' ?_ | refine t_chain' ?_ | refine t_not' ?_ | refine t_and' ?_ | refine t_or' ?_ | refine ts_nil ?_ | refine ts_cons ?_ | refine x_nil ?_ | refine x_cons ?_ | refine x_set ?_ | refine x_expr ?_ | refine x_ret ?_ | refine x_retN ?_ | refine x_ifs ?_ | refine x_setIx ?_ | refine x_unpack ?_ | refine l_add ?_ | refine l_sub ?_ | refine l_eqI ?_ | refine l_neI ?_ | refine l_eqB ?_ | refine l_neB ?_ | refine l_lt ?_ | refine l_le ?_ | refine l_gt ?_ | refine l_ge ?_ | refine ifT' rfl ?_ | refine ifF' rfl ?_ | refine ⟨_, rfl, ?_⟩ | refine ⟨rfl, ?_⟩ | refine ⟨Nat.le_of_ble_eq_true rfl, ?_⟩ | refine WC_some rfl ?_ | refine W_some rfl ?_))
      refine fin_same rfl hS rfl ?_
      have h2' : decide ((w.length : Int) ≤ 9) = false := by simpa using h2
      have : numO w = none := by unfold numO okN; rw [h2']; simp
      rw [this] at q
      exact q
    have h2' : decide ((w.length : Int) ≤ 9) = true := by simpa using h2
    refine t_not' ?_
    refine t_val' ?_
    refine w_blt ?_
    refine w_cons ?_
    refine signs (w := w) (g := inB DIG) hl (by (repeat (first | refine w_var rfl ?_ | refine w_cst ?_ | refine w_glob ?_ | refine w_nil ?_ | refine w_cons ?_ | refine w_bin ?_ | refine w_ix ?_ | refine w_call ?_ | refine w_blt ?_ | refine w_isi ?_ | refine w_tup ?_ | refine w_lstT ?_ | refine w_lstF ?_ | refine e_and ?_ | refine e_or ?_ | refine w_not ?_ | refine w_neg ?_ | refine w_ite ?_ | refine w_cmp ?_ | refine w_chain ?_ | refine w_slice ?_ | refine w_oN ?_ | refine w_oS ?_ | refine t_val' ?_ | refine t_cmp' ?_ | refine t_chain' ?_ | refine t_not' ?_ | refine t_and' ?_ | refine t_or' ?_ | refine ts_nil ?_ | refine ts_cons ?_ | refine x_nil ?_ | refine x_set ?_ | refine x_expr ?_ | refine x_ret ?_ | refine x_retN ?_ | refine x_ifs ?_ | refine x_setIx ?_ | refine x_unpack ?_ | refine l_add ?_ | refine l_sub ?_ | refine l_eqI ?_ | refine l_neI ?_ | refine l_eqB ?_ | refine l_neB ?_ | refine l_lt ?_ | refine l_le ?_ | refine l_gt ?_ | refine l_ge ?_ | refine ifT' rfl ?_ | refine ifF' rfl ?_ | refine ⟨_, rfl, ?_⟩ | refine ⟨rfl, ?_⟩ | refine ⟨Nat.le_of_ble_eq_true rfl, ?_⟩ | refine WC_some rfl ?_ | refine W_some rfl ?_)); exact rfl) (fun c => ⟨_, rfl, ?_⟩) ?_
    · refine w_cmp ?_
      refine w_var rfl ?_
      refine w_blt ?_
      refine w_cons ?_
      refine w_cst ?_
      refine w_nil ?_
      refine W_some (d := .lst (chars "0123456789")) (S := S) rfl ?_
      refine ⟨_, rfl, ?_⟩
      exact ⟨congrArg D.bl in_chars, rfl⟩
    (repeat (first | refine w_var rfl ?_ | refine w_cst ?_ | refine w_glob ?_ | refine w_nil ?_ | refine w_cons ?_ | refine w_bin ?_ | refine w_ix ?_ | refine w_call ?_ | refine w_blt ?_ | refine w_isi ?_ | refine w_tup ?_ | refine w_lstT ?_ | refine w_lstF ?_ | refine e_and ?_ | refine e_or ?_ | refine w_not ?_ | refine w_neg ?_ | refine w_ite ?_ | refine w_cmp ?_ | refine w_chain ?_ | refine w_slice ?_ | refine w_oN ?_ | refine w_oS ?_ | refine t_val' ?_ | refine t_cmp' ?_ | refine t_chain' ?_ | refine t_not' ?_ | refine t_and' ?_ | refine t_or' ?_ | refine ts_nil ?_ | refine ts_cons ?_ | refine x_nil ?_ | refine x_set ?_ | refine x_expr ?_ | refine x_ret ?_ | refine x_retN ?_ | refine x_ifs ?_ | refine x_setIx ?_ | refine x_unpack ?_ | refine l_add ?_ | refine l_sub ?_ | refine l_eqI ?_ | refine l_neI ?_ | refine l_eqB ?_ | refine l_neB ?_ | refine l_lt ?_ | refine l_le ?_ | refine l_gt ?_ | refine l_ge ?_ | refine ifT' rfl ?_ | refine ifF' rfl ?_ | refine ⟨_, rfl, ?_⟩ | refine ⟨rfl, ?_⟩ | refine ⟨Nat.le_of_ble_eq_true rfl, ?_⟩ | refine WC_some rfl ?_ | refine W_some rfl ?_))
    refine l_all ?_
    (repeat (first | refine w_var rfl ?_ | refine w_cst ?_ | refine w_glob ?_ | refine w_nil ?_ | refine w_cons ?_ | refine w_bin ?_ | refine w_ix ?_ | refine w_call ?_ | refine w_blt ?_ | refine w_isi ?_ | refine w_tup ?_ | refine w_lstT ?_ | refine w_lstF ?_ | refine e_and ?_ | refine e_or ?_ | refine w_not ?_ | refine w_neg ?_ | refine w_ite ?_ | refine w_cmp ?_ | refine w_chain ?_ | refine w_slice ?_ | refine w_oN ?_ | refine w_oS ?_ | refine t_val' ?_ | refine t_cmp' ?_ | refine t_chain' ?_ | refine t_not' ?_ | refine t_and' ?_ | refine t_or' ?_ | refine ts_nil ?_ | refine ts_cons ?_ | refine x_nil ?_ | refine x_set ?_ | refine x_expr ?_ | refine x_ret ?_ | refine x_retN ?_ | refine x_ifs ?_ | refine x_setIx ?_ | refine x_unpack ?_ | refine l_add ?_ | refine l_sub ?_ | refine l_eqI ?_ | refine l_neI ?_ | refine l_eqB ?_ | refine l_neB ?_ | refine l_lt ?_ | refine l_le ?_ | refine l_gt ?_ | refine l_ge ?_ | refine ifT' rfl ?_ | refine ifF' rfl ?_ | refine ⟨_, rfl, ?_⟩ | refine ⟨rfl, ?_⟩ | refine ⟨Nat.le_of_ble_eq_true rfl, ?_⟩ | refine WC_some rfl ?_ | refine W_some rfl ?_))
    refine ifB (fun h3 => ?_) (fun h3 => ?_)
    · (repeat (first | refine w_var rfl ?_ | refine w_cst ?_ | refine w_glob ?_ | refine w_nil ?_ | refine w_cons ?_ | refine w_bin ?_ | refine w_ix ?_ | refine w_call ?_ | refine w_blt ?_ | refine w_isi ?_ | refine w_tup ?_ | refine w_lstT ?_ | refine w_lstF ?_ | refine e_and ?_ | refine e_or ?_ | refine w_not ?_ | refine w_neg ?_ | refine w_ite ?_ | refine w_cmp ?_ | refine w_chain ?_ | refine w_slice ?_ | refine w_oN ?_ | refine w_oS ?_ | refine t_val' ?_ | refine t_cmp' ?_ | refine t_chain' ?_ | refine t_not' ?_ | refine t_and' ?_ | refine t_or' ?_ | refine ts_nil ?_ | refine ts_cons ?_ | refine x_nil ?_ | refine x_cons ?_ | refine x_set ?_ | refine x_expr ?_ | refine x_ret ?_ | refine x_retN ?_ | refine x_ifs ?_ | refine x_setIx ?_ | refine x_unpack ?_ | refine l_add ?_ | refine l_sub ?_ | refine l_eqI ?_ | refine l_neI ?_ | refine l_eqB ?_ | refine l_neB ?_ | refine l_lt ?_ | refine l_le ?_ | refine l_gt ?_ | refine l_ge ?_ | refine ifT' rfl ?_ | refine ifF' rfl ?_ | refine ⟨_, rfl, ?_⟩ | refine ⟨rfl, ?_⟩ | refine ⟨Nat.le_of_ble_eq_true rfl, ?_⟩ | refine WC_some rfl ?_ | refine W_some rfl ?_))
      refine fin_same rfl hS rfl ?_
      have h3' : (w.cps.toList.all (inB DIG)) = false := by simpa using h3
      have : numO w = none := by unfold numO okN; rw [h3']; simp
      rw [this] at q
      exact q
    have h3' : (w.cps.toList.all (inB DIG)) = true := by simpa using h3
    have hi := int_ok h1 h2' h3'
    have h640 : w.length ≤ 640 := by
      have := of_decide_eq_true h2'
      omega
    obtain ⟨c, cs, hc⟩ : ∃ c cs, w.cps.toList = c :: cs := by
      rcases head_cases w with e | e
      · subst e; exact absurd h1 (by decide)
      · exact e
    refine x_nil ?_
    refine x_cons ?_
    refine x_ret ?_
    refine w_ite ?_
    refine t_or' ?_
    (repeat (first | refine w_var rfl ?_ | refine w_cst ?_ | refine w_glob ?_ | refine w_nil ?_ | refine w_cons ?_ | refine w_bin ?_ | refine w_ix ?_ | refine w_call ?_ | refine w_blt ?_ | refine w_isi ?_ | refine w_tup ?_ | refine w_lstT ?_ | refine w_lstF ?_ | refine e_and ?_ | refine e_or ?_ | refine w_not ?_ | refine w_neg ?_ | refine w_ite ?_ | refine w_cmp ?_ | refine w_chain ?_ | refine w_slice ?_ | refine w_oN ?_ | refine w_oS ?_ | refine t_val' ?_ | refine t_cmp' ?_ | refine t_chain' ?_ | refine t_not' ?_ | refine t_and' ?_ | refine t_or' ?_ | refine ts_nil ?_ | refine ts_cons ?_ | refine x_nil ?_ | refine x_set ?_ | refine x_expr ?_ | refine x_ret ?_ | refine x_retN ?_ | refine x_ifs ?_ | refine x_setIx ?_ | refine x_unpack ?_ | refine l_add ?_ | refine l_sub ?_ | refine l_eqI ?_ | refine l_neI ?_ | refine l_eqB ?_ | refine l_neB ?_ | refine l_lt ?_ | refine l_le ?_ | refine l_gt ?_ | refine l_ge ?_ | refine ifT' rfl ?_ | refine ifF' rfl ?_ | refine ⟨_, rfl, ?_⟩ | refine ⟨rfl, ?_⟩ | refine ⟨Nat.le_of_ble_eq_true rfl, ?_⟩ | refine WC_some rfl ?_ | refine W_some rfl ?_))
    refine l_ixS (i := 0) (c := c) hl (by rw [hc]; rfl) ?_
    (repeat (first | refine w_var rfl ?_ | refine w_cst ?_ | refine w_glob ?_ | refine w_nil ?_ | refine w_cons ?_ | refine w_bin ?_ | refine w_ix ?_ | refine w_call ?_ | refine w_blt ?_ | refine w_isi ?_ | refine w_tup ?_ | refine w_lstT ?_ | refine w_lstF ?_ | refine e_and ?_ | refine e_or ?_ | refine w_not ?_ | refine w_neg ?_ | refine w_ite ?_ | refine w_cmp ?_ | refine w_chain ?_ | refine w_slice ?_ | refine w_oN ?_ | refine w_oS ?_ | refine t_val' ?_ | refine t_cmp' ?_ | refine t_chain' ?_ | refine t_not' ?_ | refine t_and' ?_ | refine t_or' ?_ | refine ts_nil ?_ | refine ts_cons ?_ | refine x_nil ?_ | refine x_set ?_ | refine x_expr ?_ | refine x_ret ?_ | refine x_retN ?_ | refine x_ifs ?_ | refine x_setIx ?_ | refine x_unpack ?_ | refine l_add ?_ | refine l_sub ?_ | refine l_eqI ?_ | refine l_neI ?_ | refine l_eqB ?_ | refine l_neB ?_ | refine l_lt ?_ | refine l_le ?_ | refine l_gt ?_ | refine l_ge ?_ | refine ifT' rfl ?_ | refine ifF' rfl ?_ | refine ⟨_, rfl, ?_⟩ | refine ⟨rfl, ?_⟩ | refine ⟨Nat.le_of_ble_eq_true rfl, ?_⟩ | refine WC_some rfl ?_ | refine W_some rfl ?_))
    refine l_neS (one_sign (tx1 hw) (by rw [hc]; exact List.mem_cons_self)) (by decide +kernel) ?_
    refine ifB (fun h4 => ?_) (fun h4 => ?_)
    · (repeat (first | refine w_var rfl ?_ | refine w_cst ?_ | refine w_glob ?_ | refine w_nil ?_ | refine w_cons ?_ | refine w_bin ?_ | refine w_ix ?_ | refine w_call ?_ | refine w_blt ?_ | refine w_isi ?_ | refine w_tup ?_ | refine w_lstT ?_ | refine w_lstF ?_ | refine e_and ?_ | refine e_or ?_ | refine w_not ?_ | refine w_neg ?_ | refine w_ite ?_ | refine w_cmp ?_ | refine w_chain ?_ | refine w_slice ?_ | refine w_oN ?_ | refine w_oS ?_ | refine t_val' ?_ | refine t_cmp' ?_ | refine t_chain' ?_ | refine t_not' ?_ | refine t_and' ?_ | refine t_or' ?_ | refine ts_nil ?_ | refine ts_cons ?_ | refine x_nil ?_ | refine x_set ?_ | refine x_expr ?_ | refine x_ret ?_ | refine x_retN ?_ | refine x_ifs ?_ | refine x_setIx ?_ | refine x_unpack ?_ | refine l_add ?_ | refine l_sub ?_ | refine l_eqI ?_ | refine l_neI ?_ | refine l_eqB ?_ | refine l_neB ?_ | refine l_lt ?_ | refine l_le ?_ | refine l_gt ?_ | refine l_ge ?_ | refine ifT' rfl ?_ | refine ifF' rfl ?_ | refine ⟨_, rfl, ?_⟩ | refine ⟨rfl, ?_⟩ | refine ⟨Nat.le_of_ble_eq_true rfl, ?_⟩ | refine WC_some rfl ?_ | refine W_some rfl ?_))
      refine l_intS h640 hi ?_
      (repeat (first | refine w_var rfl ?_ | refine w_cst ?_ | refine w_glob ?_ | refine w_nil ?_ | refine w_cons ?_ | refine w_bin ?_ | refine w_ix ?_ | refine w_call ?_ | refine w_blt ?_ | refine w_isi ?_ | refine w_tup ?_ | refine w_lstT ?_ | refine w_lstF ?_ | refine e_and ?_ | refine e_or ?_ | refine w_not ?_ | refine w_neg ?_ | refine w_ite ?_ | refine w_cmp ?_ | refine w_chain ?_ | refine w_slice ?_ | refine w_oN ?_ | refine w_oS ?_ | refine t_val' ?_ | refine t_cmp' ?_ | refine t_chain' ?_ | refine t_not' ?_ | refine t_and' ?_ | refine t_or' ?_ | refine ts_nil ?_ | refine ts_cons ?_ | refine x_nil ?_ | refine x_set ?_ | refine x_expr ?_ | refine x_ret ?_ | refine x_retN ?_ | refine x_ifs ?_ | refine x_setIx ?_ | refine x_unpack ?_ | refine l_add ?_ | refine l_sub ?_ | refine l_eqI ?_ | refine l_neI ?_ | refine l_eqB ?_ | refine l_neB ?_ | refine l_lt ?_ | refine l_le ?_ | refine l_gt ?_ | refine l_ge ?_ | refine ifT' rfl ?_ | refine ifF' rfl ?_ | refine ⟨_, rfl, ?_⟩ | refine ⟨rfl, ?_⟩ | refine ⟨Nat.le_of_ble_eq_true rfl, ?_⟩ | refine WC_some rfl ?_ | refine W_some rfl ?_))
      refine fin_same rfl hS rfl ?_
      have : numO w = some (valN w) := by unfold numO okN; rw [h1, h2', h3', eq0_head hc, h4]; simp
      rw [this] at q
      exact q
    (repeat (first | refine w_var rfl ?_ | refine w_cst ?_ | refine w_glob ?_ | refine w_nil ?_ | refine w_cons ?_ | refine w_bin ?_ | refine w_ix ?_ | refine w_call ?_ | refine w_blt ?_ | refine w_isi ?_ | refine w_tup ?_ | refine w_lstT ?_ | refine w_lstF ?_ | refine e_and ?_ | refine e_or ?_ | refine w_not ?_ | refine w_neg ?_ | refine w_ite ?_ | refine w_cmp ?_ | refine w_chain ?_ | refine w_slice ?_ | refine w_oN ?_ | refine w_oS ?_ | refine t_val' ?_ | refine t_cmp' ?_ | refine t_chain' ?_ | refine t_not' ?_ | refine t_and' ?_ | refine t_or' ?_ | refine ts_nil ?_ | refine ts_cons ?_ | refine x_nil ?_ | refine x_set ?_ | refine x_expr ?_ | refine x_ret ?_ | refine x_retN ?_ | refine x_ifs ?_ | refine x_setIx ?_ | refine x_unpack ?_ | refine l_add ?_ | refine l_sub ?_ | refine l_eqI ?_ | refine l_neI ?_ | refine l_eqB ?_ | refine l_neB ?_ | refine l_lt ?_ | refine l_le ?_ | refine l_gt ?_ | refine l_ge ?_ | refine ifT' rfl ?_ | refine ifF' rfl ?_ | refine ⟨_, rfl, ?_⟩ | refine ⟨rfl, ?_⟩ | refine ⟨Nat.le_of_ble_eq_true rfl, ?_⟩ | refine WC_some rfl ?_ | refine W_some rfl ?_))
    refine l_eqS (tx1 hw) (by decide +kernel) ?_
    refine ifB (fun h5 => ?_) (fun h5 => ?_)
    · (repeat (first | refine w_var rfl ?_ | refine w_cst ?_ | refine w_glob ?_ | refine w_nil ?_ | refine w_cons ?_ | refine w_bin ?_ | refine w_ix ?_ | refine w_call ?_ | refine w_blt ?_ | refine w_isi ?_ | refine w_tup ?_ | refine w_lstT ?_ | refine w_lstF ?_ | refine e_and ?_ | refine e_or ?_ | refine w_not ?_ | refine w_neg ?_ | refine w_ite ?_ | refine w_cmp ?_ | refine w_chain ?_ | refine w_slice ?_ | refine w_oN ?_ | refine w_oS ?_ | refine t_val' ?_ | refine t_cmp' ?_ | refine t_chain' ?_ | refine t_not' ?_ | refine t_and' ?_ | refine t_or' ?_ | refine ts_nil ?_ | refine ts_cons ?_ | refine x_nil ?_ | refine x_set ?_ | refine x_expr ?_ | refine x_ret ?_ | refine x_retN ?_ | refine x_ifs ?_ | refine x_setIx ?_ | refine x_unpack ?_ | refine l_add ?_ | refine l_sub ?_ | refine l_eqI ?_ | refine l_neI ?_ | refine l_eqB ?_ | refine l_neB ?_ | refine l_lt ?_ | refine l_le ?_ | refine l_gt ?_ | refine l_ge ?_ | refine ifT' rfl ?_ | refine ifF' rfl ?_ | refine ⟨_, rfl, ?_⟩ | refine ⟨rfl, ?_⟩ | refine ⟨Nat.le_of_ble_eq_true rfl, ?_⟩ | refine WC_some rfl ?_ | refine W_some rfl ?_))
      refine l_intS h640 hi ?_
      (repeat (first | refine w_var rfl ?_ | refine w_cst ?_ | refine w_glob ?_ | refine w_nil ?_ | refine w_cons ?_ | refine w_bin ?_ | refine w_ix ?_ | refine w_call ?_ | refine w_blt ?_ | refine w_isi ?_ | refine w_tup ?_ | refine w_lstT ?_ | refine w_lstF ?_ | refine e_and ?_ | refine e_or ?_ | refine w_not ?_ | refine w_neg ?_ | refine w_ite ?_ | refine w_cmp ?_ | refine w_chain ?_ | refine w_slice ?_ | refine w_oN ?_ | refine w_oS ?_ | refine t_val' ?_ | refine t_cmp' ?_ | refine t_chain' ?_ | refine t_not' ?_ | refine t_and' ?_ | refine t_or' ?_ | refine ts_nil ?_ | refine ts_cons ?_ | refine x_nil ?_ | refine x_set ?_ | refine x_expr ?_ | refine x_ret ?_ | refine x_retN ?_ | refine x_ifs ?_ | refine x_setIx ?_ | refine x_unpack ?_ | refine l_add ?_ | refine l_sub ?_ | refine l_eqI ?_ | refine l_neI ?_ | refine l_eqB ?_ | refine l_neB ?_ | refine l_lt ?_ | refine l_le ?_ | refine l_gt ?_ | refine l_ge ?_ | refine ifT' rfl ?_ | refine ifF' rfl ?_ | refine ⟨_, rfl, ?_⟩ | refine ⟨rfl, ?_⟩ | refine ⟨Nat.le_of_ble_eq_true rfl, ?_⟩ | refine WC_some rfl ?_ | refine W_some rfl ?_))
      refine fin_same rfl hS rfl ?_
      have : numO w = some (valN w) := by unfold numO okN; rw [h1, h2', h3', h5]; rfl
      rw [this] at q
      exact q
    · (repeat (first | refine w_var rfl ?_ | refine w_cst ?_ | refine w_glob ?_ | refine w_nil ?_ | refine w_cons ?_ | refine w_bin ?_ | refine w_ix ?_ | refine w_call ?_ | refine w_blt ?_ | refine w_isi ?_ | refine w_tup ?_ | refine w_lstT ?_ | refine w_lstF ?_ | refine e_and ?_ | refine e_or ?_ | refine w_not ?_ | refine w_neg ?_ | refine w_ite ?_ | refine w_cmp ?_ | refine w_chain ?_ | refine w_slice ?_ | refine w_oN ?_ | refine w_oS ?_ | refine t_val' ?_ | refine t_cmp' ?_ | refine t_chain' ?_ | refine t_not' ?_ | refine t_and' ?_ | refine t_or' ?_ | refine ts_nil ?_ | refine ts_cons ?_ | refine x_nil ?_ | refine x_set ?_ | refine x_expr ?_ | refine x_ret ?_ | refine x_retN ?_ | refine x_ifs ?_ | refine x_setIx ?_ | refine x_unpack ?_ | refine l_add ?_ | refine l_sub ?_ | refine l_eqI ?_ | refine l_neI ?_ | refine l_eqB ?_ | refine l_neB ?_ | refine l_lt ?_ | refine l_le ?_ | refine l_gt ?_ | refine l_ge ?_ | refine ifT' rfl ?_ | refine ifF' rfl ?_ | refine ⟨_, rfl, ?_⟩ | refine ⟨rfl, ?_⟩ | refine ⟨Nat.le_of_ble_eq_true rfl, ?_⟩ | refine WC_some rfl ?_ | refine W_some rfl ?_))
      refine fin_same rfl hS rfl ?_
      have : numO w = none := by unfold numO okN; rw [h1, h2', h3', h5, eq0_head hc, h4]; rfl
      rw [this] at q
      exact q
  case _ =>
    (repeat (first | refine w_var rfl ?_ | refine w_cst ?_ | refine w_glob ?_ | refine w_nil ?_ | refine w_cons ?_ | refine w_bin ?_ | refine w_ix ?_ | refine w_call ?_ | refine w_blt ?_ | refine w_isi ?_ | refine w_tup ?_ | refine w_lstT ?_ | refine w_lstF ?_ | refine e_and ?_ | refine e_or ?_ | refine w_not ?_ | refine w_neg ?_ | refine w_ite ?_ | refine w_cmp ?_ | refine w_chain ?_ | refine w_slice ?_ | refine w_oN ?_ | refine w_oS ?_ | refine t_val' ?_ | refine t_cmp' ?_ | refine t_chain' ?_ | refine t_not' ?_ | refine t_and' ?_ | refine t_or' ?_ | refine ts_nil ?_ | refine ts_cons ?_ | refine x_nil ?_ | refine x_cons ?_ | refine x_set ?_ | refine x_expr ?_ | refine x_ret ?_ | refine x_retN ?_ | refine x_ifs ?_ | refine x_setIx ?_ | refine x_unpack ?_ | refine l_add ?_ | refine l_sub ?_ | refine l_eqI ?_ | refine l_neI ?_ | refine l_eqB ?_ | refine l_neB ?_ | refine l_lt ?_ | refine l_le ?_ | refine l_gt ?_ | refine l_ge ?_ | refine ifT' rfl ?_ | refine ifF' rfl ?_ | refine ⟨_, rfl, ?_⟩ | refine ⟨rfl, ?_⟩ | refine ⟨Nat.le_of_ble_eq_true rfl, ?_⟩ | refine WC_some rfl ?_ | refine W_some rfl ?_))
    refine fin_same rfl hS rfl ?_
    have : numO w = none := by unfold numO okN; rw [h1]; simp
    rw [this] at q
    exact q
end Tt.L
end

section
/-! k64: words of texts. -/
namespace Tt.L
open PySem Tt Tt.P
theorem pre1 (s c : Nat) (r : List Nat) : TL.pre [s] (c :: r) = decide (c = s) := by
  show (([c] : List Nat) == [s]) = _
  by_cases h : c = s
  · subst h; simp
  · rw [decide_eq_false h]
    exact beq_eq_false_iff_ne.mpr fun e => h (by injection e)
theorem spl_one (s : Nat) (acc : List Nat) (c : Nat) (r : List Nat) : TL.spl [s] 0 acc (c :: r) = if c = s then acc :: TL.spl [s] 0 [] r else TL.spl [s] 0 (acc ++ [c]) r := by
  by_cases h : c = s
  · rw [if_pos h, TL.spl_hit (by rw [pre1]; exact decide_eq_true h)]
    rfl
  · rw [if_neg h, TL.spl_miss (by rw [pre1]; exact decide_eq_false h)]
theorem spl_mem {s : Nat} : ∀ {l acc p : List Nat}, p ∈ TL.spl [s] 0 acc l → (∀ c ∈ p, c ∈ acc ∨ c ∈ l) ∧ p.length ≤ acc.length + l.length
  | [], acc, p, h => by
    rw [TL.spl_nil, List.mem_singleton] at h
    subst h
    exact ⟨fun c hc => .inl hc, by simp⟩
  | c :: r, acc, p, h => by
    rw [spl_one] at h
    split at h
    · rcases List.mem_cons.mp h with e | h
      · subst e
        exact ⟨fun c hc => .inl hc, by simp⟩
      · obtain ⟨h1, h2⟩ := spl_mem h
        refine ⟨fun d hd => .inr ?_, ?_⟩
        · rcases h1 d hd with z | z
          · cases z
          · exact List.mem_cons_of_mem _ z
        · simp only [List.length_nil, List.length_cons] at h2 ⊢
          omega
    · obtain ⟨h1, h2⟩ := spl_mem h
      refine ⟨fun d hd => ?_, ?_⟩
      · rcases h1 d hd with z | z
        · rcases List.mem_append.mp z with z | z
          · exact .inl z
          · rw [List.mem_singleton.mp z]; exact .inr List.mem_cons_self
        · exact .inr (List.mem_cons_of_mem _ z)
      · simp only [List.length_append, List.length_cons, List.length_nil] at h2 ⊢
        omega
theorem spl_sum {s : Nat} : ∀ {l acc : List Nat}, ((TL.spl [s] 0 acc l).map List.length).sum + (TL.spl [s] 0 acc l).length = acc.length + l.length + 1
  | [], acc => by rw [TL.spl_nil]; simp
  | c :: r, acc => by
    rw [spl_one]
    split
    · have := spl_sum (s := s) (l := r) (acc := [])
      simp only [List.map_cons, List.sum_cons, List.length_cons, List.length_nil] at this ⊢
      omega
    · have := spl_sum (s := s) (l := r) (acc := acc ++ [c])
      simp only [List.length_append, List.length_cons, List.length_nil] at this ⊢
      omega
/-- a separator of one sign -/
structure Sep (y : Str) (s : Nat) : Prop where
  e : TL.tl y = [s]
  k : y.cps.all (· < 256) = true
theorem sepSp : Sep " " 32 := ⟨by decide +kernel, by decide +kernel⟩
theorem sepNl : Sep "\n" 10 := ⟨by decide +kernel, by decide +kernel⟩
theorem sepSl : Sep "/" 47 := ⟨by decide +kernel, by decide +kernel⟩
theorem sepCo : Sep "," 44 := ⟨by decide +kernel, by decide +kernel⟩
section
variable {t y : Str} {s : Nat}
theorem split_tl (h : Sep y s) : (Txt.split t y).map TL.tl = TL.spl [s] 0 [] (TL.tl t) := by
  have := TL.split_spl t y (by rw [h.e]; simp) (TL.kind_ok h.k)
  rw [h.e] at this
  exact this
theorem split_tx (h : Sep y s) (ht : tx t = true) : ∀ w ∈ Txt.split t y, tx w = true := fun w hw => by
  have : TL.tl w ∈ TL.spl [s] 0 [] (TL.tl t) := by rw [← split_tl h]; exact List.mem_map_of_mem hw
  obtain ⟨h1, h2⟩ := spl_mem this
  have a1 := tx1 ht
  have a2 := tx2 ht
  refine Bool.and_eq_true_iff.mpr ⟨?_, decide_eq_true ?_⟩
  · rw [Array.all_eq_true_iff_forall_mem] at a1 ⊢
    intro c hc
    rcases h1 c (by simpa [TL.tl] using hc) with z | z
    · cases z
    · exact a1 c (by simpa [TL.tl] using z)
  · have e1 := TL.len_tl w
    have e2 := TL.len_tl t
    simp only [Str.length] at e1 e2
    simp only [List.length_nil] at h2
    omega
theorem split_ne (h : Sep y s) : Txt.split t y ≠ [] := fun e => by
  have := split_tl (t := t) h
  have s2 := spl_sum (s := s) (l := TL.tl t) (acc := [])
  rw [← this, e] at s2
  simp at s2
theorem split_len (h : Sep y s) (ht : tx t = true) : (Txt.split t y).length ≤ 101 := by
  have s2 := spl_sum (s := s) (l := TL.tl t) (acc := [])
  rw [← split_tl h, List.length_map] at s2
  have e2 := TL.len_tl t
  have a2 := tx2 ht
  simp only [Str.length, List.length_nil] at e2 s2
  omega
theorem sum_ge : ∀ {l : List Nat}, (∀ n ∈ l, 1 ≤ n) → l.length ≤ l.sum
  | [], _ => by simp
  | a :: r, h => by
    have := sum_ge fun n hn => h n (List.mem_cons_of_mem _ hn)
    have := h a List.mem_cons_self
    simp only [List.length_cons, List.sum_cons]
    omega
theorem split_len2 (h : Sep y s) (ht : tx t = true) (hw : ∀ w ∈ Txt.split t y, 1 ≤ w.length) : (Txt.split t y).length ≤ 50 := by
  have s2 := spl_sum (s := s) (l := TL.tl t) (acc := [])
  rw [← split_tl h, List.length_map, List.map_map] at s2
  have s3 := sum_ge (l := (Txt.split t y).map (List.length ∘ TL.tl)) fun n hn => by
    obtain ⟨w, h1, h2⟩ := List.mem_map.mp hn
    have := hw w h1
    have e := TL.len_tl w
    simp only [Function.comp] at h2
    omega
  rw [List.length_map] at s3
  have e2 := TL.len_tl t
  have a2 := tx2 ht
  simp only [Str.length, List.length_nil] at e2 s2
  omega
theorem l_split {S : Sto} {Q : D → Sto → Prop} (h : Sep y s) (ht : tx t = true) (q : Q (.lst ((Txt.split t y).map .str)) S) : W (mthD .split (.str t) [.str y] S) Q := by
  refine ⟨_, _, ?_, q⟩
  simp only [mthD]
  rw [if_pos]
  refine ⟨?_, ?_⟩
  · have := TL.len_tl y
    rw [h.e] at this
    rw [this]; rfl
  · have a2 := tx2 ht
    have : (102 : Nat) ≤ sizeLine := by decide
    simp only [Str.length]
    omega
end
end Tt.L
end

section
/-! k64: lists of numbers. -/
namespace Tt.L
open PySem Tt Tt.P
def numsO (ws : List Str) : Option (List Int) := if ws.all okN = true then some (ws.map valN) else none
def optLL : Option (List Int) → D
  | some l => .lst [.lst (l.map .int)]
  | none => .lst []
theorem numO_pos {w : Str} {i : Int} (h : numO w = some i) : 0 ≤ i ∧ okN w = true ∧ i = valN w := by
  unfold numO at h
  split at h
  · cases h
    exact ⟨by unfold valN; omega, by assumption, rfl⟩
  · cases h
theorem okN_len {w : Str} (h : okN w = true) : 1 ≤ w.length := by
  unfold okN at h
  simp only [Bool.and_eq_true] at h
  have := of_decide_eq_true h.1.1.1
  omega
/-- [need_number(word, z) for word in words] -/
theorem need_all {s : Src} {tg : Tg} {env0 : En} {body : En → Sto → Option (Rz × Sto)} {ws : List Str} {z : Int} {S : Sto} {QL : List D ⊕ Int → Sto → Prop} (hn : s.n = ws.length) (rd : s.rd S = some (ws.map .str)) (hz : ws.length ≤ sizeLine)
    (hb : ∀ w ∈ ws, ∃ env1, bindT tg (.str w) env0 = some env1 ∧ ∀ QR : Rz → Sto → Prop, QR (match numO w with | some i => .ok (.int i) | none => .er z) S → W (body env1 S) QR)
    (q : QL (match numsO ws with | some l => .inl (l.map .int) | none => .inr z) S) : W (loopX s tg env0 body s.n 0 [] S) QL := by
  refine lx_inv (l := ws.map .str) (fun i acc S' => S' = S ∧ (ws.take i).all okN = true ∧ acc = (ws.take i).map fun w => D.int (valN w)) (by rw [List.length_map]; exact hn) ⟨rfl, rfl, rfl⟩ (fun i acc S' h => by rw [h.1]; exact rd) ?_ ?_
  · rintro i x acc S' hx ⟨rfl, ha, rfl⟩
    rw [List.getElem?_map, Option.map_eq_some_iff] at hx
    obtain ⟨w, hw, rfl⟩ := hx
    have hmem := List.mem_of_getElem? hw
    obtain ⟨env1, e1, h1⟩ := hb w hmem
    refine ⟨env1, e1, h1 _ ?_⟩
    cases hn : numO w with
    | some v =>
      obtain ⟨_, hok, rfl⟩ := numO_pos hn
      have hlt := (List.getElem?_eq_some_iff.mp hw).1
      refine ⟨by rw [List.length_map, List.length_take]; omega, rfl, ?_, ?_⟩
      · rw [List.take_succ, hw]
        simp only [Option.toList, List.all_append, ha, List.all_cons, hok, List.all_nil, Bool.and_self]
      · rw [List.take_succ, hw]
        simp only [Option.toList, List.map_append, List.map_cons, List.map_nil]
    | none =>
      have : numsO ws = none := by
        unfold numsO
        rw [if_neg]
        intro h
        have := List.all_eq_true.mp h w hmem
        unfold numO at hn
        rw [if_pos this] at hn
        cases hn
      rw [this] at q
      exact q
  · rintro acc S' ⟨rfl, ha, rfl⟩
    rw [List.length_map, List.take_length] at ha
    have : numsO ws = some (ws.map valN) := by unfold numsO; rw [if_pos ha]
    rw [this] at q
    rw [List.length_map, List.take_length]
    have e : (ws.map valN).map D.int = ws.map fun w => D.int (valN w) := by rw [List.map_map]; rfl
    rw [← e]
    exact q
/-! by the law -/
def pyN (o : Option Int) : PyData := match o with
  | some i => .list [.int i]
  | none => .list []
theorem pyD_opt (o : Option Int) : pyD (optL o) = some (pyN o) := by cases o <;> rfl
theorem pyL_opts : ∀ l : List (Option Int), pyL (l.map optL) = some (l.map pyN)
  | [] => rfl
  | o :: r => by
    rw [List.map_cons, pyL, pyD_opt, pyL_opts r]
    rfl
theorem lay_opts : ∀ l : List (Option Int), PyData.canLayAll0 (l.map pyN) = true
  | [] => rfl
  | o :: r => by
    rw [List.map_cons, PyData.canLayAll0, lay_opts r]
    cases o <;> rfl
theorem inN {l : List (Option Int)} {S : Sto} {QC : Bool → Prop} (hd : (PyData.list (l.map pyN)).depth ≤ 64) (q : QC (l.any Option.isNone)) : WC (cmpD .inn (.lst []) (.lst (l.map optL)) S) QC := by
  refine ⟨_, ?_, q⟩
  show inL (.lst []) (l.map optL) = _
  unfold inL
  rw [if_neg (by simp [flatD]), pyL_opts]
  show (if (SeqAt.shaped (.list []) && SeqAt.shaped (.list (l.map pyN))) = true then _ else none) = _
  rw [if_pos]
  · have : (l.map pyN).any (fun z => PyData.eqv z (.list [])) = l.any Option.isNone := by
      rw [List.any_map]
      refine congrArg (fun f => l.any f) (funext fun o => ?_)
      cases o <;> rfl
    rw [← this]
  · refine Bool.and_eq_true_iff.mpr ⟨by decide, Bool.and_eq_true_iff.mpr ⟨?_, decide_eq_true hd⟩⟩
    show PyData.canLayAll0 (l.map pyN) = true
    exact lay_opts l
theorem depth_opts : ∀ l : List (Option Int), (PyData.list (l.map pyN)).depth ≤ 64 := by
  intro l
  have h : ∀ l : List (Option Int), PyData.depthAll (l.map pyN) ≤ 2 := by
    intro l
    induction l with
    | nil => simp [PyData.depthAll]
    | cons o r ih =>
      rw [List.map_cons]
      simp only [PyData.depthAll]
      have : (pyN o).depth ≤ 2 := by cases o <;> simp [pyN, PyData.depth, PyData.depthAll]
      omega
  have := h l
  simp only [PyData.depth]
  omega
theorem puL_ints : ∀ l : List Int, puL (l.map .int) = true := by
  intro l; induction l with
  | nil => rfl
  | cons a l ih => simp [puL, puD, ih]
theorem nums_none {ws : List Str} : (ws.map numO).any Option.isNone = !(ws.all okN) := by
  induction ws with
  | nil => rfl
  | cons w r ih =>
    rw [List.map_cons, List.any_cons, List.all_cons, ih]
    unfold numO
    cases okN w <;> simp
theorem numsL {k : Nat} {ws : List Str} {S : Sto} {Q : D → Sto → Prop} (hw : ∀ w ∈ ws, tx w = true) (hz : ws.length ≤ 101) (hS : S.all puO = true) (q : Q (optLL (numsO ws)) S) : WO (calls pg (k + 2) 27 [.lst (ws.map .str)] S) Q := by
  refine call_run (di := d27) rfl (w_run rfl ?_)
  have hl : ws.length ≤ sizeLine := Nat.le_trans hz (by decide)
  refine x_cons ?_
  refine x_set ?_
  refine w_mapR (ws.map .str) (ws.map fun w => optL (numO w)) (by simpa using hl) (by simp) (r_seq ?_)
  refine w_var rfl ?_
  refine WC_some rfl ⟨rfl, rfl, fun i x y hx hy => ?_, ?_⟩
  · simp only [List.getElem?_map, Option.map_eq_some_iff] at hx hy
    obtain ⟨w, h1, rfl⟩ := hx
    obtain ⟨w', h2, rfl⟩ := hy
    rw [h1] at h2; cases h2
    refine ⟨_, rfl, ?_⟩
    refine w_call ?_
    refine w_cons ?_
    refine w_var rfl ?_
    refine w_nil ?_
    exact numL (hw w (List.mem_of_getElem? h1)) hS ⟨rfl, rfl⟩
  have em : (ws.map fun w => optL (numO w)) = (ws.map numO).map optL := by rw [List.map_map]; rfl
  rw [em]
  refine x_cons ?_
  refine x_ret ?_
  refine w_ite ?_
  refine t_cmp' ?_
  refine w_lstT ?_
  refine w_nil ?_
  refine ⟨Nat.zero_le _, ?_⟩
  refine w_var rfl ?_
  refine inN (depth_opts _) ?_
  rw [nums_none]
  refine ifB (fun h => ?_) (fun h => ?_)
  · refine w_lstT ?_
    refine w_nil ?_
    refine ⟨Nat.zero_le _, ?_⟩
    refine fin_same rfl hS rfl ?_
    have : numsO ws = none := by unfold numsO; rw [if_neg (by simpa using h)]
    rw [this] at q
    exact q
  · have ha : ws.all okN = true := by simpa using h
    refine w_lstT ?_
    refine w_cons ?_
    refine w_mapR ((ws.map numO).map optL) ((ws.map valN).map .int) (by simpa using hl) (by simp) (r_seq ?_)
    refine w_var rfl ?_
    refine WC_some rfl ⟨rfl, rfl, fun i x y hx hy => ?_, ?_⟩
    · simp only [List.getElem?_map, Option.map_eq_some_iff] at hx hy
      obtain ⟨_, ⟨w, h1, rfl⟩, rfl⟩ := hx
      obtain ⟨_, ⟨w', h2, rfl⟩, rfl⟩ := hy
      rw [h1] at h2; cases h2
      have hok := List.all_eq_true.mp ha w (List.mem_of_getElem? h1)
      refine ⟨_, rfl, ?_⟩
      refine w_ix ?_
      refine w_var rfl ?_
      refine w_cst ?_
      have e : optL (numO w) = .lst [.int (valN w)] := by unfold numO; rw [if_pos hok]; rfl
      rw [e]
      exact l_ixL (i := 0) rfl ⟨rfl, rfl⟩
    refine w_nil ?_
    refine ⟨by show 1 ≤ sizeLine; decide, ?_⟩
    have e : numsO ws = some (ws.map valN) := by unfold numsO; rw [if_pos ha]
    rw [e] at q
    refine fin_same rfl hS ?_ q
    simp only [puD, puL, Bool.and_true]
    exact puL_ints _
end Tt.L
end

section
/-! k64: machines. -/
namespace Tt.L
open PySem Tt Tt.P
def cntB (many : Int) (l : List Int) : Bool := ((l.length : Int) == many) && l.all fun x => decide (0 ≤ x) && decide (x ≤ 9)
abbrev Mv : Type := List Int × List Int
def cnD (l : List Int) : D := .tup (l.map .int)
def mvD (m : Mv) : D := .tup [cnD m.1, cnD m.2]
def mcD (many : Int) (ms : List Mv) : D := .tup [.int many, .tup (ms.map mvD)]
def mvB (many : Int) (m : Mv) : Bool := cntB many m.1 && cntB many m.2
def mchB (many : Int) (ms : List Mv) : Bool := decide (0 ≤ many) && decide (many ≤ 5) && decide ((ms.length : Int) ≤ 8) && ms.all (mvB many)
theorem puD_cn (l : List Int) : puD (cnD l) = true := puL_ints l
theorem counts {k : Nat} {many : Int} {l : List Int} {S : Sto} {Q : D → Sto → Prop} (hl : l.length ≤ 200) (hS : S.all puO = true) (q : Q (.bl (cntB many l)) S) : WO (calls pg (k + 2) 7 [cnD l, .int many, .int 9] S) Q := by
  refine call_run (di := d7) rfl (w_run rfl ?_)
  have hz : l.length ≤ sizeLine := Nat.le_trans hl (by decide)
  refine x_cons ?_
  refine x_ret ?_
  refine e_and ?_
  (repeat (first | refine w_var rfl ?_ | refine w_cst ?_ | refine w_glob ?_ | refine w_nil ?_ | refine w_cons ?_ | refine w_bin ?_ | refine w_ix ?_ | refine w_call ?_ | refine w_blt ?_ | refine w_isi ?_ | refine w_tup ?_ | refine w_lstT ?_ | refine w_lstF ?_ | refine e_and ?_ | refine e_or ?_ | refine w_not ?_ | refine w_neg ?_ | refine w_ite ?_ | refine w_cmp ?_ | refine w_chain ?_ | refine w_slice ?_ | refine w_oN ?_ | refine w_oS ?_ | refine t_val' ?_ | refine t_cmp' ?_ | refine t_chain' ?_ | refine t_not' ?_ | refine t_and' ?_ | refine t_or' ?_ | refine ts_nil ?_ | refine ts_cons ?_ | refine x_nil ?_ | refine x_set ?_ | refine x_expr ?_ | refine x_ret ?_ | refine x_retN ?_ | refine x_ifs ?_ | refine x_setIx ?_ | refine x_unpack ?_ | refine l_add ?_ | refine l_sub ?_ | refine l_eqI ?_ | refine l_neI ?_ | refine l_eqB ?_ | refine l_neB ?_ | refine l_lt ?_ | refine l_le ?_ | refine l_gt ?_ | refine l_ge ?_ | refine ifT' rfl ?_ | refine ifF' rfl ?_ | refine ⟨_, rfl, ?_⟩ | refine ⟨rfl, ?_⟩ | refine ⟨Nat.le_of_ble_eq_true rfl, ?_⟩ | refine WC_some rfl ?_ | refine W_some rfl ?_))
  refine ifB (fun h => ?_) (fun h => ?_)
  · refine w_blt ?_
    refine w_cons ?_
    refine w_mapR (l.map .int) (l.map fun x => .bl (decide (0 ≤ x) && decide (x ≤ 9))) (by simpa using hz) (by simp) (r_seq ?_)
    refine w_var rfl ?_
    refine WC_some rfl ⟨rfl, rfl, fun i x y hx hy => ?_, ?_⟩
    · simp only [List.getElem?_map, Option.map_eq_some_iff] at hx hy
      obtain ⟨w, h1, rfl⟩ := hx
      obtain ⟨w', h2, rfl⟩ := hy
      rw [h1] at h2; cases h2
      refine ⟨_, rfl, ?_⟩
      refine w_call ?_
      refine w_cons ?_
      refine w_var rfl ?_
      refine w_cons ?_
      refine w_var rfl ?_
      refine w_nil ?_
      exact number (v := .int w) rfl hS ⟨rfl, rfl⟩
    · refine w_nil ?_
      refine l_all ?_
      refine fin_same rfl hS rfl ?_
      have h' : ((l.length : Int) == many) = true := by simpa using h
      have : cntB many l = l.all fun x => decide (0 ≤ x) && decide (x ≤ 9) := by unfold cntB; rw [h']; rfl
      rw [this] at q
      exact q
  · refine fin_same rfl hS rfl ?_
    have h' : ((l.length : Int) == many) = false := by simpa using h
    have : cntB many l = false := by unfold cntB; rw [h']; rfl
    rw [this] at q
    exact q
theorem pu_mvs (ms : List Mv) : puL (ms.map mvD) = true := by
  induction ms with
  | nil => rfl
  | cons m r ih => simp [puL, mvD, puD, puD_cn, ih]
theorem machine {k : Nat} {many : Int} {ms : List Mv} {S : Sto} {Q : D → Sto → Prop} (hz : ms.length ≤ 200) (hl : ∀ m ∈ ms, m.1.length ≤ 200 ∧ m.2.length ≤ 200) (hS : S.all puO = true) (q : Q (.bl (mchB many ms)) S) : WO (calls pg (k + 3) 8 [mcD many ms] S) Q := by
  refine call_run (di := d8) rfl (w_run rfl ?_)
  refine x_cons ?_
  refine x_ifs ?_
  refine t_or' ?_
  (repeat (first | refine w_var rfl ?_ | refine w_cst ?_ | refine w_glob ?_ | refine w_nil ?_ | refine w_cons ?_ | refine w_bin ?_ | refine w_ix ?_ | refine w_call ?_ | refine w_blt ?_ | refine w_isi ?_ | refine w_tup ?_ | refine w_lstT ?_ | refine w_lstF ?_ | refine e_and ?_ | refine e_or ?_ | refine w_not ?_ | refine w_neg ?_ | refine w_ite ?_ | refine w_cmp ?_ | refine w_chain ?_ | refine w_slice ?_ | refine w_oN ?_ | refine w_oS ?_ | refine t_val' ?_ | refine t_cmp' ?_ | refine t_chain' ?_ | refine t_not' ?_ | refine t_and' ?_ | refine t_or' ?_ | refine ts_nil ?_ | refine ts_cons ?_ | refine x_nil ?_ | refine x_set ?_ | refine x_expr ?_ | refine x_ret ?_ | refine x_retN ?_ | refine x_ifs ?_ | refine x_setIx ?_ | refine x_unpack ?_ | refine l_add ?_ | refine l_sub ?_ | refine l_eqI ?_ | refine l_neI ?_ | refine l_eqB ?_ | refine l_neB ?_ | refine l_lt ?_ | refine l_le ?_ | refine l_gt ?_ | refine l_ge ?_ | refine ifT' rfl ?_ | refine ifF' rfl ?_ | refine ⟨_, rfl, ?_⟩ | refine ⟨rfl, ?_⟩ | refine ⟨Nat.le_of_ble_eq_true rfl, ?_⟩ | refine WC_some rfl ?_ | refine W_some rfl ?_))
  refine number (v := .int many) rfl hS ?_
  (repeat (first | refine w_var rfl ?_ | refine w_cst ?_ | refine w_glob ?_ | refine w_nil ?_ | refine w_cons ?_ | refine w_bin ?_ | refine w_ix ?_ | refine w_call ?_ | refine w_blt ?_ | refine w_isi ?_ | refine w_tup ?_ | refine w_lstT ?_ | refine w_lstF ?_ | refine e_and ?_ | refine e_or ?_ | refine w_not ?_ | refine w_neg ?_ | refine w_ite ?_ | refine w_cmp ?_ | refine w_chain ?_ | refine w_slice ?_ | refine w_oN ?_ | refine w_oS ?_ | refine t_val' ?_ | refine t_cmp' ?_ | refine t_chain' ?_ | refine t_not' ?_ | refine t_and' ?_ | refine t_or' ?_ | refine ts_nil ?_ | refine ts_cons ?_ | refine x_nil ?_ | refine x_set ?_ | refine x_expr ?_ | refine x_ret ?_ | refine x_retN ?_ | refine x_ifs ?_ | refine x_setIx ?_ | refine x_unpack ?_ | refine l_add ?_ | refine l_sub ?_ | refine l_eqI ?_ | refine l_neI ?_ | refine l_eqB ?_ | refine l_neB ?_ | refine l_lt ?_ | refine l_le ?_ | refine l_gt ?_ | refine l_ge ?_ | refine ifT' rfl ?_ | refine ifF' rfl ?_ | refine ⟨_, rfl, ?_⟩ | refine ⟨rfl, ?_⟩ | refine ⟨Nat.le_of_ble_eq_true rfl, ?_⟩ | refine WC_some rfl ?_ | refine W_some rfl ?_))
  refine ifB (fun h => ?_) (fun h => ?_)
  · (repeat (first | refine w_var rfl ?_ | refine w_cst ?_ | refine w_glob ?_ | refine w_nil ?_ | refine w_cons ?_ | refine w_bin ?_ | refine w_ix ?_ | refine w_call ?_ | refine w_blt ?_ | refine w_isi ?_ | refine w_tup ?_ | refine w_lstT ?_ | refine w_lstF ?_ | refine e_and ?_ | refine e_or ?_ | refine w_not ?_ | refine w_neg ?_ | refine w_ite ?_ | refine w_cmp ?_ | refine w_chain ?_ | refine w_slice ?_ | refine w_oN ?_ | refine w_oS ?_ | refine t_val' ?_ | refine t_cmp' ?_ | refine t_chain' ?_ | refine t_not' ?_ | refine t_and' ?_ | refine t_or' ?_ | refine ts_nil ?_ | refine ts_cons ?_ | refine x_nil ?_ | refine x_cons ?_ | refine x_set ?_ | refine x_expr ?_ | refine x_ret ?_ | refine x_retN ?_ | refine x_ifs ?_ | refine x_setIx ?_ | refine x_unpack ?_ | refine l_add ?_ | refine l_sub ?_ | refine l_eqI ?_ | refine l_neI ?_ | refine l_eqB ?_ | refine l_neB ?_ | refine l_lt ?_ | refine l_le ?_ | refine l_gt ?_ | refine l_ge ?_ | refine ifT' rfl ?_ | refine ifF' rfl ?_ | refine ⟨_, rfl, ?_⟩ | refine ⟨rfl, ?_⟩ | refine ⟨Nat.le_of_ble_eq_true rfl, ?_⟩ | refine WC_some rfl ?_ | refine W_some rfl ?_))
    refine fin_same rfl hS rfl ?_
    have : mchB many ms = false := by
      unfold mchB
      have : wholeB (.int many) 5 = false := by simpa using h
      simp only [wholeB] at this
      rw [this]; rfl
    rw [this] at q
    exact q
  have h0 : (decide (0 ≤ many) && decide (many ≤ 5)) = true := by simpa [wholeB] using h
  refine x_nil ?_
  refine x_cons ?_
  refine x_ifs ?_
  refine t_or' ?_
  (repeat (first | refine w_var rfl ?_ | refine w_cst ?_ | refine w_glob ?_ | refine w_nil ?_ | refine w_cons ?_ | refine w_bin ?_ | refine w_ix ?_ | refine w_call ?_ | refine w_blt ?_ | refine w_isi ?_ | refine w_tup ?_ | refine w_lstT ?_ | refine w_lstF ?_ | refine e_and ?_ | refine e_or ?_ | refine w_not ?_ | refine w_neg ?_ | refine w_ite ?_ | refine w_cmp ?_ | refine w_chain ?_ | refine w_slice ?_ | refine w_oN ?_ | refine w_oS ?_ | refine t_val' ?_ | refine t_cmp' ?_ | refine t_chain' ?_ | refine t_not' ?_ | refine t_and' ?_ | refine t_or' ?_ | refine ts_nil ?_ | refine ts_cons ?_ | refine x_nil ?_ | refine x_set ?_ | refine x_expr ?_ | refine x_ret ?_ | refine x_retN ?_ | refine x_ifs ?_ | refine x_setIx ?_ | refine x_unpack ?_ | refine l_add ?_ | refine l_sub ?_ | refine l_eqI ?_ | refine l_neI ?_ | refine l_eqB ?_ | refine l_neB ?_ | refine l_lt ?_ | refine l_le ?_ | refine l_gt ?_ | refine l_ge ?_ | refine ifT' rfl ?_ | refine ifF' rfl ?_ | refine ⟨_, rfl, ?_⟩ | refine ⟨rfl, ?_⟩ | refine ⟨Nat.le_of_ble_eq_true rfl, ?_⟩ | refine WC_some rfl ?_ | refine W_some rfl ?_))
  refine ifB (fun h8 => ?_) (fun h8 => ?_)
  · (repeat (first | refine w_var rfl ?_ | refine w_cst ?_ | refine w_glob ?_ | refine w_nil ?_ | refine w_cons ?_ | refine w_bin ?_ | refine w_ix ?_ | refine w_call ?_ | refine w_blt ?_ | refine w_isi ?_ | refine w_tup ?_ | refine w_lstT ?_ | refine w_lstF ?_ | refine e_and ?_ | refine e_or ?_ | refine w_not ?_ | refine w_neg ?_ | refine w_ite ?_ | refine w_cmp ?_ | refine w_chain ?_ | refine w_slice ?_ | refine w_oN ?_ | refine w_oS ?_ | refine t_val' ?_ | refine t_cmp' ?_ | refine t_chain' ?_ | refine t_not' ?_ | refine t_and' ?_ | refine t_or' ?_ | refine ts_nil ?_ | refine ts_cons ?_ | refine x_nil ?_ | refine x_cons ?_ | refine x_set ?_ | refine x_expr ?_ | refine x_ret ?_ | refine x_retN ?_ | refine x_ifs ?_ | refine x_setIx ?_ | refine x_unpack ?_ | refine l_add ?_ | refine l_sub ?_ | refine l_eqI ?_ | refine l_neI ?_ | refine l_eqB ?_ | refine l_neB ?_ | refine l_lt ?_ | refine l_le ?_ | refine l_gt ?_ | refine l_ge ?_ | refine ifT' rfl ?_ | refine ifF' rfl ?_ | refine ⟨_, rfl, ?_⟩ | refine ⟨rfl, ?_⟩ | refine ⟨Nat.le_of_ble_eq_true rfl, ?_⟩ | refine WC_some rfl ?_ | refine W_some rfl ?_))
    refine fin_same rfl hS rfl ?_
    have : mchB many ms = false := by
      unfold mchB
      have : decide ((ms.length : Int) ≤ 8) = false := by simpa using h8
      rw [this]; simp
    rw [this] at q
    exact q
  have h8' : decide ((ms.length : Int) ≤ 8) = true := by simpa using h8
  have e0 : mchB many ms = ms.all (mvB many) := by unfold mchB; rw [h0, h8']; rfl
  rw [e0] at q
  refine x_nil ?_
  refine x_cons ?_
  refine x_for ?_
  refine r_seq ?_
  (repeat (first | refine w_var rfl ?_ | refine w_cst ?_ | refine w_glob ?_ | refine w_nil ?_ | refine w_cons ?_ | refine w_bin ?_ | refine w_ix ?_ | refine w_call ?_ | refine w_blt ?_ | refine w_isi ?_ | refine w_tup ?_ | refine w_lstT ?_ | refine w_lstF ?_ | refine e_and ?_ | refine e_or ?_ | refine w_not ?_ | refine w_neg ?_ | refine w_ite ?_ | refine w_cmp ?_ | refine w_chain ?_ | refine w_slice ?_ | refine w_oN ?_ | refine w_oS ?_ | refine t_val' ?_ | refine t_cmp' ?_ | refine t_chain' ?_ | refine t_not' ?_ | refine t_and' ?_ | refine t_or' ?_ | refine ts_nil ?_ | refine ts_cons ?_ | refine x_nil ?_ | refine x_set ?_ | refine x_expr ?_ | refine x_ret ?_ | refine x_retN ?_ | refine x_ifs ?_ | refine x_setIx ?_ | refine x_unpack ?_ | refine l_add ?_ | refine l_sub ?_ | refine l_eqI ?_ | refine l_neI ?_ | refine l_eqB ?_ | refine l_neB ?_ | refine l_lt ?_ | refine l_le ?_ | refine l_gt ?_ | refine l_ge ?_ | refine ifT' rfl ?_ | refine ifF' rfl ?_ | refine ⟨_, rfl, ?_⟩ | refine ⟨rfl, ?_⟩ | refine ⟨Nat.le_of_ble_eq_true rfl, ?_⟩ | refine WC_some rfl ?_ | refine W_some rfl ?_))
  refine for_inv (l := ms.map mvD) (fun i e S' => S' = S ∧ (ms.take i).all (mvB many) = true ∧ ∃ a b, e = [some (mcD many ms), a, b]) rfl ⟨rfl, rfl, _, _, rfl⟩ (fun i e S' h => rfl) ?_ ?_
  · rintro i x e S' hx ⟨rfl, ha, a, b, rfl⟩
    rw [List.getElem?_map, Option.map_eq_some_iff] at hx
    obtain ⟨m, hm, rfl⟩ := hx
    have hmem := List.mem_of_getElem? hm
    obtain ⟨hl1, hl2⟩ := hl m hmem
    refine ⟨_, rfl, ?_⟩
    refine x_cons ?_
    (repeat (first | refine w_var rfl ?_ | refine w_cst ?_ | refine w_glob ?_ | refine w_nil ?_ | refine w_cons ?_ | refine w_bin ?_ | refine w_ix ?_ | refine w_call ?_ | refine w_blt ?_ | refine w_isi ?_ | refine w_tup ?_ | refine w_lstT ?_ | refine w_lstF ?_ | refine e_and ?_ | refine e_or ?_ | refine w_not ?_ | refine w_neg ?_ | refine w_ite ?_ | refine w_cmp ?_ | refine w_chain ?_ | refine w_slice ?_ | refine w_oN ?_ | refine w_oS ?_ | refine t_val' ?_ | refine t_cmp' ?_ | refine t_chain' ?_ | refine t_not' ?_ | refine t_and' ?_ | refine t_or' ?_ | refine ts_nil ?_ | refine ts_cons ?_ | refine x_nil ?_ | refine x_set ?_ | refine x_expr ?_ | refine x_ret ?_ | refine x_retN ?_ | refine x_ifs ?_ | refine x_setIx ?_ | refine x_unpack ?_ | refine l_add ?_ | refine l_sub ?_ | refine l_eqI ?_ | refine l_neI ?_ | refine l_eqB ?_ | refine l_neB ?_ | refine l_lt ?_ | refine l_le ?_ | refine l_gt ?_ | refine l_ge ?_ | refine ifT' rfl ?_ | refine ifF' rfl ?_ | refine ⟨_, rfl, ?_⟩ | refine ⟨rfl, ?_⟩ | refine ⟨Nat.le_of_ble_eq_true rfl, ?_⟩ | refine WC_some rfl ?_ | refine W_some rfl ?_))
    refine x_cons ?_
    refine x_ifs ?_
    refine t_not' ?_
    refine t_val' ?_
    refine w_blt ?_
    refine w_cons ?_
    refine w_mapR [cnD m.1, cnD m.2] [.bl (cntB many m.1), .bl (cntB many m.2)] (by show 2 ≤ sizeLine; decide) rfl (r_seq ?_)
    refine w_var rfl ?_
    refine WC_some (d := ⟨fun S' => items S' (mvD m), 2⟩) rfl ⟨rfl, rfl, fun j x y hx hy => ?_, ?_⟩
    · match j, hx, hy with
      | 0, hx, hy =>
        cases hx; cases hy
        refine ⟨_, rfl, ?_⟩
        (repeat (first | refine w_var rfl ?_ | refine w_cst ?_ | refine w_glob ?_ | refine w_nil ?_ | refine w_cons ?_ | refine w_bin ?_ | refine w_ix ?_ | refine w_call ?_ | refine w_blt ?_ | refine w_isi ?_ | refine w_tup ?_ | refine w_lstT ?_ | refine w_lstF ?_ | refine e_and ?_ | refine e_or ?_ | refine w_not ?_ | refine w_neg ?_ | refine w_ite ?_ | refine w_cmp ?_ | refine w_chain ?_ | refine w_slice ?_ | refine w_oN ?_ | refine w_oS ?_ | refine t_val' ?_ | refine t_cmp' ?_ | refine t_chain' ?_ | refine t_not' ?_ | refine t_and' ?_ | refine t_or' ?_ | refine ts_nil ?_ | refine ts_cons ?_ | refine x_nil ?_ | refine x_set ?_ | refine x_expr ?_ | refine x_ret ?_ | refine x_retN ?_ | refine x_ifs ?_ | refine x_setIx ?_ | refine x_unpack ?_ | refine l_add ?_ | refine l_sub ?_ | refine l_eqI ?_ | refine l_neI ?_ | refine l_eqB ?_ | refine l_neB ?_ | refine l_lt ?_ | refine l_le ?_ | refine l_gt ?_ | refine l_ge ?_ | refine ifT' rfl ?_ | refine ifF' rfl ?_ | refine ⟨_, rfl, ?_⟩ | refine ⟨rfl, ?_⟩ | refine ⟨Nat.le_of_ble_eq_true rfl, ?_⟩ | refine WC_some rfl ?_ | refine W_some rfl ?_))
        exact counts hl1 hS ⟨rfl, rfl⟩
      | 1, hx, hy =>
        cases hx; cases hy
        refine ⟨_, rfl, ?_⟩
        (repeat (first | refine w_var rfl ?_ | refine w_cst ?_ | refine w_glob ?_ | refine w_nil ?_ | refine w_cons ?_ | refine w_bin ?_ | refine w_ix ?_ | refine w_call ?_ | refine w_blt ?_ | refine w_isi ?_ | refine w_tup ?_ | refine w_lstT ?_ | refine w_lstF ?_ | refine e_and ?_ | refine e_or ?_ | refine w_not ?_ | refine w_neg ?_ | refine w_ite ?_ | refine w_cmp ?_ | refine w_chain ?_ | refine w_slice ?_ | refine w_oN ?_ | refine w_oS ?_ | refine t_val' ?_ | refine t_cmp' ?_ | refine t_chain' ?_ | refine t_not' ?_ | refine t_and' ?_ | refine t_or' ?_ | refine ts_nil ?_ | refine ts_cons ?_ | refine x_nil ?_ | refine x_set ?_ | refine x_expr ?_ | refine x_ret ?_ | refine x_retN ?_ | refine x_ifs ?_ | refine x_setIx ?_ | refine x_unpack ?_ | refine l_add ?_ | refine l_sub ?_ | refine l_eqI ?_ | refine l_neI ?_ | refine l_eqB ?_ | refine l_neB ?_ | refine l_lt ?_ | refine l_le ?_ | refine l_gt ?_ | refine l_ge ?_ | refine ifT' rfl ?_ | refine ifF' rfl ?_ | refine ⟨_, rfl, ?_⟩ | refine ⟨rfl, ?_⟩ | refine ⟨Nat.le_of_ble_eq_true rfl, ?_⟩ | refine WC_some rfl ?_ | refine W_some rfl ?_))
        exact counts hl2 hS ⟨rfl, rfl⟩
    · refine w_nil ?_
      refine W_some (d := D.bl (mvB many m)) (S := S') (by simp [bltD, litems, bools, mvB]) ?_
      refine WC_some rfl ?_
      refine ifB (fun hb => ?_) (fun hb => ?_)
      · (repeat (first | refine w_var rfl ?_ | refine w_cst ?_ | refine w_glob ?_ | refine w_nil ?_ | refine w_cons ?_ | refine w_bin ?_ | refine w_ix ?_ | refine w_call ?_ | refine w_blt ?_ | refine w_isi ?_ | refine w_tup ?_ | refine w_lstT ?_ | refine w_lstF ?_ | refine e_and ?_ | refine e_or ?_ | refine w_not ?_ | refine w_neg ?_ | refine w_ite ?_ | refine w_cmp ?_ | refine w_chain ?_ | refine w_slice ?_ | refine w_oN ?_ | refine w_oS ?_ | refine t_val' ?_ | refine t_cmp' ?_ | refine t_chain' ?_ | refine t_not' ?_ | refine t_and' ?_ | refine t_or' ?_ | refine ts_nil ?_ | refine ts_cons ?_ | refine x_nil ?_ | refine x_cons ?_ | refine x_set ?_ | refine x_expr ?_ | refine x_ret ?_ | refine x_retN ?_ | refine x_ifs ?_ | refine x_setIx ?_ | refine x_unpack ?_ | refine l_add ?_ | refine l_sub ?_ | refine l_eqI ?_ | refine l_neI ?_ | refine l_eqB ?_ | refine l_neB ?_ | refine l_lt ?_ | refine l_le ?_ | refine l_gt ?_ | refine l_ge ?_ | refine ifT' rfl ?_ | refine ifF' rfl ?_ | refine ⟨_, rfl, ?_⟩ | refine ⟨rfl, ?_⟩ | refine ⟨Nat.le_of_ble_eq_true rfl, ?_⟩ | refine WC_some rfl ?_ | refine W_some rfl ?_))
        refine fin_same rfl hS rfl ?_
        have : ms.all (mvB many) = false := by
          apply Bool.eq_false_iff.mpr
          intro z
          have := List.all_eq_true.mp z m hmem
          rw [this] at hb; cases hb
        rw [this] at q
        exact q
      · refine x_nil ?_
        refine x_nil ?_
        refine ⟨rfl, ?_, _, _, rfl⟩
        rw [List.take_succ, hm]
        have hb' : mvB many m = true := by simpa using hb
        simp only [Option.toList, List.all_append, ha, List.all_cons, hb', List.all_nil, Bool.and_self]
  · rintro e S' ⟨rfl, ha, a, b, rfl⟩
    rw [List.length_map, List.take_length] at ha
    (repeat (first | refine w_var rfl ?_ | refine w_cst ?_ | refine w_glob ?_ | refine w_nil ?_ | refine w_cons ?_ | refine w_bin ?_ | refine w_ix ?_ | refine w_call ?_ | refine w_blt ?_ | refine w_isi ?_ | refine w_tup ?_ | refine w_lstT ?_ | refine w_lstF ?_ | refine e_and ?_ | refine e_or ?_ | refine w_not ?_ | refine w_neg ?_ | refine w_ite ?_ | refine w_cmp ?_ | refine w_chain ?_ | refine w_slice ?_ | refine w_oN ?_ | refine w_oS ?_ | refine t_val' ?_ | refine t_cmp' ?_ | refine t_chain' ?_ | refine t_not' ?_ | refine t_and' ?_ | refine t_or' ?_ | refine ts_nil ?_ | refine ts_cons ?_ | refine x_nil ?_ | refine x_cons ?_ | refine x_set ?_ | refine x_expr ?_ | refine x_ret ?_ | refine x_retN ?_ | refine x_ifs ?_ | refine x_setIx ?_ | refine x_unpack ?_ | refine l_add ?_ | refine l_sub ?_ | refine l_eqI ?_ | refine l_neI ?_ | refine l_eqB ?_ | refine l_neB ?_ | refine l_lt ?_ | refine l_le ?_ | refine l_gt ?_ | refine l_ge ?_ | refine ifT' rfl ?_ | refine ifF' rfl ?_ | refine ⟨_, rfl, ?_⟩ | refine ⟨rfl, ?_⟩ | refine ⟨Nat.le_of_ble_eq_true rfl, ?_⟩ | refine WC_some rfl ?_ | refine W_some rfl ?_))
    refine fin_same rfl hS rfl ?_
    rw [ha] at q
    exact q
end Tt.L
end

section
/-! k64: counts and machines read. -/
namespace Tt.L
open PySem Tt Tt.P
theorem finX_drop {df : Df} {z : Int} {S R : Sto} {Q : Rz → Sto → Prop} (hk : df.keep = false) (hS : S.all puO = true) (q : Q (.er z) S) : W (finX df S.length z (S ++ R)) Q := by
  have e : (S ++ R).take S.length = S := List.take_left
  exact finX_pure hk (by rw [e]; exact hS) (by rw [e]; exact q)
theorem finX_same {df : Df} {z : Int} {S : Sto} {Q : Rz → Sto → Prop} (hk : df.keep = false) (hS : S.all puO = true) (q : Q (.er z) S) : W (finX df S.length z S) Q := by
  have := finX_drop (R := []) hk hS q
  rwa [List.append_nil] at this
def cntO (w : Str) : Option (List Int) := if (w == ".") = true then some [] else numsO (Txt.split w ",")
theorem need_words {k : Nat} {ws : List Str} {z : Int} {S : Sto} (hS : S.all puO = true) (hw : ∀ w ∈ ws, tx w = true) {QR : Rz → Sto → Prop} {w : Str} (h : w ∈ ws) (q : QR (match numO w with | some i => .ok (.int i) | none => .er z) S) : W (calls pg (k + 2) 10 [.str w, .int z] S) QR :=
  need_number (hw w h) hS q
theorem read_counts {k : Nat} {w : Str} {z : Int} {S : Sto} {Q : Rz → Sto → Prop} (hw : tx w = true) (hS : S.all puO = true) (q : Q (match cntO w with | some l => .ok (cnD l) | none => .er z) S) : W (calls pg (k + 3) 16 [.str w, .int z] S) Q := by
  have e : calls pg (k + 3) 16 [.str w, .int z] S = Tt.run (calls pg (k + 2)) d16.df [.str w, .int z] S := rfl
  rw [e]
  refine w_runX rfl ?_
  refine x_cons ?_
  refine x_ifs ?_
  refine t_cmp' ?_
  refine w_var rfl ?_
  refine w_cst ?_
  refine l_eqS (tx1 hw) (by decide +kernel) ?_
  refine ifB (fun h => ?_) (fun h => ?_)
  · (repeat (first | refine w_var rfl ?_ | refine w_cst ?_ | refine w_glob ?_ | refine w_nil ?_ | refine w_cons ?_ | refine w_bin ?_ | refine w_ix ?_ | refine w_call ?_ | refine w_blt ?_ | refine w_isi ?_ | refine w_tup ?_ | refine w_lstT ?_ | refine w_lstF ?_ | refine e_and ?_ | refine e_or ?_ | refine w_not ?_ | refine w_neg ?_ | refine w_ite ?_ | refine w_cmp ?_ | refine w_chain ?_ | refine w_slice ?_ | refine w_oN ?_ | refine w_oS ?_ | refine t_val' ?_ | refine t_cmp' ?_ | refine t_chain' ?_ | refine t_not' ?_ | refine t_and' ?_ | refine t_or' ?_ | refine ts_nil ?_ | refine ts_cons ?_ | refine x_nil ?_ | refine x_cons ?_ | refine x_set ?_ | refine x_expr ?_ | refine x_ret ?_ | refine x_retN ?_ | refine x_ifs ?_ | refine x_setIx ?_ | refine x_unpack ?_ | refine l_add ?_ | refine l_sub ?_ | refine l_eqI ?_ | refine l_neI ?_ | refine l_eqB ?_ | refine l_neB ?_ | refine l_lt ?_ | refine l_le ?_ | refine l_gt ?_ | refine l_ge ?_ | refine ifT' rfl ?_ | refine ifF' rfl ?_ | refine ⟨_, rfl, ?_⟩ | refine ⟨rfl, ?_⟩ | refine ⟨Nat.le_of_ble_eq_true rfl, ?_⟩ | refine WC_some rfl ?_ | refine W_some rfl ?_))
    refine fin_same rfl hS rfl ?_
    have : cntO w = some [] := by unfold cntO; rw [if_pos h]
    rw [this] at q
    exact q
  have e : cntO w = numsO (Txt.split w ",") := by unfold cntO; rw [if_neg (by rw [h]; exact Bool.false_ne_true)]
  rw [e] at q
  have hlen := split_len sepCo hw
  refine x_nil ?_
  refine x_cons ?_
  refine x_retR ?_
  refine q_tupC ?_
  refine w_x ?_
  refine r_seq ?_
  refine w_meth ?_
  refine w_var rfl ?_
  refine ⟨rfl, ?_⟩
  refine w_cons ?_
  refine w_cst ?_
  refine w_nil ?_
  refine l_split sepCo hw ?_
  refine WC_some rfl ?_
  refine need_all (ws := Txt.split w ",") (z := z) (by simp) rfl (Nat.le_trans hlen (by decide)) (fun w' h' => ⟨_, rfl, fun QR qr => ?_⟩) ?_
  · refine c_call ?_
    refine w_cons ?_
    refine w_var rfl ?_
    refine w_cons ?_
    refine w_var rfl ?_
    refine w_nil ?_
    exact need_number (split_tx sepCo hw w' h') hS qr
  · cases hn : numsO (Txt.split w ",") with
    | none =>
      rw [hn] at q
      exact finX_same rfl hS q
    | some l =>
      rw [hn] at q
      have hl : l.length ≤ 101 := by
        unfold numsO at hn
        split at hn
        · cases hn; simpa using hlen
        · cases hn
      refine ⟨by rw [List.length_map]; exact Nat.le_trans hl (by decide), ?_⟩
      exact fin_same rfl hS (puD_cn l) q
end Tt.L
end

section
/-! k64: a machine read by the program. -/
namespace Tt.L
open PySem Tt Tt.P
def rdMove (many : Int) (line : Str) : Option Mv := match Txt.split line " " with
  | [a, b] => (cntO a).bind fun x => (cntO b).bind fun y => if mvB many (x, y) = true then some (x, y) else none
  | _ => none
def rdMs (many : Int) : Nat → List Str → List Mv → List Mv ⊕ Int
  | _, [], acc => .inl acc
  | i, l :: r, acc => match rdMove many l with
    | some m => if acc.length < 8 then rdMs many (i + 1) r (acc ++ [m]) else .inr (i + 2)
    | none => .inr (i + 2)
def rdM (t : Str) : Rz := match Txt.split t "\n" with
  | [] => .er 1
  | l0 :: rest => match numO l0 with
    | none => .er 1
    | some many => if many ≤ 5 then (match rdMs many 0 rest [] with | .inl ms => .ok (mcD many ms) | .inr z => .er z) else .er 1
theorem two {α : Type} {l : List α} (h : l.length = 2) : ∃ a b, l = [a, b] := by
  match l, h with
  | [a, b], _ => exact ⟨a, b, rfl⟩
theorem rdMove_none {many : Int} {line : Str} (h : (Txt.split line " ").length ≠ 2) : rdMove many line = none := by
  unfold rdMove
  split
  · rename_i a b e; rw [e] at h; exact absurd rfl h
  · rfl
theorem cntO_len {w : Str} (hw : tx w = true) {l : List Int} (h : cntO w = some l) : l.length ≤ 101 := by
  unfold cntO at h
  split at h
  · cases h; exact Nat.zero_le _
  · unfold numsO at h
    split at h
    · cases h
      rw [List.length_map]
      exact split_len sepCo hw
    · cases h
theorem l_app {n : Nat} {l : List D} {x : D} {S : Sto} {Q : D → Sto → Prop} (h : S[n]? = some (.lst l)) (hz : l.length < sizeLine) (q : Q .non (S.set n (.lst (l ++ [x])))) : W (mthD .append (.ref n) [x] S) Q :=
  ⟨_, _, by simp only [mthD]; rw [h]; show (if l.length < sizeLine then _ else none) = _; rw [if_pos hz], q⟩
theorem chk_app {n : Nat} {l : List D} {S : Sto} (h : S[n]? = some (.lst l)) : mthChk .append (.ref n) S = true := by
  show (litems S (.ref n)).isSome = true
  simp only [litems, h]; rfl
theorem l_tupR {fz : Bool} {n : Nat} {l : List D} {S : Sto} {Q : D → Sto → Prop} (h : S[n]? = some (.lst l)) (q : Q (.tup l) S) : W (bltD fz .tuple [.ref n] S) Q :=
  ⟨_, _, by simp only [bltD, items, h]; rfl, q⟩
theorem cut_tail {x : D} {l : List D} : cutD (x :: l) (some 1) none = l := by
  simp [cutD, HT.sIx]
theorem l_tail {x : D} {l : List D} {S : Sto} {Q : D → Sto → Prop} (q : Q (.lst l) S) : W (slD (.lst (x :: l)) (some 1) none S) Q := ⟨_, _, by simp only [slD, litems, Option.map_some, cut_tail], q⟩
theorem mchB_snoc {many : Int} {acc : List Mv} {m : Mv} (h1 : decide (0 ≤ many) = true) (h2 : decide (many ≤ 5) = true) (ha : acc.all (mvB many) = true) : mchB many (acc ++ [m]) = (decide (acc.length < 8) && mvB many m) := by
  unfold mchB
  rw [h1, h2, List.all_append, ha, List.length_append]
  have : decide (((acc.length + [m].length : Nat) : Int) ≤ 8) = decide (acc.length < 8) := by
    apply decide_eq_decide.mpr
    simp only [List.length_cons, List.length_nil]
    omega
  rw [this]
  simp
theorem set_last {S : Sto} {o o' : O} : (S ++ [o]).set S.length o' = S ++ [o'] := by simp
theorem get_last {S : Sto} {o : O} : (S ++ [o])[S.length]? = some o := by simp
theorem all_last {S : Sto} {o : O} (hS : S.all puO = true) (ho : puO o = true) : (S ++ [o]).all puO = true := by simp [hS, ho]
theorem read_machine {k : Nat} {t : Str} {S : Sto} {Q : Rz → Sto → Prop} (ht : tx t = true) (hS : S.all puO = true) (q : Q (rdM t) S) : W (calls pg (k + 4) 18 [.str t] S) Q := by
  have e : calls pg (k + 4) 18 [.str t] S = Tt.run (calls pg (k + 3)) d18.df [.str t] S := rfl
  rw [e]
  refine w_runX rfl ?_
  refine x_cons ?_
  refine x_set ?_
  refine w_meth ?_
  refine w_var rfl ?_
  refine ⟨rfl, ?_⟩
  refine w_cons ?_
  refine w_cst ?_
  refine w_nil ?_
  refine l_split sepNl ht ?_
  have htx := split_tx sepNl ht
  have hlen := split_len sepNl ht
  have hne := split_ne (t := t) sepNl
  unfold rdM at q
  generalize Txt.split t "\n" = lines at *
  cases lines with
  | nil => exact absurd rfl hne
  | cons l0 rest =>
  dsimp only at q
  refine x_cons ?_
  refine x_setR ?_
  refine q_c ?_
  refine c_call ?_
  refine w_cons ?_
  refine w_ix ?_
  refine w_var rfl ?_
  refine w_cst ?_
  refine l_ixL (i := 0) (x := .str l0) rfl ?_
  refine w_cons ?_
  refine w_cst ?_
  refine w_nil ?_
  refine need_number (htx l0 List.mem_cons_self) hS ?_
  cases hn : numO l0 with
  | none =>
    rw [hn] at q
    exact finX_same rfl hS q
  | some many =>
  rw [hn] at q
  dsimp only at q
  have h0 := (numO_pos hn).1
  refine x_cons ?_
  refine x_set ?_
  refine w_lstF ?_
  refine w_nil ?_
  refine ⟨Nat.zero_le _, ?_⟩
  refine x_cons ?_
  refine x_ifs ?_
  refine t_not' ?_
  refine t_val' ?_
  refine w_call ?_
  refine w_cons ?_
  refine w_tup ?_
  refine w_cons ?_
  refine w_var rfl ?_
  refine w_cons ?_
  refine w_tup ?_
  refine w_nil ?_
  refine ⟨Nat.zero_le _, ?_⟩
  refine w_nil ?_
  refine ⟨by show 2 ≤ sizeLine; decide, ?_⟩
  refine w_nil ?_
  have hS1 : (S ++ [O.lst ([] : List D)]).all puO = true := all_last hS rfl
  refine machine (many := many) (ms := []) (Nat.zero_le _) (fun m hm => by cases hm) hS1 ?_
  refine WC_some rfl ?_
  refine ifB (fun h => ?_) (fun h => ?_)
  · refine x_cons ?_
    refine x_raise ?_
    refine w_cst ?_
    refine ⟨_, rfl, ?_⟩
    refine finX_drop rfl hS ?_
    have : ¬ many ≤ 5 := by
      intro h5
      simp [mchB, h0, h5] at h
    rw [if_neg this] at q
    exact q
  have h5 : many ≤ 5 := by
    have : mchB many [] = true := by simpa using h
    simp only [mchB, Bool.and_eq_true] at this
    exact of_decide_eq_true this.1.1.2
  rw [if_pos h5] at q
  have d0 : decide (0 ≤ many) = true := decide_eq_true h0
  have d5 : decide (many ≤ 5) = true := decide_eq_true h5
  refine x_nil ?_
  refine x_cons ?_
  refine x_for ?_
  refine r_enum ?_
  refine w_slice ?_
  refine w_var rfl ?_
  refine w_oS ?_
  refine w_cst ?_
  refine ⟨_, rfl, ?_⟩
  refine w_oN ?_
  refine l_tail ?_
  refine WC_some rfl ?_
  refine for_inv (l := numbered 0 (rest.map .str)) (fun (i : Nat) (e : En) (S' : Sto) => ∃ (acc : List Mv) (a b c d' : Option D), S' = S ++ [.lst (acc.map mvD)] ∧ e = [some (.str t), some (.lst ((l0 :: rest).map .str)), some (.int many), some (.ref S.length), a, b, c, d'] ∧
      acc.all (mvB many) = true ∧ acc.length ≤ 8 ∧ (∀ m ∈ acc, m.1.length ≤ 200 ∧ m.2.length ≤ 200) ∧ rdMs many 0 rest [] = rdMs many i (rest.drop i) acc) (by rw [numbered_length]) ⟨[], _, _, _, _, rfl, rfl, rfl, Nat.zero_le _, (fun m hm => nomatch hm), rfl⟩ (fun i e S' h => rfl) ?_ ?_
  · rintro i x e S' hx ⟨acc, a, b, c, d', rfl, rfl, ha, h8, hb, he⟩
    rw [numbered_get, Option.map_eq_some_iff] at hx
    obtain ⟨y, hy, rfl⟩ := hx
    rw [List.getElem?_map, Option.map_eq_some_iff] at hy
    obtain ⟨line, hline, rfl⟩ := hy
    have hltx := htx line (List.mem_cons_of_mem _ (List.mem_of_getElem? hline))
    have hdrop : rest.drop i = line :: rest.drop (i + 1) := by
      obtain ⟨hlt, e⟩ := List.getElem?_eq_some_iff.mp hline
      rw [← e]; exact List.drop_eq_getElem_cons hlt
    rw [hdrop] at he
    have hS2 : (S ++ [O.lst (acc.map mvD)]).all puO = true := all_last hS (pu_mvs acc)
    refine ⟨_, rfl, ?_⟩
    have ez : ((0 + i : Nat) : Int) = (i : Int) := by simp
    rw [ez]
    refine x_cons ?_
    refine x_set ?_
    refine w_meth ?_
    refine w_var rfl ?_
    refine ⟨rfl, ?_⟩
    refine w_cons ?_
    refine w_cst ?_
    refine w_nil ?_
    refine l_split sepSp hltx ?_
    have htw := split_tx sepSp hltx
    refine x_cons ?_
    refine x_ifs ?_
    refine t_cmp' ?_
    refine w_blt ?_
    refine w_cons ?_
    refine w_var rfl ?_
    refine w_nil ?_
    refine W_some rfl ?_
    refine w_cst ?_
    refine l_neI ?_
    -- an error told at this line
    have bad : ∀ (h : rdMs many i (line :: rest.drop (i + 1)) acc = .inr (i + 2)), Q (.er ((i : Int) + 2)) S := fun h => by
      rw [he, h] at q
      exact q
    refine ifB (fun hw => ?_) (fun hw => ?_)
    · (repeat (first | refine w_var rfl ?_ | refine w_cst ?_ | refine w_glob ?_ | refine w_nil ?_ | refine w_cons ?_ | refine w_bin ?_ | refine w_ix ?_ | refine w_call ?_ | refine w_blt ?_ | refine w_isi ?_ | refine w_tup ?_ | refine w_lstT ?_ | refine w_lstF ?_ | refine e_and ?_ | refine e_or ?_ | refine w_not ?_ | refine w_neg ?_ | refine w_ite ?_ | refine w_cmp ?_ | refine w_chain ?_ | refine w_slice ?_ | refine w_oN ?_ | refine w_oS ?_ | refine t_val' ?_ | refine t_cmp' ?_ | refine t_chain' ?_ | refine t_not' ?_ | refine t_and' ?_ | refine t_or' ?_ | refine ts_nil ?_ | refine ts_cons ?_ | refine x_nil ?_ | refine x_set ?_ | refine x_expr ?_ | refine x_ret ?_ | refine x_retN ?_ | refine x_ifs ?_ | refine x_setIx ?_ | refine x_unpack ?_ | refine l_add ?_ | refine l_sub ?_ | refine l_eqI ?_ | refine l_neI ?_ | refine l_eqB ?_ | refine l_neB ?_ | refine l_lt ?_ | refine l_le ?_ | refine l_gt ?_ | refine l_ge ?_ | refine ifT' rfl ?_ | refine ifF' rfl ?_ | refine ⟨_, rfl, ?_⟩ | refine ⟨rfl, ?_⟩ | refine ⟨Nat.le_of_ble_eq_true rfl, ?_⟩ | refine WC_some rfl ?_ | refine W_some rfl ?_))
      refine x_cons ?_
      refine x_raise ?_
      (repeat (first | refine w_var rfl ?_ | refine w_cst ?_ | refine w_glob ?_ | refine w_nil ?_ | refine w_cons ?_ | refine w_bin ?_ | refine w_ix ?_ | refine w_call ?_ | refine w_blt ?_ | refine w_isi ?_ | refine w_tup ?_ | refine w_lstT ?_ | refine w_lstF ?_ | refine e_and ?_ | refine e_or ?_ | refine w_not ?_ | refine w_neg ?_ | refine w_ite ?_ | refine w_cmp ?_ | refine w_chain ?_ | refine w_slice ?_ | refine w_oN ?_ | refine w_oS ?_ | refine t_val' ?_ | refine t_cmp' ?_ | refine t_chain' ?_ | refine t_not' ?_ | refine t_and' ?_ | refine t_or' ?_ | refine ts_nil ?_ | refine ts_cons ?_ | refine x_nil ?_ | refine x_set ?_ | refine x_expr ?_ | refine x_ret ?_ | refine x_retN ?_ | refine x_ifs ?_ | refine x_setIx ?_ | refine x_unpack ?_ | refine l_add ?_ | refine l_sub ?_ | refine l_eqI ?_ | refine l_neI ?_ | refine l_eqB ?_ | refine l_neB ?_ | refine l_lt ?_ | refine l_le ?_ | refine l_gt ?_ | refine l_ge ?_ | refine ifT' rfl ?_ | refine ifF' rfl ?_ | refine ⟨_, rfl, ?_⟩ | refine ⟨rfl, ?_⟩ | refine ⟨Nat.le_of_ble_eq_true rfl, ?_⟩ | refine WC_some rfl ?_ | refine W_some rfl ?_))
      refine finX_drop rfl hS (bad ?_)
      have : rdMove many line = none := rdMove_none (by
        intro z
        rw [List.length_map, z] at hw
        cases hw)
      unfold rdMs
      rw [this]
    have hw2 : (Txt.split line " ").length = 2 := by
      have : (((((Txt.split line " ").map D.str).length : Nat) : Int) == 2) = true := by simpa using hw
      have := eq_of_beq this
      rw [List.length_map] at this
      omega
    obtain ⟨p1, p2, hp⟩ := two hw2
    have t1 := htw p1 (by rw [hp]; simp)
    have t2 := htw p2 (by rw [hp]; simp)
    rw [hp]
    refine x_nil ?_
    refine x_cons ?_
    refine x_setR ?_
    refine q_tup ?_
    refine cs_cons ?_
    refine c_call ?_
    refine w_cons ?_
    refine w_ix ?_
    refine w_var rfl ?_
    refine w_cst ?_
    refine l_ixL (i := 0) (x := .str p1) rfl ?_
    refine w_cons ?_
    refine w_bin ?_
    refine w_var rfl ?_
    refine w_cst ?_
    refine l_add ?_
    refine w_nil ?_
    refine read_counts t1 hS2 ?_
    cases h1 : cntO p1 with
    | none =>
      refine finX_drop rfl hS (bad ?_)
      have : rdMove many line = none := by unfold rdMove; rw [hp]; simp only [h1]; rfl
      unfold rdMs
      rw [this]
    | some x1 =>
    refine cs_cons ?_
    refine c_call ?_
    refine w_cons ?_
    refine w_ix ?_
    refine w_var rfl ?_
    refine w_cst ?_
    refine l_ixL (i := 1) (x := .str p2) rfl ?_
    refine w_cons ?_
    refine w_bin ?_
    refine w_var rfl ?_
    refine w_cst ?_
    refine l_add ?_
    refine w_nil ?_
    refine read_counts t2 hS2 ?_
    cases h2 : cntO p2 with
    | none =>
      refine finX_drop rfl hS (bad ?_)
      have : rdMove many line = none := by unfold rdMove; rw [hp]; simp only [h1, h2]; rfl
      unfold rdMs
      rw [this]
    | some x2 =>
    refine cs_nil ?_
    refine ⟨by show 2 ≤ sizeLine; decide, ?_⟩
    have b1 : x1.length ≤ 200 := Nat.le_trans (cntO_len t1 h1) (by decide)
    have b2 : x2.length ≤ 200 := Nat.le_trans (cntO_len t2 h2) (by decide)
    refine x_cons ?_
    refine x_ifs ?_
    refine t_not' ?_
    refine t_val' ?_
    refine w_call ?_
    refine w_cons ?_
    refine w_tup ?_
    refine w_cons ?_
    refine w_var rfl ?_
    refine w_cons ?_
    refine w_bin ?_
    refine w_blt ?_
    refine w_cons ?_
    refine w_var rfl ?_
    refine w_nil ?_
    refine l_tupR get_last ?_
    refine w_tup ?_
    refine w_cons ?_
    refine w_var rfl ?_
    refine w_nil ?_
    refine ⟨by show 1 ≤ sizeLine; decide, ?_⟩
    refine l_catT (by rw [List.length_map]; exact Nat.le_trans (Nat.add_le_add_right h8 _) (by show 9 ≤ sizeLine; decide)) ?_
    refine w_nil ?_
    refine ⟨by show 2 ≤ sizeLine; decide, ?_⟩
    refine w_nil ?_
    have em : D.tup [.int many, .tup (acc.map mvD ++ [.tup [cnD x1, cnD x2]])] = mcD many (acc ++ [(x1, x2)]) := by
      simp [mcD, mvD]
    rw [em]
    refine machine (by rw [List.length_append]; exact Nat.le_trans (Nat.add_le_add_right h8 _) (by show 9 ≤ 200; decide)) (fun m hm => ?_) hS2 ?_
    · rcases List.mem_append.mp hm with z | z
      · exact hb m z
      · rw [List.mem_singleton.mp z]; exact ⟨b1, b2⟩
    rw [mchB_snoc d0 d5 ha]
    refine WC_some rfl ?_
    refine ifB (fun hm => ?_) (fun hm => ?_)
    · refine x_cons ?_
      refine x_raise ?_
      (repeat (first | refine w_var rfl ?_ | refine w_cst ?_ | refine w_glob ?_ | refine w_nil ?_ | refine w_cons ?_ | refine w_bin ?_ | refine w_ix ?_ | refine w_call ?_ | refine w_blt ?_ | refine w_isi ?_ | refine w_tup ?_ | refine w_lstT ?_ | refine w_lstF ?_ | refine e_and ?_ | refine e_or ?_ | refine w_not ?_ | refine w_neg ?_ | refine w_ite ?_ | refine w_cmp ?_ | refine w_chain ?_ | refine w_slice ?_ | refine w_oN ?_ | refine w_oS ?_ | refine t_val' ?_ | refine t_cmp' ?_ | refine t_chain' ?_ | refine t_not' ?_ | refine t_and' ?_ | refine t_or' ?_ | refine ts_nil ?_ | refine ts_cons ?_ | refine x_nil ?_ | refine x_set ?_ | refine x_expr ?_ | refine x_ret ?_ | refine x_retN ?_ | refine x_ifs ?_ | refine x_setIx ?_ | refine x_unpack ?_ | refine l_add ?_ | refine l_sub ?_ | refine l_eqI ?_ | refine l_neI ?_ | refine l_eqB ?_ | refine l_neB ?_ | refine l_lt ?_ | refine l_le ?_ | refine l_gt ?_ | refine l_ge ?_ | refine ifT' rfl ?_ | refine ifF' rfl ?_ | refine ⟨_, rfl, ?_⟩ | refine ⟨rfl, ?_⟩ | refine ⟨Nat.le_of_ble_eq_true rfl, ?_⟩ | refine WC_some rfl ?_ | refine W_some rfl ?_))
      refine finX_drop rfl hS (bad ?_)
      unfold rdMs rdMove
      rw [hp]
      simp only [h1, h2, Option.bind_some]
      cases hmv : mvB many (x1, x2) with
      | false => simp
      | true =>
        rw [hmv] at hm
        have : ¬ acc.length < 8 := by
          intro z
          rw [decide_eq_true z] at hm
          cases hm
        simp [this]
    · have hm' : (decide (acc.length < 8) && mvB many (x1, x2)) = true := by simpa using hm
      rw [Bool.and_eq_true, decide_eq_true_eq] at hm'
      refine x_nil ?_
      refine x_cons ?_
      refine x_expr ?_
      refine w_meth ?_
      refine w_var rfl ?_
      refine ⟨chk_app get_last, ?_⟩
      refine w_cons ?_
      refine w_var rfl ?_
      refine w_nil ?_
      refine l_app get_last (by rw [List.length_map]; exact Nat.lt_of_le_of_lt h8 (by decide)) ?_
      refine x_nil ?_
      refine ⟨acc ++ [(x1, x2)], _, _, _, _, by rw [set_last]; simp [mvD], rfl, by rw [List.all_append, ha, List.all_cons, hm'.2]; rfl, by rw [List.length_append]; exact hm'.1, fun m hm => ?_, ?_⟩
      · rcases List.mem_append.mp hm with z | z
        · exact hb m z
        · rw [List.mem_singleton.mp z]; exact ⟨b1, b2⟩
      · rw [he]
        have : rdMove many line = some (x1, x2) := by unfold rdMove; rw [hp]; simp only [h1, h2, Option.bind_some, hm'.2, if_true]
        rw [rdMs, this]
        simp only [if_pos hm'.1]
  · rintro e S' ⟨acc, a, b, c, d', rfl, rfl, ha, h8, hb, he⟩
    rw [numbered_length, List.length_map, List.drop_length] at he
    rw [he] at q
    refine x_cons ?_
    refine x_ret ?_
    refine w_tup ?_
    refine w_cons ?_
    refine w_var rfl ?_
    refine w_cons ?_
    refine w_blt ?_
    refine w_cons ?_
    refine w_var rfl ?_
    refine w_nil ?_
    refine l_tupR get_last ?_
    refine w_nil ?_
    refine ⟨by show 2 ≤ sizeLine; decide, ?_⟩
    refine fin_drop rfl hS ?_ q
    simp [puD, puL, pu_mvs]
end Tt.L
end

section
/-! k64: a machine read by the law. -/
namespace Tt.L
open PySem Tt Tt.P
def lawD : Rz → D
  | .ok d => d
  | .er z => .int z
def pyLL (o : Option (List Int)) : PyData := match o with
  | some l => .list [.list (l.map .int)]
  | none => .list []
theorem pyL_ints : ∀ l : List Int, pyL (l.map .int) = some (l.map PyData.int)
  | [] => rfl
  | i :: r => by
    rw [List.map_cons, pyL, pyL_ints r]
    rfl
theorem lay_ints : ∀ l : List Int, PyData.canLayAll0 (l.map PyData.int) = true
  | [] => rfl
  | i :: r => by
    rw [List.map_cons, PyData.canLayAll0, lay_ints r]
    rfl
theorem depth_ints : ∀ l : List Int, PyData.depthAll (l.map PyData.int) = 0
  | [] => rfl
  | i :: r => by
    rw [List.map_cons, PyData.depthAll, depth_ints r]
    rfl
theorem pyD_optLL (o : Option (List Int)) : pyD (optLL o) = some (pyLL o) := by
  cases o with
  | none => rfl
  | some l =>
    show (pyL [D.lst (l.map D.int)]).map PyData.list = _
    simp only [pyL, pyD, pyL_ints, Option.map_some, Option.bind_some]
    rfl
theorem pyL_optLL : ∀ l : List (Option (List Int)), pyL (l.map optLL) = some (l.map pyLL)
  | [] => rfl
  | o :: r => by
    rw [List.map_cons, pyL, pyD_optLL, pyL_optLL r]
    rfl
theorem lay_optLL : ∀ l : List (Option (List Int)), PyData.canLayAll0 (l.map pyLL) = true
  | [] => rfl
  | o :: r => by
    rw [List.map_cons, PyData.canLayAll0, lay_optLL r]
    cases o with
    | none => rfl
    | some l => simp [pyLL, PyData.canLay0, PyData.canLayAll0, lay_ints]
theorem depth_optLL (l : List (Option (List Int))) : (PyData.list (l.map pyLL)).depth ≤ 64 := by
  have h : ∀ l : List (Option (List Int)), PyData.depthAll (l.map pyLL) ≤ 3 := by
    intro l
    induction l with
    | nil => simp [PyData.depthAll]
    | cons o r ih =>
      rw [List.map_cons]
      simp only [PyData.depthAll]
      have : (pyLL o).depth ≤ 3 := by cases o <;> simp [pyLL, PyData.depth, PyData.depthAll, depth_ints]
      omega
  have := h l
  simp only [PyData.depth]
  omega
theorem inLL {l : List (Option (List Int))} {S : Sto} {QC : Bool → Prop} (q : QC (l.any Option.isNone)) : WC (cmpD .inn (.lst []) (.lst (l.map optLL)) S) QC := by
  refine ⟨_, ?_, q⟩
  show inL (.lst []) (l.map optLL) = _
  unfold inL
  rw [if_neg (by simp [flatD]), pyL_optLL]
  show (if (SeqAt.shaped (.list []) && SeqAt.shaped (.list (l.map pyLL))) = true then _ else none) = _
  rw [if_pos]
  · have : (l.map pyLL).any (fun z => PyData.eqv z (.list [])) = l.any Option.isNone := by
      rw [List.any_map]
      refine congrArg (fun f => l.any f) (funext fun o => ?_)
      cases o <;> rfl
    rw [← this]
  · refine Bool.and_eq_true_iff.mpr ⟨by decide, Bool.and_eq_true_iff.mpr ⟨?_, decide_eq_true (depth_optLL l)⟩⟩
    show PyData.canLayAll0 (l.map pyLL) = true
    exact lay_optLL l
/-- some list of one number is not the empty list -/
theorem l_eqN {o : Option Int} {S : Sto} {QC : Bool → Prop} (q : QC o.isNone) : WC (cmpD .eq (optL o) (.lst []) S) QC := by
  cases o with
  | none => exact ⟨_, rfl, q⟩
  | some i => exact ⟨_, rfl, q⟩
theorem numsO_pos {ws : List Str} {l : List Int} (h : numsO ws = some l) : ∀ x ∈ l, 0 ≤ x := by
  unfold numsO at h
  split at h
  · cases h
    intro x hx
    obtain ⟨w, _, rfl⟩ := List.mem_map.mp hx
    unfold valN
    omega
  · cases h
theorem cntO_pos {w : Str} {l : List Int} (h : cntO w = some l) : ∀ x ∈ l, 0 ≤ x := by
  unfold cntO at h
  split at h
  · cases h; intro x hx; cases hx
  · exact numsO_pos h
def lawCnt (many : Int) (l : List Int) : Bool := ((l.length : Int) == many) && l.all fun x => decide (x ≤ 9)
theorem lawCnt_eq {many : Int} {l : List Int} (h : ∀ x ∈ l, 0 ≤ x) : lawCnt many l = cntB many l := by
  unfold lawCnt cntB
  have : (l.all fun x => decide (x ≤ 9)) = l.all fun x => decide (0 ≤ x) && decide (x ≤ 9) := by
    rw [Bool.eq_iff_iff, List.all_eq_true, List.all_eq_true]
    refine ⟨fun z x hx => by rw [z x hx, decide_eq_true (h x hx)]; rfl, fun z x hx => (Bool.and_eq_true_iff.mp (z x hx)).2⟩
  rw [this]
theorem l_lenL {fz : Bool} {l : List D} {S : Sto} {Q : D → Sto → Prop} (q : Q (.int l.length) S) : W (bltD fz .len [.lst l] S) Q := ⟨_, _, rfl, q⟩
theorem rngL_get {n i : Nat} {lo : Int} (h : i < n) : (rngL lo n)[i]? = some (.int (lo + i)) := by
  simp [rngL, List.getElem?_map, List.getElem?_range h]
theorem row_of {k d : Nat} {p : Str} {S : Sto} {Q : D → Sto → Prop} {env : En} (hp : tx p = true) (hS : S.all puO = true) (he : env[7]? = some (some (.str p))) (q : Q (optLL (cntO p)) S) :
    W (ev (calls pg (k + 2)) (d + 4) (.ite (.cmp .eq (.var 7) (.cst (.str ("." : Str)))) (.lst true [(.lst true [])]) (.call 27 [(.meth .split (.var 7) [(.cst (.str ("," : Str)))])])) env S) Q := by
  refine w_ite ?_
  refine t_cmp' ?_
  refine w_var he ?_
  refine w_cst ?_
  refine l_eqS (tx1 hp) (by decide +kernel) ?_
  refine ifB (fun h => ?_) (fun h => ?_)
  · refine w_lstT ?_
    refine w_cons ?_
    refine w_lstT ?_
    refine w_nil ?_
    refine ⟨Nat.zero_le _, ?_⟩
    refine w_nil ?_
    refine ⟨by show 1 ≤ sizeLine; decide, ?_⟩
    have : cntO p = some [] := by unfold cntO; rw [if_pos h]
    rw [this] at q
    exact q
  · refine w_call ?_
    refine w_cons ?_
    refine w_meth ?_
    refine w_var he ?_
    refine ⟨rfl, ?_⟩
    refine w_cons ?_
    refine w_cst ?_
    refine w_nil ?_
    refine l_split sepCo hp ?_
    refine w_nil ?_
    have : cntO p = numsO (Txt.split p ",") := by unfold cntO; rw [if_neg (by rw [h]; exact Bool.false_ne_true)]
    rw [this] at q
    exact numsL (split_tx sepCo hp) (split_len sepCo hp) hS q
end Tt.L
end

section
/-! k64: the law's reading of a machine. -/
namespace Tt.L
open PySem Tt Tt.P
theorem pu_optLL (o : Option (List Int)) : puD (optLL o) = true := by
  cases o with
  | none => rfl
  | some l => simp [optLL, puD, puL, puL_ints]
theorem l_tupL {fz : Bool} {l : List D} {S : Sto} {Q : D → Sto → Prop} (q : Q (.tup l) S) : W (bltD fz .tuple [.lst l] S) Q := ⟨_, _, rfl, q⟩
theorem cnt_of {cal : Cal} {d : Nat} {l : List Int} {many : Int} {S : Sto} {Q : D → Sto → Prop} {env : En} (hl : l.length ≤ sizeLine) (h8 : env[8]? = some (some (.lst [.lst (l.map .int)]))) (h2 : env[2]? = some (some (.lst [.int many]))) (h9 : 9 < env.length) (q : Q (.bl (lawCnt many l)) S) :
    W (ev cal (d + 5) (.and (.cmp .eq (.blt true .len [(.ix (.var 8) (.cst (.int 0)))]) (.ix (.var 2) (.cst (.int 0)))) (.blt true .all [(.comp true [9] (.one 9) (.seq (.ix (.var 8) (.cst (.int 0)))) [] (.cmp .le (.var 9) (.cst (.int 9))))])) env S) Q := by
  refine e_and ?_
  refine w_cmp ?_
  refine w_blt ?_
  refine w_cons ?_
  refine w_ix ?_
  refine w_var h8 ?_
  refine w_cst ?_
  refine l_ixL (i := 0) rfl ?_
  refine w_nil ?_
  refine l_lenL ?_
  refine w_ix ?_
  refine w_var h2 ?_
  refine w_cst ?_
  refine l_ixL (i := 0) rfl ?_
  refine l_eqI ?_
  refine ⟨_, rfl, ?_⟩
  refine ifB (fun h => ?_) (fun h => ?_)
  · refine w_blt ?_
    refine w_cons ?_
    refine w_mapR (l.map .int) (l.map fun x => .bl (decide (x ≤ 9))) (by simpa using hl) (by simp) (r_seq ?_)
    refine w_ix ?_
    refine w_var h8 ?_
    refine w_cst ?_
    refine l_ixL (i := 0) rfl ?_
    refine WC_some rfl ⟨rfl, rfl, fun i x y hx hy => ?_, ?_⟩
    · simp only [List.getElem?_map, Option.map_eq_some_iff] at hx hy
      obtain ⟨w, h1, rfl⟩ := hx
      obtain ⟨w', h2, rfl⟩ := hy
      rw [h1] at h2; cases h2
      refine ⟨_, rfl, ?_⟩
      refine w_cmp ?_
      refine w_var (x := .int w) ?_ ?_
      · show (((env.set 9 none).set 9 (some (.int w))) : En)[9]? = _
        rw [List.getElem?_set_self (by simpa using h9)]
      refine w_cst ?_
      exact l_le ⟨rfl, rfl⟩
    · refine w_nil ?_
      refine l_all ?_
      have h' : ((l.length : Int) == many) = true := by simpa using h
      have : lawCnt many l = l.all fun x => decide (x ≤ 9) := by unfold lawCnt; rw [h']; rfl
      rw [this] at q
      exact q
  · have h' : ((l.length : Int) == many) = false := by simpa using h
    have : lawCnt many l = false := by unfold lawCnt; rw [h']; rfl
    rw [this] at q
    exact q
theorem machineL {k : Nat} {t : Str} {S : Sto} {Q : D → Sto → Prop} (ht : tx t = true) (hS : S.all puO = true) (q : Q (lawD (rdM t)) S) : WO (calls pg (k + 3) 31 [.str t] S) Q := by
  refine call_run (di := d31) rfl (w_run rfl ?_)
  refine x_cons ?_
  refine x_set ?_
  refine w_meth ?_
  refine w_var rfl ?_
  refine ⟨rfl, ?_⟩
  refine w_cons ?_
  refine w_cst ?_
  refine w_nil ?_
  refine l_split sepNl ht ?_
  have htx := split_tx sepNl ht
  have hlen := split_len sepNl ht
  have hne := split_ne (t := t) sepNl
  unfold rdM at q
  generalize Txt.split t "\n" = lines at *
  cases lines with
  | nil => exact absurd rfl hne
  | cons l0 rest =>
  dsimp only at q
  refine x_cons ?_
  refine x_set ?_
  refine w_call ?_
  refine w_cons ?_
  refine w_ix ?_
  refine w_var rfl ?_
  refine w_cst ?_
  refine l_ixL (i := 0) (x := .str l0) rfl ?_
  refine w_nil ?_
  refine numL (htx l0 List.mem_cons_self) hS ?_
  refine x_cons ?_
  refine x_ifs ?_
  refine t_or' ?_
  refine t_cmp' ?_
  refine w_var rfl ?_
  refine w_lstT ?_
  refine w_nil ?_
  refine ⟨Nat.zero_le _, ?_⟩
  refine l_eqN ?_
  cases hn : numO l0 with
  | none =>
    rw [hn] at q
    refine ifT' rfl ?_
    refine ifT' rfl ?_
    (repeat (first | refine w_var rfl ?_ | refine w_cst ?_ | refine w_glob ?_ | refine w_nil ?_ | refine w_cons ?_ | refine w_bin ?_ | refine w_ix ?_ | refine w_call ?_ | refine w_blt ?_ | refine w_isi ?_ | refine w_tup ?_ | refine w_lstT ?_ | refine w_lstF ?_ | refine e_and ?_ | refine e_or ?_ | refine w_not ?_ | refine w_neg ?_ | refine w_ite ?_ | refine w_cmp ?_ | refine w_chain ?_ | refine w_slice ?_ | refine w_oN ?_ | refine w_oS ?_ | refine t_val' ?_ | refine t_cmp' ?_ | refine t_chain' ?_ | refine t_not' ?_ | refine t_and' ?_ | refine t_or' ?_ | refine ts_nil ?_ | refine ts_cons ?_ | refine x_nil ?_ | refine x_cons ?_ | refine x_set ?_ | refine x_expr ?_ | refine x_ret ?_ | refine x_retN ?_ | refine x_ifs ?_ | refine x_setIx ?_ | refine x_unpack ?_ | refine l_add ?_ | refine l_sub ?_ | refine l_eqI ?_ | refine l_neI ?_ | refine l_eqB ?_ | refine l_neB ?_ | refine l_lt ?_ | refine l_le ?_ | refine l_gt ?_ | refine l_ge ?_ | refine ifT' rfl ?_ | refine ifF' rfl ?_ | refine ⟨_, rfl, ?_⟩ | refine ⟨rfl, ?_⟩ | refine ⟨Nat.le_of_ble_eq_true rfl, ?_⟩ | refine WC_some rfl ?_ | refine W_some rfl ?_))
    exact fin_same rfl hS rfl q
  | some many =>
  rw [hn] at q
  dsimp only at q
  have h0 := (numO_pos hn).1
  refine ifF' rfl ?_
  refine t_cmp' ?_
  refine w_ix ?_
  refine w_var rfl ?_
  refine w_cst ?_
  refine l_ixL (i := 0) (x := .int many) rfl ?_
  refine w_cst ?_
  refine l_gt ?_
  refine ifB (fun h => ?_) (fun h => ?_)
  · (repeat (first | refine w_var rfl ?_ | refine w_cst ?_ | refine w_glob ?_ | refine w_nil ?_ | refine w_cons ?_ | refine w_bin ?_ | refine w_ix ?_ | refine w_call ?_ | refine w_blt ?_ | refine w_isi ?_ | refine w_tup ?_ | refine w_lstT ?_ | refine w_lstF ?_ | refine e_and ?_ | refine e_or ?_ | refine w_not ?_ | refine w_neg ?_ | refine w_ite ?_ | refine w_cmp ?_ | refine w_chain ?_ | refine w_slice ?_ | refine w_oN ?_ | refine w_oS ?_ | refine t_val' ?_ | refine t_cmp' ?_ | refine t_chain' ?_ | refine t_not' ?_ | refine t_and' ?_ | refine t_or' ?_ | refine ts_nil ?_ | refine ts_cons ?_ | refine x_nil ?_ | refine x_cons ?_ | refine x_set ?_ | refine x_expr ?_ | refine x_ret ?_ | refine x_retN ?_ | refine x_ifs ?_ | refine x_setIx ?_ | refine x_unpack ?_ | refine l_add ?_ | refine l_sub ?_ | refine l_eqI ?_ | refine l_neI ?_ | refine l_eqB ?_ | refine l_neB ?_ | refine l_lt ?_ | refine l_le ?_ | refine l_gt ?_ | refine l_ge ?_ | refine ifT' rfl ?_ | refine ifF' rfl ?_ | refine ⟨_, rfl, ?_⟩ | refine ⟨rfl, ?_⟩ | refine ⟨Nat.le_of_ble_eq_true rfl, ?_⟩ | refine WC_some rfl ?_ | refine W_some rfl ?_))
    refine fin_same rfl hS rfl ?_
    have : ¬ many ≤ 5 := by
      have := of_decide_eq_true h
      omega
    rw [if_neg this] at q
    exact q
  have h5 : many ≤ 5 := by
    have := of_decide_eq_false h
    omega
  rw [if_pos h5] at q
  refine x_nil ?_
  refine x_cons ?_
  refine x_set ?_
  refine w_lstF ?_
  refine w_nil ?_
  refine ⟨Nat.zero_le _, ?_⟩
  refine x_cons ?_
  refine x_for ?_
  refine r_rng2 ?_
  refine w_cst ?_
  refine w_blt ?_
  refine w_cons ?_
  refine w_var rfl ?_
  refine w_nil ?_
  refine l_lenL ?_
  have en : (((l0 :: rest).map D.str).length : Int) = (rest.length : Int) + 1 := by simp
  have hr : rest.length ≤ 100 := by simpa using hlen
  refine ⟨_, _, rfl, rfl, ⟨by decide, by decide, by rw [en]; omega, by rw [en]; omega⟩, ?_⟩
  have en2 : ((((l0 :: rest).map D.str).length : Int) - 1).toNat = rest.length := by rw [en]; omega
  rw [en2]
  refine for_inv (l := rngL 1 rest.length) (fun (i : Nat) (e : En) (S' : Sto) => ∃ (acc : List Mv) (a b c d' g h' : Option D), S' = S ++ [.lst (acc.map mvD)] ∧ e = [some (.str t), some (.lst ((l0 :: rest).map .str)), some (.lst [.int many]), some (.ref S.length), a, b, c, d', g, h'] ∧
      acc.length = i ∧ acc.length ≤ 8 ∧ rdMs many 0 rest [] = rdMs many i (rest.drop i) acc) (by simp [rngL]) ⟨[], _, _, _, _, _, _, rfl, rfl, rfl, Nat.zero_le _, rfl⟩ (fun i e S' h => rfl) ?_ ?_
  · rintro i x e S' hx ⟨acc, a, b, c, d', g, h', rfl, rfl, hi, h8, he⟩
    have hlt : i < rest.length := by
      have := (List.getElem?_eq_some_iff.mp hx).1
      simpa [rngL] using this
    rw [rngL_get hlt] at hx
    cases hx
    obtain ⟨line, hline⟩ : ∃ line, rest[i]? = some line := ⟨_, List.getElem?_eq_getElem hlt⟩
    have hltx := htx line (List.mem_cons_of_mem _ (List.mem_of_getElem? hline))
    have hdrop : rest.drop i = line :: rest.drop (i + 1) := by
      obtain ⟨hlt, e⟩ := List.getElem?_eq_some_iff.mp hline
      rw [← e]; exact List.drop_eq_getElem_cons hlt
    rw [hdrop] at he
    have hS2 : (S ++ [O.lst (acc.map mvD)]).all puO = true := all_last hS (pu_mvs acc)
    refine ⟨_, rfl, ?_⟩
    have bad : ∀ (h : rdMs many i (line :: rest.drop (i + 1)) acc = .inr (i + 2)), Q (.int (1 + (i : Int) + 1)) S := fun h => by
      rw [he, h] at q
      have : (1 + (i : Int) + 1) = (i : Int) + 2 := by omega
      rw [this]
      exact q
    refine x_cons ?_
    refine x_set ?_
    refine w_meth ?_
    refine w_ix ?_
    refine w_var rfl ?_
    refine w_var rfl ?_
    have ei : (1 + (i : Int)) = ((i + 1 : Nat) : Int) := by omega
    rw [ei]
    refine l_ixL (i := i + 1) (x := .str line) (by simp [hline]) ?_
    refine ⟨rfl, ?_⟩
    refine w_cons ?_
    refine w_cst ?_
    refine w_nil ?_
    refine l_split sepSp hltx ?_
    have htw := split_tx sepSp hltx
    have hlw := split_len sepSp hltx
    have hrm : rdMove many line = match Txt.split line " " with
      | [a, b] => (cntO a).bind fun x => (cntO b).bind fun y => if mvB many (x, y) = true then some (x, y) else none
      | _ => none := rfl
    generalize Txt.split line " " = ws at *
    have hlz : ws.length ≤ sizeLine := Nat.le_trans hlw (by decide)
    refine x_cons ?_
    refine x_set ?_
    refine w_mapR (ws.map .str) (ws.map fun w => optLL (cntO w)) (by simpa using hlz) (by simp) (r_seq ?_)
    refine w_var rfl ?_
    refine WC_some rfl ⟨rfl, rfl, fun j x y hx hy => ?_, ?_⟩
    · simp only [List.getElem?_map, Option.map_eq_some_iff] at hx hy
      obtain ⟨w, h1, rfl⟩ := hx
      obtain ⟨w', h2, rfl⟩ := hy
      rw [h1] at h2; cases h2
      refine ⟨_, rfl, ?_⟩
      exact row_of (d := 53) (htw w (List.mem_of_getElem? h1)) hS2 rfl ⟨rfl, rfl⟩
    have em : (ws.map fun w => optLL (cntO w)) = (ws.map cntO).map optLL := by rw [List.map_map]; rfl
    rw [em]
    refine x_cons ?_
    refine x_ifs ?_
    refine t_or' ?_
    refine t_cmp' ?_
    refine w_blt ?_
    refine w_cons ?_
    refine w_var rfl ?_
    refine w_nil ?_
    refine l_lenL ?_
    refine w_cst ?_
    refine l_neI ?_
    have out : ∀ (h : rdMs many i (line :: rest.drop (i + 1)) acc = .inr (i + 2)) (e : En), e[4]? = some (some (.int ((i + 1 : Nat) : Int))) →
        WS (exs (ex (calls pg (k + 2)) 58) [.ret (.bin .add (.var 4) (.cst (.int 1)))] e (S ++ [.lst (acc.map mvD)])) fun fl _ S1 => match fl with
          | .rt d => W (fin d31.df S.length d S1) Q
          | _ => False := fun h e he => by
      refine x_cons ?_
      refine x_ret ?_
      refine w_bin ?_
      refine w_var he ?_
      refine w_cst ?_
      refine l_add ?_
      refine fin_drop rfl hS rfl ?_
      rw [← ei]
      exact bad h
    have leave : ∀ (h : rdMs many i (line :: rest.drop (i + 1)) acc = .inr (i + 2)) (e : En) (he : e[4]? = some (some (.int ((i + 1 : Nat) : Int)))) {P : Fl → En → Sto → Prop}, (∀ d e2 S1, W (fin d31.df S.length d S1) Q → P (.rt d) e2 S1) →
        WS (exs (ex (calls pg (k + 2)) 58) [.ret (.bin .add (.var 4) (.cst (.int 1)))] e (S ++ [.lst (acc.map mvD)])) P := fun h e he {P} hP => (out h e he).mono fun fl e2 S2 hh => by
      cases fl with
      | rt d => exact hP d e2 S2 hh
      | _ => exact hh.elim
    refine ifB (fun hw => ?_) (fun hw => ?_)
    · refine ifT' rfl ?_
      refine leave ?_ _ rfl fun d e2 S1 h => h
      have : rdMove many line = none := by
        rw [hrm]
        split
        · simp at hw
        · rfl
      unfold rdMs
      rw [this]
    have hw2 : ws.length = 2 := by
      have : ((((ws.map D.str).length : Nat) : Int) == 2) = true := by simpa using hw
      have := eq_of_beq this
      rw [List.length_map] at this
      omega
    obtain ⟨p1, p2, rfl⟩ := two hw2
    have t1 := htw p1 (by simp)
    have t2 := htw p2 (by simp)
    dsimp only at hrm
    refine t_or' ?_
    refine t_cmp' ?_
    refine w_lstT ?_
    refine w_nil ?_
    refine ⟨Nat.zero_le _, ?_⟩
    refine w_var rfl ?_
    refine inLL ?_
    refine ifB (fun hnn => ?_) (fun hnn => ?_)
    · refine ifT' rfl ?_
      refine leave ?_ _ rfl fun d e2 S1 h => h
      have : rdMove many line = none := by
        rw [hrm]
        cases h1 : cntO p1 with
        | none => rfl
        | some x1 => cases h2 : cntO p2 with
          | none => rfl
          | some x2 => rw [List.map_cons, List.map_cons, h1, h2] at hnn; cases hnn
      unfold rdMs
      rw [this]
    obtain ⟨x1, h1⟩ : ∃ x1, cntO p1 = some x1 := by
      cases h1 : cntO p1 with
      | none => rw [List.map_cons, h1] at hnn; cases hnn
      | some x1 => exact ⟨x1, rfl⟩
    obtain ⟨x2, h2⟩ : ∃ x2, cntO p2 = some x2 := by
      cases h2 : cntO p2 with
      | none => rw [List.map_cons, List.map_cons, h1, h2] at hnn; cases hnn
      | some x2 => exact ⟨x2, rfl⟩
    rw [h1, h2] at hrm
    simp only [Option.bind_some] at hrm
    refine t_cmp' ?_
    refine w_var rfl ?_
    refine w_cst ?_
    refine l_gt ?_
    refine ifB (fun h9 => ?_) (fun h9 => ?_)
    · refine leave ?_ _ rfl fun d e2 S1 h => h
      have h9' := of_decide_eq_true h9
      have : ¬ acc.length < 8 := by omega
      unfold rdMs
      cases rdMove many line with
      | none => rfl
      | some m => simp only [if_neg this]
    have h9' := of_decide_eq_false h9
    have hac : acc.length < 8 := by omega
    have er : ([p1, p2].map cntO).map optLL = [.lst [.lst (x1.map .int)], .lst [.lst (x2.map .int)]] := by
      simp only [List.map_cons, List.map_nil, h1, h2]; rfl
    rw [er]
    have z1 : x1.length ≤ sizeLine := Nat.le_trans (cntO_len t1 h1) (by decide)
    have z2 : x2.length ≤ sizeLine := Nat.le_trans (cntO_len t2 h2) (by decide)
    refine x_nil ?_
    refine x_cons ?_
    refine x_ifs ?_
    refine t_not' ?_
    refine t_val' ?_
    refine w_blt ?_
    refine w_cons ?_
    refine w_mapR [.lst [.lst (x1.map .int)], .lst [.lst (x2.map .int)]] [.bl (lawCnt many x1), .bl (lawCnt many x2)] (by show 2 ≤ sizeLine; decide) rfl (r_seq ?_)
    refine w_var rfl ?_
    refine WC_some rfl ⟨rfl, rfl, fun j x y hx hy => ?_, ?_⟩
    · match j, hx, hy with
      | 0, hx, hy =>
        cases hx; cases hy
        refine ⟨_, rfl, ?_⟩
        exact cnt_of (d := 49) z1 rfl rfl (by show 9 < 10; decide) ⟨rfl, rfl⟩
      | 1, hx, hy =>
        cases hx; cases hy
        refine ⟨_, rfl, ?_⟩
        exact cnt_of (d := 49) z2 rfl rfl (by show 9 < 10; decide) ⟨rfl, rfl⟩
    refine w_nil ?_
    refine W_some (d := D.bl (lawCnt many x1 && lawCnt many x2)) (S := S ++ [.lst (acc.map mvD)]) (by simp [bltD, litems, bools]) ?_
    refine WC_some rfl ?_
    have emv : (lawCnt many x1 && lawCnt many x2) = mvB many (x1, x2) := by unfold mvB; rw [lawCnt_eq (cntO_pos h1), lawCnt_eq (cntO_pos h2)]
    rw [emv]
    refine ifB (fun hm => ?_) (fun hm => ?_)
    · refine leave ?_ _ rfl fun d e2 S1 h => h
      have hm' : mvB many (x1, x2) = false := by simpa using hm
      rw [hm'] at hrm
      unfold rdMs
      rw [hrm]
      rfl
    have hm' : mvB many (x1, x2) = true := by simpa using hm
    rw [hm', if_pos rfl] at hrm
    refine x_nil ?_
    refine x_cons ?_
    refine x_expr ?_
    refine w_meth ?_
    refine w_var rfl ?_
    refine ⟨chk_app get_last, ?_⟩
    refine w_cons ?_
    refine w_tup ?_
    refine w_cons ?_
    refine w_blt ?_
    refine w_cons ?_
    refine w_ix ?_
    refine w_ix ?_
    refine w_var rfl ?_
    refine w_cst ?_
    refine l_ixL (i := 0) rfl ?_
    refine w_cst ?_
    refine l_ixL (i := 0) rfl ?_
    refine w_nil ?_
    refine l_tupL ?_
    refine w_cons ?_
    refine w_blt ?_
    refine w_cons ?_
    refine w_ix ?_
    refine w_ix ?_
    refine w_var rfl ?_
    refine w_cst ?_
    refine l_ixL (i := 1) rfl ?_
    refine w_cst ?_
    refine l_ixL (i := 0) rfl ?_
    refine w_nil ?_
    refine l_tupL ?_
    refine w_nil ?_
    refine ⟨by show 2 ≤ sizeLine; decide, ?_⟩
    refine w_nil ?_
    refine l_app get_last (by rw [List.length_map]; exact Nat.lt_of_le_of_lt h8 (by decide)) ?_
    refine x_nil ?_
    refine ⟨acc ++ [(x1, x2)], _, _, _, _, _, _, by rw [set_last]; simp [mvD, cnD], rfl, by simp [hi], by simp; omega, ?_⟩
    rw [he, rdMs, hrm]
    simp only [if_pos hac]
  · rintro e S' ⟨acc, a, b, c, d', g, h', rfl, rfl, hi, h8, he⟩
    have hl2 : (rngL 1 rest.length).length = rest.length := by simp [rngL]
    rw [hl2, List.drop_length] at he
    rw [he] at q
    refine x_cons ?_
    refine x_ret ?_
    refine w_tup ?_
    refine w_cons ?_
    refine w_ix ?_
    refine w_var rfl ?_
    refine w_cst ?_
    refine l_ixL (i := 0) (x := .int many) rfl ?_
    refine w_cons ?_
    refine w_blt ?_
    refine w_cons ?_
    refine w_var rfl ?_
    refine w_nil ?_
    refine l_tupR get_last ?_
    refine w_nil ?_
    refine ⟨by show 2 ≤ sizeLine; decide, ?_⟩
    refine fin_drop rfl hS ?_ q
    simp [puD, puL, pu_mvs]
end Tt.L
end

section
/-! k64: the law's look at a symbol. -/
namespace Tt.L
open PySem Tt Tt.P
def SMALL : Str := "abcdefghijklmnopqrstuvwxyz"
def LETS : Str := "abcdefghijklmnopqrstuvwxyzABCDEFGHIJKLMNOPQRSTUVWXYZ"
def GOS : Str := "abcdefghijklmnopqrstuvwxyzABCDEFGHIJKLMNOPQRSTUVWXYZ0123456789_"
theorem small_upper : SMALL ++ Txt.upper SMALL = LETS := by decide +kernel
theorem lets_go : LETS ++ "0123456789_" = GOS := by decide +kernel
theorem l_upper {a : Str} {S : Sto} {Q : D → Sto → Prop} (h : a.length ≤ 5592405) (q : Q (.str (Txt.upper a)) S) : W (mthD .upper (.str a) [] S) Q := ⟨_, _, by simp only [mthD]; rw [if_pos h], q⟩
theorem small_up {cal : Cal} {d : Nat} {env : En} {S : Sto} {Q : D → Sto → Prop} (he : env[1]? = some (some (.str SMALL))) (q : Q (.str LETS) S) : W (ev cal (d + 3) (.bin .add (.var 1) (.meth .upper (.var 1) [])) env S) Q := by
  refine w_bin ?_
  refine w_var he ?_
  refine w_meth ?_
  refine w_var he ?_
  refine ⟨rfl, ?_⟩
  refine w_nil ?_
  refine l_upper (by decide +kernel) ?_
  refine l_cat (by decide +kernel) ?_
  rw [small_upper]
  exact q
theorem l_inS {c : Nat} {z : Str} {S : Sto} {QC : Bool → Prop} (q : QC (decide (c ∈ z.cps.toList))) : WC (cmpD .inn (.str ⟨#[c]⟩) (.str z) S) QC := ⟨_, rfl, q⟩
theorem l_niS {c : Nat} {z : Str} {S : Sto} {QC : Bool → Prop} (q : QC (!decide (c ∈ z.cps.toList))) : WC (cmpD .notIn (.str ⟨#[c]⟩) (.str z) S) QC := ⟨_, rfl, q⟩
theorem symL {k : Nat} {w : Str} {S : Sto} {Q : D → Sto → Prop} (hw : tx w = true) (hS : S.all puO = true) (q : Q (.bl (symB w)) S) : WO (calls pg (k + 1) 28 [.str w] S) Q := by
  refine call_run (di := d28) rfl (w_run rfl ?_)
  have hl := tx3 hw
  simp only [symB] at q
  refine x_cons ?_
  refine x_set ?_
  refine w_cst ?_
  refine x_cons ?_
  refine x_ifs ?_
  refine t_or' ?_
  refine t_not' ?_
  refine t_chain' ?_
  refine w_cst ?_
  refine w_blt ?_
  refine w_cons ?_
  refine w_var rfl ?_
  refine w_nil ?_
  refine l_lenS hl ?_
  refine l_le ?_
  refine ifB (fun h1 => ?_) (fun h1 => ?_)
  case _ =>
    refine w_cst ?_
    refine l_le ?_
    refine ifB (fun h8 => ?_) (fun h8 => ?_)
    · refine ifT' rfl ?_
      (repeat (first | refine w_var rfl ?_ | refine w_cst ?_ | refine w_glob ?_ | refine w_nil ?_ | refine w_cons ?_ | refine w_bin ?_ | refine w_ix ?_ | refine w_call ?_ | refine w_blt ?_ | refine w_isi ?_ | refine w_tup ?_ | refine w_lstT ?_ | refine w_lstF ?_ | refine e_and ?_ | refine e_or ?_ | refine w_not ?_ | refine w_neg ?_ | refine w_ite ?_ | refine w_cmp ?_ | refine w_chain ?_ | refine w_slice ?_ | refine w_oN ?_ | refine w_oS ?_ | refine t_val' ?_ | refine t_cmp' ?_ | refine t_chain' ?_ | refine t_not' ?_ | refine t_and' ?_ | refine t_or' ?_ | refine ts_nil ?_ | refine ts_cons ?_ | refine x_nil ?_ | refine x_cons ?_ | refine x_set ?_ | refine x_expr ?_ | refine x_ret ?_ | refine x_retN ?_ | refine x_ifs ?_ | refine x_setIx ?_ | refine x_unpack ?_ | refine l_add ?_ | refine l_sub ?_ | refine l_eqI ?_ | refine l_neI ?_ | refine l_eqB ?_ | refine l_neB ?_ | refine l_lt ?_ | refine l_le ?_ | refine l_gt ?_ | refine l_ge ?_ | refine ifT' rfl ?_ | refine ifF' rfl ?_ | refine ⟨_, rfl, ?_⟩ | refine ⟨rfl, ?_⟩ | refine ⟨Nat.le_of_ble_eq_true rfl, ?_⟩ | refine WC_some rfl ?_ | refine W_some rfl ?_))
      refine fin_same rfl hS rfl ?_
      have h8' : decide ((w.length : Int) ≤ 8) = false := by simpa using h8
      rw [h8'] at q
      simpa using q
    have h8' : decide ((w.length : Int) ≤ 8) = true := by simpa using h8
    rcases head_cases w with e | ⟨c, cs, hc⟩
    · subst e
      exact absurd h1 (by decide)
    have e1 : ∀ l, headIn l w = inB l c := fun l => by unfold headIn; rw [hc]
    rw [h1, h8', e1, e1] at q
    refine t_or' ?_
    refine t_cmp' ?_
    refine w_ix ?_
    refine w_var rfl ?_
    refine w_cst ?_
    refine l_ixS (i := 0) (c := c) hl (by rw [hc]; rfl) ?_
    refine small_up rfl ?_
    refine l_niS ?_
    refine ifB (fun hc1 => ?_) (fun hc1 => ?_)
    · refine ifT' rfl ?_
      (repeat (first | refine w_var rfl ?_ | refine w_cst ?_ | refine w_glob ?_ | refine w_nil ?_ | refine w_cons ?_ | refine w_bin ?_ | refine w_ix ?_ | refine w_call ?_ | refine w_blt ?_ | refine w_isi ?_ | refine w_tup ?_ | refine w_lstT ?_ | refine w_lstF ?_ | refine e_and ?_ | refine e_or ?_ | refine w_not ?_ | refine w_neg ?_ | refine w_ite ?_ | refine w_cmp ?_ | refine w_chain ?_ | refine w_slice ?_ | refine w_oN ?_ | refine w_oS ?_ | refine t_val' ?_ | refine t_cmp' ?_ | refine t_chain' ?_ | refine t_not' ?_ | refine t_and' ?_ | refine t_or' ?_ | refine ts_nil ?_ | refine ts_cons ?_ | refine x_nil ?_ | refine x_cons ?_ | refine x_set ?_ | refine x_expr ?_ | refine x_ret ?_ | refine x_retN ?_ | refine x_ifs ?_ | refine x_setIx ?_ | refine x_unpack ?_ | refine l_add ?_ | refine l_sub ?_ | refine l_eqI ?_ | refine l_neI ?_ | refine l_eqB ?_ | refine l_neB ?_ | refine l_lt ?_ | refine l_le ?_ | refine l_gt ?_ | refine l_ge ?_ | refine ifT' rfl ?_ | refine ifF' rfl ?_ | refine ⟨_, rfl, ?_⟩ | refine ⟨rfl, ?_⟩ | refine ⟨Nat.le_of_ble_eq_true rfl, ?_⟩ | refine WC_some rfl ?_ | refine W_some rfl ?_))
      refine fin_same rfl hS rfl ?_
      have hc1' : (!inB LET c) = true := hc1
      have : inB LET c = false := by simpa using hc1'
      rw [this] at q
      simpa using q
    have hc1' : (!inB LET c) = false := hc1
    have hc2 : inB LET c = true := by simpa using hc1'
    rw [hc2] at q
    refine t_cmp' ?_
    refine w_ix ?_
    refine w_var rfl ?_
    refine w_cst ?_
    refine l_ixS (i := 0) (c := c) hl (by rw [hc]; rfl) ?_
    refine w_cst ?_
    refine l_inS ?_
    refine ifB (fun hc3 => ?_) (fun hc3 => ?_)
    · (repeat (first | refine w_var rfl ?_ | refine w_cst ?_ | refine w_glob ?_ | refine w_nil ?_ | refine w_cons ?_ | refine w_bin ?_ | refine w_ix ?_ | refine w_call ?_ | refine w_blt ?_ | refine w_isi ?_ | refine w_tup ?_ | refine w_lstT ?_ | refine w_lstF ?_ | refine e_and ?_ | refine e_or ?_ | refine w_not ?_ | refine w_neg ?_ | refine w_ite ?_ | refine w_cmp ?_ | refine w_chain ?_ | refine w_slice ?_ | refine w_oN ?_ | refine w_oS ?_ | refine t_val' ?_ | refine t_cmp' ?_ | refine t_chain' ?_ | refine t_not' ?_ | refine t_and' ?_ | refine t_or' ?_ | refine ts_nil ?_ | refine ts_cons ?_ | refine x_nil ?_ | refine x_cons ?_ | refine x_set ?_ | refine x_expr ?_ | refine x_ret ?_ | refine x_retN ?_ | refine x_ifs ?_ | refine x_setIx ?_ | refine x_unpack ?_ | refine l_add ?_ | refine l_sub ?_ | refine l_eqI ?_ | refine l_neI ?_ | refine l_eqB ?_ | refine l_neB ?_ | refine l_lt ?_ | refine l_le ?_ | refine l_gt ?_ | refine l_ge ?_ | refine ifT' rfl ?_ | refine ifF' rfl ?_ | refine ⟨_, rfl, ?_⟩ | refine ⟨rfl, ?_⟩ | refine ⟨Nat.le_of_ble_eq_true rfl, ?_⟩ | refine WC_some rfl ?_ | refine W_some rfl ?_))
      refine fin_same rfl hS rfl ?_
      have : inB VAR c = true := hc3
      rw [this] at q
      simpa using q
    have hc4 : inB VAR c = false := hc3
    rw [hc4] at q
    refine x_nil ?_
    refine x_cons ?_
    refine x_ret ?_
    refine w_blt ?_
    refine w_cons ?_
    refine signs (w := w) (g := inB GO) hl (w_var rfl ⟨rfl, rfl⟩) (fun c => ⟨_, rfl, ?_⟩) ?_
    · refine w_cmp ?_
      refine w_var rfl ?_
      refine w_bin ?_
      refine small_up rfl ?_
      refine w_cst ?_
      refine l_cat (by decide +kernel) ?_
      rw [lets_go]
      exact l_inS ⟨rfl, rfl⟩
    · refine w_nil ?_
      refine l_all ?_
      refine fin_same rfl hS rfl ?_
      simpa using q
  case _ =>
    refine ifT' rfl ?_
    (repeat (first | refine w_var rfl ?_ | refine w_cst ?_ | refine w_glob ?_ | refine w_nil ?_ | refine w_cons ?_ | refine w_bin ?_ | refine w_ix ?_ | refine w_call ?_ | refine w_blt ?_ | refine w_isi ?_ | refine w_tup ?_ | refine w_lstT ?_ | refine w_lstF ?_ | refine e_and ?_ | refine e_or ?_ | refine w_not ?_ | refine w_neg ?_ | refine w_ite ?_ | refine w_cmp ?_ | refine w_chain ?_ | refine w_slice ?_ | refine w_oN ?_ | refine w_oS ?_ | refine t_val' ?_ | refine t_cmp' ?_ | refine t_chain' ?_ | refine t_not' ?_ | refine t_and' ?_ | refine t_or' ?_ | refine ts_nil ?_ | refine ts_cons ?_ | refine x_nil ?_ | refine x_cons ?_ | refine x_set ?_ | refine x_expr ?_ | refine x_ret ?_ | refine x_retN ?_ | refine x_ifs ?_ | refine x_setIx ?_ | refine x_unpack ?_ | refine l_add ?_ | refine l_sub ?_ | refine l_eqI ?_ | refine l_neI ?_ | refine l_eqB ?_ | refine l_neB ?_ | refine l_lt ?_ | refine l_le ?_ | refine l_gt ?_ | refine l_ge ?_ | refine ifT' rfl ?_ | refine ifF' rfl ?_ | refine ⟨_, rfl, ?_⟩ | refine ⟨rfl, ?_⟩ | refine ⟨Nat.le_of_ble_eq_true rfl, ?_⟩ | refine WC_some rfl ?_ | refine W_some rfl ?_))
    refine fin_same rfl hS rfl ?_
    rw [h1] at q
    simpa using q
end Tt.L
end

section
/-! k64: a signature read by the program. -/
namespace Tt.L
open PySem Tt Tt.P
abbrev Pr2 : Type := Str × Int
def prD (p : Pr2) : D := .tup [.str p.1, .int p.2]
def sigW (w : Str) : Option Pr2 := match Txt.split w "/" with
  | [a, b] => (numO b).map fun n => (a, n)
  | _ => none
def sigsO : List Str → Option (List Pr2)
  | [] => some []
  | w :: r => (sigW w).bind fun p => (sigsO r).map (p :: ·)
def sgD (l : List Pr2) : D := .tup (l.map prD)
def rdS (t : Str) : Rz := match sigsO (Txt.split t " ") with
  | some l => if sigB (sgD l) = true then .ok (sgD l) else .er 1
  | none => .er 1
theorem sigW_none {w : Str} (h : (Txt.split w "/").length ≠ 2) : sigW w = none := by
  unfold sigW
  split
  · rename_i a b e; rw [e] at h; exact absurd rfl h
  · rfl
theorem sigW_len {w : Str} {p : Pr2} (h : sigW w = some p) : 1 ≤ w.length := by
  by_cases hw : w.length = 0
  · have e : w = "" := by
      rcases head_cases w with e | ⟨c, cs, hc⟩
      · exact e
      · have := TL.len_tl w
        unfold TL.tl at this
        rw [hc] at this
        simp at this
        omega
    subst e
    rw [sigW_none (by decide +kernel)] at h
    cases h
  · omega
theorem sigW_tx {w : Str} {p : Pr2} (hw : tx w = true) (h : sigW w = some p) : tx p.1 = true := by
  have ht := split_tx sepSl hw
  unfold sigW at h
  split at h
  · rename_i a b e
    rw [Option.map_eq_some_iff] at h
    obtain ⟨n, _, rfl⟩ := h
    exact ht a (by rw [e]; simp)
  · cases h
theorem sigsO_app {a b : List Str} : sigsO (a ++ b) = (sigsO a).bind fun x => (sigsO b).map (x ++ ·) := by
  induction a with
  | nil => simp [sigsO]
  | cons w r ih =>
    rw [List.cons_append, sigsO, sigsO, ih]
    cases sigW w with
    | none => rfl
    | some p => cases sigsO r with
      | none => rfl
      | some l => simp [Option.map_map, Function.comp_def]
theorem sigsO_one {w : Str} {p : Pr2} (h : sigW w = some p) : sigsO [w] = some [p] := by simp [sigsO, h]
theorem sigsO_bad {ws : List Str} {w : Str} (hm : w ∈ ws) (h : sigW w = none) : sigsO ws = none := by
  induction ws with
  | nil => cases hm
  | cons v r ih =>
    rw [sigsO]
    rcases List.mem_cons.mp hm with e | hm
    · rw [← e, h]; rfl
    · rw [ih hm]; cases sigW v <;> rfl
theorem sigsO_len {ws : List Str} {l : List Pr2} (h : sigsO ws = some l) : l.length = ws.length ∧ (∀ w ∈ ws, ∃ p, sigW w = some p ∧ p ∈ l) ∧ ∀ p ∈ l, ∃ w ∈ ws, sigW w = some p := by
  induction ws generalizing l with
  | nil => cases h; simp
  | cons v r ih =>
    rw [sigsO] at h
    cases hv : sigW v with
    | none => rw [hv] at h; cases h
    | some p =>
      rw [hv, Option.bind_some, Option.map_eq_some_iff] at h
      obtain ⟨l', h1, rfl⟩ := h
      obtain ⟨i1, i2, i3⟩ := ih h1
      refine ⟨by simp [i1], fun w hw => ?_, fun q hq => ?_⟩
      · rcases List.mem_cons.mp hw with e | hw
        · exact ⟨p, by rw [e]; exact hv, List.mem_cons_self⟩
        · obtain ⟨q, h1, h2⟩ := i2 w hw
          exact ⟨q, h1, List.mem_cons_of_mem _ h2⟩
      · rcases List.mem_cons.mp hq with e | hq
        · exact ⟨v, List.mem_cons_self, by rw [e]; exact hv⟩
        · obtain ⟨w, h1, h2⟩ := i3 q hq
          exact ⟨w, List.mem_cons_of_mem _ h1, h2⟩
theorem gd_prs : ∀ {l : List Pr2}, (∀ p ∈ l, tx p.1 = true) → gds (l.map prD) = true
  | [], _ => rfl
  | p :: r, h => by
    rw [List.map_cons, gds, gd_prs fun q hq => h q (List.mem_cons_of_mem _ hq)]
    have := h p List.mem_cons_self
    unfold tx at this
    simp only [prD, gd, gds, this, Bool.and_true]
    rfl
theorem pu_prs (l : List Pr2) : puL (l.map prD) = true := by
  induction l with
  | nil => rfl
  | cons p r ih => simp [puL, prD, puD, ih]
theorem gd_sig {t : Str} {l : List Pr2} (ht : tx t = true) (h : sigsO (Txt.split t " ") = some l) : gd (sgD l) = true := by
  obtain ⟨h1, h2, h3⟩ := sigsO_len h
  have hn : (Txt.split t " ").length ≤ 50 := split_len2 sepSp ht fun w hw => by
    obtain ⟨p, hp, _⟩ := h2 w hw
    exact sigW_len hp
  simp only [sgD, gd]
  rw [gd_prs fun p hp => ?_, decide_eq_true (by rw [List.length_map]; omega)]
  · rfl
  · obtain ⟨w, hw, e⟩ := h3 p hp
    exact sigW_tx (split_tx sepSp ht w hw) e
theorem read_signature {k : Nat} {t : Str} {S : Sto} {Q : Rz → Sto → Prop} (ht : tx t = true) (hS : S.all puO = true) (q : Q (rdS t) S) : W (calls pg (k + 4) 12 [.str t] S) Q := by
  have e : calls pg (k + 4) 12 [.str t] S = Tt.run (calls pg (k + 3)) d12.df [.str t] S := rfl
  rw [e]
  refine w_runX rfl ?_
  refine x_cons ?_
  refine x_set ?_
  refine w_lstF ?_
  refine w_nil ?_
  refine ⟨Nat.zero_le _, ?_⟩
  refine x_cons ?_
  refine x_for ?_
  refine r_seq ?_
  refine w_meth ?_
  refine w_var rfl ?_
  refine ⟨rfl, ?_⟩
  refine w_cons ?_
  refine w_cst ?_
  refine w_nil ?_
  refine l_split sepSp ht ?_
  have htx := split_tx sepSp ht
  have hlen := split_len sepSp ht
  have hgd := fun l => gd_sig (l := l) ht
  unfold rdS at q
  generalize Txt.split t " " = ws at *
  have bad : sigsO ws = none → Q (.er 1) S := fun h => by rw [h] at q; exact q
  refine WC_some rfl ?_
  refine for_inv (l := ws.map .str) (fun (i : Nat) (e : En) (S' : Sto) => ∃ (acc : List Pr2) (a b : Option D), S' = S ++ [.lst (acc.map prD)] ∧ e = [some (.str t), some (.ref S.length), a, b] ∧
      acc.length = i ∧ sigsO (ws.take i) = some acc) (by simp) ⟨[], _, _, rfl, rfl, rfl, rfl⟩ (fun i e S' h => rfl) ?_ ?_
  · rintro i x e S' hx ⟨acc, a, b, rfl, rfl, hi, he⟩
    rw [List.getElem?_map, Option.map_eq_some_iff] at hx
    obtain ⟨w, hw, rfl⟩ := hx
    have hmem := List.mem_of_getElem? hw
    have hwt := htx w hmem
    have hlt := (List.getElem?_eq_some_iff.mp hw).1
    have hS2 : (S ++ [O.lst (acc.map prD)]).all puO = true := all_last hS (pu_prs acc)
    refine ⟨_, rfl, ?_⟩
    refine x_cons ?_
    refine x_set ?_
    refine w_meth ?_
    refine w_var rfl ?_
    refine ⟨rfl, ?_⟩
    refine w_cons ?_
    refine w_cst ?_
    refine w_nil ?_
    refine l_split sepSl hwt ?_
    have htp := split_tx sepSl hwt
    have hsw : sigW w = match Txt.split w "/" with
      | [a, b] => (numO b).map fun n => (a, n)
      | _ => none := rfl
    generalize Txt.split w "/" = ps at *
    refine x_cons ?_
    refine x_ifs ?_
    refine t_cmp' ?_
    refine w_blt ?_
    refine w_cons ?_
    refine w_var rfl ?_
    refine w_nil ?_
    refine l_lenL ?_
    refine w_cst ?_
    refine l_neI ?_
    refine ifB (fun h2 => ?_) (fun h2 => ?_)
    · refine x_cons ?_
      refine x_raise ?_
      refine w_cst ?_
      refine ⟨_, rfl, ?_⟩
      refine finX_drop rfl hS (bad (sigsO_bad hmem ?_))
      rw [hsw]
      split
      · simp at h2
      · rfl
    have hp2 : ps.length = 2 := by
      have : ((((ps.map D.str).length : Nat) : Int) == 2) = true := by simpa using h2
      have := eq_of_beq this
      rw [List.length_map] at this
      omega
    obtain ⟨p1, p2, rfl⟩ := two hp2
    dsimp only at hsw
    refine x_nil ?_
    refine x_cons ?_
    refine x_appR ?_
    refine w_var rfl ?_
    refine ⟨chk_app get_last, ?_⟩
    refine q_tup ?_
    refine cs_cons ?_
    refine c_pure ?_
    refine w_ix ?_
    refine w_var rfl ?_
    refine w_cst ?_
    refine l_ixL (i := 0) rfl ?_
    refine cs_cons ?_
    refine c_call ?_
    refine w_cons ?_
    refine w_ix ?_
    refine w_var rfl ?_
    refine w_cst ?_
    refine l_ixL (i := 1) (x := .str p2) rfl ?_
    refine w_cons ?_
    refine w_cst ?_
    refine w_nil ?_
    refine need_number (htp p2 (by simp)) hS2 ?_
    cases hn : numO p2 with
    | none =>
      rw [hn] at hsw
      exact finX_drop rfl hS (bad (sigsO_bad hmem hsw))
    | some n =>
      rw [hn] at hsw
      refine cs_nil ?_
      refine ⟨by show 2 ≤ sizeLine; decide, ?_⟩
      refine l_app get_last (by rw [List.length_map]; exact Nat.lt_of_le_of_lt (Nat.le_of_lt (hi ▸ hlt)) (Nat.lt_of_le_of_lt hlen (by decide))) ?_
      refine x_nil ?_
      refine ⟨acc ++ [(p1, n)], _, _, by rw [set_last]; simp [prD], rfl, by simp [hi], ?_⟩
      rw [List.take_succ, hw]
      simp only [Option.toList]
      rw [sigsO_app, he, sigsO_one hsw]
      rfl
  · rintro e S' ⟨acc, a, b, rfl, rfl, hi, he⟩
    rw [List.length_map, List.take_length] at he
    rw [he] at q
    have hS2 : (S ++ [O.lst (acc.map prD)]).all puO = true := all_last hS (pu_prs acc)
    refine x_cons ?_
    refine x_ifs ?_
    refine t_not' ?_
    refine t_val' ?_
    refine w_call ?_
    refine w_cons ?_
    refine w_blt ?_
    refine w_cons ?_
    refine w_var rfl ?_
    refine w_nil ?_
    refine l_tupR get_last ?_
    refine w_nil ?_
    refine sigP (v := sgD acc) (hgd acc he) hS2 ?_
    refine WC_some rfl ?_
    refine ifB (fun h => ?_) (fun h => ?_)
    · refine x_cons ?_
      refine x_raise ?_
      refine w_cst ?_
      refine ⟨_, rfl, ?_⟩
      have h' : sigB (sgD acc) = false := by simpa using h
      dsimp only at q
      rw [if_neg (by rw [h']; exact Bool.false_ne_true)] at q
      exact finX_drop rfl hS q
    · have h' : sigB (sgD acc) = true := by simpa using h
      dsimp only at q
      rw [if_pos h'] at q
      refine x_nil ?_
      refine x_cons ?_
      refine x_ret ?_
      refine w_blt ?_
      refine w_cons ?_
      refine w_var rfl ?_
      refine w_nil ?_
      refine l_tupR get_last ?_
      exact fin_drop rfl hS (pu_prs acc) q
end Tt.L
end

section
/-! k64: the law's reading of a signature. -/
namespace Tt.L
open PySem Tt Tt.P
theorem flat_strs (l : List Str) : (l.map D.str).all flatD = true := by simp [flatD]
theorem l_inNames {x : Str} {l : List Str} {S : Sto} {QC : Bool → Prop} (q : QC (decide (x ∈ l))) : WC (cmpD .inn (.str x) (.lst (l.map .str)) S) QC := by
  refine ⟨_, ?_, q⟩
  show inL (.str x) (l.map D.str) = _
  unfold inL
  rw [if_pos (by rw [flat_strs]; rfl)]
  congr 1
  unfold L2.inV
  rw [List.map_map, List.any_map]
  clear q
  induction l with
  | nil => rfl
  | cons a r ih =>
    rw [List.any_cons, ih]
    have : (((fun y => L2.eqV y (toV (D.str x))) ∘ toV ∘ D.str) a) = decide (x = a) := by
      show (a == x) = _
      by_cases h : x = a
      · subst h; simp
      · rw [decide_eq_false h]; exact beq_eq_false_iff_ne.mpr fun e => h e.symm
    rw [this]
    simp only [List.mem_cons, Bool.decide_or]
theorem rdS_none {t : Str} (h : sigsO (Txt.split t " ") = none) : rdS t = .er 1 := by unfold rdS; rw [h]
theorem rdS_bad {t : Str} (h : ∀ l, sigsO (Txt.split t " ") = some l → sigB (sgD l) = false) : rdS t = .er 1 := by
  cases e : sigsO (Txt.split t " ") with
  | none => exact rdS_none e
  | some l => unfold rdS; rw [e]; simp only []; rw [if_neg (by rw [h l e]; exact Bool.false_ne_true)]
theorem nm_prs (l : List Pr2) : (l.map prD).map nmOf = l.map (·.1) := by rw [List.map_map]; rfl
theorem sigB_good {l : List Pr2} (h1 : ∀ p ∈ l, pairB (prD p) = true) (h2 : (l.map (·.1)).Nodup) : sigB (sgD l) = (decide (1 ≤ (l.length : Int)) && decide ((l.length : Int) ≤ 6)) := by
  have e1 : (l.map prD).all pairB = true := by
    rw [List.all_map, List.all_eq_true]
    exact h1
  simp only [sigB, sgD]
  rw [e1, nm_prs, decide_eq_true h2, List.length_map]
  simp
theorem signatureL {k : Nat} {t : Str} {S : Sto} {Q : D → Sto → Prop} (ht : tx t = true) (hS : S.all puO = true) (q : Q (lawD (rdS t)) S) : WO (calls pg (k + 2) 29 [.str t] S) Q := by
  refine call_run (di := d29) rfl (w_run rfl ?_)
  refine x_cons ?_
  refine x_set ?_
  refine w_lstF ?_
  refine w_nil ?_
  refine ⟨Nat.zero_le _, ?_⟩
  refine x_cons ?_
  refine x_for ?_
  refine r_seq ?_
  refine w_meth ?_
  refine w_var rfl ?_
  refine ⟨rfl, ?_⟩
  refine w_cons ?_
  refine w_cst ?_
  refine w_nil ?_
  refine l_split sepSp ht ?_
  have htx := split_tx sepSp ht
  have hlen := split_len sepSp ht
  have bad : sigsO (Txt.split t " ") = none → Q (.int 1) S := fun h => by rw [rdS_none h] at q; exact q
  have bad2 : (∀ l, sigsO (Txt.split t " ") = some l → sigB (sgD l) = false) → Q (.int 1) S := fun h => by rw [rdS_bad h] at q; exact q
  have good : ∀ l, sigsO (Txt.split t " ") = some l → sigB (sgD l) = true → Q (sgD l) S := fun l h1 h2 => by
    unfold rdS at q
    rw [h1] at q
    dsimp only at q
    rw [if_pos h2] at q
    exact q
  have not6 : ∀ l, sigsO (Txt.split t " ") = some l → sigB (sgD l) = false → Q (.int 1) S := fun l h1 h2 => bad2 fun l' h3 => by rw [h1] at h3; cases h3; exact h2
  generalize Txt.split t " " = ws at *
  refine WC_some rfl ?_
  refine for_inv (l := ws.map .str) (fun (i : Nat) (e : En) (S' : Sto) => ∃ (acc : List Pr2) (a b c d' : Option D), S' = S ++ [.lst (acc.map prD)] ∧ e = [some (.str t), some (.ref S.length), a, b, c, d'] ∧
      acc.length = i ∧ sigsO (ws.take i) = some acc ∧ (∀ p ∈ acc, pairB (prD p) = true) ∧ (acc.map (·.1)).Nodup) (by simp) ⟨[], _, _, _, _, rfl, rfl, rfl, rfl, (fun p hp => nomatch hp), List.nodup_nil⟩ (fun i e S' h => rfl) ?_ ?_
  · rintro i x e S' hx ⟨acc, a, b, c, d', rfl, rfl, hi, he, hg, hnd⟩
    rw [List.getElem?_map, Option.map_eq_some_iff] at hx
    obtain ⟨w, hw, rfl⟩ := hx
    have hmem := List.mem_of_getElem? hw
    have hwt := htx w hmem
    have hlt := (List.getElem?_eq_some_iff.mp hw).1
    have hsplit : ws = ws.take i ++ w :: ws.drop (i + 1) := by
      obtain ⟨hlt, e⟩ := List.getElem?_eq_some_iff.mp hw
      rw [← e, ← List.drop_eq_getElem_cons hlt, List.take_append_drop]
    have hS2 : (S ++ [O.lst (acc.map prD)]).all puO = true := all_last hS (pu_prs acc)
    refine ⟨_, rfl, ?_⟩
    have out : ∀ (h : Q (.int 1) S) (e : En) {P : Fl → En → Sto → Prop}, (∀ d e2 S1, W (fin d29.df S.length d S1) Q → P (.rt d) e2 S1) →
        WS (exs (ex (calls pg (k + 1)) 58) [.ret (.cst (.int 1))] e (S ++ [.lst (acc.map prD)])) P := fun h e {P} hP => by
      refine x_cons ?_
      refine x_ret ?_
      refine w_cst ?_
      exact hP _ _ _ (fin_drop rfl hS rfl h)
    refine x_cons ?_
    refine x_set ?_
    refine w_meth ?_
    refine w_var rfl ?_
    refine ⟨rfl, ?_⟩
    refine w_cons ?_
    refine w_cst ?_
    refine w_nil ?_
    refine l_split sepSl hwt ?_
    have htp := split_tx sepSl hwt
    have hnp := split_ne (t := w) sepSl
    have hsw : sigW w = match Txt.split w "/" with
      | [a, b] => (numO b).map fun n => (a, n)
      | _ => none := rfl
    generalize Txt.split w "/" = ps at *
    obtain ⟨n0, hn0⟩ : ∃ n0, ps.length = n0 + 1 := by
      cases ps with
      | nil => exact absurd rfl hnp
      | cons a r => exact ⟨r.length, rfl⟩
    obtain ⟨pl, hpl⟩ : ∃ pl, ps[n0]? = some pl := ⟨_, List.getElem?_eq_getElem (by omega)⟩
    refine x_cons ?_
    refine x_set ?_
    refine w_call ?_
    refine w_cons ?_
    refine w_ix ?_
    refine w_var rfl ?_
    refine w_bin ?_
    refine w_blt ?_
    refine w_cons ?_
    refine w_var rfl ?_
    refine w_nil ?_
    refine l_lenL ?_
    refine w_cst ?_
    refine l_sub ?_
    have en : (((ps.map D.str).length : Nat) : Int) - 1 = (n0 : Int) := by rw [List.length_map, hn0]; omega
    rw [en]
    refine l_ixL (i := n0) (x := .str pl) (by simp [hpl]) ?_
    refine w_nil ?_
    refine numL (htp pl (List.mem_of_getElem? hpl)) hS2 ?_
    refine x_cons ?_
    refine x_ifs ?_
    refine t_or' ?_
    refine t_cmp' ?_
    refine w_blt ?_
    refine w_cons ?_
    refine w_var rfl ?_
    refine w_nil ?_
    refine l_lenL ?_
    refine w_cst ?_
    refine l_neI ?_
    refine ifB (fun h2 => ?_) (fun h2 => ?_)
    · refine ifT' rfl ?_
      refine out (bad (sigsO_bad hmem ?_)) _ fun d e2 S1 h => h
      rw [hsw]
      split
      · simp at h2
      · rfl
    have hp2 : ps.length = 2 := by
      have : ((((ps.map D.str).length : Nat) : Int) == 2) = true := by simpa using h2
      have := eq_of_beq this
      rw [List.length_map] at this
      omega
    obtain ⟨p1, p2, rfl⟩ := two hp2
    dsimp only at hsw
    have e1 : n0 = 1 := by simp at hn0; omega
    subst e1
    have e9 : p2 = pl := by simpa using hpl
    subst e9
    refine t_or' ?_
    refine t_cmp' ?_
    refine w_var rfl ?_
    refine w_lstT ?_
    refine w_nil ?_
    refine ⟨Nat.zero_le _, ?_⟩
    refine l_eqN ?_
    cases hn : numO p2 with
    | none =>
      rw [hn] at hsw
      refine ifT' rfl ?_
      refine ifT' rfl ?_
      exact out (bad (sigsO_bad hmem hsw)) _ fun d e2 S1 h => h
    | some n =>
      rw [hn] at hsw
      have hpos := (numO_pos hn).1
      have hin : ∀ l, sigsO ws = some l → (p1, n) ∈ l := fun l hl => by
        obtain ⟨_, h2, _⟩ := sigsO_len hl
        obtain ⟨p, h3, h4⟩ := h2 w hmem
        rw [hsw] at h3
        cases h3
        exact h4
      have bad3 : pairB (prD (p1, n)) = false → Q (.int 1) S := fun h => bad2 fun l hl => by
        obtain ⟨j, hj, ej⟩ := List.getElem_of_mem (hin l hl)
        exact sig_bad (i := j) (x := prD (p1, n)) (by rw [List.getElem?_map, List.getElem?_eq_getElem hj, ej]; rfl) h
      refine ifF' rfl ?_
      refine t_or' ?_
      refine t_cmp' ?_
      refine w_ix ?_
      refine w_var rfl ?_
      refine w_cst ?_
      refine l_ixL (i := 0) (x := .int n) rfl ?_
      refine w_cst ?_
      refine l_gt ?_
      refine ifB (fun h3 => ?_) (fun h3 => ?_)
      · refine ifT' rfl ?_
        refine out (bad3 ?_) _ fun d e2 S1 h => h
        have := of_decide_eq_true h3
        have e3 : decide (n ≤ 3) = false := decide_eq_false (by omega)
        simp only [pairB, prD, wholeB]
        rw [e3]
        simp
      have h3' : decide (n ≤ 3) = true := decide_eq_true (by have := of_decide_eq_false h3; omega)
      refine t_not' ?_
      refine t_val' ?_
      refine w_call ?_
      refine w_cons ?_
      refine w_ix ?_
      refine w_var rfl ?_
      refine w_cst ?_
      refine l_ixL (i := 0) (x := .str p1) rfl ?_
      refine w_nil ?_
      refine symL (htp p1 (by simp)) hS2 ?_
      refine WC_some rfl ?_
      have epair : pairB (prD (p1, n)) = symB p1 := by
        simp only [pairB, prD, wholeB]
        rw [h3', decide_eq_true hpos]
        simp
      refine ifB (fun h4 => ?_) (fun h4 => ?_)
      · refine out (bad3 ?_) _ fun d e2 S1 h => h
        rw [epair]
        simpa using h4
      have h4' : symB p1 = true := by simpa using h4
      refine x_nil ?_
      refine x_cons ?_
      refine x_ifs ?_
      refine t_cmp' ?_
      refine w_ix ?_
      refine w_var rfl ?_
      refine w_cst ?_
      refine l_ixL (i := 0) (x := .str p1) rfl ?_
      have hal : acc.length ≤ sizeLine := Nat.le_trans (Nat.le_of_lt (hi ▸ hlt)) (Nat.le_trans hlen (by decide))
      refine w_mapR (acc.map prD) ((acc.map (·.1)).map .str) (by simpa using hal) (by simp) (r_seq ?_)
      refine w_var rfl ?_
      refine WC_some (d := ⟨fun S' => items S' (.ref S.length), (acc.map prD).length⟩) (by simp only [srcOf, items, get_last]; rfl) ⟨rfl, by show items _ (.ref S.length) = _; simp only [items, get_last], fun j x y hx hy => ?_, ?_⟩
      · simp only [List.getElem?_map, Option.map_eq_some_iff] at hx hy
        obtain ⟨p, h5, rfl⟩ := hx
        obtain ⟨_, ⟨p', h6, rfl⟩, rfl⟩ := hy
        rw [h5] at h6; cases h6
        refine ⟨_, rfl, ?_⟩
        refine w_ix ?_
        refine w_var rfl ?_
        refine w_cst ?_
        exact l_ixT (i := 0) rfl ⟨rfl, rfl⟩
      refine l_inNames ?_
      refine ifB (fun h7 => ?_) (fun h7 => ?_)
      · have h7' := of_decide_eq_true h7
        refine out (bad2 fun l hl => ?_) _ fun d e2 S1 h => h
        rw [hsplit, sigsO_app, he, Option.bind_some, Option.map_eq_some_iff] at hl
        obtain ⟨l', hl', rfl⟩ := hl
        rw [sigsO, hsw] at hl'
        simp only [Option.map_some, Option.bind_some, Option.map_eq_some_iff] at hl'
        obtain ⟨l2, _, rfl⟩ := hl'
        have : ¬ ((acc ++ (p1, n) :: l2).map (·.1)).Nodup := fun z => by
          rw [List.map_append, List.map_cons, List.nodup_append] at z
          exact z.2.2 p1 h7' p1 List.mem_cons_self rfl
        simp only [sigB, sgD]
        rw [nm_prs, decide_eq_false this]
        simp
      have h7' := of_decide_eq_false h7
      refine x_nil ?_
      refine x_cons ?_
      refine x_expr ?_
      refine w_meth ?_
      refine w_var rfl ?_
      refine ⟨chk_app get_last, ?_⟩
      refine w_cons ?_
      refine w_tup ?_
      refine w_cons ?_
      refine w_ix ?_
      refine w_var rfl ?_
      refine w_cst ?_
      refine l_ixL (i := 0) (x := .str p1) rfl ?_
      refine w_cons ?_
      refine w_ix ?_
      refine w_var rfl ?_
      refine w_cst ?_
      refine l_ixL (i := 0) (x := .int n) rfl ?_
      refine w_nil ?_
      refine ⟨by show 2 ≤ sizeLine; decide, ?_⟩
      refine w_nil ?_
      refine l_app get_last (by rw [List.length_map]; exact Nat.lt_of_le_of_lt (Nat.le_of_lt (hi ▸ hlt)) (Nat.lt_of_le_of_lt hlen (by decide))) ?_
      refine x_nil ?_
      refine ⟨acc ++ [(p1, n)], _, _, _, _, by rw [set_last]; simp [prD], rfl, by simp [hi], ?_, ?_, ?_⟩
      · rw [List.take_succ, hw]
        simp only [Option.toList]
        rw [sigsO_app, he, sigsO_one hsw]
        rfl
      · intro p hp
        rcases List.mem_append.mp hp with z | z
        · exact hg p z
        · rw [List.mem_singleton.mp z, epair]; exact h4'
      · rw [List.map_append, List.nodup_append]
        refine ⟨hnd, by simp, fun a ha b hb e => ?_⟩
        simp at hb
        exact h7' (by rw [← hb, ← e]; exact ha)
  · rintro e S' ⟨acc, a, b, c, d', rfl, rfl, hi, he, hg, hnd⟩
    rw [List.length_map, List.take_length] at he
    have eg := sigB_good hg hnd
    refine x_cons ?_
    refine x_ret ?_
    refine w_ite ?_
    refine t_chain' ?_
    refine w_cst ?_
    refine w_blt ?_
    refine w_cons ?_
    refine w_var rfl ?_
    refine w_nil ?_
    refine W_some (d := D.int acc.length) (S := S ++ [.lst (acc.map prD)]) (by simp only [bltD, get_last, List.length_map]) ?_
    refine l_le ?_
    refine ifB (fun h1 => ?_) (fun h1 => ?_)
    · refine w_cst ?_
      refine l_le ?_
      rw [h1, Bool.true_and] at eg
      refine ifB (fun h6 => ?_) (fun h6 => ?_)
      · refine w_blt ?_
        refine w_cons ?_
        refine w_var rfl ?_
        refine w_nil ?_
        refine l_tupR get_last ?_
        rw [h6] at eg
        exact fin_drop rfl hS (pu_prs acc) (good acc he eg)
      · refine w_cst ?_
        rw [h6] at eg
        exact fin_drop rfl hS rfl (not6 acc he eg)
    · refine ifF' rfl ?_
      refine w_cst ?_
      rw [h1, Bool.false_and] at eg
      exact fin_drop rfl hS rfl (not6 acc he eg)
end Tt.L
end

section
/-! k64: an automaton read by the program. -/
namespace Tt.L
open PySem Tt Tt.P
def amD (w : Str) (ns : List Int) : D := .tup [.str w, .tup (ns.dropLast.map .int), .int (ns.getLast?.getD 0)]
def rdAm (sg : List D) (many : Int) (line : Str) : Option D := match Txt.split line " " with
  | [] => none
  | w :: ws => match lookK (tab sg) (.inr w) with
    | some (.int m) => if ((ws.length : Int) + 1 == m + 2) = true then (numsO ws).bind fun ns => if autB sg (.tup [.int many, .tup [amD w ns], .tup []]) = true then some (amD w ns) else none else none
    | _ => none
def rdAs (sg : List D) (many : Int) : Nat → List Str → List D → List D ⊕ Int
  | _, [], acc => .inl acc
  | i, l :: r, acc => match rdAm sg many l with
    | some m => rdAs sg many (i + 1) r (acc ++ [m])
    | none => .inr (i + 2)
def rdA (sg : List D) (t : Str) : Rz := match Txt.split t "\n" with
  | [] => .er 1
  | l0 :: rest => match numsO (Txt.split l0 " ") with
    | some (many :: ends) => if autB sg (.tup [.int many, .tup [], .tup (ends.map .int)]) = true then (match rdAs sg many 0 rest [] with | .inl ms => .ok (.tup [.int many, .tup ms, .tup (ends.map .int)]) | .inr z => .er z) else .er 1
    | _ => .er 1
theorem numsO_len {ws : List Str} {l : List Int} (h : numsO ws = some l) : l.length = ws.length := by
  unfold numsO at h
  split at h
  · cases h; simp
  · cases h
theorem numsO_words {ws : List Str} {l : List Int} (h : numsO ws = some l) : ∀ w ∈ ws, 1 ≤ w.length := by
  unfold numsO at h
  split at h
  · rename_i ha
    intro w hw
    exact okN_len (List.all_eq_true.mp ha w hw)
  · cases h
theorem gd_ints : ∀ l : List Int, gds (l.map .int) = true
  | [] => rfl
  | i :: r => by rw [List.map_cons, gds, gd_ints r]; rfl
theorem gd_tupI {l : List Int} (h : l.length ≤ 60) : gd (.tup (l.map .int)) = true := by
  simp only [gd]
  rw [gd_ints, List.length_map, decide_eq_true h]
  rfl
theorem gd_am {w : Str} {ns : List Int} (hw : tx w = true) (h : ns.length ≤ 60) : gd (amD w ns) = true := by
  have h1 : gd (.tup (ns.dropLast.map .int)) = true := gd_tupI (by rw [List.length_dropLast]; omega)
  have h2 : gd (.str w) = true := hw
  simp only [amD, gd, gds] at h1 h2 ⊢
  rw [h1, h2]
  rfl
theorem l_cutLast {l : List Int} {S : Sto} {Q : D → Sto → Prop} (q : Q (.lst (l.dropLast.map .int)) S) : W (slD (.lst (l.map .int)) none (some (-1)) S) Q := by
  refine ⟨_, _, ?_, q⟩
  simp only [slD, litems, Option.map_some]
  have : cutD (l.map D.int) none (some (-1)) = l.dropLast.map .int := by
    have e : HT.sIx (l.map D.int).length (l.map D.int).length (some (-1)) = l.length - 1 := by
      show (if (-1 : Int) < 0 then ((-1 : Int) + ((l.map D.int).length : Int)).toNat else min (-1 : Int).toNat (l.map D.int).length) = _
      rw [if_pos (by decide), List.length_map]
      omega
    simp only [cutD, HT.sIx_none]
    rw [e, List.drop_zero, Nat.sub_zero, List.dropLast_eq_take, List.map_take]
  rw [this]
theorem l_last {l : List Int} {S : Sto} {QC : D → Prop} (h : l ≠ []) (q : QC (.int (l.getLast?.getD 0))) : WC (ixD (.lst (l.map .int)) (.int (-1)) S) QC := by
  refine ⟨_, ?_, q⟩
  show L2.atI (l.map D.int) (-1) = _
  have hl : 0 < l.length := List.length_pos_iff.mpr h
  have e : L2.ixN (l.map D.int).length (-1) = some (l.length - 1) := by
    unfold L2.ixN
    rw [if_neg (by decide), if_pos (by rw [List.length_map]; omega), List.length_map]
    congr 1
    omega
  unfold L2.atI
  rw [e, Option.bind_some, List.getElem?_map, ← List.getLast?_eq_getElem?]
  cases l with
  | nil => exact absurd rfl h
  | cons a r => rw [List.getLast?_cons]; rfl
theorem get2a {S : Sto} {a b : O} : (S ++ [a, b])[S.length]? = some a := by simp
theorem get2b {S : Sto} {a b : O} : (S ++ [a, b])[S.length + 1]? = some b := by simp
theorem set2b {S : Sto} {a b c : O} : (S ++ [a, b]).set (S.length + 1) c = S ++ [a, c] := by
  rw [List.set_append_right _ _ (by omega)]
  simp
theorem all2 {S : Sto} {a b : O} (hS : S.all puO = true) (ha : puO a = true) (hb : puO b = true) : (S ++ [a, b]).all puO = true := by simp [hS, ha, hb]
theorem pu_am (w : Str) (ns : List Int) : puD (amD w ns) = true := by simp only [amD, puD, puL, puL_ints, Bool.and_self]
theorem snoc2 {S : Sto} {a b : O} : S ++ [a] ++ [b] = S ++ [a, b] := by simp
theorem SigOk.nonneg {sg : List D} (h : SigOk sg) {w : Str} {m : Int} (e : lookK (L.tab sg) (.inr w) = some (.int m)) : 0 ≤ m ∧ m ≤ 3 := by
  rw [h.tab] at e
  unfold lookK at e
  rw [Option.map_eq_some_iff] at e
  obtain ⟨p, hp, e⟩ := e
  obtain ⟨x, hx, rfl⟩ := List.mem_map.mp (List.mem_of_find?_eq_some hp)
  obtain ⟨w', n, rfl, _, h2⟩ := pair_cases (List.all_eq_true.mp h.all x hx)
  have e : n = .int m := e
  subst e
  simp only [wholeB, Bool.and_eq_true, decide_eq_true_eq] at h2
  exact h2
theorem read_automaton {k : Nat} {sg : List D} {t : Str} {S : Sto} {Q : Rz → Sto → Prop} (hs : SigOk sg) (ht : tx t = true) (hS : S.all puO = true) (q : Q (rdA sg t) S) : W (calls pg (k + 4) 14 [.tup sg, .str t] S) Q := by
  have e : calls pg (k + 4) 14 [.tup sg, .str t] S = Tt.run (calls pg (k + 3)) d14.df [.tup sg, .str t] S := rfl
  rw [e]
  refine w_runX rfl ?_
  refine x_cons ?_
  refine x_set ?_
  refine w_meth ?_
  refine w_var rfl ?_
  refine ⟨rfl, ?_⟩
  refine w_cons ?_
  refine w_cst ?_
  refine w_nil ?_
  refine l_split sepNl ht ?_
  have htx := split_tx sepNl ht
  have hlen := split_len sepNl ht
  have hne := split_ne (t := t) sepNl
  unfold rdA at q
  generalize Txt.split t "\n" = lines at *
  cases lines with
  | nil => exact absurd rfl hne
  | cons l0 rest =>
  dsimp only at q
  have hl0 := htx l0 List.mem_cons_self
  refine x_cons ?_
  refine x_set ?_
  refine w_blt ?_
  refine w_cons ?_
  refine w_var rfl ?_
  refine w_nil ?_
  refine l_dictT hs ?_
  have hS1 : (S ++ [O.dic (tab sg)]).all puO = true := all_last hS hs.pu
  refine x_cons ?_
  refine x_setC ?_
  refine w_x ?_
  refine r_seq ?_
  refine w_meth ?_
  refine w_ix ?_
  refine w_var rfl ?_
  refine w_cst ?_
  refine l_ixL (i := 0) (x := .str l0) rfl ?_
  refine ⟨rfl, ?_⟩
  refine w_cons ?_
  refine w_cst ?_
  refine w_nil ?_
  refine l_split sepSp hl0 ?_
  refine WC_some rfl ?_
  have hwl := split_len sepSp hl0
  have hw1 := split_tx sepSp hl0
  have hwn := split_ne (t := l0) sepSp
  have hw50 := split_len2 sepSp hl0
  generalize Txt.split l0 " " = ws0 at *
  refine need_all (ws := ws0) (z := 1) (by simp) rfl (Nat.le_trans hwl (by decide)) (fun w' h' => ⟨_, rfl, fun QR qr => ?_⟩) ?_
  · refine c_call ?_
    refine w_cons ?_
    refine w_var rfl ?_
    refine w_cons ?_
    refine w_cst ?_
    refine w_nil ?_
    exact need_number (hw1 w' h') hS1 qr
  cases hn : numsO ws0 with
  | none =>
    rw [hn] at q
    exact finX_drop rfl hS q
  | some l =>
  have hll := numsO_len hn
  have hl50 : l.length ≤ 50 := by rw [hll]; exact hw50 (numsO_words hn)
  cases l with
  | nil => exact absurd (List.length_eq_zero_iff.mp (show ws0.length = 0 by rw [← hll]; rfl)) hwn
  | cons many ends =>
  rw [hn] at q
  dsimp only at q
  have he60 : ends.length ≤ 60 := by simp at hl50; omega
  refine ⟨by rw [List.length_map, hll]; exact Nat.le_trans hwl (by decide), ?_⟩
  refine x_cons ?_
  refine x_set ?_
  refine w_lstF ?_
  refine w_nil ?_
  refine ⟨Nat.zero_le _, ?_⟩
  have e1 : (S ++ [O.dic (tab sg)]).length = S.length + 1 := by simp
  rw [e1, snoc2]
  refine x_cons ?_
  refine x_ifs ?_
  refine t_not' ?_
  refine t_val' ?_
  refine w_call ?_
  refine w_cons ?_
  refine w_var rfl ?_
  refine w_cons ?_
  refine w_tup ?_
  refine w_cons ?_
  refine w_ix ?_
  refine w_var rfl ?_
  refine w_cst ?_
  refine l_ixL (i := 0) (x := .int many) rfl ?_
  refine w_cons ?_
  refine w_tup ?_
  refine w_nil ?_
  refine ⟨Nat.zero_le _, ?_⟩
  refine w_cons ?_
  refine w_blt ?_
  refine w_cons ?_
  refine w_slice ?_
  refine w_var rfl ?_
  refine w_oS ?_
  refine w_cst ?_
  refine ⟨_, rfl, ?_⟩
  refine w_oN ?_
  refine l_tail ?_
  refine w_nil ?_
  refine l_tupL ?_
  refine w_nil ?_
  refine ⟨by show 3 ≤ sizeLine; decide, ?_⟩
  refine w_nil ?_
  have hS2 : ∀ ms : List D, puL ms = true → (S ++ [O.dic (tab sg), O.lst ms]).all puO = true := fun ms h => all2 hS hs.pu h
  have hgd1 : gd (.tup [.int many, .tup [], .tup (ends.map .int)]) = true := by
    have := gd_tupI he60
    simp only [gd, gds] at this ⊢
    rw [this]
    rfl
  refine autP hs hgd1 (hS2 [] rfl) ?_
  refine WC_some rfl ?_
  refine ifB (fun h => ?_) (fun h => ?_)
  · refine x_cons ?_
    refine x_raise ?_
    refine w_cst ?_
    refine ⟨_, rfl, ?_⟩
    have h' : autB sg (.tup [.int many, .tup [], .tup (ends.map .int)]) = false := by simpa using h
    rw [if_neg (by rw [h']; exact Bool.false_ne_true)] at q
    exact finX_drop rfl hS q
  have h' : autB sg (.tup [.int many, .tup [], .tup (ends.map .int)]) = true := by simpa using h
  rw [if_pos h'] at q
  refine x_nil ?_
  refine x_cons ?_
  refine x_for ?_
  refine r_enum ?_
  refine w_slice ?_
  refine w_var rfl ?_
  refine w_oS ?_
  refine w_cst ?_
  refine ⟨_, rfl, ?_⟩
  refine w_oN ?_
  refine l_tail ?_
  refine WC_some rfl ?_
  refine for_inv (l := numbered 0 (rest.map .str)) (fun (i : Nat) (e : En) (S' : Sto) => ∃ (acc : List D) (a b c d' g h' : Option D), S' = S ++ [.dic (tab sg), .lst acc] ∧
      e = [some (.tup sg), some (.str t), some (.lst ((l0 :: rest).map .str)), some (.ref S.length), some (.lst ((many :: ends).map .int)), some (.ref (S.length + 1)), a, b, c, d', g, h'] ∧
      puL acc = true ∧ acc.length = i ∧ rdAs sg many 0 rest [] = rdAs sg many i (rest.drop i) acc) (by rw [numbered_length]) ⟨[], _, _, _, _, _, _, rfl, rfl, rfl, rfl, rfl⟩ (fun i e S' h => rfl) ?_ ?_
  · rintro i x e S' hx ⟨acc, a, b, c, d', g, h9, rfl, rfl, hpa, hi, he⟩
    rw [numbered_get, Option.map_eq_some_iff] at hx
    obtain ⟨y, hy, rfl⟩ := hx
    rw [List.getElem?_map, Option.map_eq_some_iff] at hy
    obtain ⟨line, hline, rfl⟩ := hy
    have hlt := (List.getElem?_eq_some_iff.mp hline).1
    have hltx := htx line (List.mem_cons_of_mem _ (List.mem_of_getElem? hline))
    have hdrop : rest.drop i = line :: rest.drop (i + 1) := by
      obtain ⟨hlt, e⟩ := List.getElem?_eq_some_iff.mp hline
      rw [← e]; exact List.drop_eq_getElem_cons hlt
    rw [hdrop] at he
    have hS3 := hS2 acc hpa
    refine ⟨_, rfl, ?_⟩
    have ez : ((0 + i : Nat) : Int) = (i : Int) := by simp
    rw [ez]
    have bad : ∀ (h : rdAm sg many line = none), Q (.er ((i : Int) + 2)) S := fun h => by
      rw [he, rdAs, h] at q
      exact q
    have out : ∀ (h : rdAm sg many line = none) (e : En) (he : e[6]? = some (some (.int (i : Int)))) {P : Fl → En → Sto → Prop}, (∀ z e2 S1, W (finX d14.df S.length z S1) Q → P (.rs z) e2 S1) →
        WS (exs (ex (calls pg (k + 3)) 58) [.raise (.bin .add (.var 6) (.cst (.int 2)))] e (S ++ [.dic (tab sg), .lst acc])) P := fun h e he {P} hP => by
      refine x_cons ?_
      refine x_raise ?_
      refine w_bin ?_
      refine w_var he ?_
      refine w_cst ?_
      refine l_add ?_
      exact ⟨_, rfl, hP _ _ _ (finX_drop rfl hS (bad h))⟩
    refine x_cons ?_
    refine x_set ?_
    refine w_meth ?_
    refine w_var rfl ?_
    refine ⟨rfl, ?_⟩
    refine w_cons ?_
    refine w_cst ?_
    refine w_nil ?_
    refine l_split sepSp hltx ?_
    have htw := split_tx sepSp hltx
    have htn := split_ne (t := line) sepSp
    have hwl2 := split_len sepSp hltx
    have hw50' := split_len2 sepSp hltx
    have hrm : rdAm sg many line = match Txt.split line " " with
      | [] => none
      | w :: ws => match lookK (tab sg) (.inr w) with
        | some (.int m) => if ((ws.length : Int) + 1 == m + 2) = true then (numsO ws).bind fun ns => if autB sg (.tup [.int many, .tup [amD w ns], .tup []]) = true then some (amD w ns) else none else none
        | _ => none := rfl
    generalize Txt.split line " " = wws at *
    cases wws with
    | nil => exact absurd rfl htn
    | cons w ws =>
    dsimp only at hrm
    have hwt := htw w List.mem_cons_self
    refine x_cons ?_
    refine x_ifs ?_
    refine t_or' ?_
    refine t_cmp' ?_
    refine w_ix ?_
    refine w_var rfl ?_
    refine w_cst ?_
    refine l_ixL (i := 0) (x := .str w) rfl ?_
    refine w_var rfl ?_
    refine l_notInD get2a ?_
    cases hk : lookK (tab sg) (.inr w) with
    | none =>
      rw [hk] at hrm
      refine ifT' rfl ?_
      refine ifT' rfl ?_
      exact out hrm _ rfl fun z e2 S1 h => h
    | some dm =>
    obtain ⟨m, rfl⟩ := hs.ok _ _ hk
    obtain ⟨hm0, hm3⟩ := hs.nonneg hk
    rw [hk] at hrm
    dsimp only at hrm
    refine ifF' rfl ?_
    refine t_cmp' ?_
    refine w_blt ?_
    refine w_cons ?_
    refine w_var rfl ?_
    refine w_nil ?_
    refine l_lenL ?_
    refine w_bin ?_
    refine w_ix ?_
    refine w_var rfl ?_
    refine w_ix ?_
    refine w_var rfl ?_
    refine w_cst ?_
    refine l_ixL (i := 0) (x := .str w) rfl ?_
    refine l_ixD get2a hk ?_
    refine w_cst ?_
    refine l_add ?_
    refine l_neI ?_
    have elen : ((((w :: ws).map D.str).length : Nat) : Int) = (ws.length : Int) + 1 := by simp
    rw [elen]
    refine ifB (fun h2 => ?_) (fun h2 => ?_)
    · refine out ?_ _ rfl fun z e2 S1 h => h
      have h2' : ((ws.length : Int) + 1 == m + 2) = false := by simpa using h2
      rw [hrm, if_neg (by rw [h2']; exact Bool.false_ne_true)]
    have h2' : ((ws.length : Int) + 1 == m + 2) = true := by simpa using h2
    rw [if_pos h2'] at hrm
    refine x_nil ?_
    refine x_cons ?_
    refine x_setC ?_
    refine w_x ?_
    refine r_seq ?_
    refine w_slice ?_
    refine w_var rfl ?_
    refine w_oS ?_
    refine w_cst ?_
    refine ⟨_, rfl, ?_⟩
    refine w_oN ?_
    refine l_tail ?_
    refine WC_some rfl ?_
    have hwl3 : ws.length ≤ 101 := by simp at hwl2; omega
    refine need_all (ws := ws) (z := (i : Int) + 2) (by simp) rfl (Nat.le_trans hwl3 (by decide)) (fun w' h' => ⟨_, rfl, fun QR qr => ?_⟩) ?_
    · refine c_call ?_
      refine w_cons ?_
      refine w_var rfl ?_
      refine w_cons ?_
      refine w_bin ?_
      refine w_var rfl ?_
      refine w_cst ?_
      refine l_add ?_
      refine w_nil ?_
      exact need_number (htw w' (List.mem_cons_of_mem _ h')) hS3 qr
    cases hns : numsO ws with
    | none =>
      rw [hns] at hrm
      exact finX_drop rfl hS (bad hrm)
    | some ns =>
    rw [hns, Option.bind_some] at hrm
    have hnl := numsO_len hns
    have hns0 : ns ≠ [] := fun z => by
      rw [z] at hnl
      have := eq_of_beq h2'
      simp at hnl
      omega
    refine ⟨by rw [List.length_map, hnl]; exact Nat.le_trans hwl3 (by decide), ?_⟩
    have hn4 : ns.length ≤ 60 := by
      have := eq_of_beq h2'
      omega
    refine x_cons ?_
    refine x_set ?_
    refine w_tup ?_
    refine w_cons ?_
    refine w_ix ?_
    refine w_var rfl ?_
    refine w_cst ?_
    refine l_ixL (i := 0) (x := .str w) rfl ?_
    refine w_cons ?_
    refine w_blt ?_
    refine w_cons ?_
    refine w_slice ?_
    refine w_var rfl ?_
    refine w_oN ?_
    refine w_oS ?_
    refine w_neg ?_
    refine w_cst ?_
    refine ⟨_, rfl, ?_⟩
    refine ⟨_, rfl, ?_⟩
    refine l_cutLast ?_
    refine w_nil ?_
    refine l_tupL ?_
    refine w_cons ?_
    refine w_ix ?_
    refine w_var rfl ?_
    refine w_neg ?_
    refine w_cst ?_
    refine ⟨_, rfl, ?_⟩
    refine l_last hns0 ?_
    refine w_nil ?_
    refine ⟨by show 3 ≤ sizeLine; decide, ?_⟩
    refine x_cons ?_
    refine x_ifs ?_
    refine t_not' ?_
    refine t_val' ?_
    refine w_call ?_
    refine w_cons ?_
    refine w_var rfl ?_
    refine w_cons ?_
    refine w_tup ?_
    refine w_cons ?_
    refine w_ix ?_
    refine w_var rfl ?_
    refine w_cst ?_
    refine l_ixL (i := 0) (x := .int many) rfl ?_
    refine w_cons ?_
    refine w_tup ?_
    refine w_cons ?_
    refine w_var (x := amD w ns) rfl ?_
    refine w_nil ?_
    refine ⟨by show 1 ≤ sizeLine; decide, ?_⟩
    refine w_cons ?_
    refine w_tup ?_
    refine w_nil ?_
    refine ⟨Nat.zero_le _, ?_⟩
    refine w_nil ?_
    refine ⟨by show 3 ≤ sizeLine; decide, ?_⟩
    refine w_nil ?_
    have hgd2 : gd (.tup [.int many, .tup [amD w ns], .tup []]) = true := by
      have := gd_am hwt hn4
      simp only [gd, gds]
      rw [this]
      rfl
    refine autP hs hgd2 hS3 ?_
    refine WC_some rfl ?_
    refine ifB (fun h7 => ?_) (fun h7 => ?_)
    · refine out ?_ _ rfl fun z e2 S1 h => h
      have h7' : autB sg (.tup [.int many, .tup [amD w ns], .tup []]) = false := by simpa using h7
      rw [hrm, if_neg (by rw [h7']; exact Bool.false_ne_true)]
    have h7' : autB sg (.tup [.int many, .tup [amD w ns], .tup []]) = true := by simpa using h7
    rw [if_pos h7'] at hrm
    refine x_nil ?_
    refine x_cons ?_
    refine x_expr ?_
    refine w_meth ?_
    refine w_var rfl ?_
    refine ⟨chk_app get2b, ?_⟩
    refine w_cons ?_
    refine w_var (x := amD w ns) rfl ?_
    refine w_nil ?_
    have hal : acc.length < sizeLine := by
      have h100 : rest.length ≤ 100 := by simpa using hlen
      have : (101 : Nat) < sizeLine := by decide
      omega
    refine l_app get2b hal ?_
    refine x_nil ?_
    refine ⟨acc ++ [amD w ns], _, _, _, _, _, _, by rw [set2b], rfl, by rw [puL_append, hpa]; simp only [puL, pu_am, Bool.and_self], by simp [hi], ?_⟩
    rw [he, rdAs, hrm]
  · rintro e S' ⟨acc, a, b, c, d', g, h9, rfl, rfl, hpa, hi, he⟩
    rw [numbered_length, List.length_map, List.drop_length] at he
    rw [he] at q
    refine x_cons ?_
    refine x_ret ?_
    refine w_tup ?_
    refine w_cons ?_
    refine w_ix ?_
    refine w_var rfl ?_
    refine w_cst ?_
    refine l_ixL (i := 0) (x := .int many) rfl ?_
    refine w_cons ?_
    refine w_blt ?_
    refine w_cons ?_
    refine w_var rfl ?_
    refine w_nil ?_
    refine l_tupR get2b ?_
    refine w_cons ?_
    refine w_blt ?_
    refine w_cons ?_
    refine w_slice ?_
    refine w_var rfl ?_
    refine w_oS ?_
    refine w_cst ?_
    refine ⟨_, rfl, ?_⟩
    refine w_oN ?_
    refine l_tail ?_
    refine w_nil ?_
    refine l_tupL ?_
    refine w_nil ?_
    refine ⟨by show 3 ≤ sizeLine; decide, ?_⟩
    refine fin_drop rfl hS ?_ q
    simp [puD, puL, hpa, puL_ints]
end Tt.L
end

section
/-! k64: the law's reading of an automaton. -/
namespace Tt.L
open PySem Tt Tt.P L2
def stepB (es : List Int) (i : Nat) : Bool := match es[i + 1]?, es[i]? with
  | some a, some b => decide (a ≤ b)
  | _, _ => false
theorem steps_inc (es : List Int) : (List.range (es.length - 1)).any (stepB es) = !incB es := by
  unfold incB
  by_cases h : es.Pairwise (· < ·)
  · rw [decide_eq_true h]
    rw [Bool.not_true, List.any_eq_false]
    intro i hi
    have hi : i < es.length - 1 := List.mem_range.mp hi
    have := inc_steps.mp h i (by omega)
    unfold stepB
    rw [List.getElem?_eq_getElem (by omega), List.getElem?_eq_getElem (by omega)]
    simp; omega
  · rw [decide_eq_false h, Bool.not_false, List.any_eq_true]
    rw [inc_steps] at h
    simp only [Classical.not_forall] at h
    obtain ⟨i, hi, hn⟩ := h
    refine ⟨i, List.mem_range.mpr (by omega), ?_⟩
    unfold stepB
    rw [List.getElem?_eq_getElem (by omega), List.getElem?_eq_getElem (by omega)]
    simp; omega
theorem moveB_eq {tab : List (Key × D)} {many m : Int} {w : Str} {args : List D} {st : D} (hk : lookK tab (.inr w) = some (.int m)) :
    moveB tab many (.tup [.str w, .tup args, st]) = (((args.length : Int) == m) && (args ++ [st]).all fun s => wholeB s (many - 1)) := by
  show (match lookK tab (.inr w) with | some (.int m) => ((args.length : Int) == m) && (args ++ [st]).all fun s => wholeB s (many - 1) | _ => false) = _
  rw [hk]
theorem ints_back : ∀ l : List Int, (l.map D.int).map intOf = l
  | [] => rfl
  | a :: r => by rw [List.map_cons, List.map_cons, ints_back r]; rfl
theorem whole_any {l : List Int} {many : Int} (h : ∀ x ∈ l, 0 ≤ x) : ((l.map D.int).all fun s => wholeB s (many - 1)) = !(l.any fun x => decide (many ≤ x)) := by
  rw [List.all_map, Bool.eq_iff_iff]
  simp only [List.all_eq_true, Function.comp, wholeB, Bool.and_eq_true, decide_eq_true_eq, Bool.not_eq_true', List.any_eq_false]
  refine ⟨fun z x hx => ?_, fun z x hx => ?_⟩
  · have := z x hx; omega
  · have := z x hx; have := h x hx; omega
theorem aut_head {sg : List D} {many : Int} {ends : List Int} (h0 : 0 ≤ many) (he : ∀ x ∈ ends, 0 ≤ x) : autB sg (.tup [.int many, .tup [], .tup (ends.map .int)]) = (!decide (400 < many) && (!(ends.any fun x => decide (many ≤ x)) && incB ends)) := by
  simp only [autB]
  rw [whole_any he, ints_back]
  simp only [wholeB, List.all_nil, Bool.and_true, decide_eq_true h0, Bool.true_and]
  have : decide (many ≤ 400) = !decide (400 < many) := by
    rw [← decide_not]
    exact decide_eq_decide.mpr (by omega)
  rw [this]
theorem aut_move {sg : List D} {many m : Int} {w : Str} {ns : List Int} (h0 : 0 ≤ many) (h4 : many ≤ 400) (hk : lookK (tab sg) (.inr w) = some (.int m)) (hl : (ns.length : Int) = m + 1) (hne : ns ≠ []) (hp : ∀ x ∈ ns, 0 ≤ x) :
    autB sg (.tup [.int many, .tup [amD w ns], .tup []]) = !(ns.any fun x => decide (many ≤ x)) := by
  have e1 : moveB (tab sg) many (amD w ns) = !(ns.any fun x => decide (many ≤ x)) := by
    unfold amD
    rw [moveB_eq hk]
    have e2 : (ns.dropLast.map D.int) ++ [.int (ns.getLast?.getD 0)] = ns.map .int := by
      have : ns.getLast?.getD 0 = ns.getLast hne := by rw [List.getLast?_eq_some_getLast hne]; rfl
      rw [this]
      have e3 : ns.map D.int = (ns.dropLast ++ [ns.getLast hne]).map D.int := by rw [List.dropLast_concat_getLast]
      rw [e3, List.map_append]
      rfl
    rw [e2, whole_any hp]
    have : (((ns.dropLast.map D.int).length : Int) == m) = true := by
      have := List.length_pos_iff.mpr hne
      rw [List.length_map, List.length_dropLast]
      apply beq_iff_eq.mpr
      omega
    rw [this, Bool.true_and]
  have e4 : incB ([] : List Int) = true := by decide
  simp only [autB, wholeB, decide_eq_true h0, decide_eq_true h4, List.all_nil, List.all_cons, Bool.and_true, Bool.true_and, e1, List.map_nil, e4]
/-- any([x >= many for x in l]) -/
theorem any_of {cal : Cal} {d : Nat} {l : List Int} {many : Int} {S : Sto} {Q : D → Sto → Prop} {env : En} {v : Nat} {src ref : E} (hl : l.length ≤ sizeLine)
    (hs : ∀ {Q' : D → Sto → Prop}, Q' (.lst (l.map .int)) S → W (ev cal (d + 2) src env S) Q') (hv : v < env.length)
    (hr : ∀ (x : Int) {Q' : D → Sto → Prop}, Q' (.int many) S → W (ev cal (d + 1) ref ((env.set v none).set v (some (.int x))) S) Q') (q : Q (.bl (l.any fun x => decide (many ≤ x))) S) :
    W (ev cal (d + 4) (.blt true .any [(.comp true [v] (.one v) (.seq src) [] (.cmp .ge (.var v) ref))]) env S) Q := by
  refine w_blt ?_
  refine w_cons ?_
  refine w_mapR (l.map .int) (l.map fun x => .bl (decide (many ≤ x))) (by simpa using hl) (by simp) (r_seq (hs ?_))
  refine WC_some rfl ⟨rfl, rfl, fun i x y hx hy => ?_, ?_⟩
  · simp only [List.getElem?_map, Option.map_eq_some_iff] at hx hy
    obtain ⟨w, h1, rfl⟩ := hx
    obtain ⟨w', h2, rfl⟩ := hy
    rw [h1] at h2; cases h2
    refine ⟨_, rfl, ?_⟩
    refine w_cmp ?_
    refine w_var (x := .int w) ?_ ?_
    · show (((env.set v none).set v (some (.int w))) : En)[v]? = _
      rw [List.getElem?_set_self (by simpa using hv)]
    refine hr w ?_
    exact l_ge ⟨rfl, rfl⟩
  · refine w_nil ?_
    exact l_any q
theorem l_eqLL {o : Option (List Int)} {S : Sto} {QC : Bool → Prop} (q : QC o.isNone) : WC (cmpD .eq (optLL o) (.lst []) S) QC := by
  refine ⟨_, ?_, q⟩
  show eqD (optLL o) (.lst []) = _
  unfold eqD
  rw [pyD_optLL]
  show (if (SeqAt.shaped (pyLL o) && SeqAt.shaped (.list [])) = true then some (PyData.eqv (pyLL o) (.list [])) else none) = _
  have e1 : SeqAt.shaped (pyLL o) = true := by
    refine Bool.and_eq_true_iff.mpr ⟨?_, decide_eq_true ?_⟩
    · cases o <;> simp [pyLL, PyData.canLay0, PyData.canLayAll0, lay_ints]
    · cases o <;> simp [pyLL, PyData.depth, PyData.depthAll, depth_ints]
  rw [e1]
  cases o <;> rfl
theorem automatonL {k : Nat} {sg : List D} {t : Str} {S : Sto} {Q : D → Sto → Prop} (hs : SigOk sg) (ht : tx t = true) (hS : S.all puO = true) (q : Q (lawD (rdA sg t)) S) : WO (calls pg (k + 3) 30 [.tup sg, .str t] S) Q := by
  refine call_run (di := d30) rfl (w_run rfl ?_)
  refine x_cons ?_
  refine x_set ?_
  refine w_meth ?_
  refine w_var rfl ?_
  refine ⟨rfl, ?_⟩
  refine w_cons ?_
  refine w_cst ?_
  refine w_nil ?_
  refine l_split sepNl ht ?_
  have htx := split_tx sepNl ht
  have hlen := split_len sepNl ht
  have hne := split_ne (t := t) sepNl
  unfold rdA at q
  generalize Txt.split t "\n" = lines at *
  cases lines with
  | nil => exact absurd rfl hne
  | cons l0 rest =>
  dsimp only at q
  have hl0 := htx l0 List.mem_cons_self
  refine x_cons ?_
  refine x_set ?_
  refine w_call ?_
  refine w_cons ?_
  refine w_meth ?_
  refine w_ix ?_
  refine w_var rfl ?_
  refine w_cst ?_
  refine l_ixL (i := 0) (x := .str l0) rfl ?_
  refine ⟨rfl, ?_⟩
  refine w_cons ?_
  refine w_cst ?_
  refine w_nil ?_
  refine l_split sepSp hl0 ?_
  refine w_nil ?_
  have hwl := split_len sepSp hl0
  have hw1 := split_tx sepSp hl0
  have hwn := split_ne (t := l0) sepSp
  have hw50 := split_len2 sepSp hl0
  generalize Txt.split l0 " " = ws0 at *
  refine numsL hw1 hwl hS ?_
  refine x_cons ?_
  refine x_ifs ?_
  refine t_or' ?_
  refine t_cmp' ?_
  refine w_var rfl ?_
  refine w_lstT ?_
  refine w_nil ?_
  refine ⟨Nat.zero_le _, ?_⟩
  refine l_eqLL ?_
  cases hn : numsO ws0 with
  | none =>
    rw [hn] at q
    refine ifT' rfl ?_
    refine ifT' rfl ?_
    (repeat (first | refine w_var rfl ?_ | refine w_cst ?_ | refine w_glob ?_ | refine w_nil ?_ | refine w_cons ?_ | refine w_bin ?_ | refine w_ix ?_ | refine w_call ?_ | refine w_blt ?_ | refine w_isi ?_ | refine w_tup ?_ | refine w_lstT ?_ | refine w_lstF ?_ | refine e_and ?_ | refine e_or ?_ | refine w_not ?_ | refine w_neg ?_ | refine w_ite ?_ | refine w_cmp ?_ | refine w_chain ?_ | refine w_slice ?_ | refine w_oN ?_ | refine w_oS ?_ | refine t_val' ?_ | refine t_cmp' ?_ | refine t_chain' ?_ | refine t_not' ?_ | refine t_and' ?_ | refine t_or' ?_ | refine ts_nil ?_ | refine ts_cons ?_ | refine x_nil ?_ | refine x_cons ?_ | refine x_set ?_ | refine x_expr ?_ | refine x_ret ?_ | refine x_retN ?_ | refine x_ifs ?_ | refine x_setIx ?_ | refine x_unpack ?_ | refine l_add ?_ | refine l_sub ?_ | refine l_eqI ?_ | refine l_neI ?_ | refine l_eqB ?_ | refine l_neB ?_ | refine l_lt ?_ | refine l_le ?_ | refine l_gt ?_ | refine l_ge ?_ | refine ifT' rfl ?_ | refine ifF' rfl ?_ | refine ⟨_, rfl, ?_⟩ | refine ⟨rfl, ?_⟩ | refine ⟨Nat.le_of_ble_eq_true rfl, ?_⟩ | refine WC_some rfl ?_ | refine W_some rfl ?_))
    exact fin_same rfl hS rfl q
  | some l =>
  have hll := numsO_len hn
  have hpos := numsO_pos hn
  have hl50 : l.length ≤ 50 := by rw [hll]; exact hw50 (numsO_words hn)
  cases l with
  | nil => exact absurd (List.length_eq_zero_iff.mp (show ws0.length = 0 by rw [← hll]; rfl)) hwn
  | cons many ends =>
  rw [hn] at q
  dsimp only at q
  have h0 := hpos many List.mem_cons_self
  have hpe : ∀ x ∈ ends, 0 ≤ x := fun x hx => hpos x (List.mem_cons_of_mem _ hx)
  have he60 : ends.length ≤ 60 := by simp at hl50; omega
  have hez : ends.length ≤ sizeLine := Nat.le_trans he60 (by decide)
  rw [aut_head h0 hpe] at q
  have one : ∀ (e : En) {P : Fl → En → Sto → Prop}, Q (.int 1) S → (∀ d e2, W (fin d30.df S.length d S) Q → P (.rt d) e2 S) → WS (exs (ex (calls pg (k + 2)) 59) [.ret (.cst (.int 1))] e S) P := fun e {P} h hP => by
    refine x_cons ?_
    refine x_ret ?_
    refine w_cst ?_
    exact hP _ _ (fin_same rfl hS rfl h)
  refine ifF' rfl ?_
  refine t_or' ?_
  refine t_cmp' ?_
  refine w_ix ?_
  refine w_ix ?_
  refine w_var rfl ?_
  refine w_cst ?_
  refine l_ixL (i := 0) rfl ?_
  refine w_cst ?_
  refine l_ixL (i := 0) (x := .int many) rfl ?_
  refine w_cst ?_
  refine l_gt ?_
  refine ifB (fun h4 => ?_) (fun h4 => ?_)
  · refine ifT' rfl ?_
    rw [h4] at q
    exact one _ q fun d e2 h => h
  rw [h4, Bool.not_false, Bool.true_and] at q
  refine t_val' ?_
  refine any_of (d := 52) (l := ends) (many := many) hez (fun {Q'} q' => ?_) (by show 10 < 12; decide) (fun x {Q'} q' => ?_) ?_
  · refine w_slice ?_
    refine w_ix ?_
    refine w_var rfl ?_
    refine w_cst ?_
    refine l_ixL (i := 0) rfl ?_
    refine w_oS ?_
    refine w_cst ?_
    refine ⟨_, rfl, ?_⟩
    refine w_oN ?_
    exact l_tail q'
  · refine w_ix ?_
    refine w_ix ?_
    refine w_var rfl ?_
    refine w_cst ?_
    refine l_ixL (i := 0) rfl ?_
    refine w_cst ?_
    exact l_ixL (i := 0) (x := .int many) rfl q'
  refine WC_some rfl ?_
  refine ifB (fun h5 => ?_) (fun h5 => ?_)
  · rw [h5] at q
    exact one _ q fun d e2 h => h
  rw [h5, Bool.not_false, Bool.true_and] at q
  refine x_nil ?_
  refine x_cons ?_
  refine x_set ?_
  refine w_slice ?_
  refine w_ix ?_
  refine w_var rfl ?_
  refine w_cst ?_
  refine l_ixL (i := 0) rfl ?_
  refine w_oS ?_
  refine w_cst ?_
  refine ⟨_, rfl, ?_⟩
  refine w_oN ?_
  refine l_tail ?_
  refine x_cons ?_
  refine x_ifs ?_
  refine t_val' ?_
  refine w_blt ?_
  refine w_cons ?_
  refine w_mapR (rngL 0 (ends.length - 1)) ((List.range (ends.length - 1)).map fun i => .bl (stepB ends i)) (by simp [rngL]; omega) (by simp [rngL]) (r_rng ?_)
  refine w_bin ?_
  refine w_blt ?_
  refine w_cons ?_
  refine w_var rfl ?_
  refine w_nil ?_
  refine l_lenL ?_
  refine w_cst ?_
  refine l_sub ?_
  have en : ((((ends.map D.int).length : Nat) : Int) - 1).toNat = ends.length - 1 := by rw [List.length_map]; omega
  refine ⟨_, rfl, ⟨by rw [List.length_map]; omega, by rw [List.length_map]; omega⟩, ?_⟩
  rw [en]
  refine ⟨by simp [rngL], rfl, fun i x y hx hy => ?_, ?_⟩
  · have hlt : i < ends.length - 1 := by
      have := (List.getElem?_eq_some_iff.mp hx).1
      simpa [rngL] using this
    rw [rngL_get hlt] at hx
    cases hx
    rw [List.getElem?_map, List.getElem?_range hlt] at hy
    cases hy
    refine ⟨_, rfl, ?_⟩
    refine w_cmp ?_
    refine w_ix ?_
    refine w_var rfl ?_
    refine w_var rfl ?_
    have ei : (0 + (i : Int)) = ((i : Nat) : Int) := by omega
    rw [ei]
    have g1 : ends[i]? = some (ends[i]'(by omega)) := List.getElem?_eq_getElem (by omega)
    have g2 : ends[i + 1]? = some (ends[i + 1]'(by omega)) := List.getElem?_eq_getElem (by omega)
    refine l_ixL (x := .int (ends[i]'(by omega))) (by rw [List.getElem?_map, g1]; rfl) ?_
    refine w_ix ?_
    refine w_var rfl ?_
    refine w_bin ?_
    refine w_var rfl ?_
    refine w_cst ?_
    refine l_add ?_
    have ei2 : ((i : Int) + 1) = ((i + 1 : Nat) : Int) := by omega
    rw [ei2]
    refine l_ixL (x := .int (ends[i + 1]'(by omega))) (by rw [List.getElem?_map, g2]; rfl) ?_
    refine l_ge ?_
    refine ⟨?_, rfl⟩
    have g3 : stepB ends i = decide (ends[i + 1]'(by omega) ≤ ends[i]'(by omega)) := by
      unfold stepB
      rw [g1, g2]
    show D.bl _ = D.bl (stepB ends i)
    rw [g3]
  refine w_nil ?_
  refine l_any ?_
  refine WC_some rfl ?_
  rw [steps_inc]
  refine ifB (fun h6 => ?_) (fun h6 => ?_)
  · have h6' : incB ends = false := by simpa using h6
    rw [h6'] at q
    exact one _ q fun d e2 h => h
  have h6' : incB ends = true := by simpa using h6
  rw [h6', if_pos rfl] at q
  refine x_nil ?_
  refine x_cons ?_
  refine x_set ?_
  refine w_lstF ?_
  refine w_nil ?_
  refine ⟨Nat.zero_le _, ?_⟩
  refine x_cons ?_
  refine x_set ?_
  refine w_blt ?_
  refine w_cons ?_
  refine w_var rfl ?_
  refine w_nil ?_
  refine l_dictT hs ?_
  have e1 : (S ++ [O.lst ([] : List D)]).length = S.length + 1 := by simp
  rw [e1, snoc2]
  have hS2 : ∀ ms : List D, puL ms = true → (S ++ [O.lst ms, O.dic (tab sg)]).all puO = true := fun ms h => all2 hS h hs.pu
  have set2a : ∀ (ms ms' : List D), (S ++ [O.lst ms, O.dic (tab sg)]).set S.length (.lst ms') = S ++ [O.lst ms', O.dic (tab sg)] := fun ms ms' => by
    rw [List.set_append_right _ _ (by omega)]
    simp
  have h4' : many ≤ 400 := by
    have := of_decide_eq_false h4
    omega
  refine x_cons ?_
  refine x_for ?_
  refine r_rng2 ?_
  refine w_cst ?_
  refine w_blt ?_
  refine w_cons ?_
  refine w_var rfl ?_
  refine w_nil ?_
  refine l_lenL ?_
  have en3 : (((l0 :: rest).map D.str).length : Int) = (rest.length : Int) + 1 := by simp
  have hr : rest.length ≤ 100 := by simpa using hlen
  refine ⟨_, _, rfl, rfl, ⟨by decide, by decide, by rw [en3]; omega, by rw [en3]; omega⟩, ?_⟩
  have en2 : ((((l0 :: rest).map D.str).length : Int) - 1).toNat = rest.length := by rw [en3]; omega
  rw [en2]
  refine for_inv (l := rngL 1 rest.length) (fun (i : Nat) (e : En) (S' : Sto) => ∃ (acc : List D) (a b c d' g : Option D), S' = S ++ [.lst acc, .dic (tab sg)] ∧
      e = [some (.tup sg), some (.str t), some (.lst ((l0 :: rest).map .str)), some (.lst [.lst ((many :: ends).map .int)]), some (.lst (ends.map .int)), some (.ref S.length), some (.ref (S.length + 1)), a, b, c, d', g] ∧
      puL acc = true ∧ acc.length = i ∧ rdAs sg many 0 rest [] = rdAs sg many i (rest.drop i) acc) (by simp [rngL]) ⟨[], _, _, _, _, _, rfl, rfl, rfl, rfl, rfl⟩ (fun i e S' h => rfl) ?_ ?_
  · rintro i x e S' hx ⟨acc, a, b, c, d', g, rfl, rfl, hpa, hi, he⟩
    have hlt : i < rest.length := by
      have := (List.getElem?_eq_some_iff.mp hx).1
      simpa [rngL] using this
    rw [rngL_get hlt] at hx
    cases hx
    obtain ⟨line, hline⟩ : ∃ line, rest[i]? = some line := ⟨_, List.getElem?_eq_getElem hlt⟩
    have hltx := htx line (List.mem_cons_of_mem _ (List.mem_of_getElem? hline))
    have hdrop : rest.drop i = line :: rest.drop (i + 1) := by
      obtain ⟨hlt, e⟩ := List.getElem?_eq_some_iff.mp hline
      rw [← e]; exact List.drop_eq_getElem_cons hlt
    rw [hdrop] at he
    have hS3 := hS2 acc hpa
    refine ⟨_, rfl, ?_⟩
    have ei : (1 + (i : Int)) = ((i + 1 : Nat) : Int) := by omega
    rw [ei]
    have bad : ∀ (h : rdAm sg many line = none), Q (.int (((i + 1 : Nat) : Int) + 1)) S := fun h => by
      rw [he, rdAs, h] at q
      have : (((i + 1 : Nat) : Int) + 1) = (i : Int) + 2 := by omega
      rw [this]
      exact q
    have leave : ∀ (h : rdAm sg many line = none) (e : En) (he : e[7]? = some (some (.int ((i + 1 : Nat) : Int)))) {P : Fl → En → Sto → Prop}, (∀ d e2 S1, W (fin d30.df S.length d S1) Q → P (.rt d) e2 S1) →
        WS (exs (ex (calls pg (k + 2)) 58) [.ret (.bin .add (.var 7) (.cst (.int 1)))] e (S ++ [.lst acc, .dic (tab sg)])) P := fun h e he {P} hP => by
      refine x_cons ?_
      refine x_ret ?_
      refine w_bin ?_
      refine w_var he ?_
      refine w_cst ?_
      refine l_add ?_
      exact hP _ _ _ (fin_drop rfl hS rfl (bad h))
    refine x_cons ?_
    refine x_set ?_
    refine w_meth ?_
    refine w_ix ?_
    refine w_var rfl ?_
    refine w_var rfl ?_
    refine l_ixL (i := i + 1) (x := .str line) (by simp [hline]) ?_
    refine ⟨rfl, ?_⟩
    refine w_cons ?_
    refine w_cst ?_
    refine w_nil ?_
    refine l_split sepSp hltx ?_
    have htw := split_tx sepSp hltx
    have htn := split_ne (t := line) sepSp
    have hwl2 := split_len sepSp hltx
    have hrm : rdAm sg many line = match Txt.split line " " with
      | [] => none
      | w :: ws => match lookK (tab sg) (.inr w) with
        | some (.int m) => if ((ws.length : Int) + 1 == m + 2) = true then (numsO ws).bind fun ns => if autB sg (.tup [.int many, .tup [amD w ns], .tup []]) = true then some (amD w ns) else none else none
        | _ => none := rfl
    generalize Txt.split line " " = wws at *
    cases wws with
    | nil => exact absurd rfl htn
    | cons w ws =>
    dsimp only at hrm
    have hwt := htw w List.mem_cons_self
    have hwl3 : ws.length ≤ 101 := by simp at hwl2; omega
    refine x_cons ?_
    refine x_set ?_
    refine w_call ?_
    refine w_cons ?_
    refine w_slice ?_
    refine w_var rfl ?_
    refine w_oS ?_
    refine w_cst ?_
    refine ⟨_, rfl, ?_⟩
    refine w_oN ?_
    refine l_tail ?_
    refine w_nil ?_
    refine numsL (fun w' h' => htw w' (List.mem_cons_of_mem _ h')) hwl3 hS3 ?_
    refine x_cons ?_
    refine x_ifs ?_
    refine t_or' ?_
    refine t_cmp' ?_
    refine w_ix ?_
    refine w_var rfl ?_
    refine w_cst ?_
    refine l_ixL (i := 0) (x := .str w) rfl ?_
    refine w_var rfl ?_
    refine l_notInD get2b ?_
    cases hk : lookK (tab sg) (.inr w) with
    | none =>
      rw [hk] at hrm
      refine ifT' rfl ?_
      refine ifT' rfl ?_
      exact leave hrm _ rfl fun d e2 S1 h => h
    | some dm =>
    obtain ⟨m, rfl⟩ := hs.ok _ _ hk
    obtain ⟨hm0, hm3⟩ := hs.nonneg hk
    rw [hk] at hrm
    dsimp only at hrm
    refine ifF' rfl ?_
    refine t_or' ?_
    refine t_cmp' ?_
    refine w_blt ?_
    refine w_cons ?_
    refine w_var rfl ?_
    refine w_nil ?_
    refine l_lenL ?_
    refine w_bin ?_
    refine w_ix ?_
    refine w_var rfl ?_
    refine w_ix ?_
    refine w_var rfl ?_
    refine w_cst ?_
    refine l_ixL (i := 0) (x := .str w) rfl ?_
    refine l_ixD get2b hk ?_
    refine w_cst ?_
    refine l_add ?_
    refine l_neI ?_
    have elen : ((((w :: ws).map D.str).length : Nat) : Int) = (ws.length : Int) + 1 := by simp
    rw [elen]
    refine ifB (fun h2 => ?_) (fun h2 => ?_)
    · refine ifT' rfl ?_
      refine leave ?_ _ rfl fun d e2 S1 h => h
      have h2' : ((ws.length : Int) + 1 == m + 2) = false := by simpa using h2
      rw [hrm, if_neg (by rw [h2']; exact Bool.false_ne_true)]
    have h2' : ((ws.length : Int) + 1 == m + 2) = true := by simpa using h2
    rw [if_pos h2'] at hrm
    refine t_cmp' ?_
    refine w_var rfl ?_
    refine w_lstT ?_
    refine w_nil ?_
    refine ⟨Nat.zero_le _, ?_⟩
    refine l_eqLL ?_
    cases hns : numsO ws with
    | none =>
      rw [hns] at hrm
      refine ifT' rfl ?_
      exact leave hrm _ rfl fun d e2 S1 h => h
    | some ns =>
    rw [hns, Option.bind_some] at hrm
    have hnl := numsO_len hns
    have hnp := numsO_pos hns
    have hnm : (ns.length : Int) = m + 1 := by
      have := eq_of_beq h2'
      omega
    have hns0 : ns ≠ [] := fun z => by
      rw [z] at hnm
      simp at hnm
      omega
    have hnz : ns.length ≤ sizeLine := by rw [hnl]; exact Nat.le_trans hwl3 (by decide)
    rw [aut_move h0 h4' hk hnm hns0 hnp] at hrm
    refine ifF' rfl ?_
    refine x_nil ?_
    refine x_cons ?_
    refine x_ifs ?_
    refine t_val' ?_
    refine any_of (d := 53) (l := ns) (many := many) hnz (fun {Q'} q' => ?_) (by show 11 < 12; decide) (fun x {Q'} q' => ?_) ?_
    · refine w_ix ?_
      refine w_var rfl ?_
      refine w_cst ?_
      exact l_ixL (i := 0) rfl q'
    · refine w_ix ?_
      refine w_ix ?_
      refine w_var rfl ?_
      refine w_cst ?_
      refine l_ixL (i := 0) rfl ?_
      refine w_cst ?_
      exact l_ixL (i := 0) (x := .int many) rfl q'
    refine WC_some rfl ?_
    refine ifB (fun h7 => ?_) (fun h7 => ?_)
    · refine leave ?_ _ rfl fun d e2 S1 h => h
      rw [hrm, h7]
      rfl
    rw [h7, Bool.not_false, if_pos rfl] at hrm
    refine x_nil ?_
    refine x_cons ?_
    refine x_expr ?_
    refine w_meth ?_
    refine w_var rfl ?_
    refine ⟨chk_app get2a, ?_⟩
    refine w_cons ?_
    refine w_tup ?_
    refine w_cons ?_
    refine w_ix ?_
    refine w_var rfl ?_
    refine w_cst ?_
    refine l_ixL (i := 0) (x := .str w) rfl ?_
    refine w_cons ?_
    refine w_blt ?_
    refine w_cons ?_
    refine w_slice ?_
    refine w_ix ?_
    refine w_var rfl ?_
    refine w_cst ?_
    refine l_ixL (i := 0) rfl ?_
    refine w_oN ?_
    refine w_oS ?_
    refine w_neg ?_
    refine w_cst ?_
    refine ⟨_, rfl, ?_⟩
    refine ⟨_, rfl, ?_⟩
    refine l_cutLast ?_
    refine w_nil ?_
    refine l_tupL ?_
    refine w_cons ?_
    refine w_ix ?_
    refine w_ix ?_
    refine w_var rfl ?_
    refine w_cst ?_
    refine l_ixL (i := 0) rfl ?_
    refine w_neg ?_
    refine w_cst ?_
    refine ⟨_, rfl, ?_⟩
    refine l_last hns0 ?_
    refine w_nil ?_
    refine ⟨by show 3 ≤ sizeLine; decide, ?_⟩
    refine w_nil ?_
    have hal : acc.length < sizeLine := by
      have : (101 : Nat) < sizeLine := by decide
      omega
    refine l_app get2a hal ?_
    refine x_nil ?_
    refine ⟨acc ++ [amD w ns], _, _, _, _, _, set2a _ _, rfl, by rw [puL_append, hpa]; simp only [puL, pu_am, Bool.and_self], by simp [hi], ?_⟩
    rw [he, rdAs, hrm]
  · rintro e S' ⟨acc, a, b, c, d', g, rfl, rfl, hpa, hi, he⟩
    have hl2 : (rngL 1 rest.length).length = rest.length := by simp [rngL]
    rw [hl2, List.drop_length] at he
    rw [he] at q
    refine x_cons ?_
    refine x_ret ?_
    refine w_tup ?_
    refine w_cons ?_
    refine w_ix ?_
    refine w_ix ?_
    refine w_var rfl ?_
    refine w_cst ?_
    refine l_ixL (i := 0) rfl ?_
    refine w_cst ?_
    refine l_ixL (i := 0) (x := .int many) rfl ?_
    refine w_cons ?_
    refine w_blt ?_
    refine w_cons ?_
    refine w_var rfl ?_
    refine w_nil ?_
    refine l_tupR get2a ?_
    refine w_cons ?_
    refine w_blt ?_
    refine w_cons ?_
    refine w_var rfl ?_
    refine w_nil ?_
    refine l_tupL ?_
    refine w_nil ?_
    refine ⟨by show 3 ≤ sizeLine; decide, ?_⟩
    refine fin_drop rfl hS ?_ q
    simp [puD, puL, hpa, puL_ints]
end Tt.L
end

section
/-! k64: what is told of a text. -/
namespace Tt.L
open PySem Tt Tt.P
theorem rdS_pu {t : Str} {d : D} (h : rdS t = .ok d) : puD d = true := by
  unfold rdS at h
  split at h
  · split at h
    · cases h; exact pu_prs _
    · cases h
  · cases h
theorem pu_mc (many : Int) (ms : List Mv) : puD (mcD many ms) = true := by simp [mcD, puD, puL, pu_mvs]
theorem rdM_pu {t : Str} {d : D} (h : rdM t = .ok d) : puD d = true := by
  unfold rdM at h
  split at h
  · cases h
  · split at h
    · cases h
    · split at h
      · split at h
        · cases h; exact pu_mc _ _
        · cases h
      · cases h
theorem rdAm_pu {sg : List D} {many : Int} {line : Str} {d : D} (h : rdAm sg many line = some d) : puD d = true := by
  unfold rdAm at h
  split at h
  · cases h
  · split at h
    · split at h
      · rw [Option.bind_eq_some_iff] at h
        obtain ⟨ns, _, h⟩ := h
        split at h
        · cases h; exact pu_am _ _
        · cases h
      · cases h
    · cases h
theorem rdAs_pu {sg : List D} {many : Int} : ∀ {ls : List Str} {i : Nat} {acc ms : List D}, rdAs sg many i ls acc = .inl ms → puL acc = true → puL ms = true
  | [], i, acc, ms, h, hp => by cases h; exact hp
  | l :: r, i, acc, ms, h, hp => by
    rw [rdAs] at h
    split at h
    · rename_i m hm
      exact rdAs_pu h (by rw [puL_append, hp]; simp only [puL, rdAm_pu hm, Bool.and_self])
    · cases h
theorem rdA_pu {sg : List D} {t : Str} {d : D} (h : rdA sg t = .ok d) : puD d = true := by
  unfold rdA at h
  split at h
  · cases h
  · split at h
    · split at h
      · split at h
        · rename_i ms hms
          cases h
          simp [puD, puL, rdAs_pu hms rfl, puL_ints]
        · cases h
      · cases h
    · cases h
theorem lawD_pu {r : Rz} (h : ∀ d, r = .ok d → puD d = true) : puD (lawD r) = true := by
  cases r with
  | ok d => exact h d rfl
  | er z => rfl
theorem told_sig {k : Nat} {sv : D} {t : Str} {S : Sto} {Q : D → Sto → Prop} (ht : tx t = true) (hS : S.all puO = true) (q : Q (lawD (rdS t)) S) : WO (calls pg (k + 5) 32 [.str "signature", sv, .str t] S) Q := by
  refine call_run (di := d32) rfl (w_run rfl ?_)
  refine x_cons ?_
  refine x_try ?_
  refine x_cons ?_
  refine x_ifs ?_
  refine t_cmp' ?_
  refine w_var rfl ?_
  refine w_cst ?_
  refine l_eqS (by decide +kernel) (by decide +kernel) ?_
  refine ifT' (by decide +kernel) ?_
  refine x_cons ?_
  refine x_retR ?_
  refine q_c ?_
  refine c_call ?_
  refine w_cons ?_
  refine w_var rfl ?_
  refine w_nil ?_
  have hp := lawD_pu (r := rdS t) fun d h => rdS_pu h
  refine read_signature ht hS ?_
  cases hr : rdS t with
  | ok d => rw [hr] at q hp; exact fin_same rfl hS hp q
  | er z => rw [hr] at q; exact fin_same rfl hS rfl q
theorem told_set {k : Nat} {sg : List D} {t : Str} {S : Sto} {Q : D → Sto → Prop} (hs : SigOk sg) (ht : tx t = true) (hS : S.all puO = true) (q : Q (lawD (rdA sg t)) S) : WO (calls pg (k + 5) 32 [.str "set", .tup sg, .str t] S) Q := by
  refine call_run (di := d32) rfl (w_run rfl ?_)
  refine x_cons ?_
  refine x_try ?_
  refine x_cons ?_
  refine x_ifs ?_
  refine t_cmp' ?_
  refine w_var rfl ?_
  refine w_cst ?_
  refine l_eqS (by decide +kernel) (by decide +kernel) ?_
  refine ifF' (by decide +kernel) ?_
  refine x_nil ?_
  refine x_cons ?_
  refine x_retR ?_
  refine q_ite ?_
  refine t_cmp' ?_
  refine w_var rfl ?_
  refine w_cst ?_
  refine l_eqS (by decide +kernel) (by decide +kernel) ?_
  refine ifT' (by decide +kernel) ?_
  refine c_call ?_
  refine w_cons ?_
  refine w_var rfl ?_
  refine w_cons ?_
  refine w_var rfl ?_
  refine w_nil ?_
  have hp := lawD_pu (r := rdA sg t) fun d h => rdA_pu h
  refine read_automaton hs ht hS ?_
  cases hr : rdA sg t with
  | ok d => rw [hr] at q hp; exact fin_same rfl hS hp q
  | er z => rw [hr] at q; exact fin_same rfl hS rfl q
theorem told_mach {k : Nat} {sv : D} {t : Str} {S : Sto} {Q : D → Sto → Prop} (ht : tx t = true) (hS : S.all puO = true) (q : Q (lawD (rdM t)) S) : WO (calls pg (k + 5) 32 [.str "machine", sv, .str t] S) Q := by
  refine call_run (di := d32) rfl (w_run rfl ?_)
  refine x_cons ?_
  refine x_try ?_
  refine x_cons ?_
  refine x_ifs ?_
  refine t_cmp' ?_
  refine w_var rfl ?_
  refine w_cst ?_
  refine l_eqS (by decide +kernel) (by decide +kernel) ?_
  refine ifF' (by decide +kernel) ?_
  refine x_nil ?_
  refine x_cons ?_
  refine x_retR ?_
  refine q_ite ?_
  refine t_cmp' ?_
  refine w_var rfl ?_
  refine w_cst ?_
  refine l_eqS (by decide +kernel) (by decide +kernel) ?_
  refine ifF' (by decide +kernel) ?_
  refine c_call ?_
  refine w_cons ?_
  refine w_var rfl ?_
  refine w_nil ?_
  have hp := lawD_pu (r := rdM t) fun d h => rdM_pu h
  refine read_machine ht hS ?_
  cases hr : rdM t with
  | ok d => rw [hr] at q hp; exact fin_same rfl hS hp q
  | er z => rw [hr] at q; exact fin_same rfl hS rfl q
end Tt.L
end

section
/-! k64: a value is the same as itself. -/
namespace Tt.L
open PySem Tt Tt.P
def sok : Nat → D → Bool
  | _, .int _ => true
  | _, .str s => tx s
  | n + 1, .tup l => decide (l.length ≤ 200) && l.all (sok n)
  | n + 1, .lst l => decide (l.length ≤ 200) && l.all (sok n)
  | _, _ => false
theorem same {n : Nat} : ∀ {k : Nat} {v : D} {S : Sto} {Q : D → Sto → Prop}, sok n v = true → S.all puO = true → Q (.bl true) S → WO (calls pg (k + n + 1) 22 [v, v] S) Q := by
  induction n with
  | zero =>
    intro k v S Q h hS q
    refine call_run (di := d22) rfl (w_run rfl ?_)
    cases v <;> first
      | (simp [sok] at h; done)
      | skip
    · (repeat (first | refine w_var rfl ?_ | refine w_cst ?_ | refine w_glob ?_ | refine w_nil ?_ | refine w_cons ?_ | refine w_bin ?_ | refine w_ix ?_ | refine w_call ?_ | refine w_blt ?_ | refine w_isi ?_ | refine w_tup ?_ | refine w_lstT ?_ | refine w_lstF ?_ | refine e_and ?_ | refine e_or ?_ | refine w_not ?_ | refine w_neg ?_ | refine w_ite ?_ | refine w_cmp ?_ | refine w_chain ?_ | refine w_slice ?_ | refine w_oN ?_ | refine w_oS ?_ | refine t_val' ?_ | refine t_cmp' ?_ | refine t_chain' ?_ | refine t_not' ?_ | refine t_and' ?_ | refine t_or' ?_ | refine ts_nil ?_ | refine ts_cons ?_ | refine x_nil ?_ | refine x_cons ?_ | refine x_set ?_ | refine x_expr ?_ | refine x_ret ?_ | refine x_retN ?_ | refine x_ifs ?_ | refine x_setIx ?_ | refine x_unpack ?_ | refine l_add ?_ | refine l_sub ?_ | refine l_eqI ?_ | refine l_neI ?_ | refine l_eqB ?_ | refine l_neB ?_ | refine l_lt ?_ | refine l_le ?_ | refine l_gt ?_ | refine l_ge ?_ | refine ifT' rfl ?_ | refine ifF' rfl ?_ | refine ⟨_, rfl, ?_⟩ | refine ⟨rfl, ?_⟩ | refine ⟨Nat.le_of_ble_eq_true rfl, ?_⟩ | refine WC_some rfl ?_ | refine W_some rfl ?_))
      rename_i i
      have e : (i == i) = true := beq_self_eq_true i
      rw [e]
      (repeat (first | refine w_var rfl ?_ | refine w_cst ?_ | refine w_glob ?_ | refine w_nil ?_ | refine w_cons ?_ | refine w_bin ?_ | refine w_ix ?_ | refine w_call ?_ | refine w_blt ?_ | refine w_isi ?_ | refine w_tup ?_ | refine w_lstT ?_ | refine w_lstF ?_ | refine e_and ?_ | refine e_or ?_ | refine w_not ?_ | refine w_neg ?_ | refine w_ite ?_ | refine w_cmp ?_ | refine w_chain ?_ | refine w_slice ?_ | refine w_oN ?_ | refine w_oS ?_ | refine t_val' ?_ | refine t_cmp' ?_ | refine t_chain' ?_ | refine t_not' ?_ | refine t_and' ?_ | refine t_or' ?_ | refine ts_nil ?_ | refine ts_cons ?_ | refine x_nil ?_ | refine x_cons ?_ | refine x_set ?_ | refine x_expr ?_ | refine x_ret ?_ | refine x_retN ?_ | refine x_ifs ?_ | refine x_setIx ?_ | refine x_unpack ?_ | refine l_add ?_ | refine l_sub ?_ | refine l_eqI ?_ | refine l_neI ?_ | refine l_eqB ?_ | refine l_neB ?_ | refine l_lt ?_ | refine l_le ?_ | refine l_gt ?_ | refine l_ge ?_ | refine ifT' rfl ?_ | refine ifF' rfl ?_ | refine ⟨_, rfl, ?_⟩ | refine ⟨rfl, ?_⟩ | refine ⟨Nat.le_of_ble_eq_true rfl, ?_⟩ | refine WC_some rfl ?_ | refine W_some rfl ?_))
      exact fin_same rfl hS rfl q
    · rename_i s
      simp only [sok] at h
      (repeat (first | refine w_var rfl ?_ | refine w_cst ?_ | refine w_glob ?_ | refine w_nil ?_ | refine w_cons ?_ | refine w_bin ?_ | refine w_ix ?_ | refine w_call ?_ | refine w_blt ?_ | refine w_isi ?_ | refine w_tup ?_ | refine w_lstT ?_ | refine w_lstF ?_ | refine e_and ?_ | refine e_or ?_ | refine w_not ?_ | refine w_neg ?_ | refine w_ite ?_ | refine w_cmp ?_ | refine w_chain ?_ | refine w_slice ?_ | refine w_oN ?_ | refine w_oS ?_ | refine t_val' ?_ | refine t_cmp' ?_ | refine t_chain' ?_ | refine t_not' ?_ | refine t_and' ?_ | refine t_or' ?_ | refine ts_nil ?_ | refine ts_cons ?_ | refine x_nil ?_ | refine x_cons ?_ | refine x_set ?_ | refine x_expr ?_ | refine x_ret ?_ | refine x_retN ?_ | refine x_ifs ?_ | refine x_setIx ?_ | refine x_unpack ?_ | refine l_add ?_ | refine l_sub ?_ | refine l_eqI ?_ | refine l_neI ?_ | refine l_eqB ?_ | refine l_neB ?_ | refine l_lt ?_ | refine l_le ?_ | refine l_gt ?_ | refine l_ge ?_ | refine ifT' rfl ?_ | refine ifF' rfl ?_ | refine ⟨_, rfl, ?_⟩ | refine ⟨rfl, ?_⟩ | refine ⟨Nat.le_of_ble_eq_true rfl, ?_⟩ | refine WC_some rfl ?_ | refine W_some rfl ?_))
      refine l_eqS (tx1 h) (tx1 h) ?_
      have e : (s == s) = true := beq_self_eq_true s
      rw [e]
      exact fin_same rfl hS rfl q
  | succ n ih =>
    intro k v S Q h hS q
    refine call_run (di := d22) rfl (w_run rfl ?_)
    cases v <;> first
      | (simp [sok] at h; done)
      | skip
    · (repeat (first | refine w_var rfl ?_ | refine w_cst ?_ | refine w_glob ?_ | refine w_nil ?_ | refine w_cons ?_ | refine w_bin ?_ | refine w_ix ?_ | refine w_call ?_ | refine w_blt ?_ | refine w_isi ?_ | refine w_tup ?_ | refine w_lstT ?_ | refine w_lstF ?_ | refine e_and ?_ | refine e_or ?_ | refine w_not ?_ | refine w_neg ?_ | refine w_ite ?_ | refine w_cmp ?_ | refine w_chain ?_ | refine w_slice ?_ | refine w_oN ?_ | refine w_oS ?_ | refine t_val' ?_ | refine t_cmp' ?_ | refine t_chain' ?_ | refine t_not' ?_ | refine t_and' ?_ | refine t_or' ?_ | refine ts_nil ?_ | refine ts_cons ?_ | refine x_nil ?_ | refine x_cons ?_ | refine x_set ?_ | refine x_expr ?_ | refine x_ret ?_ | refine x_retN ?_ | refine x_ifs ?_ | refine x_setIx ?_ | refine x_unpack ?_ | refine l_add ?_ | refine l_sub ?_ | refine l_eqI ?_ | refine l_neI ?_ | refine l_eqB ?_ | refine l_neB ?_ | refine l_lt ?_ | refine l_le ?_ | refine l_gt ?_ | refine l_ge ?_ | refine ifT' rfl ?_ | refine ifF' rfl ?_ | refine ⟨_, rfl, ?_⟩ | refine ⟨rfl, ?_⟩ | refine ⟨Nat.le_of_ble_eq_true rfl, ?_⟩ | refine WC_some rfl ?_ | refine W_some rfl ?_))
      rename_i i
      have e : (i == i) = true := beq_self_eq_true i
      rw [e]
      (repeat (first | refine w_var rfl ?_ | refine w_cst ?_ | refine w_glob ?_ | refine w_nil ?_ | refine w_cons ?_ | refine w_bin ?_ | refine w_ix ?_ | refine w_call ?_ | refine w_blt ?_ | refine w_isi ?_ | refine w_tup ?_ | refine w_lstT ?_ | refine w_lstF ?_ | refine e_and ?_ | refine e_or ?_ | refine w_not ?_ | refine w_neg ?_ | refine w_ite ?_ | refine w_cmp ?_ | refine w_chain ?_ | refine w_slice ?_ | refine w_oN ?_ | refine w_oS ?_ | refine t_val' ?_ | refine t_cmp' ?_ | refine t_chain' ?_ | refine t_not' ?_ | refine t_and' ?_ | refine t_or' ?_ | refine ts_nil ?_ | refine ts_cons ?_ | refine x_nil ?_ | refine x_cons ?_ | refine x_set ?_ | refine x_expr ?_ | refine x_ret ?_ | refine x_retN ?_ | refine x_ifs ?_ | refine x_setIx ?_ | refine x_unpack ?_ | refine l_add ?_ | refine l_sub ?_ | refine l_eqI ?_ | refine l_neI ?_ | refine l_eqB ?_ | refine l_neB ?_ | refine l_lt ?_ | refine l_le ?_ | refine l_gt ?_ | refine l_ge ?_ | refine ifT' rfl ?_ | refine ifF' rfl ?_ | refine ⟨_, rfl, ?_⟩ | refine ⟨rfl, ?_⟩ | refine ⟨Nat.le_of_ble_eq_true rfl, ?_⟩ | refine WC_some rfl ?_ | refine W_some rfl ?_))
      exact fin_same rfl hS rfl q
    · rename_i s
      simp only [sok] at h
      (repeat (first | refine w_var rfl ?_ | refine w_cst ?_ | refine w_glob ?_ | refine w_nil ?_ | refine w_cons ?_ | refine w_bin ?_ | refine w_ix ?_ | refine w_call ?_ | refine w_blt ?_ | refine w_isi ?_ | refine w_tup ?_ | refine w_lstT ?_ | refine w_lstF ?_ | refine e_and ?_ | refine e_or ?_ | refine w_not ?_ | refine w_neg ?_ | refine w_ite ?_ | refine w_cmp ?_ | refine w_chain ?_ | refine w_slice ?_ | refine w_oN ?_ | refine w_oS ?_ | refine t_val' ?_ | refine t_cmp' ?_ | refine t_chain' ?_ | refine t_not' ?_ | refine t_and' ?_ | refine t_or' ?_ | refine ts_nil ?_ | refine ts_cons ?_ | refine x_nil ?_ | refine x_cons ?_ | refine x_set ?_ | refine x_expr ?_ | refine x_ret ?_ | refine x_retN ?_ | refine x_ifs ?_ | refine x_setIx ?_ | refine x_unpack ?_ | refine l_add ?_ | refine l_sub ?_ | refine l_eqI ?_ | refine l_neI ?_ | refine l_eqB ?_ | refine l_neB ?_ | refine l_lt ?_ | refine l_le ?_ | refine l_gt ?_ | refine l_ge ?_ | refine ifT' rfl ?_ | refine ifF' rfl ?_ | refine ⟨_, rfl, ?_⟩ | refine ⟨rfl, ?_⟩ | refine ⟨Nat.le_of_ble_eq_true rfl, ?_⟩ | refine WC_some rfl ?_ | refine W_some rfl ?_))
      refine l_eqS (tx1 h) (tx1 h) ?_
      have e : (s == s) = true := beq_self_eq_true s
      rw [e]
      exact fin_same rfl hS rfl q
    · rename_i l
      simp only [sok, Bool.and_eq_true, decide_eq_true_eq] at h
      obtain ⟨h1, h2⟩ := h
      have hz : l.length ≤ sizeLine := Nat.le_trans h1 (by decide)
      have hbig : (l.length : Int) < 2 ^ 62 := by omega
      refine x_cons ?_
      (repeat (first | refine w_var rfl ?_ | refine w_cst ?_ | refine w_glob ?_ | refine w_nil ?_ | refine w_cons ?_ | refine w_bin ?_ | refine w_ix ?_ | refine w_call ?_ | refine w_blt ?_ | refine w_isi ?_ | refine w_tup ?_ | refine w_lstT ?_ | refine w_lstF ?_ | refine e_and ?_ | refine e_or ?_ | refine w_not ?_ | refine w_neg ?_ | refine w_ite ?_ | refine w_cmp ?_ | refine w_chain ?_ | refine w_slice ?_ | refine w_oN ?_ | refine w_oS ?_ | refine t_val' ?_ | refine t_cmp' ?_ | refine t_chain' ?_ | refine t_not' ?_ | refine t_and' ?_ | refine t_or' ?_ | refine ts_nil ?_ | refine ts_cons ?_ | refine x_nil ?_ | refine x_set ?_ | refine x_expr ?_ | refine x_ret ?_ | refine x_retN ?_ | refine x_ifs ?_ | refine x_setIx ?_ | refine x_unpack ?_ | refine l_add ?_ | refine l_sub ?_ | refine l_eqI ?_ | refine l_neI ?_ | refine l_eqB ?_ | refine l_neB ?_ | refine l_lt ?_ | refine l_le ?_ | refine l_gt ?_ | refine l_ge ?_ | refine ifT' rfl ?_ | refine ifF' rfl ?_ | refine ⟨_, rfl, ?_⟩ | refine ⟨rfl, ?_⟩ | refine ⟨Nat.le_of_ble_eq_true rfl, ?_⟩ | refine WC_some rfl ?_ | refine W_some rfl ?_))
      refine x_cons ?_
      refine x_ret ?_
      refine e_and ?_
      refine w_cmp ?_
      refine w_blt ?_
      refine w_cons ?_
      refine w_var rfl ?_
      refine w_nil ?_
      refine W_some (d := D.int l.length) (S := S) rfl ?_
      refine w_blt ?_
      refine w_cons ?_
      refine w_var rfl ?_
      refine w_nil ?_
      refine W_some (d := D.int l.length) (S := S) rfl ?_
      refine l_eqI ?_
      refine ⟨_, rfl, ?_⟩
      refine ifT' (beq_self_eq_true _) ?_
      refine w_blt ?_
      refine w_cons ?_
      refine w_mapR (rngL 0 l.length) (l.map fun _ => .bl true) (by simpa [rngL] using hz) (by simp [rngL]) (r_rng ?_)
      refine w_blt ?_
      refine w_cons ?_
      refine w_var rfl ?_
      refine w_nil ?_
      refine W_some (d := D.int l.length) (S := S) rfl ?_
      refine ⟨_, rfl, ⟨by omega, hbig⟩, ?_⟩
      refine ⟨by simp [rngL], rfl, fun i x y hx hy => ?_, ?_⟩
      · have hlt : i < l.length := by
          have := (List.getElem?_eq_some_iff.mp hx).1
          simpa [rngL] using this
        have hx' : (rngL 0 l.length)[i]? = some x := hx
        rw [rngL_get hlt] at hx'
        cases hx'
        have g1 : l[i]? = some (l[i]'hlt) := List.getElem?_eq_getElem hlt
        rw [List.getElem?_map, g1] at hy
        cases hy
        refine ⟨_, rfl, ?_⟩
        have ei : (0 + (i : Int)) = ((i : Nat) : Int) := by omega
        refine w_call ?_
        refine w_cons ?_
        refine w_ix ?_
        refine w_var rfl ?_
        refine w_var rfl ?_
        rw [ei]
        refine l_ixT g1 ?_
        refine w_cons ?_
        refine w_ix ?_
        refine w_var rfl ?_
        refine w_var rfl ?_
        refine l_ixT g1 ?_
        refine w_nil ?_
        exact ih (List.all_eq_true.mp h2 _ (List.getElem_mem hlt)) hS ⟨rfl, rfl⟩
      · refine w_nil ?_
        refine l_all ?_
        have e : (l.all fun _ => true) = true := by simp
        rw [e]
        exact fin_same rfl hS rfl q
    · rename_i l
      simp only [sok, Bool.and_eq_true, decide_eq_true_eq] at h
      obtain ⟨h1, h2⟩ := h
      have hz : l.length ≤ sizeLine := Nat.le_trans h1 (by decide)
      have hbig : (l.length : Int) < 2 ^ 62 := by omega
      refine x_cons ?_
      (repeat (first | refine w_var rfl ?_ | refine w_cst ?_ | refine w_glob ?_ | refine w_nil ?_ | refine w_cons ?_ | refine w_bin ?_ | refine w_ix ?_ | refine w_call ?_ | refine w_blt ?_ | refine w_isi ?_ | refine w_tup ?_ | refine w_lstT ?_ | refine w_lstF ?_ | refine e_and ?_ | refine e_or ?_ | refine w_not ?_ | refine w_neg ?_ | refine w_ite ?_ | refine w_cmp ?_ | refine w_chain ?_ | refine w_slice ?_ | refine w_oN ?_ | refine w_oS ?_ | refine t_val' ?_ | refine t_cmp' ?_ | refine t_chain' ?_ | refine t_not' ?_ | refine t_and' ?_ | refine t_or' ?_ | refine ts_nil ?_ | refine ts_cons ?_ | refine x_nil ?_ | refine x_set ?_ | refine x_expr ?_ | refine x_ret ?_ | refine x_retN ?_ | refine x_ifs ?_ | refine x_setIx ?_ | refine x_unpack ?_ | refine l_add ?_ | refine l_sub ?_ | refine l_eqI ?_ | refine l_neI ?_ | refine l_eqB ?_ | refine l_neB ?_ | refine l_lt ?_ | refine l_le ?_ | refine l_gt ?_ | refine l_ge ?_ | refine ifT' rfl ?_ | refine ifF' rfl ?_ | refine ⟨_, rfl, ?_⟩ | refine ⟨rfl, ?_⟩ | refine ⟨Nat.le_of_ble_eq_true rfl, ?_⟩ | refine WC_some rfl ?_ | refine W_some rfl ?_))
      refine x_cons ?_
      refine x_ret ?_
      refine e_and ?_
      refine w_cmp ?_
      refine w_blt ?_
      refine w_cons ?_
      refine w_var rfl ?_
      refine w_nil ?_
      refine W_some (d := D.int l.length) (S := S) rfl ?_
      refine w_blt ?_
      refine w_cons ?_
      refine w_var rfl ?_
      refine w_nil ?_
      refine W_some (d := D.int l.length) (S := S) rfl ?_
      refine l_eqI ?_
      refine ⟨_, rfl, ?_⟩
      refine ifT' (beq_self_eq_true _) ?_
      refine w_blt ?_
      refine w_cons ?_
      refine w_mapR (rngL 0 l.length) (l.map fun _ => .bl true) (by simpa [rngL] using hz) (by simp [rngL]) (r_rng ?_)
      refine w_blt ?_
      refine w_cons ?_
      refine w_var rfl ?_
      refine w_nil ?_
      refine W_some (d := D.int l.length) (S := S) rfl ?_
      refine ⟨_, rfl, ⟨by omega, hbig⟩, ?_⟩
      refine ⟨by simp [rngL], rfl, fun i x y hx hy => ?_, ?_⟩
      · have hlt : i < l.length := by
          have := (List.getElem?_eq_some_iff.mp hx).1
          simpa [rngL] using this
        have hx' : (rngL 0 l.length)[i]? = some x := hx
        rw [rngL_get hlt] at hx'
        cases hx'
        have g1 : l[i]? = some (l[i]'hlt) := List.getElem?_eq_getElem hlt
        rw [List.getElem?_map, g1] at hy
        cases hy
        refine ⟨_, rfl, ?_⟩
        have ei : (0 + (i : Int)) = ((i : Nat) : Int) := by omega
        refine w_call ?_
        refine w_cons ?_
        refine w_ix ?_
        refine w_var rfl ?_
        refine w_var rfl ?_
        rw [ei]
        refine l_ixL g1 ?_
        refine w_cons ?_
        refine w_ix ?_
        refine w_var rfl ?_
        refine w_var rfl ?_
        refine l_ixL g1 ?_
        refine w_nil ?_
        exact ih (List.all_eq_true.mp h2 _ (List.getElem_mem hlt)) hS ⟨rfl, rfl⟩
      · refine w_nil ?_
        refine l_all ?_
        have e : (l.all fun _ => true) = true := by simp
        rw [e]
        exact fin_same rfl hS rfl q
end Tt.L
end

section
/-! k64: a text with something turned. -/
namespace Tt.L
open PySem Tt Tt.P
def SIGNS : List Str := ["", " ", "\n", "0", "1", "/", ",", ".",
  "a", "x", "#", "-", "9", "10", "400", "01"]
theorem signs_ok : ∀ s ∈ SIGNS, s.cps.all (· < 0x110000) = true ∧ s.cps.size ≤ 3 := by decide +kernel
theorem cut_all {t : Str} {lo hi : Option Int} (h : t.cps.all (· < 0x110000) = true) : (L2.cutS t lo hi).cps.all (· < 0x110000) = true := by
  rw [Array.all_eq_true_iff_forall_mem] at h ⊢
  intro c hc
  refine h c ?_
  have : c ∈ (t.cps.toList.drop (HT.sIx t.length 0 lo)).take (HT.sIx t.length t.length hi - HT.sIx t.length 0 lo) := by simpa [L2.cutS] using hc
  exact Array.mem_toList_iff.mp (List.mem_of_mem_drop (List.mem_of_mem_take this))
theorem cut_head {t : Str} {n : Nat} : (L2.cutS t none (some (n : Int))).cps.size ≤ n := by
  simp only [L2.cutS, HT.sIx_none, HT.sIx_nat, List.size_toArray, List.length_take, List.length_drop, Str.length]
  omega
theorem cut_rest {t : Str} {n : Nat} : (L2.cutS t (some (n : Int)) none).cps.size ≤ t.cps.size - n := by
  simp only [L2.cutS, HT.sIx_none, HT.sIx_nat, List.size_toArray, List.length_take, List.length_drop, Str.length]
  have : t.cps.toList.length = t.cps.size := Array.length_toList
  omega
theorem app_all {a b : Str} (h1 : a.cps.all (· < 0x110000) = true) (h2 : b.cps.all (· < 0x110000) = true) : (a ++ b).cps.all (· < 0x110000) = true := by
  rw [Str.cps_append, Array.all_append, h1, h2]
  rfl
theorem app_size {a b : Str} : (a ++ b).cps.size = a.cps.size + b.cps.size := by rw [Str.cps_append, Array.size_append]
theorem hurt {k : Nat} {t : Str} {o : O} {R : Sto} {Q : D → Sto → Prop} (ht : tx t = true) (hz : t.cps.size ≤ 97) (ho : Stm o) (hR : R.all puO = true)
    (q : ∀ t' o', Stm o' → tx t' = true → t'.cps.size ≤ t.cps.size + 3 → Q (.str t') (o' :: R)) : WO (calls pg (k + 3) 33 [.ref 0, .str t] (o :: R)) Q := by
  refine call_run (di := d33) rfl (w_run rfl ?_)
  have hl := tx3 ht
  refine x_cons ?_
  refine x_set ?_
  refine W_some (d := .lst (SIGNS.map .str)) (S := o :: R) rfl ?_
  refine x_cons ?_
  refine x_set ?_
  refine w_call ?_
  refine w_cons ?_
  refine w_var rfl ?_
  refine w_cons ?_
  refine w_bin ?_
  refine w_blt ?_
  refine w_cons ?_
  refine w_var rfl ?_
  refine w_nil ?_
  refine l_lenS hl ?_
  refine w_cst ?_
  refine l_add ?_
  refine w_nil ?_
  have hlen : t.length = t.cps.size := rfl
  refine draw ho hR (by omega) (by omega) fun r o1 ho1 hr1 hr2 => ?_
  obtain ⟨n, rfl⟩ : ∃ n : Nat, r = (n : Int) := ⟨r.toNat, by omega⟩
  have hn : n ≤ t.cps.size := by omega
  refine x_cons ?_
  refine x_ret ?_
  refine w_bin ?_
  refine w_bin ?_
  refine w_slice ?_
  refine w_var rfl ?_
  refine w_oN ?_
  refine w_oS ?_
  refine w_var rfl ?_
  refine ⟨_, rfl, ?_⟩
  refine l_slS hl ?_
  refine w_call ?_
  refine w_cons ?_
  refine w_var rfl ?_
  refine w_cons ?_
  refine w_var rfl ?_
  refine w_nil ?_
  refine pick (l := SIGNS.map .str) (.inl rfl) (by decide) (by decide) (by decide) ho1 hR fun i d o2 ho2 hd => ?_
  rw [List.getElem?_map, Option.map_eq_some_iff] at hd
  obtain ⟨s, hs, rfl⟩ := hd
  obtain ⟨s1, s2⟩ := signs_ok s (List.mem_of_getElem? hs)
  have c1 : (L2.cutS t none (some (n : Int))).cps.size ≤ n := cut_head
  have big : (200 : Nat) ≤ sizeLine := by decide
  refine l_cat (by show (L2.cutS t none (some (n : Int))).cps.size + s.cps.size ≤ sizeLine; omega) ?_
  refine w_slice ?_
  refine w_var rfl ?_
  refine w_oS ?_
  refine w_bin ?_
  refine w_var rfl ?_
  refine w_call ?_
  refine w_cons ?_
  refine w_var rfl ?_
  refine w_cons ?_
  refine w_cst ?_
  refine w_nil ?_
  refine draw ho2 hR (by decide) (by decide) fun b o3 ho3 hb1 hb2 => ?_
  obtain ⟨m, rfl⟩ : ∃ m : Nat, b = (m : Int) := ⟨b.toNat, by omega⟩
  refine l_add ?_
  refine ⟨_, rfl, ?_⟩
  refine w_oN ?_
  have en : (n : Int) + (m : Int) = ((n + m : Nat) : Int) := by omega
  rw [en]
  refine l_slS hl ?_
  have c2 : (L2.cutS t (some ((n + m : Nat) : Int)) none).cps.size ≤ t.cps.size - (n + m) := cut_rest
  have c3 : (L2.cutS t none (some (n : Int)) ++ s).cps.size = (L2.cutS t none (some (n : Int))).cps.size + s.cps.size := app_size
  refine l_cat (by show (L2.cutS t none (some (n : Int)) ++ s).cps.size + (L2.cutS t (some ((n + m : Nat) : Int)) none).cps.size ≤ sizeLine; omega) ?_
  have c4 : (L2.cutS t none (some (n : Int)) ++ s ++ L2.cutS t (some ((n + m : Nat) : Int)) none).cps.size = (L2.cutS t none (some (n : Int)) ++ s).cps.size + (L2.cutS t (some ((n + m : Nat) : Int)) none).cps.size := app_size
  refine fin_st rfl rfl ho3 hR rfl (q _ _ ho3 ?_ (by omega))
  exact Bool.and_eq_true_iff.mpr ⟨app_all (app_all (cut_all (tx1 ht)) s1) (cut_all (tx1 ht)), decide_eq_true (by omega)⟩
end Tt.L
end

section
/-! k64: what is told may be looked at. -/
namespace Tt.L
open PySem Tt Tt.P
theorem sok_tup {n : Nat} {l : List D} (h1 : l.length ≤ 200) (h2 : ∀ x ∈ l, sok n x = true) : sok (n + 1) (.tup l) = true := by
  simp only [sok, Bool.and_eq_true, decide_eq_true_eq, List.all_eq_true]
  exact ⟨h1, h2⟩
theorem sok_lst {n : Nat} {l : List D} (h1 : l.length ≤ 200) (h2 : ∀ x ∈ l, sok n x = true) : sok (n + 1) (.lst l) = true := by
  simp only [sok, Bool.and_eq_true, decide_eq_true_eq, List.all_eq_true]
  exact ⟨h1, h2⟩
theorem sok_int {n : Nat} {i : Int} : sok n (.int i) = true := by cases n <;> rfl
theorem sok_str {n : Nat} {s : Str} (h : tx s = true) : sok n (.str s) = true := by cases n <;> exact h
theorem sok_ints {n : Nat} {l : List Int} (h : l.length ≤ 200) : sok (n + 1) (.tup (l.map .int)) = true :=
  sok_tup (by simpa using h) fun x hx => by
    obtain ⟨i, _, rfl⟩ := List.mem_map.mp hx
    exact sok_int
theorem sok_prs {n : Nat} {l : List Pr2} (h1 : l.length ≤ 200) (h2 : ∀ p ∈ l, tx p.1 = true) : sok (n + 2) (sgD l) = true :=
  sok_tup (by simpa using h1) fun x hx => by
    obtain ⟨p, hp, rfl⟩ := List.mem_map.mp hx
    refine sok_tup (by show 2 ≤ 200; decide) fun y hy => ?_
    simp only [List.mem_cons, List.not_mem_nil, or_false] at hy
    rcases hy with rfl | rfl
    · exact sok_str (h2 p hp)
    · exact sok_int
theorem rdS_sok {t : Str} (ht : tx t = true) : sok 5 (lawD (rdS t)) = true := by
  unfold rdS
  cases h : sigsO (Txt.split t " ") with
  | none => exact sok_int
  | some l =>
    dsimp only
    split
    · obtain ⟨h1, h2, h3⟩ := sigsO_len h
      have := split_len sepSp ht
      refine sok_prs (by omega) fun p hp => ?_
      obtain ⟨w, hw, e⟩ := h3 p hp
      exact sigW_tx (split_tx sepSp ht w hw) e
    · exact sok_int
def mvOk (m : Mv) : Prop := m.1.length ≤ 200 ∧ m.2.length ≤ 200
theorem sok_mc {n : Nat} {many : Int} {ms : List Mv} (h1 : ms.length ≤ 200) (h2 : ∀ m ∈ ms, mvOk m) : sok (n + 4) (mcD many ms) = true := by
  refine sok_tup (by show 2 ≤ 200; decide) fun y hy => ?_
  simp only [List.mem_cons, List.not_mem_nil, or_false] at hy
  rcases hy with rfl | rfl
  · exact sok_int
  · refine sok_tup (by simpa using h1) fun x hx => ?_
    obtain ⟨m, hm, rfl⟩ := List.mem_map.mp hx
    refine sok_tup (by show 2 ≤ 200; decide) fun y hy => ?_
    simp only [List.mem_cons, List.not_mem_nil, or_false] at hy
    rcases hy with rfl | rfl
    · exact sok_ints (h2 m hm).1
    · exact sok_ints (h2 m hm).2
theorem rdMove_ok {many : Int} {line : Str} {m : Mv} (hl : tx line = true) (h : rdMove many line = some m) : mvOk m := by
  have ht := split_tx sepSp hl
  unfold rdMove at h
  split at h
  · rename_i a b e
    rw [Option.bind_eq_some_iff] at h
    obtain ⟨x, hx, h⟩ := h
    rw [Option.bind_eq_some_iff] at h
    obtain ⟨y, hy, h⟩ := h
    split at h
    · cases h
      have h1 := cntO_len (ht a (by rw [e]; simp)) hx
      have h2 := cntO_len (ht b (by rw [e]; simp)) hy
      exact ⟨by show x.length ≤ 200; omega, by show y.length ≤ 200; omega⟩
    · cases h
  · cases h
theorem rdMs_ok {many : Int} : ∀ {ls : List Str} {i : Nat} {acc ms : List Mv}, (∀ l ∈ ls, tx l = true) → rdMs many i ls acc = .inl ms → acc.length ≤ 8 → (∀ m ∈ acc, mvOk m) → ms.length ≤ 8 ∧ ∀ m ∈ ms, mvOk m
  | [], i, acc, ms, _, h, h8, ho => by cases h; exact ⟨h8, ho⟩
  | l :: r, i, acc, ms, hl, h, h8, ho => by
    rw [rdMs] at h
    split at h
    · rename_i m hm
      split at h
      · refine rdMs_ok (fun l' h' => hl l' (List.mem_cons_of_mem _ h')) h (by rw [List.length_append]; simp; omega) fun m' hm' => ?_
        rcases List.mem_append.mp hm' with z | z
        · exact ho m' z
        · rw [List.mem_singleton.mp z]; exact rdMove_ok (hl l List.mem_cons_self) hm
      · cases h
    · cases h
theorem rdM_sok {t : Str} (ht : tx t = true) : sok 5 (lawD (rdM t)) = true := by
  have htx := split_tx sepNl ht
  unfold rdM
  split
  · exact sok_int
  · rename_i l0 rest e
    split
    · exact sok_int
    · split
      · cases h : rdMs _ 0 rest [] with
        | inr z => exact sok_int
        | inl ms =>
          obtain ⟨h1, h2⟩ := rdMs_ok (fun l hl => htx l (by rw [e]; exact List.mem_cons_of_mem _ hl)) h (Nat.zero_le _) (fun m hm => nomatch hm)
          exact sok_mc (n := 1) (by omega) h2
      · exact sok_int
theorem rdAm_ok {n : Nat} {sg : List D} {many : Int} {line : Str} {d : D} (hl : tx line = true) (h : rdAm sg many line = some d) : sok (n + 2) d = true := by
  have ht := split_tx sepSp hl
  have hn := split_len sepSp hl
  unfold rdAm at h
  split at h
  · cases h
  · rename_i w ws e
    rw [e] at ht hn
    split at h
    · split at h
      · rw [Option.bind_eq_some_iff] at h
        obtain ⟨ns, hns, h⟩ := h
        split at h
        · cases h
          have h1 := numsO_len hns
          simp only [List.length_cons] at hn
          refine sok_tup (by show 3 ≤ 200; decide) fun y hy => ?_
          simp only [List.mem_cons, List.not_mem_nil, or_false] at hy
          rcases hy with rfl | rfl | rfl
          · exact sok_str (ht w List.mem_cons_self)
          · exact sok_ints (by rw [List.length_dropLast]; omega)
          · exact sok_int
        · cases h
      · cases h
    · cases h
theorem rdAs_ok {n : Nat} {sg : List D} {many : Int} : ∀ {ls : List Str} {i : Nat} {acc ms : List D}, (∀ l ∈ ls, tx l = true) → rdAs sg many i ls acc = .inl ms → (∀ d ∈ acc, sok (n + 2) d = true) → ms.length = acc.length + ls.length ∧ ∀ d ∈ ms, sok (n + 2) d = true
  | [], i, acc, ms, _, h, ho => by cases h; exact ⟨rfl, ho⟩
  | l :: r, i, acc, ms, hl, h, ho => by
    rw [rdAs] at h
    split at h
    · rename_i m hm
      have key := rdAs_ok (n := n) (fun l' h' => hl l' (List.mem_cons_of_mem _ h')) h fun m' hm' => by
        rcases List.mem_append.mp hm' with z | z
        · exact ho m' z
        · rw [List.mem_singleton.mp z]; exact rdAm_ok (hl l List.mem_cons_self) hm
      refine ⟨?_, key.2⟩
      rw [key.1]
      simp only [List.length_append, List.length_cons, List.length_nil]
      omega
    · cases h
theorem rdA_sok {sg : List D} {t : Str} (ht : tx t = true) : sok 5 (lawD (rdA sg t)) = true := by
  have htx := split_tx sepNl ht
  have htl := split_len sepNl ht
  unfold rdA
  split
  · exact sok_int
  · rename_i l0 rest e
    rw [e] at htx htl
    have hl0 := split_len sepSp (htx l0 List.mem_cons_self)
    split
    · rename_i many ends hn
      have h1 := numsO_len hn
      simp only [List.length_cons] at h1 htl
      split
      · cases h : rdAs sg many 0 rest [] with
        | inr z => exact sok_int
        | inl ms =>
          obtain ⟨g1, g2⟩ := rdAs_ok (n := 1) (fun l hl => htx l (List.mem_cons_of_mem _ hl)) h (fun m hm => nomatch hm)
          simp only [List.length_nil] at g1
          refine sok_tup (by show 3 ≤ 200; decide) fun y hy => ?_
          simp only [List.mem_cons, List.not_mem_nil, or_false] at hy
          rcases hy with rfl | rfl | rfl
          · exact sok_int
          · exact sok_tup (by omega) g2
          · exact sok_ints (by omega)
      · exact sok_int
    · exact sok_int
end Tt.L
end

section
/-! k64: small numbers' texts, joined texts. -/
namespace Tt.L
open PySem Tt Tt.P
def strI (i : Int) : Str := (toString i : String)
theorem digit_tl {n : Nat} (h : n < 10) : TL.tl (strI (n : Int)) = [48 + n] := by
  show TL.tl (Str.ofString (toString ((n : Nat) : Int))) = _
  rw [TL.tl_num, TL.numL_lt h]
theorem digit_of {i : Int} (h1 : 0 ≤ i) (h2 : i < 10) : ∃ n : Nat, n < 10 ∧ i = (n : Int) ∧ TL.tl (strI i) = [48 + n] := by
  obtain ⟨n, rfl⟩ : ∃ n : Nat, i = (n : Int) := ⟨i.toNat, by omega⟩
  exact ⟨n, by omega, rfl, digit_tl (by omega)⟩
theorem strI_size {i : Int} (h1 : 0 ≤ i) (h2 : i < 10) : (strI i).cps.size = 1 := by
  obtain ⟨n, _, _, e⟩ := digit_of h1 h2
  have : (strI i).cps.toList.length = 1 := by rw [show (strI i).cps.toList = [48 + n] from e]; rfl
  simpa using this
theorem l_str {fz : Bool} {i : Int} {S : Sto} {Q : D → Sto → Prop} (h1 : 0 ≤ i) (h2 : i < 10) (q : Q (.str (strI i)) S) : W (bltD fz .str [.int i] S) Q := by
  refine ⟨_, _, ?_, q⟩
  simp only [bltD]
  rw [if_pos]
  · rfl
  · have : i.natAbs < 2 ^ 1920 := by
      have h3 : i.natAbs < 10 := by omega
      have h4 : (10 : Nat) ≤ 2 ^ 1920 := Nat.le_trans (by decide : 10 ≤ 2 ^ 4) (Nat.pow_le_pow_right (by decide) (by decide))
      omega
    by_cases hz : i.natAbs = 0
    · rw [hz]; decide
    · exact (Nat.log2_lt hz).mpr this
theorem strsD_map : ∀ l : List Str, strsD (l.map .str) = some l
  | [] => rfl
  | a :: r => by rw [List.map_cons, strsD, strsD_map r]; rfl
theorem l_join {y : Str} {l : List Str} {S : Sto} {Q : D → Sto → Prop} {d : D} (hd : litems S d = some (l.map .str)) (h : (l.map (·.length)).sum + l.length * y.length ≤ 16777216) (q : Q (.str (Txt.join y l)) S) : W (mthD .join (.str y) [d] S) Q := by
  refine ⟨_, _, ?_, q⟩
  simp only [mthD, hd, Option.bind_some, strsD_map]
  rw [if_pos h]
theorem join_size (y : Str) : ∀ l : List Str, (Str.join y l).cps.size ≤ (l.map (·.length)).sum + l.length * y.length
  | [] => by show (Str.empty).cps.size ≤ _; exact Nat.zero_le _
  | [a] => by
    show a.cps.size ≤ _
    simp only [List.map_cons, List.map_nil, List.sum_cons, List.sum_nil, List.length_cons, List.length_nil, Str.length]
    omega
  | a :: b :: r => by
    have ih := join_size y (b :: r)
    show (a ++ y ++ Str.join y (b :: r)).cps.size ≤ _
    rw [app_size, app_size]
    simp only [List.map_cons, List.sum_cons, List.length_cons, Str.length] at ih ⊢
    have e : (r.length + 1 + 1) * y.cps.size = (r.length + 1) * y.cps.size + y.cps.size := Nat.succ_mul _ _
    omega
/-- the signs of a joined text -/
theorem join_all {y : Str} (hy : y.cps.all (· < 0x110000) = true) : ∀ {l : List Str}, (∀ a ∈ l, a.cps.all (· < 0x110000) = true) → (Str.join y l).cps.all (· < 0x110000) = true
  | [], _ => by show (Str.empty).cps.all _ = true; decide +kernel
  | [a], h => h a List.mem_cons_self
  | a :: b :: r, h => app_all (app_all (h a List.mem_cons_self) hy) (join_all hy fun c hc => h c (List.mem_cons_of_mem _ hc))
end Tt.L
end

section
/-! k64: texts written. -/
namespace Tt.L
open PySem Tt Tt.P
def dg (l : List Int) : Prop := ∀ x ∈ l, 0 ≤ x ∧ x < 10
/-- [str(x) for x in l] -/
theorem strs_of {cal : Cal} {d v : Nat} {l : List Int} {S : Sto} {Q : D → Sto → Prop} {env : En} {e : E} (hl : l.length ≤ 200) (hd : dg l) (hv : v < env.length)
    (he : ∀ {Q' : D → Sto → Prop}, Q' (.tup (l.map .int)) S → W (ev cal (d + 2) e env S) Q') (q : Q (.lst ((l.map strI).map .str)) S) :
    W (ev cal (d + 3) (.comp true [v] (.one v) (.seq e) [] (.blt true .str [.var v])) env S) Q := by
  refine w_mapR (l.map .int) ((l.map strI).map .str) (by simpa using Nat.le_trans hl (by decide)) (by simp) (r_seq (he ?_))
  refine WC_some rfl ⟨rfl, rfl, fun i x y hx hy => ?_, q⟩
  simp only [List.getElem?_map, Option.map_eq_some_iff] at hx hy
  obtain ⟨w, h1, rfl⟩ := hx
  obtain ⟨_, ⟨w', h2, rfl⟩, rfl⟩ := hy
  rw [h1] at h2; cases h2
  obtain ⟨g1, g2⟩ := hd w (List.mem_of_getElem? h1)
  refine ⟨_, rfl, ?_⟩
  refine w_blt ?_
  refine w_cons ?_
  refine w_var (x := .int w) ?_ ?_
  · show (((env.set v none).set v (some (.int w))) : En)[v]? = _
    rw [List.getElem?_set_self (by simpa using hv)]
  refine w_nil ?_
  exact l_str g1 g2 ⟨rfl, rfl⟩
def cntS (l : List Int) : Str := Txt.join "," (l.map strI)
theorem sum_one {l : List Int} (h : dg l) : ((l.map strI).map (·.length)).sum = l.length := by
  induction l with
  | nil => rfl
  | cons a r ih =>
    obtain ⟨h1, h2⟩ := h a List.mem_cons_self
    rw [List.map_cons, List.map_cons, List.sum_cons, ih fun x hx => h x (List.mem_cons_of_mem _ hx)]
    have : (strI a).length = 1 := strI_size h1 h2
    rw [this, List.length_cons]
    omega
theorem counts_text {k : Nat} {l : List Int} {S : Sto} {Q : D → Sto → Prop} (hne : l ≠ []) (hl : l.length ≤ 200) (hd : dg l) (hS : S.all puO = true) (q : Q (.str (cntS l)) S) : WO (calls pg (k + 1) 15 [cnD l] S) Q := by
  refine call_run (di := d15) rfl (w_run rfl ?_)
  refine x_cons ?_
  refine x_ret ?_
  refine w_ite ?_
  refine t_val' ?_
  refine w_var rfl ?_
  refine WC_some rfl ?_
  refine ifT' ?_ ?_
  · cases l with
    | nil => exact absurd rfl hne
    | cons a r => rfl
  refine w_meth ?_
  refine w_cst ?_
  refine ⟨rfl, ?_⟩
  refine w_cons ?_
  refine strs_of (d := 54) hl hd (by show 1 < 2; decide) (fun {Q'} q' => w_var rfl q') ?_
  refine w_nil ?_
  refine l_join rfl ?_ ?_
  · rw [sum_one hd, List.length_map]
    have : (",": Str).length = 1 := by decide +kernel
    rw [this]
    omega
  exact fin_same rfl hS rfl q
end Tt.L
end

section
/-! k64: a machine drawn. -/
namespace Tt.L
open PySem Tt Tt.P
/-- tuple([pick(stream, rows) for j in range(many)]) -/
theorem picks {k d : Nat} {many : Int} {rows : List Int} {rs : E} {o : O} {R : Sto} {Q : D → Sto → Prop} {env : En} (h0 : 0 ≤ many) (h5 : many ≤ 5) (hr0 : 0 < rows.length) (hr1 : rows.length < 1000) (hrd : dg rows)
    (hrs : ∀ {S : Sto} {e : En} {Q' : D → Sto → Prop}, Q' (.lst (rows.map .int)) S → W (ev (calls pg (k + 2)) (d + 2) rs e S) Q')
    (he0 : env[0]? = some (some (.ref 0))) (he2 : env[2]? = some (some (.int many))) (ho : Stm o) (hR : R.all puO = true)
    (q : ∀ (l : List Int) o', Stm o' → (l.length : Int) = many → dg l → Q (cnD l) (o' :: R)) :
    W (ev (calls pg (k + 2)) (d + 5) (.blt true .tuple [.comp true [7] (.one 7) (.rng (.var 2)) [] (.call 21 [.var 0, rs])]) env (o :: R)) Q := by
  refine w_blt ?_
  refine w_cons ?_
  refine w_comp ?_
  refine r_rng ?_
  refine w_var he2 ?_
  refine ⟨_, rfl, ⟨by omega, by omega⟩, ?_⟩
  refine lc_inv (l := rngL 0 many.toNat) (fun i acc S' => ∃ (l : List Int) (o' : O), Stm o' ∧ S' = o' :: R ∧ acc = l.map .int ∧ l.length = i ∧ dg l) (by simp [rngL]) ⟨[], o, ho, rfl, rfl, rfl, fun x hx => nomatch hx⟩ (fun i acc S' h => rfl) ?_ ?_
  · rintro i x acc S' hx ⟨l, o', ho', rfl, rfl, hi, hd⟩
    have hlt : i < many.toNat := by
      have := (List.getElem?_eq_some_iff.mp hx).1
      simpa [rngL] using this
    refine ⟨_, rfl, ?_⟩
    refine w_body (ts_nil (L2.iteT ?_))
    refine w_call ?_
    refine w_cons ?_
    refine w_var (x := .ref 0) ?_ ?_
    · show (((env.set 7 none).set 7 (some x)) : En)[0]? = _
      rw [List.getElem?_set_ne (by decide), List.getElem?_set_ne (by decide)]
      exact he0
    refine w_cons ?_
    refine hrs ?_
    refine w_nil ?_
    refine pick (l := rows.map .int) (.inl rfl) (by simpa using hr0) (by rw [List.length_map]; omega) (puL_ints _) ho' hR fun j dd o2 ho2 hdd => ?_
    rw [List.getElem?_map, Option.map_eq_some_iff] at hdd
    obtain ⟨y, hy, rfl⟩ := hdd
    refine ⟨?_, l ++ [y], o2, ho2, rfl, by simp, by simp [hi], fun z hz => ?_⟩
    · rw [List.length_map]
      have : (100 : Nat) ≤ sizeLine := by decide
      omega
    · rcases List.mem_append.mp hz with w | w
      · exact hd z w
      · rw [List.mem_singleton.mp w]; exact hrd y (List.mem_of_getElem? hy)
  · rintro acc S' ⟨l, o', ho', rfl, rfl, hi, hd⟩
    have hl2 : (rngL 0 many.toNat).length = many.toNat := by simp [rngL]
    rw [hl2] at hi
    have hz : (l.map D.int).length ≤ sizeLine := by
      rw [List.length_map]
      have : (100 : Nat) ≤ sizeLine := by decide
      omega
    refine ⟨_, _, by unfold mkL; rw [if_pos hz, if_pos rfl], ?_⟩
    refine w_nil ?_
    refine l_tupL ?_
    exact q l o' ho' (by omega) hd
end Tt.L
end

section
/-! k64: a machine drawn. -/
namespace Tt.L
open PySem Tt Tt.P
structure MvGood (many : Int) (m : Mv) : Prop where
  l1 : (m.1.length : Int) = many
  l2 : (m.2.length : Int) = many
  d1 : dg m.1
  d2 : dg m.2
theorem machineD {k : Nat} {o : O} {R : Sto} {Q : D → Sto → Prop} (ho : Stm o) (hR : R.all puO = true)
    (q : ∀ many ms o', Stm o' → 1 ≤ many → many ≤ 3 → ms.length ≤ 4 → (∀ m ∈ ms, MvGood many m) → Q (mcD many ms) (o' :: R)) : WO (calls pg (k + 3) 23 [.ref 0, .int 4] (o :: R)) Q := by
  refine call_run (di := d23) rfl (w_run rfl ?_)
  refine x_cons ?_
  refine x_set ?_
  refine w_bin ?_
  refine w_cst ?_
  refine w_call ?_
  refine w_cons ?_
  refine w_var rfl ?_
  refine w_cons ?_
  refine w_cst ?_
  refine w_nil ?_
  refine draw ho hR (by decide) (by decide) fun r o1 ho1 hr1 hr2 => ?_
  refine l_add ?_
  refine x_cons ?_
  refine x_set ?_
  refine w_lstF ?_
  refine w_nil ?_
  refine ⟨Nat.zero_le _, ?_⟩
  have hRl : ∀ acc : List Mv, (R ++ [O.lst (acc.map mvD)]).all puO = true := fun acc => all_last hR (pu_mvs acc)
  have hst : ∀ (x : O) (acc : List Mv), (x :: R) ++ [O.lst (acc.map mvD)] = x :: (R ++ [O.lst (acc.map mvD)]) := fun x acc => rfl
  refine x_cons ?_
  refine x_for ?_
  refine r_rng ?_
  refine w_call ?_
  refine w_cons ?_
  refine w_var rfl ?_
  refine w_cons ?_
  refine w_bin ?_
  refine w_var rfl ?_
  refine w_cst ?_
  refine l_add ?_
  refine w_nil ?_
  refine draw (R := R ++ [O.lst (([] : List Mv).map mvD)]) ho1 (hRl []) (by decide) (by decide) fun n o2 ho2 hn1 hn2 => ?_
  refine ⟨_, rfl, ⟨by omega, by omega⟩, ?_⟩
  refine for_inv (l := rngL 0 n.toNat) (fun (i : Nat) (e : En) (S' : Sto) => ∃ (acc : List Mv) (o' : O) (a b c d' : Option D), Stm o' ∧ S' = o' :: (R ++ [.lst (acc.map mvD)]) ∧ e = [some (.ref 0), some (.int 4), some (.int (1 + r)), some (.ref (o1 :: R).length), a, b, c, d'] ∧
      acc.length = i ∧ ∀ m ∈ acc, MvGood (1 + r) m) (by simp [rngL]) ⟨[], o2, _, _, _, _, ho2, rfl, rfl, rfl, fun m hm => nomatch hm⟩ (fun i e S' h => rfl) ?_ ?_
  · rintro i x e S' hx ⟨acc, o', a, b, c, d', ho', rfl, rfl, hi, hg⟩
    have hlt : i < n.toNat := by
      have := (List.getElem?_eq_some_iff.mp hx).1
      simpa [rngL] using this
    refine ⟨_, rfl, ?_⟩
    refine x_cons ?_
    refine x_set ?_
    refine picks (rows := [0, 0, 1, 1, 2]) (d := 53) (by omega) (by omega) (by decide) (by decide) (by unfold dg; decide) (fun {S e Q'} q' => ?_) rfl rfl ho' (hRl acc) fun l1 o3 ho3 e1 g1 => ?_
    · (repeat (first | refine w_var rfl ?_ | refine w_cst ?_ | refine w_glob ?_ | refine w_nil ?_ | refine w_cons ?_ | refine w_bin ?_ | refine w_ix ?_ | refine w_call ?_ | refine w_blt ?_ | refine w_isi ?_ | refine w_tup ?_ | refine w_lstT ?_ | refine w_lstF ?_ | refine e_and ?_ | refine e_or ?_ | refine w_not ?_ | refine w_neg ?_ | refine w_ite ?_ | refine w_cmp ?_ | refine w_chain ?_ | refine w_slice ?_ | refine w_oN ?_ | refine w_oS ?_ | refine t_val' ?_ | refine t_cmp' ?_ | refine t_chain' ?_ | refine t_not' ?_ | refine t_and' ?_ | refine t_or' ?_ | refine ts_nil ?_ | refine ts_cons ?_ | refine x_nil ?_ | refine x_set ?_ | refine x_expr ?_ | refine x_ret ?_ | refine x_retN ?_ | refine x_ifs ?_ | refine x_setIx ?_ | refine x_unpack ?_ | refine l_add ?_ | refine l_sub ?_ | refine l_eqI ?_ | refine l_neI ?_ | refine l_eqB ?_ | refine l_neB ?_ | refine l_lt ?_ | refine l_le ?_ | refine l_gt ?_ | refine l_ge ?_ | refine ifT' rfl ?_ | refine ifF' rfl ?_ | refine ⟨_, rfl, ?_⟩ | refine ⟨rfl, ?_⟩ | refine ⟨Nat.le_of_ble_eq_true rfl, ?_⟩ | refine WC_some rfl ?_ | refine W_some rfl ?_))
      exact q'
    refine x_cons ?_
    refine x_set ?_
    refine picks (rows := [0, 0, 0, 1, 1, 2, 3]) (d := 53) (by omega) (by omega) (by decide) (by decide) (by unfold dg; decide) (fun {S e Q'} q' => ?_) rfl rfl ho3 (hRl acc) fun l2 o4 ho4 e2 g2 => ?_
    · (repeat (first | refine w_var rfl ?_ | refine w_cst ?_ | refine w_glob ?_ | refine w_nil ?_ | refine w_cons ?_ | refine w_bin ?_ | refine w_ix ?_ | refine w_call ?_ | refine w_blt ?_ | refine w_isi ?_ | refine w_tup ?_ | refine w_lstT ?_ | refine w_lstF ?_ | refine e_and ?_ | refine e_or ?_ | refine w_not ?_ | refine w_neg ?_ | refine w_ite ?_ | refine w_cmp ?_ | refine w_chain ?_ | refine w_slice ?_ | refine w_oN ?_ | refine w_oS ?_ | refine t_val' ?_ | refine t_cmp' ?_ | refine t_chain' ?_ | refine t_not' ?_ | refine t_and' ?_ | refine t_or' ?_ | refine ts_nil ?_ | refine ts_cons ?_ | refine x_nil ?_ | refine x_set ?_ | refine x_expr ?_ | refine x_ret ?_ | refine x_retN ?_ | refine x_ifs ?_ | refine x_setIx ?_ | refine x_unpack ?_ | refine l_add ?_ | refine l_sub ?_ | refine l_eqI ?_ | refine l_neI ?_ | refine l_eqB ?_ | refine l_neB ?_ | refine l_lt ?_ | refine l_le ?_ | refine l_gt ?_ | refine l_ge ?_ | refine ifT' rfl ?_ | refine ifF' rfl ?_ | refine ⟨_, rfl, ?_⟩ | refine ⟨rfl, ?_⟩ | refine ⟨Nat.le_of_ble_eq_true rfl, ?_⟩ | refine WC_some rfl ?_ | refine W_some rfl ?_))
      exact q'
    refine x_cons ?_
    refine x_expr ?_
    refine w_meth ?_
    refine w_var rfl ?_
    have hget : (o4 :: (R ++ [O.lst (acc.map mvD)]))[(o1 :: R).length]? = some (.lst (acc.map mvD)) := by simp
    refine ⟨chk_app hget, ?_⟩
    refine w_cons ?_
    refine w_tup ?_
    refine w_cons ?_
    refine w_var rfl ?_
    refine w_cons ?_
    refine w_var rfl ?_
    refine w_nil ?_
    refine ⟨by show 2 ≤ sizeLine; decide, ?_⟩
    refine w_nil ?_
    refine l_app hget (by rw [List.length_map]; have : (100 : Nat) ≤ sizeLine := (by decide); omega) ?_
    refine x_nil ?_
    refine ⟨acc ++ [(l1, l2)], o4, _, _, _, _, ho4, by simp [mvD], rfl, by simp [hi], fun m hm => ?_⟩
    rcases List.mem_append.mp hm with z | z
    · exact hg m z
    · rw [List.mem_singleton.mp z]; exact ⟨e1, e2, g1, g2⟩
  · rintro e S' ⟨acc, o', a, b, c, d', ho', rfl, rfl, hi, hg⟩
    have hl2 : (rngL 0 n.toNat).length = n.toNat := by simp [rngL]
    rw [hl2] at hi
    refine x_cons ?_
    refine x_ret ?_
    refine w_tup ?_
    refine w_cons ?_
    refine w_var rfl ?_
    refine w_cons ?_
    refine w_blt ?_
    refine w_cons ?_
    refine w_var rfl ?_
    refine w_nil ?_
    have hget : (o' :: (R ++ [O.lst (acc.map mvD)]))[(o1 :: R).length]? = some (.lst (acc.map mvD)) := by simp
    refine l_tupR hget ?_
    refine w_nil ?_
    refine ⟨by show 2 ≤ sizeLine; decide, ?_⟩
    have et : o' :: (R ++ [O.lst (acc.map mvD)]) = (o' :: R) ++ [O.lst (acc.map mvD)] := rfl
    rw [et]
    exact fin_drop (S := o' :: R) rfl (by rw [List.all_cons, ho'.pu, hR]; rfl) (pu_mc _ _) (q (1 + r) acc o' ho' (by omega) (by omega) (by omega) hg)
end Tt.L
end

section
/-! k64: a machine's text. -/
namespace Tt.L
open PySem Tt Tt.P
def mvS (m : Mv) : Str := cntS m.1 ++ " " ++ cntS m.2
def mchS (many : Int) (ms : List Mv) : Str := Txt.join "\n" (strI many :: ms.map mvS)
theorem cntS_size {l : List Int} (h : dg l) : (cntS l).cps.size ≤ 2 * l.length := by
  have h1 := join_size "," (l.map strI)
  have h2 : (",": Str).length = 1 := by decide +kernel
  rw [sum_one h, List.length_map, h2] at h1
  unfold cntS
  rw [TL.join_eq]
  omega
theorem mvS_size {many : Int} {m : Mv} (h5 : many ≤ 5) (g : MvGood many m) : (mvS m).cps.size ≤ 21 := by
  have h1 := cntS_size g.d1
  have h2 := cntS_size g.d2
  have h3 : (" ": Str).cps.size = 1 := by decide +kernel
  have e1 := g.l1
  have e2 := g.l2
  unfold mvS
  rw [app_size, app_size, h3]
  omega
theorem sum_le {l : List Nat} {b : Nat} (h : ∀ n ∈ l, n ≤ b) : l.sum ≤ l.length * b := by
  induction l with
  | nil => simp
  | cons a r ih =>
    have h1 := h a List.mem_cons_self
    have h2 := ih fun n hn => h n (List.mem_cons_of_mem _ hn)
    rw [List.sum_cons, List.length_cons, Nat.succ_mul]
    omega
theorem machine_text {k : Nat} {many : Int} {ms : List Mv} {S : Sto} {Q : D → Sto → Prop} (h1 : 1 ≤ many) (h5 : many ≤ 5) (h8 : ms.length ≤ 8) (hg : ∀ m ∈ ms, MvGood many m) (hS : S.all puO = true) (q : Q (.str (mchS many ms)) S) : WO (calls pg (k + 2) 17 [mcD many ms] S) Q := by
  refine call_run (di := d17) rfl (w_run rfl ?_)
  have hz : ms.length ≤ sizeLine := Nat.le_trans h8 (by decide)
  refine x_cons ?_
  refine x_unpack ?_
  refine w_var rfl ?_
  refine ⟨_, _, rfl, rfl, ?_⟩
  refine x_cons ?_
  refine x_ret ?_
  refine w_meth ?_
  refine w_cst ?_
  refine ⟨rfl, ?_⟩
  refine w_cons ?_
  refine w_bin ?_
  refine w_lstT ?_
  refine w_cons ?_
  refine w_blt ?_
  refine w_cons ?_
  refine w_var rfl ?_
  refine w_nil ?_
  refine l_str (by omega) (by omega) ?_
  refine w_nil ?_
  refine ⟨by show 1 ≤ sizeLine; decide, ?_⟩
  refine w_mapR (ms.map mvD) ((ms.map mvS).map .str) (by simpa using hz) (by simp) (r_seq ?_)
  refine w_var rfl ?_
  refine WC_some rfl ⟨rfl, rfl, fun i x y hx hy => ?_, ?_⟩
  · simp only [List.getElem?_map, Option.map_eq_some_iff] at hx hy
    obtain ⟨m, g1, rfl⟩ := hx
    obtain ⟨_, ⟨m', g2, rfl⟩, rfl⟩ := hy
    rw [g1] at g2; cases g2
    have g := hg m (List.mem_of_getElem? g1)
    have a1 := g.l1
    have a2 := g.l2
    have n1 : m.1 ≠ [] := fun z => by rw [z] at a1; simp at a1; omega
    have n2 : m.2 ≠ [] := fun z => by rw [z] at a2; simp at a2; omega
    have s1 := cntS_size g.d1
    have s2 := cntS_size g.d2
    have big : (200 : Nat) ≤ sizeLine := by decide
    have s3 : (" ": Str).cps.size = 1 := by decide +kernel
    refine ⟨_, rfl, ?_⟩
    refine w_bin ?_
    refine w_bin ?_
    refine w_call ?_
    refine w_cons ?_
    refine w_var (x := cnD m.1) rfl ?_
    refine w_nil ?_
    refine counts_text n1 (by omega) g.d1 hS ?_
    refine w_cst ?_
    refine l_cat (by show (cntS m.1).cps.size + (" ": Str).cps.size ≤ sizeLine; omega) ?_
    refine w_call ?_
    refine w_cons ?_
    refine w_var (x := cnD m.2) rfl ?_
    refine w_nil ?_
    refine counts_text n2 (by omega) g.d2 hS ?_
    refine l_cat (by show (cntS m.1 ++ " ").cps.size + (cntS m.2).cps.size ≤ sizeLine; rw [app_size]; omega) ?_
    exact ⟨rfl, rfl⟩
  refine W_some (d := .lst ((strI many :: ms.map mvS).map .str)) (S := S) ?_ ?_
  · simp only [opB, litems, Option.bind_some]
    unfold mkL
    rw [if_pos, if_pos rfl]
    · rfl
    · simp only [List.length_append, List.length_cons, List.length_nil, List.length_map]
      have : (100 : Nat) ≤ sizeLine := by decide
      omega
  refine w_nil ?_
  refine l_join rfl ?_ ?_
  · have e1 : (strI many).length = 1 := strI_size (by omega) (by omega)
    have e2 : ("\n": Str).length = 1 := by decide +kernel
    have e3 := sum_le (l := (ms.map mvS).map (·.length)) (b := 21) fun n hn => by
      obtain ⟨_, hx, rfl⟩ := List.mem_map.mp hn
      obtain ⟨m, hm, rfl⟩ := List.mem_map.mp hx
      exact mvS_size h5 (hg m hm)
    rw [List.length_map, List.length_map] at e3
    rw [List.map_cons, List.sum_cons, List.length_cons, List.length_map, e1, e2]
    omega
  exact fin_same rfl hS rfl q
end Tt.L
end

section
/-! k64: a signature's text. -/
namespace Tt.L
open PySem Tt Tt.P
def prS (p : Pr2) : Str := p.1 ++ "/" ++ strI p.2
def sgS (l : List Pr2) : Str := Txt.join " " (l.map prS)
structure PrGood (p : Pr2) : Prop where
  t : tx p.1 = true
  d0 : 0 ≤ p.2
  d1 : p.2 < 10
theorem prS_size {p : Pr2} (g : PrGood p) : (prS p).cps.size ≤ 102 := by
  have h1 := tx2 g.t
  have h2 := strI_size g.d0 g.d1
  have h3 : ("/": Str).cps.size = 1 := by decide +kernel
  unfold prS
  rw [app_size, app_size, h3, h2]
  omega
theorem signature_text {k : Nat} {l : List Pr2} {S : Sto} {Q : D → Sto → Prop} (h6 : l.length ≤ 6) (hg : ∀ p ∈ l, PrGood p) (hS : S.all puO = true) (q : Q (.str (sgS l)) S) : WO (calls pg (k + 1) 11 [sgD l] S) Q := by
  refine call_run (di := d11) rfl (w_run rfl ?_)
  have hz : l.length ≤ sizeLine := Nat.le_trans h6 (by decide)
  refine x_cons ?_
  refine x_ret ?_
  refine w_meth ?_
  refine w_cst ?_
  refine ⟨rfl, ?_⟩
  refine w_cons ?_
  refine w_mapR (l.map prD) ((l.map prS).map .str) (by simpa using hz) (by simp) (r_seq ?_)
  refine w_var rfl ?_
  refine WC_some rfl ⟨rfl, rfl, fun i x y hx hy => ?_, ?_⟩
  · simp only [List.getElem?_map, Option.map_eq_some_iff] at hx hy
    obtain ⟨p, g1, rfl⟩ := hx
    obtain ⟨_, ⟨p', g2, rfl⟩, rfl⟩ := hy
    rw [g1] at g2; cases g2
    have g := hg p (List.mem_of_getElem? g1)
    have s1 := tx2 g.t
    have s2 := strI_size g.d0 g.d1
    have big : (200 : Nat) ≤ sizeLine := by decide
    have s3 : ("/": Str).cps.size = 1 := by decide +kernel
    refine ⟨_, rfl, ?_⟩
    refine w_bin ?_
    refine w_bin ?_
    refine w_var (x := .str p.1) rfl ?_
    refine w_cst ?_
    refine l_cat (by show p.1.cps.size + ("/": Str).cps.size ≤ sizeLine; omega) ?_
    refine w_blt ?_
    refine w_cons ?_
    refine w_var (x := .int p.2) rfl ?_
    refine w_nil ?_
    refine l_str g.d0 g.d1 ?_
    refine l_cat (by show (p.1 ++ "/").cps.size + (strI p.2).cps.size ≤ sizeLine; rw [app_size]; omega) ?_
    exact ⟨rfl, rfl⟩
  refine w_nil ?_
  refine l_join rfl ?_ ?_
  · have e2 : (" ": Str).length = 1 := by decide +kernel
    have e3 := sum_le (l := (l.map prS).map (·.length)) (b := 102) fun n hn => by
      obtain ⟨_, hx, rfl⟩ := List.mem_map.mp hn
      obtain ⟨p, hp, rfl⟩ := List.mem_map.mp hx
      exact prS_size (hg p hp)
    rw [List.length_map, List.length_map] at e3
    rw [List.length_map, e2]
    omega
  exact fin_same rfl hS rfl q
/-- what is read of it -/
theorem sgS_split {l : List Pr2} (hne : l ≠ []) (h : ∀ p ∈ l, 32 ∉ TL.tl (prS p)) : Txt.split (sgS l) " " = l.map prS := by
  refine TL.split_join sepSp.e sepSp.k (by simpa using hne) fun a ha => ?_
  obtain ⟨p, hp, rfl⟩ := List.mem_map.mp ha
  exact h p hp
end Tt.L
end

section
/-! k64: an automaton's text. -/
namespace Tt.L
open PySem Tt Tt.P
structure Am where
  w : Str
  a : List Int
  e : Int
def Am.D (m : Am) : D := .tup [.str m.w, .tup (m.a.map .int), .int m.e]
def Am.S (m : Am) : Str := Txt.join " " (m.w :: (m.a ++ [m.e]).map strI)
structure AmGood (m : Am) : Prop where
  t : tx m.w = true
  a : dg m.a
  e : 0 ≤ m.e ∧ m.e < 10
  l : m.a.length ≤ 10
def auD (many : Int) (ms : List Am) (ends : List Int) : D := .tup [.int many, .tup (ms.map Am.D), .tup (ends.map .int)]
def auS (many : Int) (ms : List Am) (ends : List Int) : Str := Txt.join "\n" (Txt.join " " ((many :: ends).map strI) :: ms.map Am.S)
theorem l_catL {i j : List D} {S : Sto} {Q : D → Sto → Prop} (h : i.length + j.length ≤ sizeLine) (q : Q (.lst (i ++ j)) S) : W (opB .add (.lst i) (.lst j) S) Q := by
  refine ⟨_, _, ?_, q⟩
  simp only [opB, litems, Option.bind_some]
  unfold mkL
  rw [if_pos (by rw [List.length_append]; exact h), if_pos rfl]
theorem dg_snoc {l : List Int} {e : Int} (h : dg l) (g : 0 ≤ e ∧ e < 10) : dg (l ++ [e]) := fun x hx => by
  rcases List.mem_append.mp hx with z | z
  · exact h x z
  · rw [List.mem_singleton.mp z]; exact g
theorem am_sum {m : Am} (g : AmGood m) : ((m.w :: (m.a ++ [m.e]).map strI).map (·.length)).sum ≤ 111 := by
  have h1 := tx2 g.t
  have h2 := sum_one (dg_snoc g.a g.e)
  have h3 := g.l
  rw [List.map_cons, List.sum_cons, h2, List.length_append]
  have : m.w.length = m.w.cps.size := rfl
  simp only [List.length_cons, List.length_nil]
  omega
theorem am_size {m : Am} (g : AmGood m) : (Am.S m).cps.size ≤ 140 := by
  have h := join_size " " (m.w :: (m.a ++ [m.e]).map strI)
  have h1 := am_sum g
  have h2 : (" ": Str).length = 1 := by decide +kernel
  have h3 := g.l
  rw [h2] at h
  simp only [List.length_cons, List.length_map, List.length_append, List.length_nil] at h
  unfold Am.S
  rw [TL.join_eq]
  omega
theorem pu_strs (l : List Str) : puL (l.map .str) = true := by
  induction l with
  | nil => rfl
  | cons a r ih => simp [puL, puD, ih]
theorem automaton_text {k : Nat} {many : Int} {ms : List Am} {ends : List Int} {S : Sto} {Q : D → Sto → Prop} (h0 : 0 ≤ many) (h9 : many < 10) (he : dg ends) (hel : ends.length ≤ 10) (hml : ms.length ≤ 10) (hg : ∀ m ∈ ms, AmGood m) (hS : S.all puO = true) (q : Q (.str (auS many ms ends)) S) :
    WO (calls pg (k + 1) 13 [auD many ms ends] S) Q := by
  refine call_run (di := d13) rfl (w_run rfl ?_)
  have big : (3000 : Nat) ≤ sizeLine := by decide
  have sp1 : (" ": Str).length = 1 := by decide +kernel
  have hde : dg (many :: ends) := fun x hx => by
    rcases List.mem_cons.mp hx with rfl | z
    · exact ⟨h0, h9⟩
    · exact he x z
  refine x_cons ?_
  refine x_unpack ?_
  refine w_var rfl ?_
  refine ⟨_, _, rfl, rfl, ?_⟩
  refine x_cons ?_
  refine x_set ?_
  refine w_lstF ?_
  refine w_cons ?_
  refine w_meth ?_
  refine w_cst ?_
  refine ⟨rfl, ?_⟩
  refine w_cons ?_
  refine w_bin ?_
  refine w_lstT ?_
  refine w_cons ?_
  refine w_blt ?_
  refine w_cons ?_
  refine w_var rfl ?_
  refine w_nil ?_
  refine l_str h0 h9 ?_
  refine w_nil ?_
  refine ⟨by show 1 ≤ sizeLine; decide, ?_⟩
  refine strs_of (d := 53) (by omega) he (by show 7 < 9; decide) (fun {Q'} q' => w_var rfl q') ?_
  refine l_catL (by simp only [List.length_cons, List.length_nil, List.length_map]; omega) ?_
  refine w_nil ?_
  refine l_join (l := (many :: ends).map strI) rfl (by rw [sum_one hde, List.length_map, sp1]; simp only [List.length_cons]; omega) ?_
  refine w_nil ?_
  refine ⟨by show 1 ≤ sizeLine; decide, ?_⟩
  refine x_cons ?_
  refine x_for ?_
  refine r_seq ?_
  refine w_var rfl ?_
  refine WC_some rfl ?_
  refine for_inv (l := ms.map Am.D) (fun (i : Nat) (e : En) (S' : Sto) => ∃ (a b c d' : Option D), S' = S ++ [.lst ((Txt.join " " ((many :: ends).map strI) :: (ms.take i).map Am.S).map .str)] ∧ e = [some (auD many ms ends), some (.ref S.length), some (.int many), some (.tup (ms.map Am.D)), some (.tup (ends.map .int)), a, b, c, d']) rfl ⟨_, _, _, _, rfl, rfl⟩ (fun i e S' h => rfl) ?_ ?_
  · rintro i x e S' hx ⟨a, b, c, d', rfl, rfl⟩
    rw [List.getElem?_map, Option.map_eq_some_iff] at hx
    obtain ⟨m, hm, rfl⟩ := hx
    have g := hg m (List.mem_of_getElem? hm)
    have gl := g.l
    refine ⟨_, rfl, ?_⟩
    refine x_cons ?_
    refine x_expr ?_
    refine w_meth ?_
    refine w_var rfl ?_
    refine ⟨chk_app get_last, ?_⟩
    refine w_cons ?_
    refine w_meth ?_
    refine w_cst ?_
    refine ⟨rfl, ?_⟩
    refine w_cons ?_
    refine w_bin ?_
    refine w_bin ?_
    refine w_lstT ?_
    refine w_cons ?_
    refine w_var (x := .str m.w) rfl ?_
    refine w_nil ?_
    refine ⟨by show 1 ≤ sizeLine; decide, ?_⟩
    refine strs_of (l := m.a) (d := 51) (by omega) g.a (by show 8 < 9; decide) (fun {Q'} q' => w_var (x := .tup (m.a.map .int)) rfl q') ?_
    refine l_catL (by simp only [List.length_cons, List.length_nil, List.length_map]; omega) ?_
    refine w_lstT ?_
    refine w_cons ?_
    refine w_blt ?_
    refine w_cons ?_
    refine w_var (x := .int m.e) rfl ?_
    refine w_nil ?_
    refine l_str g.e.1 g.e.2 ?_
    refine w_nil ?_
    refine ⟨by show 1 ≤ sizeLine; decide, ?_⟩
    refine l_catL (by simp only [List.length_cons, List.length_nil, List.length_map, List.length_append]; omega) ?_
    refine w_nil ?_
    refine l_join (l := m.w :: (m.a ++ [m.e]).map strI) (by simp [litems]) (by
      have := am_sum g
      rw [sp1]
      simp only [List.length_cons, List.length_map, List.length_append, List.length_nil]
      omega) ?_
    refine w_nil ?_
    refine l_app get_last (by simp only [List.length_map, List.length_cons, List.length_take]; omega) ?_
    refine x_nil ?_
    refine ⟨_, _, _, _, ?_, rfl⟩
    rw [set_last, List.take_succ, hm]
    simp [Am.S]
  · rintro e S' ⟨a, b, c, d', rfl, rfl⟩
    rw [List.length_map, List.take_length]
    refine x_cons ?_
    refine x_ret ?_
    refine w_meth ?_
    refine w_cst ?_
    refine ⟨rfl, ?_⟩
    refine w_cons ?_
    refine w_var rfl ?_
    refine w_nil ?_
    refine l_join (l := Txt.join " " ((many :: ends).map strI) :: ms.map Am.S) (by simp only [litems, get_last]) ?_ ?_
    · have n1 : ("\n": Str).length = 1 := by decide +kernel
      have j1 := join_size " " ((many :: ends).map strI)
      rw [sum_one hde, List.length_map, sp1] at j1
      have j2 : (Txt.join " " ((many :: ends).map strI)).length = (Str.join " " ((many :: ends).map strI)).cps.size := by rw [TL.join_eq]; rfl
      have e3 := sum_le (l := (ms.map Am.S).map (·.length)) (b := 140) fun n hn => by
        obtain ⟨_, hx, rfl⟩ := List.mem_map.mp hn
        obtain ⟨m, hm, rfl⟩ := List.mem_map.mp hx
        exact am_size (hg m hm)
      rw [List.length_map, List.length_map] at e3
      rw [List.map_cons, List.sum_cons, List.length_cons, List.length_map, n1, j2]
      simp only [List.length_cons] at j1
      omega
    exact fin_drop rfl hS rfl q
end Tt.L
end

section
/-! k64: what is read of the written texts is the thing. -/
namespace Tt.L
open PySem Tt Tt.P L2
theorem mem_joinL {S : List Nat} {c : Nat} : ∀ {l : List (List Nat)}, c ∈ TL.joinL S l → c ∈ S ∨ ∃ p ∈ l, c ∈ p
  | [], h => by simp [TL.joinL] at h
  | [p], h => .inr ⟨p, List.mem_singleton.mpr rfl, h⟩
  | p :: q :: r, h => by
    have h : c ∈ p ++ (S ++ TL.joinL S (q :: r)) := h
    rcases List.mem_append.mp h with h | h
    · exact .inr ⟨p, List.mem_cons_self, h⟩
    · rcases List.mem_append.mp h with h | h
      · exact .inl h
      · rcases mem_joinL h with h | ⟨x, hx, h⟩
        · exact .inl h
        · exact .inr ⟨x, List.mem_cons_of_mem _ hx, h⟩
theorem mem_join {y : Str} {c : Nat} {l : List Str} (h : c ∈ TL.tl (Txt.join y l)) : c ∈ TL.tl y ∨ ∃ p ∈ l, c ∈ TL.tl p := by
  rw [TL.join_eq, TL.tl_join] at h
  rcases mem_joinL h with h | ⟨p, hp, h⟩
  · exact .inl h
  · obtain ⟨q, hq, rfl⟩ := List.mem_map.mp hp
    exact .inr ⟨q, hq, h⟩
theorem join_two (y a b : Str) : Txt.join y [a, b] = a ++ y ++ b := TL.join_eq y [a, b]
theorem dig_mem {i : Int} (h1 : 0 ≤ i) (h2 : i < 10) {c : Nat} (h : c ∈ TL.tl (strI i)) : 48 ≤ c ∧ c ≤ 57 := by
  obtain ⟨n, hn, _, e⟩ := digit_of h1 h2
  rw [e, List.mem_singleton] at h
  omega
theorem num_dig : ∀ n : Fin 10, okN (strI ((n.val : Nat) : Int)) = true ∧ valN (strI ((n.val : Nat) : Int)) = ((n.val : Nat) : Int) := by decide +kernel
theorem ok_dig {i : Int} (h1 : 0 ≤ i) (h2 : i < 10) : okN (strI i) = true ∧ valN (strI i) = i := by
  have h := num_dig ⟨i.toNat, by omega⟩
  have e : ((i.toNat : Nat) : Int) = i := by omega
  simp only [e] at h
  exact h
theorem numO_dig {i : Int} (h1 : 0 ≤ i) (h2 : i < 10) : numO (strI i) = some i := by
  obtain ⟨a, b⟩ := ok_dig h1 h2
  unfold numO
  rw [if_pos a, b]
theorem numsO_dig {l : List Int} (h : dg l) : numsO (l.map strI) = some l := by
  have e : (l.map strI).map valN = l := by
    rw [List.map_map]
    exact (List.map_congr_left fun x hx => (ok_dig (h x hx).1 (h x hx).2).2).trans (List.map_id l)
  have a : (l.map strI).all okN = true := by
    rw [List.all_eq_true]
    intro w hw
    obtain ⟨x, hx, rfl⟩ := List.mem_map.mp hw
    exact (ok_dig (h x hx).1 (h x hx).2).1
  unfold numsO
  rw [if_pos a, e]
theorem cnt_mem {l : List Int} (h : dg l) {c : Nat} (hc : c ∈ TL.tl (cntS l)) : c = 44 ∨ (48 ≤ c ∧ c ≤ 57) := by
  rcases mem_join hc with z | ⟨p, hp, z⟩
  · rw [sepCo.e, List.mem_singleton] at z
    exact .inl z
  · obtain ⟨x, hx, rfl⟩ := List.mem_map.mp hp
    exact .inr (dig_mem (h x hx).1 (h x hx).2 z)
theorem cntO_back {l : List Int} (hne : l ≠ []) (h : dg l) : cntO (cntS l) = some l := by
  have hs : Txt.split (cntS l) "," = l.map strI := TL.split_join sepCo.e sepCo.k (by simpa using hne) fun p hp hc => by
    obtain ⟨x, hx, rfl⟩ := List.mem_map.mp hp
    have := dig_mem (h x hx).1 (h x hx).2 hc
    omega
  have hd : (cntS l == ".") = false := by
    rw [beq_eq_false_iff_ne]
    intro e
    have : (46 : Nat) ∈ TL.tl (cntS l) := by rw [e]; decide +kernel
    rcases cnt_mem h this with z | z <;> omega
  unfold cntO
  rw [hd, hs, numsO_dig h]
  rfl
theorem mv_mem {m : Mv} (h1 : dg m.1) (h2 : dg m.2) {c : Nat} (hc : c ∈ TL.tl (mvS m)) : c = 32 ∨ c = 44 ∨ (48 ≤ c ∧ c ≤ 57) := by
  unfold mvS at hc
  rw [TL.tl_append, TL.tl_append, sepSp.e] at hc
  rcases List.mem_append.mp hc with z | z
  · rcases List.mem_append.mp z with z | z
    · exact .inr (cnt_mem h1 z)
    · exact .inl (List.mem_singleton.mp z)
  · exact .inr (cnt_mem h2 z)
theorem cntB_good {many : Int} {l : List Int} (e : (l.length : Int) = many) (h : dg l) : cntB many l = true := by
  unfold cntB
  rw [e, beq_self_eq_true, Bool.true_and, List.all_eq_true]
  intro x hx
  obtain ⟨a, b⟩ := h x hx
  rw [decide_eq_true a, decide_eq_true (by omega)]
  rfl
theorem rdMove_back {many : Int} {m : Mv} (h1 : 1 ≤ many) (g : MvGood many m) : rdMove many (mvS m) = some m := by
  have hs : Txt.split (mvS m) " " = [cntS m.1, cntS m.2] := by
    have e : mvS m = Txt.join " " [cntS m.1, cntS m.2] := (join_two _ _ _).symm
    rw [e]
    refine TL.split_join sepSp.e sepSp.k (by simp) fun p hp hc => ?_
    simp only [List.mem_cons, List.not_mem_nil, or_false] at hp
    rcases hp with rfl | rfl
    · rcases cnt_mem g.d1 hc with z | z <;> omega
    · rcases cnt_mem g.d2 hc with z | z <;> omega
  have n1 : m.1 ≠ [] := fun z => by have := g.l1; rw [z] at this; simp at this; omega
  have n2 : m.2 ≠ [] := fun z => by have := g.l2; rw [z] at this; simp at this; omega
  have hb : mvB many (m.1, m.2) = true := by
    unfold mvB
    rw [cntB_good g.l1 g.d1, cntB_good g.l2 g.d2]
    rfl
  unfold rdMove
  rw [hs]
  show ((cntO (cntS m.1)).bind fun x => (cntO (cntS m.2)).bind fun y => if mvB many (x, y) = true then some (x, y) else none) = _
  rw [cntO_back n1 g.d1, Option.bind_some, cntO_back n2 g.d2, Option.bind_some, if_pos hb]
theorem rdMs_back {many : Int} (h1 : 1 ≤ many) : ∀ {ms acc : List Mv} {i : Nat}, (∀ m ∈ ms, MvGood many m) → acc.length + ms.length ≤ 8 → rdMs many i (ms.map mvS) acc = .inl (acc ++ ms)
  | [], acc, i, _, _ => by simp [rdMs]
  | m :: r, acc, i, h, hl => by
    rw [List.length_cons] at hl
    rw [List.map_cons, rdMs, rdMove_back h1 (h m List.mem_cons_self)]
    show (if acc.length < 8 then rdMs many (i + 1) (r.map mvS) (acc ++ [m]) else _) = _
    rw [if_pos (by omega), rdMs_back h1 (fun x hx => h x (List.mem_cons_of_mem _ hx)) (by rw [List.length_append, List.length_cons, List.length_nil]; omega)]
    rw [List.append_assoc]
    rfl
theorem rdM_back {many : Int} {ms : List Mv} (h1 : 1 ≤ many) (h3 : many ≤ 3) (h8 : ms.length ≤ 4) (hg : ∀ m ∈ ms, MvGood many m) : rdM (mchS many ms) = .ok (mcD many ms) := by
  have hs : Txt.split (mchS many ms) "\n" = strI many :: ms.map mvS := TL.split_join sepNl.e sepNl.k (by simp) fun p hp hc => by
    rcases List.mem_cons.mp hp with rfl | hp
    · have := dig_mem (by omega) (by omega) hc
      omega
    · obtain ⟨m, hm, rfl⟩ := List.mem_map.mp hp
      have g := hg m hm
      rcases mv_mem g.d1 g.d2 hc with z | z | z <;> omega
  unfold rdM
  rw [hs]
  show (match numO (strI many) with | none => Rz.er 1 | some many => if many ≤ 5 then (match rdMs many 0 (ms.map mvS) [] with | .inl ms => .ok (mcD many ms) | .inr z => .er z) else .er 1) = _
  rw [numO_dig (by omega) (by omega)]
  show (if many ≤ 5 then (match rdMs many 0 (ms.map mvS) [] with | .inl ms => Rz.ok (mcD many ms) | .inr z => .er z) else .er 1) = _
  rw [if_pos (by omega), rdMs_back h1 hg (by simp; omega)]
  rfl
/-! ### signatures -/
def nmG (w : Str) : Bool := symB w && tx w && decide (w.cps.size ≤ 2) && (TL.tl w).all fun c => c != 32 && c != 47 && c != 10
structure SgGood (l : List Pr2) : Prop where
  ok : SigOk (l.map prD)
  nm : ∀ p ∈ l, nmG p.1 = true ∧ 0 ≤ p.2 ∧ p.2 ≤ 3
  len : l.length ≤ 6
  ne : l ≠ []
theorem nmG_tx {w : Str} (h : nmG w = true) : tx w = true := by
  simp only [nmG, Bool.and_eq_true] at h
  exact h.1.1.2
theorem nmG_size {w : Str} (h : nmG w = true) : w.cps.size ≤ 2 := by
  simp only [nmG, Bool.and_eq_true, decide_eq_true_eq] at h
  exact h.1.2
theorem nmG_free {w : Str} (h : nmG w = true) {c : Nat} (hc : c ∈ TL.tl w) : c ≠ 32 ∧ c ≠ 47 ∧ c ≠ 10 := by
  simp only [nmG, Bool.and_eq_true] at h
  have := List.all_eq_true.mp h.2 c hc
  simp only [Bool.and_eq_true, bne_iff_ne] at this
  exact ⟨this.1.1, this.1.2, this.2⟩
theorem SgGood.pr {l : List Pr2} (h : SgGood l) : ∀ p ∈ l, PrGood p := fun p hp => ⟨nmG_tx (h.nm p hp).1, (h.nm p hp).2.1, by have := (h.nm p hp).2.2; omega⟩
theorem prS_mem {p : Pr2} {c : Nat} (h0 : 0 ≤ p.2) (h3 : p.2 ≤ 3) (hc : c ∈ TL.tl (prS p)) : c ∈ TL.tl p.1 ∨ c = 47 ∨ (48 ≤ c ∧ c ≤ 57) := by
  unfold prS at hc
  rw [TL.tl_append, TL.tl_append, sepSl.e] at hc
  rcases List.mem_append.mp hc with z | z
  · rcases List.mem_append.mp z with z | z
    · exact .inl z
    · exact .inr (.inl (List.mem_singleton.mp z))
  · exact .inr (.inr (dig_mem h0 (by omega) z))
theorem sigW_back {p : Pr2} (h : nmG p.1 = true) (h0 : 0 ≤ p.2) (h3 : p.2 ≤ 3) : sigW (prS p) = some p := by
  have hs : Txt.split (prS p) "/" = [p.1, strI p.2] := by
    have e : prS p = Txt.join "/" [p.1, strI p.2] := (join_two _ _ _).symm
    rw [e]
    refine TL.split_join sepSl.e sepSl.k (by simp) fun q hq hc => ?_
    simp only [List.mem_cons, List.not_mem_nil, or_false] at hq
    rcases hq with rfl | rfl
    · exact (nmG_free h hc).2.1 rfl
    · have := dig_mem h0 (by omega) hc
      omega
  unfold sigW
  rw [hs]
  show (numO (strI p.2)).map (fun n => (p.1, n)) = _
  rw [numO_dig h0 (by omega)]
  rfl
theorem sigsO_back : ∀ {l : List Pr2}, (∀ p ∈ l, nmG p.1 = true ∧ 0 ≤ p.2 ∧ p.2 ≤ 3) → sigsO (l.map prS) = some l
  | [], _ => rfl
  | p :: r, h => by
    obtain ⟨a, b, c⟩ := h p List.mem_cons_self
    rw [List.map_cons, sigsO, sigW_back a b c, Option.bind_some, sigsO_back fun q hq => h q (List.mem_cons_of_mem _ hq)]
    rfl
theorem sig_true {sg : List D} (h : SigOk sg) : sigB (.tup sg) = true := by
  have h1 := h.pos
  have h2 := h.len
  simp only [sigB, Bool.and_eq_true, decide_eq_true_eq]
  exact ⟨⟨⟨by omega, by omega⟩, h.all⟩, h.nd⟩
theorem rdS_back {l : List Pr2} (g : SgGood l) : rdS (sgS l) = .ok (sgD l) := by
  have hs : Txt.split (sgS l) " " = l.map prS := sgS_split g.ne fun p hp hc => by
    obtain ⟨a, b, c⟩ := g.nm p hp
    rcases prS_mem b c hc with z | z | z
    · exact (nmG_free a z).1 rfl
    · omega
    · omega
  unfold rdS
  rw [hs, sigsO_back g.nm]
  show (if sigB (sgD l) = true then Rz.ok (sgD l) else .er 1) = _
  have e : sigB (sgD l) = true := sig_true g.ok
  rw [if_pos e]
/-! ### automata -/
structure AmOk (l : List Pr2) (many : Int) (m : Am) : Prop where
  p : ∃ p ∈ l, m.w = p.1 ∧ (m.a.length : Int) = p.2
  a : ∀ x ∈ m.a, 0 ≤ x ∧ x < many
  e : 0 ≤ m.e ∧ m.e < many
structure AuGood (l : List Pr2) (many : Int) (ms : List Am) (ends : List Int) : Prop where
  m1 : 1 ≤ many
  m4 : many ≤ 4
  ml : ms.length ≤ 5
  mg : ∀ m ∈ ms, AmOk l many m
  ep : ends.Pairwise (· < ·)
  eb : ∀ e ∈ ends, 0 ≤ e ∧ e < many
  el : ends.length ≤ 4
theorem look_mem {kvs : List (Key × D)} (hn : (kvs.map (·.1)).Nodup) {p : Key × D} (hp : p ∈ kvs) : lookK kvs p.1 = some p.2 := by
  induction kvs with
  | nil => cases hp
  | cons a l ih =>
    rw [List.map_cons, List.nodup_cons] at hn
    unfold lookK
    rw [List.find?_cons]
    by_cases h : a.1 = p.1
    · rw [decide_eq_true h]
      rcases List.mem_cons.mp hp with e | hp
      · subst e; rfl
      · exact absurd (by rw [h]; exact List.mem_map_of_mem hp) hn.1
    · rw [decide_eq_false h]
      rcases List.mem_cons.mp hp with e | hp
      · subst e; exact absurd rfl h
      · exact ih hn.2 hp
theorem SigOk.look {sg : List D} (h : SigOk sg) {w : Str} {m : Int} (hx : D.tup [.str w, .int m] ∈ sg) : lookK (L.tab sg) (.inr w) = some (.int m) := by
  rw [h.tab]
  have e : (kvsOf sg).map (·.1) = (sg.map nmOf).map Sum.inr := by simp [kvsOf]
  exact look_mem (by rw [e, nodup_inr]; exact h.nd) (p := (.inr w, .int m)) (List.mem_map.mpr ⟨_, hx, rfl⟩)
theorem AmOk.dgs {l : List Pr2} {many : Int} {m : Am} (h4 : many ≤ 4) (g : AmOk l many m) : dg (m.a ++ [m.e]) := fun x hx => by
  rcases List.mem_append.mp hx with z | z
  · have := g.a x z; omega
  · rw [List.mem_singleton.mp z]
    have := g.e; omega
theorem AmOk.good {l : List Pr2} {many : Int} {m : Am} (hg : SgGood l) (h4 : many ≤ 4) (g : AmOk l many m) : AmGood m ∧ nmG m.w = true ∧ m.a.length ≤ 3 := by
  obtain ⟨p, hp, e1, e2⟩ := g.p
  obtain ⟨n1, n2, n3⟩ := hg.nm p hp
  refine ⟨⟨by rw [e1]; exact nmG_tx n1, fun x hx => ?_, ?_, by omega⟩, by rw [e1]; exact n1, by omega⟩
  · have := g.a x hx; omega
  · have := g.e; omega
theorem rdAm_back {l : List Pr2} {many : Int} {m : Am} (hg : SgGood l) (h1 : 1 ≤ many) (h4 : many ≤ 4) (g : AmOk l many m) : rdAm (l.map prD) many (Am.S m) = some (Am.D m) := by
  obtain ⟨p, hp, ew, el⟩ := g.p
  obtain ⟨n1, n2, n3⟩ := hg.nm p hp
  have hdg := g.dgs h4
  have e1 : Txt.split (Am.S m) " " = m.w :: (m.a ++ [m.e]).map strI := TL.split_join sepSp.e sepSp.k (by simp) fun q hq hc => by
    rcases List.mem_cons.mp hq with rfl | hq
    · rw [ew] at hc
      exact (nmG_free n1 hc).1 rfl
    · obtain ⟨x, hx, rfl⟩ := List.mem_map.mp hq
      have := dig_mem (hdg x hx).1 (hdg x hx).2 hc
      omega
  have e2 : lookK (tab (l.map prD)) (.inr m.w) = some (.int p.2) := by
    rw [ew]
    exact hg.ok.look (List.mem_map.mpr ⟨p, hp, rfl⟩)
  have e3 : (m.a ++ [m.e]).any (fun x => decide (many ≤ x)) = false := by
    rw [List.any_eq_false]
    intro x hx
    have : x < many := by
      rcases List.mem_append.mp hx with z | z
      · exact (g.a x z).2
      · rw [List.mem_singleton.mp z]; exact g.e.2
    simp only [decide_eq_true_eq]
    omega
  have e4 : amD m.w (m.a ++ [m.e]) = Am.D m := by simp [amD, Am.D]
  have e5 := aut_move (sg := l.map prD) (w := m.w) (ns := m.a ++ [m.e]) (by omega : 0 ≤ many) (by omega) e2 (by rw [List.length_append, List.length_cons, List.length_nil]; omega) (by simp) fun x hx => (hdg x hx).1
  rw [e3, Bool.not_false] at e5
  have hl : ((((m.a ++ [m.e]).map strI).length : Int) + 1 == p.2 + 2) = true := by
    rw [List.length_map, List.length_append, List.length_cons, List.length_nil]
    apply beq_iff_eq.mpr
    omega
  unfold rdAm
  rw [e1]
  show (match lookK (tab (l.map prD)) (.inr m.w) with
    | some (.int k) => if ((((m.a ++ [m.e]).map strI).length : Int) + 1 == k + 2) = true then (numsO ((m.a ++ [m.e]).map strI)).bind fun ns => if autB (l.map prD) (.tup [.int many, .tup [amD m.w ns], .tup []]) = true then some (amD m.w ns) else none else none
    | _ => none) = _
  rw [e2]
  show (if ((((m.a ++ [m.e]).map strI).length : Int) + 1 == p.2 + 2) = true then (numsO ((m.a ++ [m.e]).map strI)).bind fun ns => if autB (l.map prD) (.tup [.int many, .tup [amD m.w ns], .tup []]) = true then some (amD m.w ns) else none else none) = _
  rw [if_pos hl, numsO_dig hdg, Option.bind_some, if_pos e5, e4]
theorem rdAs_back {l : List Pr2} {many : Int} (hg : SgGood l) (h1 : 1 ≤ many) (h4 : many ≤ 4) : ∀ {ms : List Am} {acc : List D} {i : Nat}, (∀ m ∈ ms, AmOk l many m) → rdAs (l.map prD) many i (ms.map Am.S) acc = .inl (acc ++ ms.map Am.D)
  | [], acc, i, _ => by simp [rdAs]
  | m :: r, acc, i, h => by
    rw [List.map_cons, rdAs, rdAm_back hg h1 h4 (h m List.mem_cons_self)]
    show rdAs (l.map prD) many (i + 1) (r.map Am.S) (acc ++ [Am.D m]) = _
    rw [rdAs_back hg h1 h4 fun x hx => h x (List.mem_cons_of_mem _ hx), List.append_assoc]
    rfl
theorem AmS_mem {l : List Pr2} {many : Int} {m : Am} (hg : SgGood l) (h4 : many ≤ 4) (g : AmOk l many m) {c : Nat} (hc : c ∈ TL.tl (Am.S m)) : c ≠ 10 := by
  rcases mem_join hc with z | ⟨p, hp, z⟩
  · rw [sepSp.e, List.mem_singleton] at z
    omega
  · rcases List.mem_cons.mp hp with rfl | hp
    · exact (nmG_free (g.good hg h4).2.1 z).2.2
    · obtain ⟨x, hx, rfl⟩ := List.mem_map.mp hp
      have hdg := g.dgs h4
      have := dig_mem (hdg x hx).1 (hdg x hx).2 z
      omega
theorem AuGood.dgs {l : List Pr2} {many : Int} {ms : List Am} {ends : List Int} (g : AuGood l many ms ends) : dg (many :: ends) := fun x hx => by
  have h1 := g.m1
  have h4 := g.m4
  rcases List.mem_cons.mp hx with rfl | z
  · omega
  · have := g.eb x z; omega
theorem rdA_back {l : List Pr2} {many : Int} {ms : List Am} {ends : List Int} (hg : SgGood l) (g : AuGood l many ms ends) : rdA (l.map prD) (auS many ms ends) = .ok (auD many ms ends) := by
  have h1 := g.m1
  have h4 := g.m4
  have hdg := g.dgs
  have e1 : Txt.split (auS many ms ends) "\n" = Txt.join " " ((many :: ends).map strI) :: ms.map Am.S := TL.split_join sepNl.e sepNl.k (by simp) fun q hq hc => by
    rcases List.mem_cons.mp hq with rfl | hq
    · rcases mem_join hc with z | ⟨p, hp, z⟩
      · rw [sepSp.e, List.mem_singleton] at z
        omega
      · obtain ⟨x, hx, rfl⟩ := List.mem_map.mp hp
        have := dig_mem (hdg x hx).1 (hdg x hx).2 z
        omega
    · obtain ⟨m, hm, rfl⟩ := List.mem_map.mp hq
      exact AmS_mem hg h4 (g.mg m hm) hc rfl
  have e2 : Txt.split (Txt.join " " ((many :: ends).map strI)) " " = (many :: ends).map strI := TL.split_join sepSp.e sepSp.k (by simp) fun q hq hc => by
    obtain ⟨x, hx, rfl⟩ := List.mem_map.mp hq
    have := dig_mem (hdg x hx).1 (hdg x hx).2 hc
    omega
  have e3 : (ends.any fun x => decide (many ≤ x)) = false := by
    rw [List.any_eq_false]
    intro x hx
    have := (g.eb x hx).2
    simp only [decide_eq_true_eq]
    omega
  have e4 : incB ends = true := decide_eq_true g.ep
  have e5 := aut_head (sg := l.map prD) (many := many) (ends := ends) (by omega) fun x hx => (g.eb x hx).1
  rw [e3, e4, decide_eq_false (by omega : ¬ 400 < many), Bool.not_false, Bool.and_self, Bool.and_self] at e5
  unfold rdA
  rw [e1]
  show (match numsO (Txt.split (Txt.join " " ((many :: ends).map strI)) " ") with
    | some (many :: ends) => if autB (l.map prD) (.tup [.int many, .tup [], .tup (ends.map .int)]) = true then (match rdAs (l.map prD) many 0 (ms.map Am.S) [] with | .inl ms => Rz.ok (.tup [.int many, .tup ms, .tup (ends.map .int)]) | .inr z => .er z) else .er 1
    | _ => .er 1) = _
  rw [e2, numsO_dig hdg]
  show (if autB (l.map prD) (.tup [.int many, .tup [], .tup (ends.map .int)]) = true then (match rdAs (l.map prD) many 0 (ms.map Am.S) [] with | .inl ms => Rz.ok (.tup [.int many, .tup ms, .tup (ends.map .int)]) | .inr z => .er z) else .er 1) = _
  rw [if_pos e5, rdAs_back hg h1 h4 g.mg]
  rfl
/-! ### the texts are short -/
theorem tx_of {w : Str} (h : ∀ c ∈ TL.tl w, c < 0x110000) (hz : w.cps.size ≤ 100) : tx w = true := by
  unfold tx
  rw [Bool.and_eq_true]
  refine ⟨?_, decide_eq_true hz⟩
  rw [← Array.all_toList, List.all_eq_true]
  intro c hc
  exact decide_eq_true (h c hc)
theorem tx_chars {w : Str} (h : tx w = true) {c : Nat} (hc : c ∈ TL.tl w) : c < 0x110000 := by
  have h1 := tx1 h
  rw [← Array.all_toList, List.all_eq_true] at h1
  exact of_decide_eq_true (h1 c hc)
theorem sgS_tx {l : List Pr2} (g : SgGood l) : tx (sgS l) = true ∧ (sgS l).cps.size ≤ 88 := by
  have hz : (sgS l).cps.size ≤ 88 := by
    have h := join_size " " (l.map prS)
    have h2 : (" ": Str).length = 1 := by decide +kernel
    have e3 := sum_le (l := (l.map prS).map (·.length)) (b := 4) fun n hn => by
      obtain ⟨_, hx, rfl⟩ := List.mem_map.mp hn
      obtain ⟨p, hp, rfl⟩ := List.mem_map.mp hx
      obtain ⟨a, b, c⟩ := g.nm p hp
      have s1 := nmG_size a
      have s2 := strI_size b (by omega)
      have s3 : ("/": Str).cps.size = 1 := by decide +kernel
      show (prS p).cps.size ≤ 4
      unfold prS
      rw [app_size, app_size, s3, s2]
      omega
    rw [List.length_map, List.length_map] at e3
    rw [h2, List.length_map] at h
    have := g.len
    unfold sgS
    rw [TL.join_eq]
    omega
  refine ⟨tx_of (fun c hc => ?_) (by omega), hz⟩
  rcases mem_join hc with z | ⟨p, hp, z⟩
  · rw [sepSp.e, List.mem_singleton] at z
    omega
  · obtain ⟨p', hp', rfl⟩ := List.mem_map.mp hp
    obtain ⟨a, b, d⟩ := g.nm p' hp'
    rcases prS_mem b d z with z | z | z
    · exact tx_chars (nmG_tx a) z
    · omega
    · omega
theorem mchS_tx {many : Int} {ms : List Mv} (h1 : 1 ≤ many) (h3 : many ≤ 3) (h8 : ms.length ≤ 4) (hg : ∀ m ∈ ms, MvGood many m) : tx (mchS many ms) = true ∧ (mchS many ms).cps.size ≤ 88 := by
  have hz : (mchS many ms).cps.size ≤ 88 := by
    have h := join_size "\n" (strI many :: ms.map mvS)
    have h2 : ("\n": Str).length = 1 := by decide +kernel
    have e1 : (strI many).length = 1 := strI_size (by omega) (by omega)
    have e3 := sum_le (l := (ms.map mvS).map (·.length)) (b := 13) fun n hn => by
      obtain ⟨_, hx, rfl⟩ := List.mem_map.mp hn
      obtain ⟨m, hm, rfl⟩ := List.mem_map.mp hx
      have g := hg m hm
      have s1 := cntS_size g.d1
      have s2 := cntS_size g.d2
      have s3 : (" ": Str).cps.size = 1 := by decide +kernel
      have l1 := g.l1
      have l2 := g.l2
      show (mvS m).cps.size ≤ 13
      unfold mvS
      rw [app_size, app_size, s3]
      omega
    rw [List.length_map, List.length_map] at e3
    rw [h2, List.map_cons, List.sum_cons, List.length_cons, List.length_map, e1] at h
    unfold mchS
    rw [TL.join_eq]
    omega
  refine ⟨tx_of (fun c hc => ?_) (by omega), hz⟩
  rcases mem_join hc with z | ⟨p, hp, z⟩
  · rw [sepNl.e, List.mem_singleton] at z
    omega
  · rcases List.mem_cons.mp hp with rfl | hp
    · have := dig_mem (by omega) (by omega) z
      omega
    · obtain ⟨m, hm, rfl⟩ := List.mem_map.mp hp
      have g := hg m hm
      rcases mv_mem g.d1 g.d2 z with z | z | z <;> omega
theorem auS_tx {l : List Pr2} {many : Int} {ms : List Am} {ends : List Int} (hg : SgGood l) (g : AuGood l many ms ends) : tx (auS many ms ends) = true ∧ (auS many ms ends).cps.size ≤ 88 := by
  have h4 := g.m4
  have hdg := g.dgs
  have sp1 : (" ": Str).length = 1 := by decide +kernel
  have hz : (auS many ms ends).cps.size ≤ 88 := by
    have h2 : ("\n": Str).length = 1 := by decide +kernel
    have key : ∀ H : Str, (Str.join "\n" (H :: ms.map Am.S)).cps.size ≤ (H.length + ((ms.map Am.S).map (·.length)).sum) + (ms.length + 1) := fun H => by
      have h := join_size "\n" (H :: ms.map Am.S)
      rw [h2, List.map_cons, List.sum_cons, List.length_cons, List.length_map] at h
      omega
    have h := key (Txt.join " " ((many :: ends).map strI))
    have j1 := join_size " " ((many :: ends).map strI)
    rw [sum_one hdg, List.length_map, sp1, List.length_cons] at j1
    have j2 : (Txt.join " " ((many :: ends).map strI)).length = (Str.join " " ((many :: ends).map strI)).cps.size := by rw [TL.join_eq]; rfl
    have e3 := sum_le (l := (ms.map Am.S).map (·.length)) (b := 11) fun n hn => by
      obtain ⟨_, hx, rfl⟩ := List.mem_map.mp hn
      obtain ⟨m, hm, rfl⟩ := List.mem_map.mp hx
      obtain ⟨_, w1, w2⟩ := (g.mg m hm).good hg h4
      have s1 := nmG_size w1
      have k := join_size " " (m.w :: (m.a ++ [m.e]).map strI)
      rw [List.map_cons, List.sum_cons, sum_one ((g.mg m hm).dgs h4), List.length_cons, List.length_map, sp1, List.length_append, List.length_cons, List.length_nil] at k
      have k2 : m.w.length = m.w.cps.size := rfl
      show (Am.S m).cps.size ≤ 11
      unfold Am.S
      rw [TL.join_eq]
      omega
    rw [List.length_map, List.length_map] at e3
    rw [j2] at h
    have := g.el
    have := g.ml
    unfold auS
    rw [TL.join_eq]
    omega
  refine ⟨tx_of (fun c hc => ?_) (by omega), hz⟩
  rcases mem_join hc with z | ⟨p, hp, z⟩
  · rw [sepNl.e, List.mem_singleton] at z
    omega
  · rcases List.mem_cons.mp hp with rfl | hp
    · rcases mem_join z with z | ⟨p, hp, z⟩
      · rw [sepSp.e, List.mem_singleton] at z
        omega
      · obtain ⟨x, hx, rfl⟩ := List.mem_map.mp hp
        have := dig_mem (hdg x hx).1 (hdg x hx).2 z
        omega
    · obtain ⟨m, hm, rfl⟩ := List.mem_map.mp hp
      rcases mem_join z with z | ⟨p, hp, z⟩
      · rw [sepSp.e, List.mem_singleton] at z
        omega
      · rcases List.mem_cons.mp hp with rfl | hp
        · exact tx_chars (nmG_tx ((g.mg m hm).good hg h4).2.1) z
        · obtain ⟨x, hx, rfl⟩ := List.mem_map.mp hp
          have hd2 := (g.mg m hm).dgs h4
          have := dig_mem (hd2 x hx).1 (hd2 x hx).2 z
          omega
end Tt.L
end

section
/-! k64: the stream, a signature drawn. -/
namespace Tt.L
open PySem Tt Tt.P
theorem l_listF {l : List D} {S : Sto} {Q : D → Sto → Prop} (h : l.length ≤ sizeLine) (q : Q (.lst l) S) : W (bltD true .list [.fzl l] S) Q := by
  refine ⟨_, _, ?_, q⟩
  simp only [bltD, items, Option.bind_some]
  unfold mkL
  rw [if_pos h, if_pos rfl]
theorem l_mkT {l : List D} {S : Sto} {Q : D → Sto → Prop} (h : l.length ≤ sizeLine) (q : Q (.lst l) S) : W (mkL true l S) Q := by
  refine ⟨_, _, ?_, q⟩
  unfold mkL
  rw [if_pos h, if_pos rfl]
theorem rng_get {n i : Nat} {x : D} (h : (rngL 0 n)[i]? = some x) : i < n ∧ x = .int (i : Int) := by
  have hi : i < (rngL 0 n).length := (List.getElem?_eq_some_iff.mp h).1
  have hi : i < n := by simpa [rngL] using hi
  simp only [rngL, List.getElem?_map, List.getElem?_range hi, Option.map_some, Option.some.injEq] at h
  exact ⟨hi, by rw [← h]; simp⟩
theorem stream {k : Nat} {ns : List Int} {Q : D → Sto → Prop} (hl : ns.length ≤ 63) (q : ∀ o, Stm o → Q (.ref 0) [o]) : WO (calls pg (k + 1) 19 [.fzl (ns.map .int)] []) Q := by
  refine call_run (di := d19) rfl (w_run rfl ?_)
  refine x_cons ?_
  refine x_set ?_
  refine w_cst ?_
  refine x_cons ?_
  refine x_for ?_
  refine r_seq ?_
  refine w_var rfl ?_
  refine WC_some rfl ?_
  refine for_inv (l := ns.map .int) (fun i env S2 => S2 = [] ∧ ∃ (m : Int) (y : Option D), env = [some (.fzl (ns.map .int)), some (.int m), y]) rfl ⟨rfl, _, _, rfl⟩ (fun i env S2 ⟨e, _⟩ => rfl) ?_ ?_
  · rintro i x env S2 hx ⟨rfl, m, y, rfl⟩
    refine ⟨_, rfl, ?_⟩
    simp only [List.getElem?_map, Option.map_eq_some_iff] at hx
    obtain ⟨c, hc, rfl⟩ := hx
    refine x_cons ?_
    (repeat (first | refine w_var rfl ?_ | refine w_cst ?_ | refine w_glob ?_ | refine w_nil ?_ | refine w_cons ?_ | refine w_bin ?_ | refine w_ix ?_ | refine w_call ?_ | refine w_blt ?_ | refine w_isi ?_ | refine w_tup ?_ | refine w_lstT ?_ | refine w_lstF ?_ | refine e_and ?_ | refine e_or ?_ | refine w_not ?_ | refine w_neg ?_ | refine w_ite ?_ | refine w_cmp ?_ | refine w_chain ?_ | refine w_slice ?_ | refine w_oN ?_ | refine w_oS ?_ | refine t_val' ?_ | refine t_cmp' ?_ | refine t_chain' ?_ | refine t_not' ?_ | refine t_and' ?_ | refine t_or' ?_ | refine ts_nil ?_ | refine ts_cons ?_ | refine x_nil ?_ | refine x_set ?_ | refine x_expr ?_ | refine x_ret ?_ | refine x_retN ?_ | refine x_ifs ?_ | refine x_setIx ?_ | refine x_unpack ?_ | refine l_add ?_ | refine l_sub ?_ | refine l_eqI ?_ | refine l_neI ?_ | refine l_eqB ?_ | refine l_neB ?_ | refine l_lt ?_ | refine l_le ?_ | refine l_gt ?_ | refine l_ge ?_ | refine ifT' rfl ?_ | refine ifF' rfl ?_ | refine ⟨_, rfl, ?_⟩ | refine ⟨rfl, ?_⟩ | refine ⟨Nat.le_of_ble_eq_true rfl, ?_⟩ | refine WC_some rfl ?_ | refine W_some rfl ?_))
    refine l_mul (.inr ⟨by decide, by decide⟩) ?_
    (repeat (first | refine w_var rfl ?_ | refine w_cst ?_ | refine w_glob ?_ | refine w_nil ?_ | refine w_cons ?_ | refine w_bin ?_ | refine w_ix ?_ | refine w_call ?_ | refine w_blt ?_ | refine w_isi ?_ | refine w_tup ?_ | refine w_lstT ?_ | refine w_lstF ?_ | refine e_and ?_ | refine e_or ?_ | refine w_not ?_ | refine w_neg ?_ | refine w_ite ?_ | refine w_cmp ?_ | refine w_chain ?_ | refine w_slice ?_ | refine w_oN ?_ | refine w_oS ?_ | refine t_val' ?_ | refine t_cmp' ?_ | refine t_chain' ?_ | refine t_not' ?_ | refine t_and' ?_ | refine t_or' ?_ | refine ts_nil ?_ | refine ts_cons ?_ | refine x_nil ?_ | refine x_set ?_ | refine x_expr ?_ | refine x_ret ?_ | refine x_retN ?_ | refine x_ifs ?_ | refine x_setIx ?_ | refine x_unpack ?_ | refine l_add ?_ | refine l_sub ?_ | refine l_eqI ?_ | refine l_neI ?_ | refine l_eqB ?_ | refine l_neB ?_ | refine l_lt ?_ | refine l_le ?_ | refine l_gt ?_ | refine l_ge ?_ | refine ifT' rfl ?_ | refine ifF' rfl ?_ | refine ⟨_, rfl, ?_⟩ | refine ⟨rfl, ?_⟩ | refine ⟨Nat.le_of_ble_eq_true rfl, ?_⟩ | refine WC_some rfl ?_ | refine W_some rfl ?_))
    exact ⟨_, _, rfl⟩
  · rintro env S2 ⟨rfl, m, y, rfl⟩
    refine x_cons ?_
    refine x_ret ?_
    refine w_lstF ?_
    refine w_cons ?_
    refine w_blt ?_
    refine w_cons ?_
    refine w_var rfl ?_
    refine w_nil ?_
    refine l_listF (by rw [List.length_map]; exact Nat.le_trans hl (by decide)) ?_
    refine w_cons ?_
    refine w_cst ?_
    refine w_cons ?_
    refine w_cst ?_
    refine w_cons ?_
    refine w_var rfl ?_
    refine w_nil ?_
    refine ⟨by show 4 ≤ sizeLine; decide, ?_⟩
    refine W_some rfl ?_
    exact q _ ⟨ns, 0, 0, m, rfl, by decide⟩
def SIX (c : Int) : List Pr2 := [("a", 0), ("b", 0), ("f", 1), ("g", 2), ("h", 3), ("C1", c)]
def NMS : List Str := ["a", "b", "f", "g", "h", "C1"]
theorem nms_good : ∀ w ∈ NMS, nmG w = true := by decide +kernel
theorem nms_nodup : NMS.Nodup := by decide +kernel
theorem six_names (c : Int) : (SIX c).map (·.1) = NMS := rfl
theorem sig_of {c : Int} {l : List Pr2} (h0 : 0 ≤ c) (h3 : c ≤ 3) (hs : l.Sublist (SIX c)) (hne : l ≠ []) : SgGood l := by
  have hlen : l.length ≤ 6 := hs.length_le
  have hnm : ∀ p ∈ l, nmG p.1 = true ∧ 0 ≤ p.2 ∧ p.2 ≤ 3 := fun p hp => by
    have hp := hs.subset hp
    refine ⟨nms_good _ ?_, ?_⟩
    · rw [← six_names c]
      exact List.mem_map_of_mem hp
    · simp only [SIX, List.mem_cons, List.not_mem_nil, or_false] at hp
      rcases hp with rfl | rfl | rfl | rfl | rfl | rfl
      all_goals first
        | exact ⟨by decide, by decide⟩
        | exact ⟨h0, h3⟩
  refine ⟨⟨?_, ?_, by rw [List.length_map]; exact hlen, by rw [List.length_map]; exact List.length_pos_iff.mpr hne, gd_prs fun p hp => nmG_tx (hnm p hp).1⟩, hnm, hlen, hne⟩
  · rw [List.all_eq_true]
    intro x hx
    obtain ⟨p, hp, rfl⟩ := List.mem_map.mp hx
    obtain ⟨a, b, d⟩ := hnm p hp
    have a2 : symB p.1 = true := by
      simp only [nmG, Bool.and_eq_true] at a
      exact a.1.1.1
    show (symB p.1 && wholeB (.int p.2) 3) = true
    rw [a2]
    simp [wholeB, b, d]
  · rw [nm_prs]
    have h := hs.map (·.1)
    rw [six_names] at h
    exact nms_nodup.sublist h
theorem signatureD {k : Nat} {o : O} {R : Sto} {Q : D → Sto → Prop} (ho : Stm o) (hR : R.all puO = true) (q : ∀ l o', Stm o' → SgGood l → Q (sgD l) (o' :: R)) : WO (calls pg (k + 2) 24 [.ref 0] (o :: R)) Q := by
  refine call_run (di := d24) rfl (w_run rfl ?_)
  have big : (100 : Nat) ≤ sizeLine := by decide
  refine x_cons ?_
  refine x_set ?_
  refine w_lstT ?_
  iterate 5
    refine w_cons ?_
    refine w_tup ?_
    refine w_cons ?_
    refine w_cst ?_
    refine w_cons ?_
    refine w_cst ?_
    refine w_nil ?_
    refine ⟨by show 2 ≤ sizeLine; omega, ?_⟩
  refine w_cons ?_
  refine w_tup ?_
  refine w_cons ?_
  refine w_cst ?_
  refine w_cons ?_
  refine w_call ?_
  refine w_cons ?_
  refine w_var rfl ?_
  refine w_cons ?_
  refine w_cst ?_
  refine w_nil ?_
  refine draw ho hR (by decide) (by decide) fun c o1 ho1 hc0 hc4 => ?_
  refine w_nil ?_
  refine ⟨by show 2 ≤ sizeLine; omega, ?_⟩
  refine w_nil ?_
  refine ⟨by show 6 ≤ sizeLine; omega, ?_⟩
  refine x_cons ?_
  refine x_set ?_
  refine w_comp ?_
  refine r_seq ?_
  refine w_var rfl ?_
  refine WC_some rfl ?_
  refine lc_inv (l := (SIX c).map prD) (fun i acc S2 => ∃ (l : List Pr2) (o' : O), Stm o' ∧ S2 = o' :: R ∧ acc = l.map prD ∧ l.Sublist ((SIX c).take i)) rfl ⟨[], o1, ho1, rfl, rfl, List.nil_sublist _⟩ (fun i acc S' h => rfl) ?_ ?_
  · rintro i x acc S2 hx ⟨l, o', ho', rfl, rfl, hs⟩
    rw [List.getElem?_map, Option.map_eq_some_iff] at hx
    obtain ⟨p, hp, rfl⟩ := hx
    refine ⟨_, rfl, ?_⟩
    refine w_body (ts_cons ?_)
    refine t_cmp' ?_
    refine w_call ?_
    refine w_cons ?_
    refine w_var (x := .ref 0) rfl ?_
    refine w_cons ?_
    refine w_cst ?_
    refine w_nil ?_
    refine draw ho' hR (by decide) (by decide) fun r o2 ho2 hr1 hr2 => ?_
    refine w_cst ?_
    refine l_eqI ?_
    refine ifB (fun hr => ?_) (fun hr => ?_)
    · refine ts_nil (L2.iteT ?_)
      refine w_var (x := prD p) rfl ?_
      have hle := hs.length_le
      rw [List.length_take] at hle
      have e6 : (SIX c).length = 6 := rfl
      refine ⟨by rw [List.length_map]; omega, l ++ [p], o2, ho2, rfl, by simp, ?_⟩
      rw [List.take_succ, hp]
      exact hs.append (List.Sublist.refl _)
    · refine L2.iteF ?_
      refine ⟨l, o2, ho2, rfl, rfl, ?_⟩
      rw [List.take_succ]
      exact hs.trans (List.sublist_append_left _ _)
  · rintro acc S2 ⟨l, o', ho', rfl, rfl, hs⟩
    have hs : l.Sublist (SIX c) := hs.trans (List.take_sublist _ _)
    have e6 : (SIX c).length = 6 := rfl
    have hle := hs.length_le
    refine l_mkT (by rw [List.length_map]; omega) ?_
    refine x_cons ?_
    refine x_ret ?_
    refine w_blt ?_
    refine w_cons ?_
    refine w_ite ?_
    refine t_val' ?_
    refine w_var rfl ?_
    cases l with
    | nil =>
      refine WC_some rfl ?_
      refine ifF' rfl ?_
      refine w_slice ?_
      refine w_var rfl ?_
      refine w_oN ?_
      refine w_oS ?_
      refine w_cst ?_
      refine ⟨_, rfl, ?_⟩
      refine W_some (d := .lst (([("a", 0)] : List Pr2).map prD)) (S := o' :: R) rfl ?_
      refine w_nil ?_
      refine l_tupL ?_
      refine fin_st rfl rfl ho' hR (pu_prs _) (q [("a", 0)] o' ho' (sig_of hc0 (by omega) ?_ (by simp)))
      exact List.Sublist.cons₂ _ (List.nil_sublist _)
    | cons p r =>
      refine WC_some rfl ?_
      refine ifT' rfl ?_
      refine w_var rfl ?_
      refine w_nil ?_
      refine l_tupL ?_
      exact fin_st rfl rfl ho' hR (pu_prs _) (q (p :: r) o' ho' (sig_of hc0 (by omega) hs (by simp)))
end Tt.L
end

section
/-! k64: an automaton drawn. -/
namespace Tt.L
open PySem Tt Tt.P
theorem pu_ams : ∀ ms : List Am, puL (ms.map Am.D) = true
  | [] => rfl
  | m :: r => by
    rw [List.map_cons, puL, pu_ams r, Bool.and_true]
    simp only [Am.D, puD, puL, puL_ints, Bool.and_self]
theorem automatonD {k : Nat} {l : List Pr2} {o : O} {R : Sto} {Q : D → Sto → Prop} (hg : SgGood l) (ho : Stm o) (hR : R.all puO = true)
    (q : ∀ many ms ends o', Stm o' → AuGood l many ms ends → Q (auD many ms ends) (o' :: R)) : WO (calls pg (k + 3) 25 [.ref 0, sgD l] (o :: R)) Q := by
  refine call_run (di := d25) rfl (w_run rfl ?_)
  have big : (100 : Nat) ≤ sizeLine := by decide
  refine x_cons ?_
  refine x_set ?_
  refine w_bin ?_
  refine w_cst ?_
  refine w_call ?_
  refine w_cons ?_
  refine w_var rfl ?_
  refine w_cons ?_
  refine w_cst ?_
  refine w_nil ?_
  refine draw ho hR (by decide) (by decide) fun c o1 ho1 hc1 hc2 => ?_
  refine l_add ?_
  generalize hmany : (1 + c : Int) = many
  have hm1 : 1 ≤ many := by omega
  have hm4 : many ≤ 4 := by omega
  refine x_cons ?_
  refine x_set ?_
  refine w_lstF ?_
  refine w_nil ?_
  refine ⟨Nat.zero_le _, ?_⟩
  have hRl : ∀ acc : List Am, (R ++ [O.lst (acc.map Am.D)]).all puO = true := fun acc => all_last hR (pu_ams acc)
  refine x_cons ?_
  refine x_for ?_
  refine r_rng ?_
  refine w_call ?_
  refine w_cons ?_
  refine w_var rfl ?_
  refine w_cons ?_
  refine w_cst ?_
  refine w_nil ?_
  refine draw (R := R ++ [O.lst (([] : List Am).map Am.D)]) ho1 (hRl []) (by decide) (by decide) fun n o2 ho2 hn1 hn2 => ?_
  refine ⟨_, rfl, ⟨by omega, by omega⟩, ?_⟩
  refine for_inv (l := rngL 0 n.toNat) (fun (i : Nat) (e : En) (S' : Sto) => ∃ (acc : List Am) (o' : O) (a b c d' e' : Option D), Stm o' ∧ S' = o' :: (R ++ [.lst (acc.map Am.D)]) ∧ e = [some (.ref 0), some (sgD l), some (.int many), some (.ref (o1 :: R).length), a, b, c, d', e'] ∧
      acc.length = i ∧ ∀ m ∈ acc, AmOk l many m) (by simp [rngL]) ⟨[], o2, _, _, _, _, _, ho2, rfl, rfl, rfl, fun m hm => nomatch hm⟩ (fun i e S' h => rfl) ?_ ?_
  · rintro i x e S' hx ⟨acc, o', a, b, c, d', e', ho', rfl, rfl, hi, hgd⟩
    obtain ⟨hlt, _⟩ := rng_get hx
    refine ⟨_, rfl, ?_⟩
    refine x_cons ?_
    refine x_unpack ?_
    refine w_call ?_
    refine w_cons ?_
    refine w_var rfl ?_
    refine w_cons ?_
    refine w_blt ?_
    refine w_cons ?_
    refine w_var rfl ?_
    refine w_nil ?_
    refine l_listT (l := l.map prD) (by rw [List.length_map]; have := hg.len; omega) ?_
    refine w_nil ?_
    refine pick (l := l.map prD) (.inl rfl) hg.ok.pos (by rw [List.length_map]; have := hg.len; omega) (pu_prs l) ho' (hRl acc) fun j d o3 ho3 hd => ?_
    rw [List.getElem?_map, Option.map_eq_some_iff] at hd
    obtain ⟨p, hp, rfl⟩ := hd
    have hpl := List.mem_of_getElem? hp
    obtain ⟨n1, n2, n3⟩ := hg.nm p hpl
    refine ⟨_, _, rfl, rfl, ?_⟩
    refine x_cons ?_
    refine x_set ?_
    refine w_blt ?_
    refine w_cons ?_
    refine w_comp ?_
    refine r_rng ?_
    refine w_var (x := .int p.2) rfl ?_
    refine ⟨_, rfl, ⟨by omega, by omega⟩, ?_⟩
    refine lc_inv (l := rngL 0 p.2.toNat) (fun i acc2 S2 => ∃ (al : List Int) (o' : O), Stm o' ∧ S2 = o' :: (R ++ [.lst (acc.map Am.D)]) ∧ acc2 = al.map .int ∧ al.length = i ∧ ∀ x ∈ al, 0 ≤ x ∧ x < many) (by simp [rngL]) ⟨[], o3, ho3, rfl, rfl, rfl, fun m hm => nomatch hm⟩ (fun i acc2 S' h => rfl) ?_ ?_
    · rintro i2 x2 acc2 S2 hx2 ⟨al, o4, ho4, rfl, rfl, hal, hin⟩
      obtain ⟨hi2, _⟩ := rng_get hx2
      refine ⟨_, rfl, ?_⟩
      refine w_body (ts_nil (L2.iteT ?_))
      refine w_call ?_
      refine w_cons ?_
      refine w_var (x := .ref 0) rfl ?_
      refine w_cons ?_
      refine w_var (x := .int many) rfl ?_
      refine w_nil ?_
      refine draw ho4 (hRl acc) (by omega) (by omega) fun r o5 ho5 hr1 hr2 => ?_
      refine ⟨by rw [List.length_map]; omega, al ++ [r], o5, ho5, rfl, by simp, by simp [hal], fun z hz => ?_⟩
      rcases List.mem_append.mp hz with w | w
      · exact hin z w
      · rw [List.mem_singleton.mp w]; exact ⟨hr1, hr2⟩
    · rintro acc2 S2 ⟨al, o4, ho4, rfl, rfl, hal, hin⟩
      have hl2 : (rngL 0 p.2.toNat).length = p.2.toNat := by simp [rngL]
      rw [hl2] at hal
      refine l_mkT (by rw [List.length_map]; omega) ?_
      refine w_nil ?_
      refine l_tupL ?_
      refine x_cons ?_
      refine x_expr ?_
      refine w_meth ?_
      refine w_var rfl ?_
      have hget0 : (o4 :: (R ++ [O.lst (acc.map Am.D)]))[(o1 :: R).length]? = some (.lst (acc.map Am.D)) := by simp
      refine ⟨chk_app hget0, ?_⟩
      refine w_cons ?_
      refine w_tup ?_
      refine w_cons ?_
      refine w_var (x := .str p.1) rfl ?_
      refine w_cons ?_
      refine w_var (x := .tup (al.map .int)) rfl ?_
      refine w_cons ?_
      refine w_call ?_
      refine w_cons ?_
      refine w_var (x := .ref 0) rfl ?_
      refine w_cons ?_
      refine w_var (x := .int many) rfl ?_
      refine w_nil ?_
      refine draw ho4 (hRl acc) (by omega) (by omega) fun r o5 ho5 hr1 hr2 => ?_
      refine w_nil ?_
      refine ⟨by show 3 ≤ sizeLine; omega, ?_⟩
      refine w_nil ?_
      have hget : (o5 :: (R ++ [O.lst (acc.map Am.D)]))[(o1 :: R).length]? = some (.lst (acc.map Am.D)) := by simp
      refine l_app hget (by rw [List.length_map]; omega) ?_
      refine x_nil ?_
      refine ⟨acc ++ [⟨p.1, al, r⟩], o5, _, _, _, _, _, ho5, by simp [Am.D], rfl, by simp [hi], fun m hm => ?_⟩
      rcases List.mem_append.mp hm with z | z
      · exact hgd m z
      · rw [List.mem_singleton.mp z]
        exact ⟨⟨p, hpl, rfl, by show (al.length : Int) = p.2; omega⟩, hin, ⟨hr1, hr2⟩⟩
  · rintro e S' ⟨acc, o', a, b, c, d', e', ho', rfl, rfl, hi, hgd⟩
    have hl2 : (rngL 0 n.toNat).length = n.toNat := by simp [rngL]
    rw [hl2] at hi
    refine x_cons ?_
    refine x_ret ?_
    refine w_tup ?_
    refine w_cons ?_
    refine w_var rfl ?_
    refine w_cons ?_
    refine w_blt ?_
    refine w_cons ?_
    refine w_var rfl ?_
    refine w_nil ?_
    have hget : (o' :: (R ++ [O.lst (acc.map Am.D)]))[(o1 :: R).length]? = some (.lst (acc.map Am.D)) := by simp
    refine l_tupR hget ?_
    refine w_cons ?_
    refine w_blt ?_
    refine w_cons ?_
    refine w_comp ?_
    refine r_rng ?_
    refine w_var (x := .int many) rfl ?_
    refine ⟨_, rfl, ⟨by omega, by omega⟩, ?_⟩
    refine lc_inv (l := rngL 0 many.toNat) (fun i acc2 S2 => ∃ (o' : O) (es : List Int), Stm o' ∧ S2 = o' :: (R ++ [.lst (acc.map Am.D)]) ∧ acc2 = es.map .int ∧ es.Pairwise (· < ·) ∧ (∀ e ∈ es, 0 ≤ e ∧ e < (i : Int)) ∧ es.length ≤ i) (by simp [rngL]) ⟨o', [], ho', rfl, rfl, by simp, by simp, by simp⟩ (fun i acc2 S2 h => rfl) ?_ ?_
    · rintro i2 x2 acc2 S2 hx2 ⟨o4, es, ho4, rfl, rfl, hes, hb, hel⟩
      obtain ⟨hi2, rfl⟩ := rng_get hx2
      refine ⟨_, rfl, ?_⟩
      refine w_body (ts_cons ?_)
      refine t_cmp' ?_
      refine w_call ?_
      refine w_cons ?_
      refine w_var (x := .ref 0) rfl ?_
      refine w_cons ?_
      refine w_cst ?_
      refine w_nil ?_
      refine draw ho4 (hRl acc) (by decide) (by decide) fun r o5 ho5 hr1 hr2 => ?_
      refine w_cst ?_
      refine l_eqI ?_
      refine ifB (fun hr => ?_) (fun hr => ?_)
      · refine ts_nil (L2.iteT ?_)
        refine w_var (x := .int (i2 : Int)) rfl ?_
        refine ⟨by rw [List.length_map]; omega, o5, es ++ [(i2 : Int)], ho5, rfl, by simp, ?_, ?_, by simp; omega⟩
        · rw [List.pairwise_append]
          refine ⟨hes, by simp, fun a ha b hb' => ?_⟩
          have : b = (i2 : Int) := by simpa using hb'
          have := (hb a ha).2
          omega
        · intro e he
          rcases List.mem_append.mp he with z | z
          · have := hb e z; omega
          · have : e = (i2 : Int) := by simpa using z
            omega
      · refine L2.iteF ?_
        exact ⟨o5, es, ho5, rfl, rfl, hes, fun e he => by have := hb e he; omega, by omega⟩
    · rintro acc2 S2 ⟨o4, es, ho4, rfl, rfl, hes, hb, hel⟩
      have hn : (rngL 0 many.toNat).length = many.toNat := by simp [rngL]
      rw [hn] at hb hel
      refine l_mkT (by rw [List.length_map]; omega) ?_
      refine w_nil ?_
      refine l_tupL ?_
      refine w_nil ?_
      refine ⟨by show 3 ≤ sizeLine; omega, ?_⟩
      have et : o4 :: (R ++ [O.lst (acc.map Am.D)]) = (o4 :: R) ++ [O.lst (acc.map Am.D)] := rfl
      rw [et]
      refine fin_drop (S := o4 :: R) rfl (by rw [List.all_cons, ho4.pu, hR]; rfl) ?_ (q many acc es o4 ho4 ⟨hm1, hm4, by omega, hgd, hes, fun e he => by have := hb e he; omega, by omega⟩)
      simp only [puD, puL, pu_ams, puL_ints, Bool.and_self]
end Tt.L
end

section
/-! k64: texts in a list are the same. -/
namespace Tt.L
open PySem Tt Tt.P
theorem x_cut {f : Sm → En → Sto → Option (Fl × En × Sto)} {s : Sm} {ss : List Sm} {env : En} {S : Sto} {Q : Fl → En → Sto → Prop} (P : En → Sto → Prop) (h : WS (f s env S) fun fl e2 S2 => fl = .nx ∧ P e2 S2) (r : ∀ e2 S2, P e2 S2 → WS (exs f ss e2 S2) Q) : WS (exs f (s :: ss) env S) Q :=
  x_cons (h.mono fun fl e2 S2 ⟨e, p⟩ => by subst e; exact r e2 S2 p)
theorem l_ixR {n : Nat} {l : List D} {i : Nat} {x : D} {S : Sto} {QC : D → Prop} (hn : S[n]? = some (.lst l)) (h : l[i]? = some x) (q : QC x) : WC (ixD (.ref n) (.int i) S) QC := by
  refine ⟨_, ?_, q⟩
  have hl : i < l.length := (List.getElem?_eq_some_iff.mp h).1
  simp only [ixD, hn]
  simp only [L2.atI, L2.ixN]
  rw [if_pos (by omega), if_pos (by omega)]
  simpa using h
theorem sameT {k : Nat} {l : List Str} {o : O} {R : Sto} {Q : D → Sto → Prop} (h : ∀ w ∈ l, tx w = true) (hl : l.length ≤ 200) (hS : (o :: .lst (l.map .str) :: R : Sto).all puO = true) (q : Q (.bl true) (o :: .lst (l.map .str) :: R)) :
    WO (calls pg (k + 2) 22 [.lst (l.map .str), .ref 1] (o :: .lst (l.map .str) :: R)) Q := by
  refine call_run (di := d22) rfl (w_run rfl ?_)
  have hz : l.length ≤ sizeLine := Nat.le_trans hl (by decide)
  refine x_cons ?_
  (repeat (first | refine w_var rfl ?_ | refine w_cst ?_ | refine w_glob ?_ | refine w_nil ?_ | refine w_cons ?_ | refine w_bin ?_ | refine w_ix ?_ | refine w_call ?_ | refine w_blt ?_ | refine w_isi ?_ | refine w_tup ?_ | refine w_lstT ?_ | refine w_lstF ?_ | refine e_and ?_ | refine e_or ?_ | refine w_not ?_ | refine w_neg ?_ | refine w_ite ?_ | refine w_cmp ?_ | refine w_chain ?_ | refine w_slice ?_ | refine w_oN ?_ | refine w_oS ?_ | refine t_val' ?_ | refine t_cmp' ?_ | refine t_chain' ?_ | refine t_not' ?_ | refine t_and' ?_ | refine t_or' ?_ | refine ts_nil ?_ | refine ts_cons ?_ | refine x_nil ?_ | refine x_set ?_ | refine x_expr ?_ | refine x_ret ?_ | refine x_retN ?_ | refine x_ifs ?_ | refine x_setIx ?_ | refine x_unpack ?_ | refine l_add ?_ | refine l_sub ?_ | refine l_eqI ?_ | refine l_neI ?_ | refine l_eqB ?_ | refine l_neB ?_ | refine l_lt ?_ | refine l_le ?_ | refine l_gt ?_ | refine l_ge ?_ | refine ifT' rfl ?_ | refine ifF' rfl ?_ | refine ⟨_, rfl, ?_⟩ | refine ⟨rfl, ?_⟩ | refine ⟨Nat.le_of_ble_eq_true rfl, ?_⟩ | refine WC_some rfl ?_ | refine W_some rfl ?_))
  refine x_cons ?_
  refine x_ret ?_
  refine e_and ?_
  refine w_cmp ?_
  refine w_blt ?_
  refine w_cons ?_
  refine w_var rfl ?_
  refine w_nil ?_
  refine W_some (d := D.int (l.map D.str).length) (S := o :: .lst (l.map .str) :: R) rfl ?_
  refine w_blt ?_
  refine w_cons ?_
  refine w_var rfl ?_
  refine w_nil ?_
  refine W_some (d := D.int (l.map D.str).length) (S := o :: .lst (l.map .str) :: R) rfl ?_
  refine l_eqI ?_
  refine ⟨_, rfl, ?_⟩
  refine ifT' (beq_self_eq_true _) ?_
  refine w_blt ?_
  refine w_cons ?_
  refine w_mapR (rngL 0 l.length) (l.map fun _ => .bl true) (by simpa [rngL] using hz) (by simp [rngL]) (r_rng ?_)
  refine w_blt ?_
  refine w_cons ?_
  refine w_var rfl ?_
  refine w_nil ?_
  refine W_some (d := D.int (l.map D.str).length) (S := o :: .lst (l.map .str) :: R) rfl ?_
  rw [List.length_map]
  refine ⟨_, rfl, ⟨by omega, by omega⟩, ?_⟩
  refine ⟨by simp [rngL], rfl, fun i x y hx hy => ?_, ?_⟩
  · obtain ⟨hlt, rfl⟩ := rng_get (show (rngL 0 l.length)[i]? = some x from hx)
    have g1 : l[i]? = some (l[i]'hlt) := List.getElem?_eq_getElem hlt
    have g2 : (l.map D.str)[i]? = some (.str (l[i]'hlt)) := by rw [List.getElem?_map, g1]; rfl
    rw [List.getElem?_map, g1] at hy
    cases hy
    refine ⟨_, rfl, ?_⟩
    refine w_call ?_
    refine w_cons ?_
    refine w_ix ?_
    refine w_var (x := .lst (l.map .str)) rfl ?_
    refine w_var (x := .int (i : Int)) rfl ?_
    refine l_ixL g2 ?_
    refine w_cons ?_
    refine w_ix ?_
    refine w_var (x := .ref 1) rfl ?_
    refine w_var (x := .int (i : Int)) rfl ?_
    refine l_ixR rfl g2 ?_
    refine w_nil ?_
    exact same (n := 0) (k := k) (h _ (List.getElem_mem hlt)) hS ⟨rfl, rfl⟩
  · refine w_nil ?_
    refine l_all ?_
    have e : (l.all fun _ => true) = true := by simp
    rw [e]
    exact fin_same rfl hS rfl q
end Tt.L
end

section
/-! k64: the law's own texts. -/
namespace Tt.L
open PySem Tt Tt.P
abbrev st (i : Nat) : Sm := b34.getD i .retN
theorem big200 : (3000 : Nat) ≤ sizeLine := by decide
theorem st4 {cal : Cal} {l : List Pr2} {S : Sto} {Q : Fl → En → Sto → Prop} {a0 a1 a3 a4 a6 a7 a8 a9 a10 a11 a12 a13 a14 a15 a16 a17 a18 a19 a20 a21 : Option D} {a5 : Option D} (hg : SgGood l) (q : Q .nx [a0, a1, some (sgD l), a3, a4, some (.ref S.length), a6, a7, a8, a9, a10, a11, a12, a13, a14, a15, a16, a17, a18, a19, a20, a21] (S ++ [.lst [.str (sgS l)]])) :
    WS (ex cal 60 (st 4) [a0, a1, some (sgD l), a3, a4, a5, a6, a7, a8, a9, a10, a11, a12, a13, a14, a15, a16, a17, a18, a19, a20, a21] S) Q := by
  have big := big200
  have hlen := hg.len
  refine x_set ?_
  refine w_lstF ?_
  refine w_cons ?_
  refine w_meth ?_
  refine w_cst ?_
  refine ⟨rfl, ?_⟩
  refine w_cons ?_
  refine w_mapR (l.map prD) ((l.map prS).map .str) (by rw [List.length_map]; omega) (by simp) (r_seq ?_)
  refine w_var rfl ?_
  refine WC_some rfl ⟨rfl, rfl, fun i x y hx hy => ?_, ?_⟩
  · simp only [List.getElem?_map, Option.map_eq_some_iff] at hx hy
    obtain ⟨p, g1, rfl⟩ := hx
    obtain ⟨_, ⟨p', g2, rfl⟩, rfl⟩ := hy
    rw [g1] at g2; cases g2
    have g := hg.pr p (List.mem_of_getElem? g1)
    have s1 := tx2 g.t
    have s2 := strI_size g.d0 g.d1
    have s3 : ("/": Str).cps.size = 1 := by decide +kernel
    refine ⟨_, rfl, ?_⟩
    refine w_bin ?_
    refine w_bin ?_
    refine w_var (x := .str p.1) rfl ?_
    refine w_cst ?_
    refine l_cat (by show p.1.cps.size + ("/": Str).cps.size ≤ sizeLine; omega) ?_
    refine w_blt ?_
    refine w_cons ?_
    refine w_var (x := .int p.2) rfl ?_
    refine w_nil ?_
    refine l_str g.d0 g.d1 ?_
    refine l_cat (by show (p.1 ++ "/").cps.size + (strI p.2).cps.size ≤ sizeLine; rw [app_size]; omega) ?_
    exact ⟨rfl, rfl⟩
  refine w_nil ?_
  refine l_join rfl ?_ ?_
  · have e2 : (" ": Str).length = 1 := by decide +kernel
    have e3 := sum_le (l := (l.map prS).map (·.length)) (b := 102) fun n hn => by
      obtain ⟨_, hx, rfl⟩ := List.mem_map.mp hn
      obtain ⟨p, hp, rfl⟩ := List.mem_map.mp hx
      exact prS_size (hg.pr p hp)
    rw [List.length_map, List.length_map] at e3
    rw [List.length_map, e2]
    omega
  refine w_nil ?_
  refine ⟨by show 1 ≤ sizeLine; omega, ?_⟩
  exact q
def hdS (many : Int) (ends : List Int) : Str := Txt.join " " ((many :: ends).map strI)
theorem st5 {cal : Cal} {l : List Pr2} {many : Int} {ms : List Am} {ends : List Int} {S : Sto} {Q : Fl → En → Sto → Prop} {a0 a1 a2 a4 a5 a6 a7 a8 a9 a10 a11 a12 a13 a14 a15 a16 a17 a18 a19 a20 a21 : Option D} (g : AuGood l many ms ends) (q : Q .nx [a0, a1, a2, some (auD many ms ends), a4, a5, some (.ref S.length), a7, a8, a9, a10, a11, a12, a13, a14, a15, a16, a17, a18, a19, a20, a21] (S ++ [.lst [.str (hdS many ends)]])) :
    WS (ex cal 60 (st 5) [a0, a1, a2, some (auD many ms ends), a4, a5, a6, a7, a8, a9, a10, a11, a12, a13, a14, a15, a16, a17, a18, a19, a20, a21] S) Q := by
  have big := big200
  have hel := g.el
  have hdg := g.dgs
  have sp1 : (" ": Str).length = 1 := by decide +kernel
  refine x_set ?_
  refine w_lstF ?_
  refine w_cons ?_
  refine w_meth ?_
  refine w_cst ?_
  refine ⟨rfl, ?_⟩
  refine w_cons ?_
  refine strs_of (l := many :: ends) (d := 54) (by rw [List.length_cons]; omega) hdg (by show 18 < 22; decide) (fun {Q'} q' => ?_) ?_
  · refine w_bin ?_
    refine w_tup ?_
    refine w_cons ?_
    refine w_ix ?_
    refine w_var rfl ?_
    refine w_cst ?_
    refine l_ixT (i := 0) (x := .int many) rfl ?_
    refine w_nil ?_
    refine ⟨by show 1 ≤ sizeLine; omega, ?_⟩
    refine w_ix ?_
    refine w_var rfl ?_
    refine w_cst ?_
    refine l_ixT (i := 2) (x := .tup (ends.map .int)) rfl ?_
    refine l_catT (by rw [List.length_map]; show 1 + ends.length ≤ sizeLine; omega) ?_
    exact q'
  refine w_nil ?_
  refine l_join rfl (by rw [sum_one hdg, List.length_map, sp1]; simp only [List.length_cons]; omega) ?_
  refine w_nil ?_
  refine ⟨by show 1 ≤ sizeLine; omega, ?_⟩
  exact q
theorem st6 {cal : Cal} {l : List Pr2} {many : Int} {ms : List Am} {ends : List Int} {S : Sto} {Q : Fl → En → Sto → Prop} {a0 a1 a2 a4 a5 a7 a8 a9 a10 a11 a12 a13 a14 a15 a16 a17 a18 a19 a20 a21 : Option D} (hg : SgGood l) (g : AuGood l many ms ends)
    (q : ∀ b9 b10 b11 : Option D, Q .nx [a0, a1, a2, some (auD many ms ends), a4, a5, some (.ref S.length), a7, a8, b9, b10, b11, a12, a13, a14, a15, a16, a17, a18, a19, a20, a21] (S ++ [.lst ((hdS many ends :: ms.map Am.S).map .str)])) :
    WS (ex cal 60 (st 6) [a0, a1, a2, some (auD many ms ends), a4, a5, some (.ref S.length), a7, a8, a9, a10, a11, a12, a13, a14, a15, a16, a17, a18, a19, a20, a21] (S ++ [.lst [.str (hdS many ends)]])) Q := by
  have big := big200
  have hml := g.ml
  have h4 := g.m4
  have sp1 : (" ": Str).length = 1 := by decide +kernel
  refine x_for ?_
  refine r_seq ?_
  refine w_ix ?_
  refine w_var rfl ?_
  refine w_cst ?_
  refine l_ixT (i := 1) (x := .tup (ms.map Am.D)) rfl ?_
  refine WC_some rfl ?_
  refine for_inv (l := ms.map Am.D) (fun (i : Nat) (e : En) (S' : Sto) => ∃ (b9 b10 b11 : Option D), S' = S ++ [.lst ((hdS many ends :: (ms.take i).map Am.S).map .str)] ∧ e = [a0, a1, a2, some (auD many ms ends), a4, a5, some (.ref S.length), a7, a8, b9, b10, b11, a12, a13, a14, a15, a16, a17, a18, a19, a20, a21]) rfl ⟨_, _, _, rfl, rfl⟩ (fun i e S' h => rfl) ?_ ?_
  · rintro i x e S' hx ⟨b9, b10, b11, rfl, rfl⟩
    rw [List.getElem?_map, Option.map_eq_some_iff] at hx
    obtain ⟨m, hm, rfl⟩ := hx
    have gm := g.mg m (List.mem_of_getElem? hm)
    obtain ⟨gg, _, _⟩ := gm.good hg h4
    have gl := gg.l
    have hdg := gm.dgs h4
    refine ⟨_, rfl, ?_⟩
    refine x_cons ?_
    refine x_expr ?_
    refine w_meth ?_
    refine w_var rfl ?_
    refine ⟨chk_app get_last, ?_⟩
    refine w_cons ?_
    refine w_meth ?_
    refine w_cst ?_
    refine ⟨rfl, ?_⟩
    refine w_cons ?_
    refine w_bin ?_
    refine w_lstT ?_
    refine w_cons ?_
    refine w_var (x := .str m.w) rfl ?_
    refine w_nil ?_
    refine ⟨by show 1 ≤ sizeLine; omega, ?_⟩
    refine strs_of (l := m.a ++ [m.e]) (d := 52) (by rw [List.length_append, List.length_cons, List.length_nil]; omega) hdg (by show 20 < 22; decide) (fun {Q'} q' => ?_) ?_
    · refine w_bin ?_
      refine w_var (x := .tup (m.a.map .int)) rfl ?_
      refine w_tup ?_
      refine w_cons ?_
      refine w_var (x := .int m.e) rfl ?_
      refine w_nil ?_
      refine ⟨by show 1 ≤ sizeLine; omega, ?_⟩
      refine l_catT (by rw [List.length_map]; show m.a.length + 1 ≤ sizeLine; omega) ?_
      have e : (m.a ++ [m.e]).map D.int = m.a.map D.int ++ [.int m.e] := by rw [List.map_append]; rfl
      rw [e] at q'
      exact q'
    refine l_catL (by simp only [List.length_cons, List.length_nil, List.length_map, List.length_append]; omega) ?_
    refine w_nil ?_
    refine l_join (l := m.w :: (m.a ++ [m.e]).map strI) rfl (by
      have := am_sum gg
      rw [sp1]
      simp only [List.length_cons, List.length_map, List.length_append, List.length_nil]
      omega) ?_
    refine w_nil ?_
    refine l_app get_last (by simp only [List.length_map, List.length_cons, List.length_take]; omega) ?_
    refine x_nil ?_
    refine ⟨_, _, _, ?_, rfl⟩
    rw [set_last, List.take_succ, hm]
    simp [Am.S]
  · rintro e S' ⟨b9, b10, b11, rfl, rfl⟩
    rw [List.length_map, List.take_length]
    exact q b9 b10 b11
end Tt.L
end

section
/-! k64: the law's own texts, II. -/
namespace Tt.L
open PySem Tt Tt.P
theorem app_text {cal : Cal} {n : Nat} {T : Str} {ls tt : List Str} {S : Sto} {Q : Fl → En → Sto → Prop} {a0 a1 a2 a3 a4 a7 a8 a9 a10 a11 a12 a13 a14 a15 a16 a17 a18 a19 a20 a21 : Option D} (hs : st n = .expr (.meth .append (.var 5) [(.meth .join (.cst (.str ("\n" : Str))) [(.var 6)])]))
    {r : Nat} (h5 : S[1]? = some (.lst (tt.map .str))) (h6 : S[r]? = some (.lst (ls.map .str))) (hT : T = Txt.join "\n" ls) (hz : (ls.map (·.length)).sum + ls.length ≤ 3000) (htt : tt.length ≤ 3)
    (q : Q .nx [a0, a1, a2, a3, a4, some (.ref 1), some (.ref r), a7, a8, a9, a10, a11, a12, a13, a14, a15, a16, a17, a18, a19, a20, a21] (S.set 1 (.lst ((tt ++ [T]).map .str)))) :
    WS (ex cal 60 (st n) [a0, a1, a2, a3, a4, some (.ref 1), some (.ref r), a7, a8, a9, a10, a11, a12, a13, a14, a15, a16, a17, a18, a19, a20, a21] S) Q := by
  have big := big200
  have n1 : ("\n": Str).length = 1 := by decide +kernel
  rw [hs]
  refine x_expr ?_
  refine w_meth ?_
  refine w_var rfl ?_
  refine ⟨chk_app h5, ?_⟩
  refine w_cons ?_
  refine w_meth ?_
  refine w_cst ?_
  refine ⟨rfl, ?_⟩
  refine w_cons ?_
  refine w_var rfl ?_
  refine w_nil ?_
  refine l_join (l := ls) (by simp only [litems, h6]) (by rw [n1]; omega) ?_
  refine w_nil ?_
  refine l_app h5 (by rw [List.length_map]; omega) ?_
  rw [hT, List.map_append] at q
  exact q
theorem st8 {cal : Cal} {many : Int} {ms : List Mv} {S : Sto} {Q : Fl → En → Sto → Prop} {a0 a1 a2 a3 a5 a6 a7 a8 a9 a10 a11 a12 a13 a14 a15 a16 a17 a18 a19 a20 a21 : Option D} (h1 : 1 ≤ many) (h3 : many ≤ 3) (q : Q .nx [a0, a1, a2, a3, some (mcD many ms), a5, some (.ref S.length), a7, a8, a9, a10, a11, a12, a13, a14, a15, a16, a17, a18, a19, a20, a21] (S ++ [.lst [.str (strI many)]])) :
    WS (ex cal 60 (st 8) [a0, a1, a2, a3, some (mcD many ms), a5, a6, a7, a8, a9, a10, a11, a12, a13, a14, a15, a16, a17, a18, a19, a20, a21] S) Q := by
  have big := big200
  refine x_set ?_
  refine w_lstF ?_
  refine w_cons ?_
  refine w_blt ?_
  refine w_cons ?_
  refine w_ix ?_
  refine w_var rfl ?_
  refine w_cst ?_
  refine l_ixT (i := 0) (x := .int many) rfl ?_
  refine w_nil ?_
  refine l_str (by omega) (by omega) ?_
  refine w_nil ?_
  refine ⟨by show 1 ≤ sizeLine; omega, ?_⟩
  exact q
theorem st9 {cal : Cal} {many : Int} {ms : List Mv} {S : Sto} {Q : Fl → En → Sto → Prop} {a0 a1 a2 a3 a5 a7 a8 a9 a10 a11 a12 a13 a14 a15 a16 a17 a18 a19 a20 a21 : Option D} (h3 : many ≤ 3) (h4 : ms.length ≤ 4) (hg : ∀ m ∈ ms, MvGood many m)
    (q : ∀ b12 b13 : Option D, Q .nx [a0, a1, a2, a3, some (mcD many ms), a5, some (.ref S.length), a7, a8, a9, a10, a11, b12, b13, a14, a15, a16, a17, a18, a19, a20, a21] (S ++ [.lst ((strI many :: ms.map mvS).map .str)])) :
    WS (ex cal 60 (st 9) [a0, a1, a2, a3, some (mcD many ms), a5, some (.ref S.length), a7, a8, a9, a10, a11, a12, a13, a14, a15, a16, a17, a18, a19, a20, a21] (S ++ [.lst [.str (strI many)]])) Q := by
  have big := big200
  have co1 : (",": Str).length = 1 := by decide +kernel
  have s3 : (" ": Str).cps.size = 1 := by decide +kernel
  refine x_for ?_
  refine r_seq ?_
  refine w_ix ?_
  refine w_var rfl ?_
  refine w_cst ?_
  refine l_ixT (i := 1) (x := .tup (ms.map mvD)) rfl ?_
  refine WC_some rfl ?_
  refine for_inv (l := ms.map mvD) (fun (i : Nat) (e : En) (S' : Sto) => ∃ (b12 b13 : Option D), S' = S ++ [.lst ((strI many :: (ms.take i).map mvS).map .str)] ∧ e = [a0, a1, a2, a3, some (mcD many ms), a5, some (.ref S.length), a7, a8, a9, a10, a11, b12, b13, a14, a15, a16, a17, a18, a19, a20, a21]) rfl ⟨_, _, rfl, rfl⟩ (fun i e S' h => rfl) ?_ ?_
  · rintro i x e S' hx ⟨b12, b13, rfl, rfl⟩
    rw [List.getElem?_map, Option.map_eq_some_iff] at hx
    obtain ⟨m, hm, rfl⟩ := hx
    have g := hg m (List.mem_of_getElem? hm)
    have e1 := g.l1
    have e2 := g.l2
    have s1 := cntS_size g.d1
    have s2 := cntS_size g.d2
    refine ⟨_, rfl, ?_⟩
    refine x_cons ?_
    refine x_expr ?_
    refine w_meth ?_
    refine w_var rfl ?_
    refine ⟨chk_app get_last, ?_⟩
    refine w_cons ?_
    refine w_bin ?_
    refine w_bin ?_
    refine w_meth ?_
    refine w_cst ?_
    refine ⟨rfl, ?_⟩
    refine w_cons ?_
    refine strs_of (l := m.1) (d := 51) (by omega) g.d1 (by show 21 < 22; decide) (fun {Q'} q' => w_var (x := .tup (m.1.map .int)) rfl q') ?_
    refine w_nil ?_
    refine l_join (l := m.1.map strI) rfl (by rw [sum_one g.d1, List.length_map, co1]; omega) ?_
    refine w_cst ?_
    refine l_cat (by show (cntS m.1).cps.size + (" ": Str).cps.size ≤ sizeLine; omega) ?_
    refine w_meth ?_
    refine w_cst ?_
    refine ⟨rfl, ?_⟩
    refine w_cons ?_
    refine strs_of (l := m.2) (d := 52) (by omega) g.d2 (by show 21 < 22; decide) (fun {Q'} q' => w_var (x := .tup (m.2.map .int)) rfl q') ?_
    refine w_nil ?_
    refine l_join (l := m.2.map strI) rfl (by rw [sum_one g.d2, List.length_map, co1]; omega) ?_
    refine l_cat (by show (cntS m.1 ++ " ").cps.size + (cntS m.2).cps.size ≤ sizeLine; rw [app_size]; omega) ?_
    refine w_nil ?_
    refine l_app get_last (by simp only [List.length_map, List.length_cons, List.length_take]; omega) ?_
    refine x_nil ?_
    refine ⟨_, _, ?_, rfl⟩
    rw [set_last, List.take_succ, hm]
    simp [mvS, cntS]
  · rintro e S' ⟨b12, b13, rfl, rfl⟩
    rw [List.length_map, List.take_length]
    exact q b12 b13
end Tt.L
end

section
/-! k64: what is turned. -/
namespace Tt.L
open PySem Tt Tt.P
def outB : List Sm := match st 13 with
  | .for_ _ _ b => b
  | _ => []
theorem fin_zero {df : Df} {d : D} {S : Sto} {Q : D → Sto → Prop} (hk : df.keep = false) (hd : puD d = true) (q : Q d []) : W (fin df 0 d S) Q := fin_pure hk hd (by simp) (by simpa using q)
theorem turn0 {k : Nat} {l : List Pr2} {am : Int} {ams : List Am} {ends : List Int} {mm : Int} {mvs : List Mv} {o X Y : O} {a0 a9 a10 a11 a12 a13 a14 a15 a16 a17 a18 a19 a20 a21 : Option D} (hg : SgGood l) (ga : AuGood l am ams ends) (b1 : 1 ≤ mm) (b3 : mm ≤ 3) (b4 : mvs.length ≤ 4) (gm : ∀ m ∈ mvs, MvGood mm m) (ho : Stm o) (hX : puO X = true) (hY : puO Y = true) :
    WS (exs (ex (calls pg (k + 6)) 59) outB [a0, some (.ref 0), some (sgD l), some (auD am ams ends), some (mcD mm mvs), some (.ref 1), some (.ref 3), some (.lst [sgD l, auD am ams ends, mcD mm mvs]), some (.int 0), a9, a10, a11, a12, a13, a14, a15, a16, a17, a18, a19, a20, a21] [o, .lst ([sgS l, auS am ams ends, mchS mm mvs].map .str), X, Y]) fun fl e2 S2 => fl = .nx ∧ ∃ (o' : O) (c14 c15 c16 c17 : Option D), Stm o' ∧ e2 = [a0, some (.ref 0), some (sgD l), some (auD am ams ends), some (mcD mm mvs), some (.ref 1), some (.ref 3), some (.lst [sgD l, auD am ams ends, mcD mm mvs]), some (.int 0), a9, a10, a11, a12, a13, c14, c15, c16, c17, a18, a19, a20, a21] ∧ S2 = [o', .lst ([sgS l, auS am ams ends, mchS mm mvs].map .str), X, Y] := by
  have big := big200
  obtain ⟨hT, hTz⟩ := sgS_tx hg
  have hR : ([.lst ([sgS l, auS am ams ends, mchS mm mvs].map .str), X, Y] : Sto).all puO = true := by
    simp only [List.all_cons, List.all_nil, hX, hY, Bool.and_true]
    exact pu_strs _
  have hS : ∀ {o' : O}, Stm o' → ([o', .lst ([sgS l, auS am ams ends, mchS mm mvs].map .str), X, Y] : Sto).all puO = true := fun ho' => by rw [List.all_cons, ho'.pu, hR]; rfl
  refine x_cons ?_
  refine x_set ?_
  refine w_ix ?_
  refine w_lstT ?_
  refine w_cons ?_
  refine w_cst ?_
  refine w_cons ?_
  refine w_cst ?_
  refine w_cons ?_
  refine w_cst ?_
  refine w_nil ?_
  refine ⟨by show 3 ≤ sizeLine; omega, ?_⟩
  refine w_var rfl ?_
  refine l_ixL (i := 0) (x := .str "signature") rfl ?_
  refine x_cons ?_
  refine x_ifs ?_
  refine t_not' ?_
  refine t_val' ?_
  refine w_call ?_
  refine w_cons ?_
  refine w_call ?_
  refine w_cons ?_
  refine w_var rfl ?_
  refine w_cons ?_
  refine w_var rfl ?_
  refine w_cons ?_
  refine w_ix ?_
  refine w_var rfl ?_
  refine w_var rfl ?_
  refine l_ixR (n := 1) (i := 0) (x := .str (sgS l)) rfl rfl ?_
  refine w_nil ?_
  refine told_sig hT (hS ho) ?_
  have hb : lawD (rdS (sgS l)) = sgD l := by rw [rdS_back hg]; rfl
  refine w_cons ?_
  refine w_ix ?_
  refine w_var rfl ?_
  refine w_var rfl ?_
  refine l_ixL (i := 0) (x := sgD l) rfl ?_
  refine w_nil ?_
  have hso := rdS_sok (t := sgS l) hT
  rw [hb] at hso ⊢
  refine same (n := 5) hso (hS ho) ?_
  refine WC_some (d := true) rfl ?_
  refine ifF' rfl ?_
  refine x_nil ?_
  refine x_cons ?_
  refine x_set ?_
  refine w_ix ?_
  refine w_var rfl ?_
  refine w_var rfl ?_
  refine l_ixR (n := 1) (i := 0) (x := .str (sgS l)) rfl rfl ?_
  refine x_cons ?_
  refine x_for ?_
  refine r_rng ?_
  refine w_cst ?_
  refine ⟨_, rfl, ⟨by decide, by decide⟩, ?_⟩
  refine for_inv (l := rngL 0 4) (fun (j : Nat) (e : En) (S' : Sto) => ∃ (t : Str) (o' : O) (c16 c17 : Option D), Stm o' ∧ tx t = true ∧ t.cps.size ≤ 88 + 3 * j ∧ e = [a0, some (.ref 0), some (sgD l), some (auD am ams ends), some (mcD mm mvs), some (.ref 1), some (.ref 3), some (.lst [sgD l, auD am ams ends, mcD mm mvs]), some (.int 0), a9, a10, a11, a12, a13, some (.str "signature"), some (.str t), c16, c17, a18, a19, a20, a21] ∧ S' = [o', .lst ([sgS l, auS am ams ends, mchS mm mvs].map .str), X, Y]) rfl ⟨sgS l, o, _, _, ho, hT, hTz, rfl, rfl⟩ (fun j e S' h => rfl) ?_ ?_
  · rintro j x e S' hx ⟨t, o', c16, c17, ho', ht, hz, rfl, rfl⟩
    obtain ⟨hj, _⟩ := rng_get hx
    refine ⟨_, rfl, ?_⟩
    refine x_cons ?_
    refine x_set ?_
    refine w_call ?_
    refine w_cons ?_
    refine w_var rfl ?_
    refine w_cons ?_
    refine w_var rfl ?_
    refine w_nil ?_
    refine hurt ht (by omega) ho' hR fun t2 o2 ho2 ht2 hz2 => ?_
    refine x_cons ?_
    refine x_set ?_
    refine w_ite ?_
    refine t_cmp' ?_
    refine w_var rfl ?_
    refine w_cst ?_
    refine l_eqI ?_
    refine ifT' rfl ?_
    refine w_call ?_
    refine w_cons ?_
    refine w_var rfl ?_
    refine w_nil ?_
    refine signatureL ht2 (hS ho2) ?_
    refine x_cons ?_
    refine x_ifs ?_
    refine t_cmp' ?_
    refine w_var rfl ?_
    refine w_cst ?_
    refine l_eqI ?_
    refine ifF' rfl ?_
    refine x_nil ?_
    refine x_cons ?_
    refine x_ifs ?_
    refine t_not' ?_
    refine t_val' ?_
    refine w_call ?_
    refine w_cons ?_
    refine w_call ?_
    refine w_cons ?_
    refine w_var rfl ?_
    refine w_cons ?_
    refine w_var rfl ?_
    refine w_cons ?_
    refine w_var rfl ?_
    refine w_nil ?_
    refine told_sig ht2 (hS ho2) ?_
    refine w_cons ?_
    refine w_var rfl ?_
    refine w_nil ?_
    refine same (n := 5) (rdS_sok ht2) (hS ho2) ?_
    refine WC_some (d := true) rfl ?_
    refine ifF' rfl ?_
    refine x_nil ?_
    refine x_nil ?_
    exact ⟨t2, o2, _, _, ho2, ht2, by omega, rfl, rfl⟩
  · rintro e S' ⟨t, o', c16, c17, ho', ht, hz, rfl, rfl⟩
    refine x_nil ?_
    exact ⟨rfl, o', _, _, _, _, ho', rfl, rfl⟩
theorem turn1 {k : Nat} {l : List Pr2} {am : Int} {ams : List Am} {ends : List Int} {mm : Int} {mvs : List Mv} {o X Y : O} {a0 a9 a10 a11 a12 a13 a14 a15 a16 a17 a18 a19 a20 a21 : Option D} (hg : SgGood l) (ga : AuGood l am ams ends) (b1 : 1 ≤ mm) (b3 : mm ≤ 3) (b4 : mvs.length ≤ 4) (gm : ∀ m ∈ mvs, MvGood mm m) (ho : Stm o) (hX : puO X = true) (hY : puO Y = true) :
    WS (exs (ex (calls pg (k + 6)) 59) outB [a0, some (.ref 0), some (sgD l), some (auD am ams ends), some (mcD mm mvs), some (.ref 1), some (.ref 3), some (.lst [sgD l, auD am ams ends, mcD mm mvs]), some (.int 1), a9, a10, a11, a12, a13, a14, a15, a16, a17, a18, a19, a20, a21] [o, .lst ([sgS l, auS am ams ends, mchS mm mvs].map .str), X, Y]) fun fl e2 S2 => fl = .nx ∧ ∃ (o' : O) (c14 c15 c16 c17 : Option D), Stm o' ∧ e2 = [a0, some (.ref 0), some (sgD l), some (auD am ams ends), some (mcD mm mvs), some (.ref 1), some (.ref 3), some (.lst [sgD l, auD am ams ends, mcD mm mvs]), some (.int 1), a9, a10, a11, a12, a13, c14, c15, c16, c17, a18, a19, a20, a21] ∧ S2 = [o', .lst ([sgS l, auS am ams ends, mchS mm mvs].map .str), X, Y] := by
  have big := big200
  obtain ⟨hT, hTz⟩ := auS_tx hg ga
  have hR : ([.lst ([sgS l, auS am ams ends, mchS mm mvs].map .str), X, Y] : Sto).all puO = true := by
    simp only [List.all_cons, List.all_nil, hX, hY, Bool.and_true]
    exact pu_strs _
  have hS : ∀ {o' : O}, Stm o' → ([o', .lst ([sgS l, auS am ams ends, mchS mm mvs].map .str), X, Y] : Sto).all puO = true := fun ho' => by rw [List.all_cons, ho'.pu, hR]; rfl
  refine x_cons ?_
  refine x_set ?_
  refine w_ix ?_
  refine w_lstT ?_
  refine w_cons ?_
  refine w_cst ?_
  refine w_cons ?_
  refine w_cst ?_
  refine w_cons ?_
  refine w_cst ?_
  refine w_nil ?_
  refine ⟨by show 3 ≤ sizeLine; omega, ?_⟩
  refine w_var rfl ?_
  refine l_ixL (i := 1) (x := .str "set") rfl ?_
  refine x_cons ?_
  refine x_ifs ?_
  refine t_not' ?_
  refine t_val' ?_
  refine w_call ?_
  refine w_cons ?_
  refine w_call ?_
  refine w_cons ?_
  refine w_var rfl ?_
  refine w_cons ?_
  refine w_var rfl ?_
  refine w_cons ?_
  refine w_ix ?_
  refine w_var rfl ?_
  refine w_var rfl ?_
  refine l_ixR (n := 1) (i := 1) (x := .str (auS am ams ends)) rfl rfl ?_
  refine w_nil ?_
  refine told_set hg.ok hT (hS ho) ?_
  have hb : lawD (rdA (l.map prD) (auS am ams ends)) = auD am ams ends := by rw [rdA_back hg ga]; rfl
  refine w_cons ?_
  refine w_ix ?_
  refine w_var rfl ?_
  refine w_var rfl ?_
  refine l_ixL (i := 1) (x := auD am ams ends) rfl ?_
  refine w_nil ?_
  have hso := rdA_sok (t := auS am ams ends) (sg := l.map prD) hT
  rw [hb] at hso ⊢
  refine same (n := 5) hso (hS ho) ?_
  refine WC_some (d := true) rfl ?_
  refine ifF' rfl ?_
  refine x_nil ?_
  refine x_cons ?_
  refine x_set ?_
  refine w_ix ?_
  refine w_var rfl ?_
  refine w_var rfl ?_
  refine l_ixR (n := 1) (i := 1) (x := .str (auS am ams ends)) rfl rfl ?_
  refine x_cons ?_
  refine x_for ?_
  refine r_rng ?_
  refine w_cst ?_
  refine ⟨_, rfl, ⟨by decide, by decide⟩, ?_⟩
  refine for_inv (l := rngL 0 4) (fun (j : Nat) (e : En) (S' : Sto) => ∃ (t : Str) (o' : O) (c16 c17 : Option D), Stm o' ∧ tx t = true ∧ t.cps.size ≤ 88 + 3 * j ∧ e = [a0, some (.ref 0), some (sgD l), some (auD am ams ends), some (mcD mm mvs), some (.ref 1), some (.ref 3), some (.lst [sgD l, auD am ams ends, mcD mm mvs]), some (.int 1), a9, a10, a11, a12, a13, some (.str "set"), some (.str t), c16, c17, a18, a19, a20, a21] ∧ S' = [o', .lst ([sgS l, auS am ams ends, mchS mm mvs].map .str), X, Y]) rfl ⟨auS am ams ends, o, _, _, ho, hT, hTz, rfl, rfl⟩ (fun j e S' h => rfl) ?_ ?_
  · rintro j x e S' hx ⟨t, o', c16, c17, ho', ht, hz, rfl, rfl⟩
    obtain ⟨hj, _⟩ := rng_get hx
    refine ⟨_, rfl, ?_⟩
    refine x_cons ?_
    refine x_set ?_
    refine w_call ?_
    refine w_cons ?_
    refine w_var rfl ?_
    refine w_cons ?_
    refine w_var rfl ?_
    refine w_nil ?_
    refine hurt ht (by omega) ho' hR fun t2 o2 ho2 ht2 hz2 => ?_
    refine x_cons ?_
    refine x_set ?_
    refine w_ite ?_
    refine t_cmp' ?_
    refine w_var rfl ?_
    refine w_cst ?_
    refine l_eqI ?_
    refine ifF' rfl ?_
    refine w_call ?_
    refine w_cons ?_
    refine w_var rfl ?_
    refine w_nil ?_
    refine machineL ht2 (hS ho2) ?_
    refine x_cons ?_
    refine x_ifs ?_
    refine t_cmp' ?_
    refine w_var rfl ?_
    refine w_cst ?_
    refine l_eqI ?_
    refine ifT' rfl ?_
    refine x_cons ?_
    refine x_set ?_
    refine w_call ?_
    refine w_cons ?_
    refine w_var rfl ?_
    refine w_cons ?_
    refine w_var rfl ?_
    refine w_nil ?_
    refine automatonL hg.ok ht2 (hS ho2) ?_
    refine x_nil ?_
    refine x_cons ?_
    refine x_ifs ?_
    refine t_not' ?_
    refine t_val' ?_
    refine w_call ?_
    refine w_cons ?_
    refine w_call ?_
    refine w_cons ?_
    refine w_var rfl ?_
    refine w_cons ?_
    refine w_var rfl ?_
    refine w_cons ?_
    refine w_var rfl ?_
    refine w_nil ?_
    refine told_set hg.ok ht2 (hS ho2) ?_
    refine w_cons ?_
    refine w_var rfl ?_
    refine w_nil ?_
    refine same (n := 5) (rdA_sok (sg := l.map prD) ht2) (hS ho2) ?_
    refine WC_some (d := true) rfl ?_
    refine ifF' rfl ?_
    refine x_nil ?_
    refine x_nil ?_
    exact ⟨t2, o2, _, _, ho2, ht2, by omega, rfl, rfl⟩
  · rintro e S' ⟨t, o', c16, c17, ho', ht, hz, rfl, rfl⟩
    refine x_nil ?_
    exact ⟨rfl, o', _, _, _, _, ho', rfl, rfl⟩
theorem turn2 {k : Nat} {l : List Pr2} {am : Int} {ams : List Am} {ends : List Int} {mm : Int} {mvs : List Mv} {o X Y : O} {a0 a9 a10 a11 a12 a13 a14 a15 a16 a17 a18 a19 a20 a21 : Option D} (hg : SgGood l) (ga : AuGood l am ams ends) (b1 : 1 ≤ mm) (b3 : mm ≤ 3) (b4 : mvs.length ≤ 4) (gm : ∀ m ∈ mvs, MvGood mm m) (ho : Stm o) (hX : puO X = true) (hY : puO Y = true) :
    WS (exs (ex (calls pg (k + 6)) 59) outB [a0, some (.ref 0), some (sgD l), some (auD am ams ends), some (mcD mm mvs), some (.ref 1), some (.ref 3), some (.lst [sgD l, auD am ams ends, mcD mm mvs]), some (.int 2), a9, a10, a11, a12, a13, a14, a15, a16, a17, a18, a19, a20, a21] [o, .lst ([sgS l, auS am ams ends, mchS mm mvs].map .str), X, Y]) fun fl e2 S2 => fl = .nx ∧ ∃ (o' : O) (c14 c15 c16 c17 : Option D), Stm o' ∧ e2 = [a0, some (.ref 0), some (sgD l), some (auD am ams ends), some (mcD mm mvs), some (.ref 1), some (.ref 3), some (.lst [sgD l, auD am ams ends, mcD mm mvs]), some (.int 2), a9, a10, a11, a12, a13, c14, c15, c16, c17, a18, a19, a20, a21] ∧ S2 = [o', .lst ([sgS l, auS am ams ends, mchS mm mvs].map .str), X, Y] := by
  have big := big200
  obtain ⟨hT, hTz⟩ := mchS_tx b1 b3 b4 gm
  have hR : ([.lst ([sgS l, auS am ams ends, mchS mm mvs].map .str), X, Y] : Sto).all puO = true := by
    simp only [List.all_cons, List.all_nil, hX, hY, Bool.and_true]
    exact pu_strs _
  have hS : ∀ {o' : O}, Stm o' → ([o', .lst ([sgS l, auS am ams ends, mchS mm mvs].map .str), X, Y] : Sto).all puO = true := fun ho' => by rw [List.all_cons, ho'.pu, hR]; rfl
  refine x_cons ?_
  refine x_set ?_
  refine w_ix ?_
  refine w_lstT ?_
  refine w_cons ?_
  refine w_cst ?_
  refine w_cons ?_
  refine w_cst ?_
  refine w_cons ?_
  refine w_cst ?_
  refine w_nil ?_
  refine ⟨by show 3 ≤ sizeLine; omega, ?_⟩
  refine w_var rfl ?_
  refine l_ixL (i := 2) (x := .str "machine") rfl ?_
  refine x_cons ?_
  refine x_ifs ?_
  refine t_not' ?_
  refine t_val' ?_
  refine w_call ?_
  refine w_cons ?_
  refine w_call ?_
  refine w_cons ?_
  refine w_var rfl ?_
  refine w_cons ?_
  refine w_var rfl ?_
  refine w_cons ?_
  refine w_ix ?_
  refine w_var rfl ?_
  refine w_var rfl ?_
  refine l_ixR (n := 1) (i := 2) (x := .str (mchS mm mvs)) rfl rfl ?_
  refine w_nil ?_
  refine told_mach hT (hS ho) ?_
  have hb : lawD (rdM (mchS mm mvs)) = mcD mm mvs := by rw [rdM_back b1 b3 b4 gm]; rfl
  refine w_cons ?_
  refine w_ix ?_
  refine w_var rfl ?_
  refine w_var rfl ?_
  refine l_ixL (i := 2) (x := mcD mm mvs) rfl ?_
  refine w_nil ?_
  have hso := rdM_sok (t := mchS mm mvs) hT
  rw [hb] at hso ⊢
  refine same (n := 5) hso (hS ho) ?_
  refine WC_some (d := true) rfl ?_
  refine ifF' rfl ?_
  refine x_nil ?_
  refine x_cons ?_
  refine x_set ?_
  refine w_ix ?_
  refine w_var rfl ?_
  refine w_var rfl ?_
  refine l_ixR (n := 1) (i := 2) (x := .str (mchS mm mvs)) rfl rfl ?_
  refine x_cons ?_
  refine x_for ?_
  refine r_rng ?_
  refine w_cst ?_
  refine ⟨_, rfl, ⟨by decide, by decide⟩, ?_⟩
  refine for_inv (l := rngL 0 4) (fun (j : Nat) (e : En) (S' : Sto) => ∃ (t : Str) (o' : O) (c16 c17 : Option D), Stm o' ∧ tx t = true ∧ t.cps.size ≤ 88 + 3 * j ∧ e = [a0, some (.ref 0), some (sgD l), some (auD am ams ends), some (mcD mm mvs), some (.ref 1), some (.ref 3), some (.lst [sgD l, auD am ams ends, mcD mm mvs]), some (.int 2), a9, a10, a11, a12, a13, some (.str "machine"), some (.str t), c16, c17, a18, a19, a20, a21] ∧ S' = [o', .lst ([sgS l, auS am ams ends, mchS mm mvs].map .str), X, Y]) rfl ⟨mchS mm mvs, o, _, _, ho, hT, hTz, rfl, rfl⟩ (fun j e S' h => rfl) ?_ ?_
  · rintro j x e S' hx ⟨t, o', c16, c17, ho', ht, hz, rfl, rfl⟩
    obtain ⟨hj, _⟩ := rng_get hx
    refine ⟨_, rfl, ?_⟩
    refine x_cons ?_
    refine x_set ?_
    refine w_call ?_
    refine w_cons ?_
    refine w_var rfl ?_
    refine w_cons ?_
    refine w_var rfl ?_
    refine w_nil ?_
    refine hurt ht (by omega) ho' hR fun t2 o2 ho2 ht2 hz2 => ?_
    refine x_cons ?_
    refine x_set ?_
    refine w_ite ?_
    refine t_cmp' ?_
    refine w_var rfl ?_
    refine w_cst ?_
    refine l_eqI ?_
    refine ifF' rfl ?_
    refine w_call ?_
    refine w_cons ?_
    refine w_var rfl ?_
    refine w_nil ?_
    refine machineL ht2 (hS ho2) ?_
    refine x_cons ?_
    refine x_ifs ?_
    refine t_cmp' ?_
    refine w_var rfl ?_
    refine w_cst ?_
    refine l_eqI ?_
    refine ifF' rfl ?_
    refine x_nil ?_
    refine x_cons ?_
    refine x_ifs ?_
    refine t_not' ?_
    refine t_val' ?_
    refine w_call ?_
    refine w_cons ?_
    refine w_call ?_
    refine w_cons ?_
    refine w_var rfl ?_
    refine w_cons ?_
    refine w_var rfl ?_
    refine w_cons ?_
    refine w_var rfl ?_
    refine w_nil ?_
    refine told_mach ht2 (hS ho2) ?_
    refine w_cons ?_
    refine w_var rfl ?_
    refine w_nil ?_
    refine same (n := 5) (rdM_sok ht2) (hS ho2) ?_
    refine WC_some (d := true) rfl ?_
    refine ifF' rfl ?_
    refine x_nil ?_
    refine x_nil ?_
    exact ⟨t2, o2, _, _, ho2, ht2, by omega, rfl, rfl⟩
  · rintro e S' ⟨t, o', c16, c17, ho', ht, hz, rfl, rfl⟩
    refine x_nil ?_
    exact ⟨rfl, o', _, _, _, _, ho', rfl, rfl⟩
end Tt.L
end

section
/-! k64: the law. -/
namespace Tt.L
open PySem Tt Tt.P
theorem law {k : Nat} {ns : List Int} (hl : ns.length ≤ 63) : WO (calls pg (k + 7) 34 [.fzl (ns.map .int)] []) fun d _ => d = .bl true := by
  refine call_run (di := d34) rfl (w_run rfl ?_)
  have big := big200
  refine x_cons ?_
  refine x_set ?_
  refine w_call ?_
  refine w_cons ?_
  refine w_var rfl ?_
  refine w_nil ?_
  refine stream hl fun o0 ho0 => ?_
  refine x_cons ?_
  refine x_set ?_
  refine w_call ?_
  refine w_cons ?_
  refine w_var rfl ?_
  refine w_nil ?_
  refine signatureD ho0 (R := []) rfl fun l o1 ho1 hg => ?_
  refine x_cons ?_
  refine x_set ?_
  refine w_call ?_
  refine w_cons ?_
  refine w_var rfl ?_
  refine w_cons ?_
  refine w_var rfl ?_
  refine w_nil ?_
  refine automatonD hg ho1 (R := []) rfl fun am ams ends o2 ho2 ga => ?_
  refine x_cons ?_
  refine x_set ?_
  refine w_call ?_
  refine w_cons ?_
  refine w_var rfl ?_
  refine w_cons ?_
  refine w_cst ?_
  refine w_nil ?_
  refine machineD ho2 (R := []) rfl fun mm mvs o ho b1 b3 b4 gm => ?_
  obtain ⟨t0, z0⟩ := sgS_tx hg
  obtain ⟨t1, z1⟩ := auS_tx hg ga
  obtain ⟨t2, z2⟩ := mchS_tx b1 b3 b4 gm
  refine x_cut (fun e S => e = [some (.fzl (ns.map .int)), some (.ref 0), some (sgD l), some (auD am ams ends), some (mcD mm mvs), some (.ref 1), none, none, none, none, none, none, none, none, none, none, none, none, none, none, none, none] ∧ S = [o, .lst [.str (sgS l)]]) (st4 hg ⟨rfl, rfl, rfl⟩) ?_
  rintro _ _ ⟨rfl, rfl⟩
  refine x_cut (fun e S => e = [some (.fzl (ns.map .int)), some (.ref 0), some (sgD l), some (auD am ams ends), some (mcD mm mvs), some (.ref 1), some (.ref 2), none, none, none, none, none, none, none, none, none, none, none, none, none, none, none] ∧ S = [o, .lst [.str (sgS l)], .lst [.str (hdS am ends)]]) (st5 ga ⟨rfl, rfl, rfl⟩) ?_
  rintro _ _ ⟨rfl, rfl⟩
  refine x_cut (fun e S => ∃ (b9 b10 b11 : Option D), e = [some (.fzl (ns.map .int)), some (.ref 0), some (sgD l), some (auD am ams ends), some (mcD mm mvs), some (.ref 1), some (.ref 2), none, none, b9, b10, b11, none, none, none, none, none, none, none, none, none, none] ∧ S = [o, .lst [.str (sgS l)], .lst ((hdS am ends :: ams.map Am.S).map .str)]) (st6 (S := [o, .lst [.str (sgS l)]]) hg ga fun b9 b10 b11 => ⟨rfl, b9, b10, b11, rfl, rfl⟩) ?_
  rintro _ _ ⟨b9, b10, b11, rfl, rfl⟩
  refine x_cut (fun e S => e = [some (.fzl (ns.map .int)), some (.ref 0), some (sgD l), some (auD am ams ends), some (mcD mm mvs), some (.ref 1), some (.ref 2), none, none, b9, b10, b11, none, none, none, none, none, none, none, none, none, none] ∧ S = [o, .lst ([sgS l, auS am ams ends].map .str), .lst ((hdS am ends :: ams.map Am.S).map .str)]) (app_text (n := 7) (r := 2) (tt := [sgS l]) (T := auS am ams ends) (ls := hdS am ends :: ams.map Am.S) rfl rfl rfl rfl ?_ (by simp only [List.length_cons, List.length_nil]; omega) ⟨rfl, rfl, rfl⟩) ?_
  · have hdg := ga.dgs
    have sp1 : (" ": Str).length = 1 := by decide +kernel
    have j1 := join_size " " ((am :: ends).map strI)
    rw [sum_one hdg, List.length_map, sp1, List.length_cons] at j1
    have j2 : (hdS am ends).length = (Str.join " " ((am :: ends).map strI)).cps.size := by unfold hdS; rw [TL.join_eq]; rfl
    have e3 := sum_le (l := (ams.map Am.S).map (·.length)) (b := 140) fun n hn => by
      obtain ⟨_, hx, rfl⟩ := List.mem_map.mp hn
      obtain ⟨m, hm, rfl⟩ := List.mem_map.mp hx
      exact am_size ((ga.mg m hm).good hg ga.m4).1
    rw [List.length_map, List.length_map] at e3
    rw [List.map_cons, List.sum_cons, List.length_cons, List.length_map, j2]
    have := ga.el
    have := ga.ml
    omega
  rintro _ _ ⟨rfl, rfl⟩
  refine x_cut (fun e S => e = [some (.fzl (ns.map .int)), some (.ref 0), some (sgD l), some (auD am ams ends), some (mcD mm mvs), some (.ref 1), some (.ref 3), none, none, b9, b10, b11, none, none, none, none, none, none, none, none, none, none] ∧ S = [o, .lst ([sgS l, auS am ams ends].map .str), .lst ((hdS am ends :: ams.map Am.S).map .str), .lst [.str (strI mm)]]) (st8 (S := [o, .lst ([sgS l, auS am ams ends].map .str), .lst ((hdS am ends :: ams.map Am.S).map .str)]) b1 b3 ⟨rfl, rfl, rfl⟩) ?_
  rintro _ _ ⟨rfl, rfl⟩
  refine x_cut (fun e S => ∃ (b12 b13 : Option D), e = [some (.fzl (ns.map .int)), some (.ref 0), some (sgD l), some (auD am ams ends), some (mcD mm mvs), some (.ref 1), some (.ref 3), none, none, b9, b10, b11, b12, b13, none, none, none, none, none, none, none, none] ∧ S = [o, .lst ([sgS l, auS am ams ends].map .str), .lst ((hdS am ends :: ams.map Am.S).map .str), .lst ((strI mm :: mvs.map mvS).map .str)]) (st9 (S := [o, .lst ([sgS l, auS am ams ends].map .str), .lst ((hdS am ends :: ams.map Am.S).map .str)]) b3 b4 gm fun b12 b13 => ⟨rfl, b12, b13, rfl, rfl⟩) ?_
  rintro _ _ ⟨b12, b13, rfl, rfl⟩
  refine x_cut (fun e S => e = [some (.fzl (ns.map .int)), some (.ref 0), some (sgD l), some (auD am ams ends), some (mcD mm mvs), some (.ref 1), some (.ref 3), none, none, b9, b10, b11, b12, b13, none, none, none, none, none, none, none, none] ∧ S = [o, .lst ([sgS l, auS am ams ends, mchS mm mvs].map .str), .lst ((hdS am ends :: ams.map Am.S).map .str), .lst ((strI mm :: mvs.map mvS).map .str)]) (app_text (n := 10) (r := 3) (tt := [sgS l, auS am ams ends]) (T := mchS mm mvs) (ls := strI mm :: mvs.map mvS) rfl rfl rfl rfl ?_ (by simp only [List.length_cons, List.length_nil]; omega) ⟨rfl, rfl, rfl⟩) ?_
  · have e1 : (strI mm).length = 1 := strI_size (by omega) (by omega)
    have e3 := sum_le (l := (mvs.map mvS).map (·.length)) (b := 21) fun n hn => by
      obtain ⟨_, hx, rfl⟩ := List.mem_map.mp hn
      obtain ⟨m, hm, rfl⟩ := List.mem_map.mp hx
      exact mvS_size (by omega) (gm m hm)
    rw [List.length_map, List.length_map] at e3
    rw [List.map_cons, List.sum_cons, List.length_cons, List.length_map, e1]
    omega
  rintro _ _ ⟨rfl, rfl⟩
  have hX : puO (.lst ((hdS am ends :: ams.map Am.S).map .str)) = true := pu_strs _
  have hY : puO (.lst ((strI mm :: mvs.map mvS).map .str)) = true := pu_strs _
  have hR : ([.lst ([sgS l, auS am ams ends, mchS mm mvs].map .str), .lst ((hdS am ends :: ams.map Am.S).map .str), .lst ((strI mm :: mvs.map mvS).map .str)] : Sto).all puO = true := by
    simp only [List.all_cons, List.all_nil, hX, hY, Bool.and_true]
    exact pu_strs _
  have hS : ([o, .lst ([sgS l, auS am ams ends, mchS mm mvs].map .str), .lst ((hdS am ends :: ams.map Am.S).map .str), .lst ((strI mm :: mvs.map mvS).map .str)] : Sto).all puO = true := by rw [List.all_cons, ho.pu, hR]; rfl
  refine x_cut (fun e S => e = [some (.fzl (ns.map .int)), some (.ref 0), some (sgD l), some (auD am ams ends), some (mcD mm mvs), some (.ref 1), some (.ref 3), none, none, b9, b10, b11, b12, b13, none, none, none, none, none, none, none, none] ∧ S = [o, .lst ([sgS l, auS am ams ends, mchS mm mvs].map .str), .lst ((hdS am ends :: ams.map Am.S).map .str), .lst ((strI mm :: mvs.map mvS).map .str)]) ?_ ?_
  · refine x_ifs ?_
    refine t_not' ?_
    refine t_val' ?_
    refine w_call ?_
    refine w_cons ?_
    refine w_lstT ?_
    refine w_cons ?_
    refine w_call ?_
    refine w_cons ?_
    refine w_var rfl ?_
    refine w_nil ?_
    refine signature_text hg.len hg.pr hS ?_
    refine w_cons ?_
    refine w_call ?_
    refine w_cons ?_
    refine w_var rfl ?_
    refine w_nil ?_
    have ham1 := ga.m1
    have ham4 := ga.m4
    have hael := ga.el
    have haml := ga.ml
    refine automaton_text (by omega) (by omega) (fun x hx => ga.dgs x (List.mem_cons_of_mem _ hx)) (by omega) (by omega) (fun m hm => ((ga.mg m hm).good hg ham4).1) hS ?_
    refine w_cons ?_
    refine w_call ?_
    refine w_cons ?_
    refine w_var rfl ?_
    refine w_nil ?_
    refine machine_text b1 (by omega) (by omega) gm hS ?_
    refine w_nil ?_
    refine ⟨by show 3 ≤ sizeLine; omega, ?_⟩
    refine w_cons ?_
    refine w_var rfl ?_
    refine w_nil ?_
    refine sameT (l := [sgS l, auS am ams ends, mchS mm mvs]) (fun w hw => ?_) (by show 3 ≤ 200; decide) hS ?_
    · simp only [List.mem_cons, List.not_mem_nil, or_false] at hw
      rcases hw with rfl | rfl | rfl
      · exact t0
      · exact t1
      · exact t2
    refine WC_some (d := true) rfl ?_
    refine ifF' rfl ?_
    refine x_nil ?_
    exact ⟨rfl, rfl, rfl⟩
  rintro _ _ ⟨rfl, rfl⟩
  refine x_cons ?_
  refine x_set ?_
  refine w_lstT ?_
  refine w_cons ?_
  refine w_var rfl ?_
  refine w_cons ?_
  refine w_var rfl ?_
  refine w_cons ?_
  refine w_var rfl ?_
  refine w_nil ?_
  refine ⟨by show 3 ≤ sizeLine; omega, ?_⟩
  refine x_cut (fun e S => ∃ (o' : O) (c8 c14 c15 c16 c17 : Option D), Stm o' ∧ e = [some (.fzl (ns.map .int)), some (.ref 0), some (sgD l), some (auD am ams ends), some (mcD mm mvs), some (.ref 1), some (.ref 3), some (.lst [sgD l, auD am ams ends, mcD mm mvs]), c8, b9, b10, b11, b12, b13, c14, c15, c16, c17, none, none, none, none] ∧ S = [o', .lst ([sgS l, auS am ams ends, mchS mm mvs].map .str), .lst ((hdS am ends :: ams.map Am.S).map .str), .lst ((strI mm :: mvs.map mvS).map .str)]) ?_ ?_
  · refine x_for ?_
    refine r_rng ?_
    refine w_cst ?_
    refine ⟨_, rfl, ⟨by decide, by decide⟩, ?_⟩
    refine for_inv (l := rngL 0 3) (fun (i : Nat) (e : En) (S : Sto) => ∃ (o' : O) (c8 c14 c15 c16 c17 : Option D), Stm o' ∧ e = [some (.fzl (ns.map .int)), some (.ref 0), some (sgD l), some (auD am ams ends), some (mcD mm mvs), some (.ref 1), some (.ref 3), some (.lst [sgD l, auD am ams ends, mcD mm mvs]), c8, b9, b10, b11, b12, b13, c14, c15, c16, c17, none, none, none, none] ∧ S = [o', .lst ([sgS l, auS am ams ends, mchS mm mvs].map .str), .lst ((hdS am ends :: ams.map Am.S).map .str), .lst ((strI mm :: mvs.map mvS).map .str)]) rfl ⟨o, _, _, _, _, _, ho, rfl, rfl⟩ (fun i e S' h => rfl) ?_ ?_
    · rintro i x e S' hx ⟨o', c8, c14, c15, c16, c17, ho', rfl, rfl⟩
      obtain ⟨hi, rfl⟩ := rng_get hx
      have h3 : i = 0 ∨ i = 1 ∨ i = 2 := by omega
      refine ⟨_, rfl, ?_⟩
      rcases h3 with rfl | rfl | rfl
      · refine WS.mono (turn0 hg ga b1 b3 b4 gm ho' hX hY) ?_
        rintro _ _ _ ⟨rfl, o2, d14, d15, d16, d17, ho2, rfl, rfl⟩
        exact ⟨o2, _, d14, d15, d16, d17, ho2, rfl, rfl⟩
      · refine WS.mono (turn1 hg ga b1 b3 b4 gm ho' hX hY) ?_
        rintro _ _ _ ⟨rfl, o2, d14, d15, d16, d17, ho2, rfl, rfl⟩
        exact ⟨o2, _, d14, d15, d16, d17, ho2, rfl, rfl⟩
      · refine WS.mono (turn2 hg ga b1 b3 b4 gm ho' hX hY) ?_
        rintro _ _ _ ⟨rfl, o2, d14, d15, d16, d17, ho2, rfl, rfl⟩
        exact ⟨o2, _, d14, d15, d16, d17, ho2, rfl, rfl⟩
    · rintro e S' h
      exact ⟨rfl, h⟩
  rintro _ _ ⟨o', c8, c14, c15, c16, c17, ho', rfl, rfl⟩
  refine x_cons ?_
  refine x_ret ?_
  refine w_cst ?_
  exact fin_zero rfl rfl rfl
theorem holdsH (ns : List Int) (hl : ns.length ≤ 63) : ∃ S', Tt.calls pg (20 + 1) 34 [.fzl (ns.map .int)] [] = some (.ok (.bl true), S') := by
  obtain ⟨r, S, e, d, rfl, rfl⟩ := law (k := 14) hl
  exact ⟨S, e⟩
end Tt.L
end
open PySem PySem.W PyProof.Rows
set_option maxRecDepth 100000 in
set_option maxHeartbeats 8000000 in
theorem PySem.Challenge.cw_termtide_k64_whole_texts_of_sets_holds : PySem.Challenge.rw_termtide_k64_whole_texts_of_sets.Holds := by
  exact Tt.P.holds 20 (by decide) Tt.L.holdsH
