import PyProof.Rows.All
import Wide.All
import OpenK.AllK
import Wide.FinOn
import PyProof.EqAt
import PyProof.EqKinds
import PyProof.TupleCall
import HandS.ForMost
import HandS.AnyAll
import HandS.GenList
import HandS.IsInst
import HandS.WordsExc
import HandS.ExcInit
import HandS.Conv
import PySem.Challenge.RW_livingclock_k65_whole_texts
import HandS.TupAny
import HandS.Zip
import HandS.Iter
import KE.GoesEnum
import KE.KDictZip
import HandS.Text
import HandS.ExcField
import HandS.Small
import HandS.List
import HandS.TupLe
import HandS.Exc
import HandS.Lambda
import HandS.Style
import KE.KEqSeq
import HandS.ReplaceLit
import KE.KRevSl
import PyProof.Rows.StrJoinRep
import PyProof.Rows.StrDouble
import KE.DataEq
import HandS.EndOwn
set_option Elab.async false
set_option linter.all false
set_option maxRecDepth 100000
set_option maxHeartbeats 4000000

/-! all(test for target in things): a generator expression whose element is any expression that the layer reads (calls of defs too), over anything that PI serves. -/
namespace GA
open PySem PySem.Spec PyProof.Rows L2 GenW

/-- the generator's own frame as a context: entered at s from the frames of X, its walked thing's records at fp -/
abbrev gcx (X : Cx) (A : Around) (s : Shared) (H : Hp) (genv : Env) (fp : List Addr) : Cx :=
  { X with A := A, s_0 := s, H_0 := H, env := genv, outer := X.stack, stack := genv :: X.stack, ex := fp, fn := fun _ => false, calm := true, pn := [], xe := fun _ _ => False }
/-- looks at the generator expression's scope -/
structure GSc (scope : Scope) : Prop where
  co : scope.isCoroutine = false
  cell : ∀ y ∈ scope.names, y.2 ≠ .cell
  dot : scope.names.lookup (".0" : Str) = some NameKind.local
def gscB (scope : Scope) : Bool := !scope.isCoroutine && scope.names.all (fun y => !decide (y.2 = .cell)) && decide (scope.names.lookup (".0" : Str) = some NameKind.local)
theorem gsc_by {scope : Scope} (h : gscB scope = true) : GSc scope := by
  unfold gscB at h
  simp only [Bool.and_eq_true, Bool.not_eq_true', decide_eq_true_eq, decide_eq_false_iff_not, List.all_eq_true] at h
  exact ⟨h.1.1, h.1.2, h.2⟩

section
variable {X : Cx} {pins : List (Addr × Obj)} {σ : L2.St} {H : Hp} {s : Shared}
/-- where the generator's frame begins -/
theorem gen_begins {scope : Scope} {own : List (Str × Nat)} {fp : List Addr} {A : Around} {code : Value} {bi a : Addr} {go : Obj} {it : Value} {h5 : Heap} {g5 : Array GenState} {d5 : Drawn} {t5 : Nat}
    (I : Inv X pins σ H s) (S : GSc scope) (ok : BlkOk X.N X.env.scope scope own) (hN : X.N.Nodup) (hfp : ∀ b ∈ fp, FpOk X pins H b ∧ b < s.heap.objs.size)
    (hA : A.frames = some (genEnv scope (cloFrom X.env.cells scope.names []) s.heap.objs.size code bi X.env :: X.stack)) (hd : A.handled = none) (hbi : bi = builtinsNs)
    (kp : ∀ b o, s.heap.get? b = some o → h5.get? b = some o) (hns : h5.Ns s.heap.objs.size (fun y => if y = ".0" then some it else none))
    (hga : h5.get? a = some go) (hgo : ∀ v, go.data ≠ .cell v) (hlt : s.heap.objs.size < a) (hb : AllBare g5) :
    Inv (gcx X A s H (genEnv scope (cloFrom X.env.cells scope.names []) s.heap.objs.size code bi X.env) fp) [(a, go)] (wipe σ (own.map (·.2))) H { s with heap := h5, gens := g5, drawn := d5, toks := t5 } := by
  have hfree : ∀ y ∈ scope.names, y.2 = .free → ∃ c, X.env.cells.lookup y.1 = some c := fun y hy e => by
    rcases ok.free y hy e with k | k
    · exact I.ok.has _ (.inl k)
    · exact I.ok.has _ (.inr k)
  have cm : ∀ {y c}, (cloFrom X.env.cells scope.names []).lookup y = some c → X.env.cells.lookup y = some c := fun {y c} e => by
    rcases cloFrom_mem (PySem.mem_of_lookup e) with hm | ⟨h1, h2⟩
    · cases hm
    · obtain ⟨c1, hc⟩ := hfree _ h1 rfl
      have hc : X.env.cells.lookup y = some c1 := hc
      have e2 : c = c1 := by rw [h2, hc] <;> rfl
      rw [e2]; exact hc
  have look : ∀ {y}, scope.names.lookup y = some .free → ∃ c, (cloFrom X.env.cells scope.names []).lookup y = some c := fun {y} hl =>
    mem_lookup (cloFrom_has (cells := X.env.cells) (acc := []) (PySem.mem_of_lookup hl))
  have clt : ∀ {y c}, (cloFrom X.env.cells scope.names []).lookup y = some c → c < s.heap.objs.size := fun {y c} e => by
    obtain ⟨v, z⟩ := I.cell y c (cm e)
    exact z.lt
  have xlt : X.env.locals < s.heap.objs.size := I.lt
  have Y : (gcx X A s H (genEnv scope (cloFrom X.env.cells scope.names []) s.heap.objs.size code bi X.env) fp).Ok := by
    refine ⟨I.ok.mod, ok.kind, I.ok.glob, hbi, Nat.le_refl _, fun y z c e1 e2 => I.ok.inj y z c (cm e1) (cm e2), fun y hy => ?_, fun y c z _ => ?_, fun _ => hd, hA, .inr ⟨rfl, rfl⟩, fun b hb => ⟨Nat.ne_of_lt (hfp b hb).2, fun y c e => (hfp b hb).1.2.2.2.2.1 y c (cm e)⟩,
      I.bs, Nat.le_trans I.ok.bsz I.sz, fun b o e hb => ?_, fun b hb z => ?_, I.stack, I.stkFree⟩
    · have hy : scope.names.lookup y = some .cell ∨ scope.names.lookup y = some .free := hy
      rcases hy with hy | hy
      · exact absurd rfl (S.cell _ (PySem.mem_of_lookup hy))
      · exact look hy
    · have z : false = true := z
      cases z
    · rcases (hfp b hb).1.2.2.2.1 with z | z
      · exact I.ok.noex b o e z
      · exact absurd (Nat.lt_of_lt_of_le (Heap.lt_size e) (Nat.le_trans I.ok.bsz z)) (Nat.lt_irrefl _)
    · rcases List.mem_cons.mp (I.stkSub b z) with z | z
      · exact (hfp b hb).1.2.1 z
      · exact (hfp b hb).1.2.2.1 z
  refine ⟨Y, rfl, hb, Un.kept kp, ⟨_, hns, fun i y av e1 e2 e3 => ?_⟩, fun y c e => ?_, I.hok.fresh (Nat.le_refl _), fun y c e => I.freeC y c (cm e), fun p hp => ?_, I.hok.kept kp, by rw [wipe_length]; exact I.len⟩
  · obtain ⟨e2, hne⟩ := wipe_some e2
    have e3 : Vis scope y := e3
    have notOwn : ¬ (scope.names.lookup y = some .local ∨ scope.names.lookup y = some .cell) := fun hh => by
      have key : ∀ k, scope.names.lookup y = some k → (k = .local ∨ k = .cell) → False := fun k hk hk' => by
        rcases ok.own _ (PySem.mem_of_lookup hk) hk' with e' | e'
        · obtain ⟨p, hp, hpy⟩ := List.mem_map.mp e'
          have e3 := ok.ix p hp
          have : p.1 = y := hpy
          rw [this] at e3
          exact hne (List.mem_map.mpr ⟨p, hp, nodup_ix hN e3 e1⟩)
        · exact e' (List.mem_of_getElem? e1)
      rcases hh with hh | hh
      · exact key _ hh (.inl rfl)
      · exact key _ hh (.inr rfl)
    have hfr : scope.names.lookup y = some .free := by
      rcases e3 with k | k | k
      · exact absurd (.inl k) notOwn
      · exact absurd (.inr k) notOwn
      · exact k
    obtain ⟨m, hn, hl⟩ := I.loc
    have hvis : Vis X.env.scope y := (ok.free _ (PySem.mem_of_lookup hfr) rfl).elim (fun k => .inr (.inl k)) (fun k => .inr (.inr k))
    obtain ⟨u, r, q⟩ := hl i y av e1 e2 hvis
    obtain ⟨c2, h2⟩ := look hfr
    refine ⟨u, r, .inr ⟨.inr hfr, c2, h2, ?_⟩⟩
    have c1 := cm h2
    rcases q with ⟨k', _⟩ | ⟨_, c3, e', z⟩
    · have k' : X.env.scope.names.lookup y = some .local := k'
      rcases ok.free _ (PySem.mem_of_lookup hfr) rfl with k2 | k2 <;> rw [show X.env.scope.names.lookup y = _ from k2] at k' <;> cases k'
    · rw [c1] at e'
      cases e'
      exact z.keeps kp
  · obtain ⟨v, z⟩ := I.cell y c (cm e)
    exact ⟨v, z.keeps kp⟩
  · have e : p = (a, go) := by simpa using hp
    subst e
    have nf : a ∉ frs X.stack := fun z => by
      rcases List.mem_cons.mp (I.stkSub a z) with z | z
      · rw [z] at hlt
        exact Nat.lt_asymm hlt xlt
      · exact I.nofs (Nat.le_of_lt hlt) z
    exact ⟨hga, I.hok.fresh (Nat.le_of_lt hlt), Nat.ne_of_gt hlt, nf, hgo⟩

/-- what the generator's making leaves -/
structure GMk (X : Cx) (pins : List (Addr × Obj)) (σ : L2.St) (scope : Scope) (tg : Expr) (P : Addr) (H1 H2 : Hp) (J : It) (fp : List Addr) (it : Addr) (tn : Nat → Heap → Prop) (s4 : Shared) (a : Addr) (go : Obj) (h5 : Heap) : Prop where
  tab : GxR.Tabbed P H1 H2
  inv : Inv X pins σ H2 s4
  turn : Turn X.prog X.w X.K tg J fp it tn
  st : tn 0 s4.heap
  fok : ∀ b ∈ fp, FpOk X pins H2 b ∧ b < s4.heap.objs.size
  kp : ∀ b o, s4.heap.get? b = some o → h5.get? b = some o
  ns : h5.Ns s4.heap.objs.size (fun y => if y = ".0" then some (.ref it) else none)
  at_ : h5.get? a = some go
  cls : go.cls = .type "generator"
  data : ∃ t1 t2 : Tok, go.data = .fields #[.int s4.gens.size 0, .str "<genexpr>" t1, .str (X.env.qual ++ "<genexpr>") t2]
  slots : go.slots = #[]
  lt : s4.heap.objs.size < a
theorem gen_made {c P : Addr} {elt iter tg : Expr} {gpos : Pos} {scope : Scope} {own : List (Str × Nat)} {wi : TI} {k : Nat} {Q' : Value → Shared → Prop} {R : It → Hp → Prop}
    (hr : Room k X.A) (TB : GxR.TabB X.base X.mg c P) (hcode : X.env.code = .ref c) (S : GSc scope) (ok : BlkOk X.N X.env.scope scope own) (hi : PI X tg iter wi)
    (hs : ∀ v, genFold iter X.env v = pure v) (I : Inv X pins σ H s) (h : wi σ H fun J H1 => GxR.TabG H1 P ∧ R J H1)
    (hQ : ∀ J H1 H2 it fp tn s4 code a go h5 tk, R J H1 → GMk X pins σ scope tg P H1 H2 J fp it tn s4 a go h5 →
      Q' (.ref a) { s4 with gens := s4.gens.push (.fresh (.compStart (.GeneratorExp elt [⟨tg, iter, [], 0⟩] scope gpos) 0 (.ref it) .none (genEnv scope (cloFrom X.env.cells scope.names []) s4.heap.objs.size code builtinsNs X.env))), toks := tk, heap := h5 }) :
    wpAny (model X.prog X.w) X.A (eval (.GeneratorExp elt [⟨tg, iter, [], 0⟩] scope gpos) X.env) Q' X.xe s := by
  have hfree : ∀ y ∈ scope.names, y.2 = .free → ∃ c, X.env.cells.lookup y.1 = some c := fun y hy e => by
    rcases ok.free y hy e with k | k
    · exact I.ok.has _ (.inl k)
    · exact I.ok.has _ (.inr k)
  refine wpAny_GeneratorExp_make S.co (closure_ok hfree) S.cell S.dot ok.kind (by have := hr.dp; omega) ?_ hs
  refine thn (hi.run pins s σ H _ I h) fun xv s1 hx => thn hx fun itv s2 h2 => ?_
  obtain ⟨it, fp, tn, J, H2, e, I2, T, st2, f2, ⟨ps, hP, ht⟩, q⟩ := h2
  subst e
  have hPs : s2.heap.get? P = some { cls := .none, data := .fields ps } := I2.hok P _ hP
  have cd : PySem.W.CodeHd s2.heap c P := TB.code.keeps fun b u e => I2.bk b u e
  have fpP : ∀ b ∈ fp, b ≠ P := fun b hb z => by
    have := (f2 b hb).1
    rw [z, hP] at this
    cases this
  have fin : ∀ (code : Value) (h3 : Heap) (tk : Nat) (ps' : Array Value), Heap.ExtBut P s2.heap h3 → s2.heap.objs.size ≤ h3.objs.size → h3.get? P = some { cls := .none, data := .fields ps' } → (∃ more, ps' = ps ++ more) → TriplesOk ps'.toList →
      wpAny (model X.prog X.w) X.A (builtinsFor X.env.globals X.env.builtins) (fun bi s₄ =>
        ∀ h', h'.Ns s₄.heap.objs.size (fun y => if y = ".0" then some (.ref it) else none) → Heap.SameBut s₄.heap.objs.size (s₄.heap.push { cls := .type "frame", data := .dict #[] }) h' →
          Q' (.ref h'.objs.size) { s₄ with
            gens := s₄.gens.push (.fresh (.compStart (.GeneratorExp elt [⟨tg, iter, [], 0⟩] scope gpos) 0 (.ref it) .none (genEnv scope (cloFrom X.env.cells scope.names []) s₄.heap.objs.size code bi X.env))),
            toks := s₄.toks + 1 + 1 + 1,
            heap := h'.push { cls := .type "generator", data := .fields #[.int s₄.gens.size 0, .str "<genexpr>" (s₄.toks + 1), .str (X.env.qual ++ "<genexpr>") (s₄.toks + 1 + 1)] } }) X.xe { s2 with heap := h3, toks := tk } := by
    intro code h3 tk ps' hx hsz hP3 hmore ht3
    obtain ⟨bm, ob, e1, e2, e3, e4, e5, e6, e7, e8⟩ := TB.bm
    have keep3 : ∀ b u, b ≠ P → s2.heap.get? b = some u → h3.get? b = some u := fun b u hb e => hx b u hb e
    refine wpAny_builtinsFor (m := X.mg) (by rw [I2.ok.glob]; exact (I2.mod.glob.keeps I2.bk).extBut hx TB.gP) e1 e2 (keep3 _ _ e4 (I2.bk _ _ e5)) e6 e7 e8 ?_
    obtain ⟨more, em⟩ := hmore
    have J2 := GxR.inv_tab (more := more) (h' := h3) (g' := s2.gens) (d' := s2.drawn) (t' := tk) I2 hP (fun b u hb e => hx b u hb e) (by rw [← em]; exact hP3) I2.bare
    intro h' hns hsb
    have hsz' : h'.objs.size = h3.objs.size + 1 := by rw [hsb.1, Heap.size_push]
    have kp' : ∀ b o, h3.get? b = some o → h'.get? b = some o := fun b o e => hsb.extBut b o (Nat.ne_of_lt (Heap.lt_size e)) (Heap.get?_push_of_some _ e)
    refine hQ J H2 _ it fp tn { s2 with heap := h3, toks := tk } code _ _ _ _ q ⟨⟨⟨ps ++ more, upd_same, by rw [← em]; exact ht3⟩, fun b hb => upd_ne hb⟩, J2, T, T.keep _ _ _ st2 fun b hb o e => keep3 b o (fpP b hb) e, fun b hb => ?_,
      fun b o e => Heap.get?_push_of_some _ (kp' b o e), hns.push _, Heap.get?_push_size _ rfl, rfl, ⟨_, _, rfl⟩, rfl, by show h3.objs.size < h'.objs.size; rw [hsz']; exact Nat.lt_succ_self _⟩
    obtain ⟨o, eo, _⟩ := T.obj _ _ st2 b hb
    refine ⟨⟨?_, (f2 b hb).2⟩, Nat.lt_of_lt_of_le (Heap.lt_size eo) hsz⟩
    rw [upd_ne (fpP b hb)]
    exact (f2 b hb).1
  refine ⟨I2.nolimit, ?_⟩
  cases hf : codeAmong gpos ps.toList with
  | none =>
    refine wpAny_genexprCodeX hcode (cd.code hPs ht) (cd.tab hPs) hf fun c' h' tk hx hge hlt hco' _ htab' _ => ?_
    obtain ⟨o1, vs, f1, tf, fl, tg', inF, tx, tt, op, _, _, _, _, _, _, _, _, _, htr, _⟩ := hco'
    exact fin _ h' tk _ hx (Nat.le_trans hge (Nat.le_of_lt hlt)) htab'.2 ⟨_, rfl⟩ htr
  | some cv =>
    refine wpAny_genexprCode_hit hcode (cd.code hPs ht) hf ?_
    exact fin cv s2.heap s2.toks ps (Heap.ExtBut.refl _ _) (Nat.le_refl _) hPs ⟨#[], by simp⟩ ht
end
end GA

namespace GA
open PySem PySem.Spec PyProof.Rows L2 GenW

/-- what the loop asks: W by the turn and a measure; N: what a turn that gives True is to reach -/
def AllRun (J : It) (g : TG) (te : TE) (vs : List Nat) (σ : L2.St) (Q : VK) (H2 : Hp) : Prop := ∃ W : Nat → Nat → Hp → Prop, (∃ m, W 0 m H2) ∧ ∀ i m H, W i m H →
  (J.stop i H ∧ Q (.bl true) H) ∨ (J.go i H ∧ ∃ N : Hp → Prop, (∀ H', N H' → ∃ m', m' < m ∧ W (i + 1) m' H') ∧ ∀ x H', J.yld i H x H' → g x (wipe σ vs) H' fun σ2 H3 => wipe σ2 vs = wipe σ vs ∧ te σ2 H3 fun y H4 => ∃ b, y = .bl b ∧ (if b = true then N H4 else Q (.bl false) H4))
def AllLoop (P : Addr) (J : It) (g : TG) (te : TE) (vs : List Nat) (σ : L2.St) (Q : VK) (H1 : Hp) : Prop := GxR.TabG H1 P ∧ ∀ H2, GxR.Tabbed P H1 H2 → AllRun J g te vs σ Q H2
/-- the reading -/
def tAllG (P : Addr) (wi : TI) (g : TG) (te : TE) (vs : List Nat) : TE := fun σ H Q => wi σ H fun J H1 => AllLoop P J g te vs σ Q H1

/-- the generator's loop, as code -/
abbrev gLoop (elt tg iter : Expr) (scope : Scope) (gpos : Pos) (it : Addr) (genv : Env) : Code := .compLoop (.GeneratorExp elt [⟨tg, iter, [], 0⟩] scope gpos) 0 (.ref it) .none genv
abbrev gStart (elt tg iter : Expr) (scope : Scope) (gpos : Pos) (it : Addr) (genv : Env) : Code := .compStart (.GeneratorExp elt [⟨tg, iter, [], 0⟩] scope gpos) 0 (.ref it) .none genv
theorem over_gl (A : Around) (elt tg iter : Expr) (scope : Scope) (gpos : Pos) (it : Addr) (genv : Env) : A.over (gStart elt tg iter scope gpos it genv) [] = A.over (gLoop elt tg iter scope gpos it genv) [] := by rfl
theorem over_frames {A : Around} {elt tg iter : Expr} {scope : Scope} {gpos : Pos} {it : Addr} {genv : Env} {l : List Env} (h : A.frames = some l) : (A.over (gLoop elt tg iter scope gpos it genv) []).frames = some (genv :: l) := by
  show pushEnvs [genv] (pushEnvs [] A.frames) = _
  rw [h] <;> rfl
theorem over_room {A : Around} {elt tg iter : Expr} {scope : Scope} {gpos : Pos} {it : Addr} {genv : Env} {k : Nat} (h : Room (k + 1) A) : Room k (A.in1.in1.over (gLoop elt tg iter scope gpos it genv) []) := by
  refine ⟨h.hd, ?_, ?_⟩
  · have := h.dp
    show A.depth + 0 + 1 + 3 * k + 5 < _
    omega
  · have := h.un
    show A.units + 1 + 1 + 0 + 3 + 16 * k + 200 < _
    omega
/-- the consumer touched the table of generators alone -/
structure Still (s s' : Shared) : Prop where
  heap : s'.heap = s.heap
  os : s'.os = s.os
  bare : AllBare s'.gens
section
variable {X : Cx} {A : Around} {s4 : Shared} {H2 : Hp} {genv : Env} {fp : List Addr} {pn : List (Addr × Obj)} {σw : L2.St}
theorem inv_still {H : Hp} {s s' : Shared} (I : Inv X pn σw H s) (t : Still s s') : Inv X pn σw H s' :=
  I.call' (ch := []) t.os (by rw [t.heap]; exact Un.refl) (by rw [t.heap]; exact I.hok) t.bare fun b z => by simp at z
theorem inv_grown {H : Hp} {s s' : Shared} (I : Inv X pn σw H s) (ho : s'.os = s.os) (hb : AllBare s'.gens) (k : ∀ b o, s.heap.get? b = some o → s'.heap.get? b = some o) : Inv X pn σw H s' :=
  I.call' (ch := []) ho (Un.kept k) (I.hok.kept k) hb fun b z => by simp at z
/-- what the generator hands to all -/
def YpA (X : Cx) (pn : List (Addr × Obj)) (σw : L2.St) (fp : List Addr) (tn : Nat → Heap → Prop) (W : Nat → Nat → Hp → Prop) (Q : VK) : Protocol := fun n s₀ v s kap =>
  ∃ (b : Bool) (H : Hp), v = .bool b ∧ Inv X pn σw H s ∧ (b = false → Q (.bl false) H) ∧ (b = true → ∀ s'', Still s s'' → kap (.send .none) s'')
def RpA (X : Cx) (pn : List (Addr × Obj)) (σw : L2.St) (Q : VK) : Nat → Shared → Shared → Prop := fun n s₀ s => ∃ H, Inv X pn σw H s ∧ Q (.bl true) H
end

/-- one run of the generator's frame from the i-th turn on -/
theorem seg_all {X : Cx} {B : Around} {elt tg iter : Expr} {scope : Scope} {gpos : Pos} {it a : Addr} {go : Obj} {genv : Env} {fp : List Addr} {tn : Nat → Heap → Prop} {J : It} {s4 : Shared} {H2 : Hp} {σ : L2.St} {vs : List Nat}
    {g : TG} {te : TE} {Q : VK} {W : Nat → Nat → Hp → Prop} (hh : B.handled = none) (hco : genv.scope.isCoroutine = false) (hfpa : a ∉ fp)
    (T : Turn X.prog X.w X.K tg J fp it tn)
    (hg : PG (gcx X (B.over (gLoop elt tg iter scope gpos it genv) []) s4 H2 genv fp) tg g)
    (he : PE (gcx X (B.over (gLoop elt tg iter scope gpos it genv) []) s4 H2 genv fp) elt te)
    (turn : ∀ i m H, W i m H → (J.stop i H ∧ Q (.bl true) H) ∨ (J.go i H ∧ ∃ N : Hp → Prop, (∀ H', N H' → ∃ m', m' < m ∧ W (i + 1) m' H') ∧ ∀ x H', J.yld i H x H' → g x (wipe σ vs) H' fun σ2 H3 => wipe σ2 vs = wipe σ vs ∧ te σ2 H3 fun y H4 => ∃ b, y = .bl b ∧ (if b = true then N H4 else Q (.bl false) H4))) :
    ∀ (n m i : Nat) (H : Hp) (s₀ s : Shared), m < n → W i m H → Inv (gcx X (B.over (gLoop elt tg iter scope gpos it genv) []) s4 H2 genv fp) [(a, go)] (wipe σ vs) H s → tn i s.heap → (∀ b ∈ fp, H b = none) →
      Seg (model X.prog X.w) B (fun n s₀ r s₁ => r = .ok .next ∧ RpA (gcx X (B.over (gLoop elt tg iter scope gpos it genv) []) s4 H2 genv fp) [(a, go)] (wipe σ vs) Q n s₀ s₁)
        (YpA (gcx X (B.over (gLoop elt tg iter scope gpos it genv) []) s4 H2 genv fp) [(a, go)] (wipe σ vs) fp tn W Q) n s₀ (gLoop elt tg iter scope gpos it genv) ((model X.prog X.w).den (gLoop elt tg iter scope gpos it genv)) [] s := by
  intro n
  induction n with
  | zero => intro m i H s₀ s hm; exact absurd hm (Nat.not_lt_zero _)
  | succ n ih =>
    intro m i H s₀ s hm hw I st nf
    generalize hY : gcx X (B.over (gLoop elt tg iter scope gpos it genv) []) s4 H2 genv fp = Y at *
    have eP : Y.prog = X.prog := by rw [← hY]
    have eW : Y.w = X.w := by rw [← hY]
    have eK : Y.K = X.K := by rw [← hY]
    have eA : Y.A = B.over (gLoop elt tg iter scope gpos it genv) [] := by rw [← hY]
    have eC : Y.calm = true := by rw [← hY]
    have eE : Y.env = genv := by rw [← hY]
    have eX : Y.xe = fun _ _ => False := by rw [← hY]
    have eN : Y.pn = [] := by rw [← hY]
    have eF : Y.ex = fp := by rw [← hY]
    have stat : ∀ {σ' : L2.St} {H' : Hp} {s' : Shared}, Inv Y [(a, go)] σ' H' s' → (∀ b ∈ fp, H' b = none) → ∀ b ∈ fp, FpOk Y [(a, go)] H' b := fun {σ' H' s'} I' hn b hb => by
      have hb' : b ∈ Y.ex := by rw [eF]; exact hb
      refine ⟨hn b hb, (I'.ok.exf b hb').1, I'.ok.exfs b hb', .inl hb', fun x c e => (I'.ok.exf b hb').2 x c e, fun p hp z => ?_⟩
      rw [eN] at hp
      have e : p = (a, go) := by simpa using hp
      subst e
      exact hfpa (by rw [show a = b from z]; exact hb)
    show Seg _ B _ _ _ s₀ _ ((compTurn (.GeneratorExp elt [⟨tg, iter, [], 0⟩] scope gpos) 0 (.ref it) .none genv).onRaise (leaving genv)) [] s
    rw [compTurn_gen, Sem.onRaise_eq_wrap]
    refine seg_bind_wrap (wpAny_standAt ?_)
    rcases turn i m H hw with ⟨stop, q⟩ | ⟨go_, N, hN, step⟩
    · have td := T.done Y eP eW eK eC i [(a, go)] s _ H (fun _ _ => False) I (stat I nf) st stop
      rw [eA] at td
      refine seg_bind_wrap (wpAny_mono td (fun r s1 hr => ?_) fun _ _ z => z.elim)
      obtain ⟨hr, I1⟩ := hr
      subst hr
      exact seg_end (.ok .next) ⟨rfl, H, I1, q⟩
    · have ti := T.item Y eP eW eK eC i [(a, go)] s _ H (fun _ _ => False) I (stat I nf) st go_
      rw [eA] at ti
      refine seg_bind_wrap (wpAny_mono ti (fun r s1 hr => ?_) fun _ _ z => z.elim)
      obtain ⟨u, hr, h1⟩ := hr
      subst hr
      refine seg_bind_wrap (wpAny_mono h1 (fun _ s2 h2 => ?_) fun _ _ z => z.elim)
      obtain ⟨x, H3, I3, r3, y3, st3, n3⟩ := h2
      have I3' := I3.pinned (stat I3 n3) (T.obj _ _ st3)
      have pg := hg.run _ s2 _ H3 x u _ I3' r3 (step x H3 y3)
      rw [eX, eP, eW, eA, eE] at pg
      refine seg_bind_wrap (wpAny_mono pg (fun _ s5 h5 => ?_) fun _ _ z => z.elim)
      obtain ⟨σ5, H5, I5, hw5, q5⟩ := h5
      refine seg_bind_wrap (wpAny_pure ?_)
      simp only [if_true]
      have hy : ∀ v, yieldOut genv v = yieldValue v := fun v => by simp only [yieldOut, hco, Bool.false_eq_true, if_false]
      simp only [hy]
      rw [Sem.bind_eq_wrap', Sem.bind_eq_wrap', Sem.wrap_wrap, Sem.wrap_wrap]
      have pe := he.run _ s5 σ5 H5 _ I5 q5
      rw [eX, eP, eW, eA, eE] at pe
      refine seg_wrap (wpAny_mono pe (fun v s6 h6 => ?_) fun _ _ z => z.elim)
      obtain ⟨y, H6, I6, r6, b, ey, q6⟩ := h6
      subst ey
      obtain rfl : v = Value.bool b := r6
      have hl : (wipe σ vs).length = σ5.length := by rw [← hw5, wipe_length]
      have I6u : Inv Y [(a, go)] (wipe σ vs) H6 s6 := (I6.unpinned (pins := [(a, go)])).weak hl (fun j v e => by
        rw [← hw5] at e
        exact (wipe_some e).1)
      have pin' : ∀ b ∈ fp, ∀ o, s2.heap.get? b = some o → s6.heap.get? b = some o ∧ H6 b = none := fun b hb o e =>
        let z := I6.pin (b, o) (List.mem_append_right _ (List.mem_append_right _ (mem_pinsAt hb e)))
        ⟨z.1, z.2.1⟩
      refine seg_at (seg_yield rfl rfl rfl ⟨b, H6, rfl, I6u, fun hb => ?_, fun hb s'' hs'' => ?_⟩)
      · subst hb
        exact q6
      · subst hb
        obtain ⟨m', hm', w'⟩ := hN H6 q6
        refine seg_again rfl (ih m' (i + 1) H6 s'' s'' (by omega) w' (inv_still I6u hs'') (T.keep _ _ _ st3 fun b hb o e => by rw [hs''.heap]; exact (pin' b hb o e).1) fun b hb => ?_)
        obtain ⟨o, e, _⟩ := T.obj _ _ st3 b hb
        exact (pin' b hb o e).2
end GA

namespace GA
open PySem PySem.Spec PyProof.Rows L2 GenW

/-- the run from the generator's start -/
theorem seg_allStart {M : Model} {B : Around} {R : GenEnd} {Y : Protocol} {n : Nat} {prog : Program} {w : World} {elt tg iter : Expr} {scope : Scope} {gpos : Pos} {it : Addr} {genv : Env} {s₀ s : Shared}
    (self : ∀ (A : Around) (Q : Value → Shared → Prop) (E : Value → Shared → Prop), Q (.ref it) s → wpAny (model prog w) A (pyIter (.ref it)) Q E s)
    (loop : Seg (model prog w) B R Y n s₀ (gLoop elt tg iter scope gpos it genv) ((model prog w).den (gLoop elt tg iter scope gpos it genv)) [] s) :
    Seg (model prog w) B R Y n s₀ (gStart elt tg iter scope gpos it genv) ((model prog w).den (gStart elt tg iter scope gpos it genv)) [] s := by
  show Seg _ B _ _ _ s₀ _ ((compStart (.GeneratorExp elt [⟨tg, iter, [], 0⟩] scope gpos) 0 (.ref it) .none genv).onRaise (leaving genv)) [] s
  unfold compStart
  rw [Sem.onRaise_eq_wrap]
  show Seg _ B _ _ _ s₀ _ ((ask >>= _).wrap _ _ _ _) [] s
  refine seg_bind_wrap (wpAny_askSetting ?_)
  split
  · exact seg_again rfl loop
  · first
      | exact seg_bind_wrap (wpAny_rule (seg_bind_wrap (wpAny_standAt (seg_bind_wrap (self _ _ _ (seg_again rfl loop))))))
      | (refine seg_bind_wrap (wpAny_rule ?_); show Seg _ B _ _ _ s₀ _ ((standAt iter.pos >>= _).wrap _ _ _ _) [] s; exact seg_bind_wrap (wpAny_standAt (seg_bind_wrap (self _ _ _ (seg_again rfl loop)))))

/-- all's own loop over the generator at a -/
theorem all_drains {X Y : Cx} {a : Addr} {go : Obj} {g : Nat} {σw : L2.St} {fp : List Addr} {tn : Nat → Heap → Prop} {W : Nat → Nat → Hp → Prop} {Q : VK} {RR : Result → Shared → Prop} {k : Nat}
    (hr : Room k X.A) (hgo : go.cls = .type "generator") (hgd : ∃ nm qn, go.data = .fields #[.int g 0, nm, qn]) (hgs : go.slots = #[])
    (fin : ∀ (b : Bool) (H : Hp) (s' : Shared), Inv Y [(a, go)] σw H s' → Q (.bl b) H → RR (.ok (.ret (.bool b))) s') :
    ∀ (n : Nat) (H : Hp) (s : Shared), Inv Y [(a, go)] σw H s →
      (∃ gs, s.gens[g]? = some gs ∧ gs.Goes (model X.prog X.w) X.A.in1.in1 (fun n s₀ r s₁ => r = .ok .next ∧ RpA Y [(a, go)] σw Q n s₀ s₁) (YpA Y [(a, go)] σw fp tn W Q) n (.send .none) (s.setGen g .running)) →
      codeAny (model X.prog X.w) X.A (.builtin "all.loop" ⟨[.ref a], []⟩) RR s := by
  have hh : X.A.handled = none := hr.hd
  have hd : X.A.depth < recursionLimit := hr.depth
  have isg : ∀ {H : Hp} {s : Shared}, Inv Y [(a, go)] σw H s → s.heap.IsGen a g := fun {H s} I => by
    obtain ⟨nm, qn, ed⟩ := hgd
    exact ⟨go, nm, qn, (I.pin (a, go) (List.mem_append_right _ List.mem_cons_self)).1, hgo, ed, hgs⟩
  intro n
  induction n with
  | zero =>
    intro H s I ⟨gs, hgs', hgo'⟩
    refine codeAny_builtin F.entry_all_loop ?_
    rw [Around.under_plainId F.plain_all_loop _]
    show wpAny _ X.A.in1 (pyNext (.ref a) >>= _) _ _ s
    refine wpAny_bind (wpAny_pyNext_genexpQ (A := X.A.in1) (P := RpA Y [(a, go)] σw Q) hh I.nolimit hd (isg I) hgs' hgo' (fun v s₁ gs' hb hv => ?_) (fun s₁ hp h' hk => ?_))
    · obtain ⟨b, H1, rfl, I1, qf, qt⟩ := hv
      cases b with
      | true => exact False.elim (qt rfl s₁ ⟨rfl, rfl, I1.bare⟩)
      | false =>
        have I2 := inv_still (s' := s₁.setGen g gs') I1 ⟨rfl, rfl, allBare_setGen I1.bare hb⟩
        refine wpAny_bind (wpAny_holding (wpAny_truthy_bool ?_))
        refine wpAny_bind (wpAny_letGo ?_)
        simp only [Bool.false_eq_true, if_false]
        exact wpAny_bind (wpAny_rule (wpAny_pure (fin false H1 _ I2 (qf rfl))))
    · obtain ⟨H1, I1, q⟩ := hp
      have I2 := inv_grown (s' := { s₁.setGen g .finished with heap := h' }) I1 rfl (allBare_setGen I1.bare rfl) hk
      exact wpAny_bind (wpAny_rule (wpAny_pure (fin true H1 _ I2 q)))
  | succ n ih =>
    intro H s I ⟨gs, hgs', hgo'⟩
    have hgl : g < s.gens.size := (Array.getElem?_eq_some_iff.mp hgs').1
    refine codeAny_builtin F.entry_all_loop ?_
    rw [Around.under_plainId F.plain_all_loop _]
    show wpAny _ X.A.in1 (pyNext (.ref a) >>= _) _ _ s
    refine wpAny_bind (wpAny_gsz (n := g + 1) hgl (wpAny_pyNext_genexpQ (A := X.A.in1) (P := RpA Y [(a, go)] σw Q) hh I.nolimit hd (isg I) hgs' hgo' (fun v s₁ gs' hb hv => ?_) (fun s₁ hp h' hk => ?_)))
    · intro hsz
      obtain ⟨b, H1, rfl, I1, qf, qt⟩ := hv
      have hsz1 : g < s₁.gens.size := by
        have q : (s₁.setGen g gs').gens.size = s₁.gens.size := setGen_size _ _ _
        have hsz' : g + 1 ≤ (s₁.setGen g gs').gens.size := hsz
        omega
      have I2 := inv_still (s' := s₁.setGen g gs') I1 ⟨rfl, rfl, allBare_setGen I1.bare hb⟩
      refine wpAny_bind (wpAny_holding (wpAny_truthy_bool ?_))
      refine wpAny_bind (wpAny_letGo ?_)
      cases b with
      | true =>
        simp only [if_true]
        refine wpAny_pure ⟨plainId_quiet F.plain_all_loop _, ih H1 _ I2 ⟨gs', setGen_at hsz1, ?_⟩⟩
        exact qt rfl _ ⟨rfl, rfl, allBare_setGen (s := s₁.setGen g gs') (allBare_setGen I1.bare hb) rfl⟩
      | false =>
        simp only [Bool.false_eq_true, if_false]
        exact wpAny_bind (wpAny_rule (wpAny_pure (fin false H1 _ I2 (qf rfl))))
    · intro hsz
      obtain ⟨H1, I1, q⟩ := hp
      have I2 := inv_grown (s' := { s₁.setGen g .finished with heap := h' }) I1 rfl (allBare_setGen I1.bare rfl) hk
      exact wpAny_bind (wpAny_rule (wpAny_pure (fin true H1 _ I2 q)))

/-- THE RULE: all(elt for tg in iter) -/
theorem pe_allG {X : Cx} {c P : Addr} {elt iter tg : Expr} {p pos gpos : Pos} {scope : Scope} {own : List (Str × Nat)} {wi : TI} {g : TG} {te : TE} {k : Nat}
    (hr : Room (k + 1) X.A) (hgl : Gl X "all") (hm : X.mg "all" = none) (hbv : bootBuiltins "all" = some (.builtin "all")) (TB : GxR.TabB X.base X.mg c P) (hcode : X.env.code = .ref c) (S : GSc scope) (ok : BlkOk X.N X.env.scope scope own) (hN : X.N.Nodup)
    (hi : PI X tg iter wi)
    (hg : ∀ (A : Around) (s : Shared) (H : Hp) (C : Addr) (cl : List (Str × Addr)) (code : Value) (fp : List Addr), PG (gcx X A s H (genEnv scope cl C code builtinsNs X.env) fp) tg g)
    (he : ∀ (A : Around) (s : Shared) (H : Hp) (C : Addr) (cl : List (Str × Addr)) (code : Value) (fp : List Addr), Room k A → PE (gcx X A s H (genEnv scope cl C code builtinsNs X.env) fp) elt te)
    (hs : ∀ v, genFold iter X.env v = pure v := by intro _; rfl)
    (hst : starEach [.GeneratorExp elt [⟨tg, iter, [], 0⟩] scope gpos] X.env = (false, eval (.GeneratorExp elt [⟨tg, iter, [], 0⟩] scope gpos) X.env) :: starEach [] X.env := by rfl) :
    PE X (.Call (.Name "all" p) [.GeneratorExp elt [⟨tg, iter, [], 0⟩] scope gpos] [] pos) (tAllG P wi g te (own.map (·.2))) := by
  refine ⟨fun pins s σ H Q I h => ?_⟩
  refine wpAny_Call_Name_kw (ld_blt I hgl hm hbv ?_)
  refine PyProof.Rows.callWith_builtin1 ?_ hst (by rfl)
  rw [hst]
  show wpAny _ _ (spliced ((false, eval (.GeneratorExp elt [⟨tg, iter, [], 0⟩] scope gpos) X.env) :: backTo pos (starEach [] X.env))) _ _ s
  refine Calls.spliced_cons (gen_made (k := k + 1) (R := fun J H1 => ∀ H2, GxR.Tabbed P H1 H2 → AllRun J g te (List.map (fun x : Str × Nat => x.snd) own) σ Q H2) hr TB hcode S ok hi hs I h fun J H1 H2 it fp tn s4 code a go h5 tk hR G => ?_)
  refine Calls.spliced_nil ?_
  obtain ⟨W, ⟨m0, w0⟩, turn⟩ := hR H2 G.tab
  have hA : (X.A.in1.in1.over (gLoop elt tg iter scope gpos it (genEnv scope (cloFrom X.env.cells scope.names []) s4.heap.objs.size code builtinsNs X.env)) []).frames = some (genEnv scope (cloFrom X.env.cells scope.names []) s4.heap.objs.size code builtinsNs X.env :: X.stack) := over_frames (by show X.A.frames = _; exact I.ok.frames)
  obtain ⟨t1, t2, ed⟩ := G.data
  have hbare : AllBare (s4.gens.push (.fresh (.compStart (.GeneratorExp elt [⟨tg, iter, [], 0⟩] scope gpos) 0 (.ref it) .none (genEnv scope (cloFrom X.env.cells scope.names []) s4.heap.objs.size code builtinsNs X.env)))) := G.inv.bare.push rfl
  have I5 := gen_begins (d5 := s4.drawn) (t5 := tk) (A := X.A.in1.in1.over (gLoop elt tg iter scope gpos it (genEnv scope (cloFrom X.env.cells scope.names []) s4.heap.objs.size code builtinsNs X.env)) []) (bi := builtinsNs) (code := code)
    G.inv S ok hN G.fok hA (by exact hr.hd) rfl G.kp G.ns G.at_ (fun v z => by rw [ed] at z; cases z) G.lt hbare
  have hroom : Room k (X.A.in1.in1.over (gLoop elt tg iter scope gpos it (genEnv scope (cloFrom X.env.cells scope.names []) s4.heap.objs.size code builtinsNs X.env)) []) := over_room hr
  have hfpa : a ∉ fp := fun z => Nat.lt_asymm (G.fok a z).2 G.lt
  have isg : ({ s4 with gens := s4.gens.push (.fresh (.compStart (.GeneratorExp elt [⟨tg, iter, [], 0⟩] scope gpos) 0 (.ref it) .none (genEnv scope (cloFrom X.env.cells scope.names []) s4.heap.objs.size code builtinsNs X.env))), toks := tk, heap := h5 } : Shared).heap.IsGen a s4.gens.size :=
    ⟨go, _, _, G.at_, G.cls, ed, G.slots⟩
  refine call_function_tree F.kind_all F.plain_all F.entry_all (F.args_all1 _) ?_
  unfold Builtin.«all»
  refine wpAny_bind (m := oneArg "all" _) (wpAny_pure ?_)
  refine wpAny_bind (wpAny_pyIter_gen isg ?_)
  refine wpAny_pure ⟨plainId_quiet F.plain_all_loop _, ?_⟩
  refine all_drains (X := X) (g := s4.gens.size) (Q := Q) (fp := fp) (tn := tn) (W := W) hr G.cls ⟨_, _, ed⟩ G.slots (fun b H' s' I' q => ?_) (m0 + 1) H2 _ I5 ⟨_, Array.getElem?_push_size .., rfl, ?_⟩
  · have I9 : Inv X pins σ H' s' := G.inv.call' (ch := fp) I'.os I'.base I'.hok I'.bare fun b hb => ⟨(G.fok b hb).1.2.2.2.1, (G.fok b hb).1.2.1, (G.fok b hb).1.2.2.2.2.1, (G.fok b hb).1.2.2.2.2.2⟩
    exact ⟨.bl b, H', I9, rfl, q⟩
  · have J5 := inv_still (s' := ({ s4 with gens := s4.gens.push (.fresh (.compStart (.GeneratorExp elt [⟨tg, iter, [], 0⟩] scope gpos) 0 (.ref it) .none (genEnv scope (cloFrom X.env.cells scope.names []) s4.heap.objs.size code builtinsNs X.env))), toks := tk, heap := h5 } : Shared).setGen s4.gens.size .running) I5 ⟨rfl, rfl, allBare_setGen hbare rfl⟩
    have st5 : tn 0 h5 := G.turn.keep _ _ _ G.st fun b _ o e => G.kp b o e
    have nf : ∀ b ∈ fp, H2 b = none := fun b hb => (G.fok b hb).1.1
    refine seg_allStart (M := model X.prog X.w) (fun A' Q' E' q => G.turn.self A' 0 _ _ _ st5 q) ?_
    exact seg_all (vs := own.map (·.2)) (B := X.A.in1.in1) (by exact hr.hd) S.co hfpa G.turn (hg _ _ _ _ _ _ _) (he _ _ _ _ _ _ _ hroom) turn (m0 + 1) m0 0 H2 _ _ (Nat.lt_succ_self _) w0 J5 st5 nf
end GA

/-! The text by places; how a def stands; what every promise speaks of. -/
namespace CW
open PySem PySem.Spec PyProof.Rows L2

def top (i : Nat) : Stmt := PySem.Challenge.pw_livingclock_k65_whole_texts.main.body.getD i (.Pass ⟨0, 0, 0, 0⟩)
abbrev sIsNum : Stmt := top 11
abbrev sRising : Stmt := top 12
abbrev sEds : Stmt := top 13
abbrev sTouches : Stmt := top 14
abbrev sGaps : Stmt := top 15
abbrev sEntry : Stmt := top 16
abbrev sBook : Stmt := top 17
abbrev sNeedC : Stmt := top 18
abbrev sNeedP : Stmt := top 21
abbrev sWriteC : Stmt := top 24
abbrev sNumIn : Stmt := top 25
abbrev sInit : Stmt := inClass (top 26) 0
abbrev sTake : Stmt := inClass (top 26) 1
abbrev sEnd : Stmt := inClass (top 26) 2
abbrev sRead : Stmt := inClass (top 26) 3
abbrev sRWheel : Stmt := inClass (top 26) 4
abbrev sRTouch : Stmt := inClass (top 26) 5
abbrev sRNeed : Stmt := inClass (top 26) 6
abbrev sFirst : Stmt := top 27
abbrev sReadC : Stmt := top 28
abbrev sWriteP : Stmt := top 29
abbrev sReadP : Stmt := top 30
abbrev sTicks : Stmt := top 31
abbrev sTaken : Stmt := top 33
abbrev sPick : Stmt := top 34
abbrev sAlike : Stmt := top 35
abbrev sClock : Stmt := top 36
abbrev sRows : Stmt := top 37
abbrev sSaid : Stmt := top 38
abbrev sLaw : Stmt := top 39
abbrev sBLInit : Stmt := inClass (top 5) 0

/-! ### a def that stands behind the top -/
structure DefAt (K : PySem.W.Frag) (mg : Str → Option Value) (x : Str) (st : Stmt) : Prop where
  ex : ∃ (f : Addr) (oc : Value) (od : Option Addr) (kV doc pm : Value) (an : Option Addr) (cdv ct : Value) (osl : Array (Option Value)),
    mg x = some (.ref f) ∧ K.lookup f = some ⟨oc, od, .func (PySem.W.fnOf x x (defArgs st) (defBody st) (defScope st) .none kV doc pm an cdv ct), osl⟩ ∧ PySem.W.codeIn K cdv x = true ∧ PySem.W.keepIn K (.ref f) = true
/-- .. its code object at c, the table of what it makes at P -/
structure DefTab (K : PySem.W.Frag) (mg : Str → Option Value) (base : Heap) (x : Str) (st : Stmt) (c P : Addr) : Prop where
  ex : ∃ (f : Addr) (oc : Value) (od : Option Addr) (kV doc pm : Value) (an : Option Addr) (ct : Value) (osl : Array (Option Value)),
    mg x = some (.ref f) ∧ K.lookup f = some ⟨oc, od, .func (PySem.W.fnOf x x (defArgs st) (defBody st) (defScope st) .none kV doc pm an (.ref c) ct), osl⟩ ∧ PySem.W.codeIn K (.ref c) x = true ∧ PySem.W.keepIn K (.ref f) = true
  tab : GxR.TabB base mg c P
/-- what a caller has of it -/
structure Cal (P : Program) (w : World) (K : PySem.W.Frag) (mg : Str → Option Value) (base : Heap) (CX : CXT) (k : Nat) (x : Str) (ps : List Str) (sp : Sp) : Prop where
  ex : ∃ (f : Addr) (fd : FuncData), FnOk P w K mg base CX k f fd ps sp ∧ mg x = some (.ref f) ∧ PySem.W.keepIn K (.ref f) = true ∧ Binds K fd ps []
section
variable {P : Program} {w : World} {K : PySem.W.Frag} {mg : Str → Option Value} {base : Heap} {x : Str} {st : Stmt} {N ps : List Str} {k : Nat} {sp : Sp} {c Pt : Addr}
theorem Cal.mono {CX : CXT} {j : Nat} (C : Cal P w K mg base CX j x ps sp) (h : j ≤ k) : Cal P w K mg base CX k x ps sp := by
  obtain ⟨f, fd, F, m, kp, b⟩ := C.ex
  exact ⟨f, fd, F.mono h, m, kp, b⟩
abbrev BindsOk (x : Str) (st : Stmt) (ps : List Str) : Prop := ∀ (kV doc pm : Value) (an : Option Addr) (cdv ct : Value) (us : List Value), us.length = ps.length → bindArgs (PySem.W.fnOf x x (defArgs st) (defBody st) (defScope st) .none kV doc pm an cdv ct) ⟨us, []⟩ = pure (ps.zip us)
/-- THE RULE for a def from which nothing leaves -/
theorem DefAt.cal (D : DefAt K mg x st) (S : FnScope N ps (defScope st)) (hb : BindsOk x st ps) (len : ∀ vs H Q E, sp vs H Q E → vs.length = ps.length)
    (hbody : ∀ (f : Addr) (cdv : Value) (A : Around) (outer : List Env) (s : Shared) (H : Hp) (vs : List V) (Q : VK) (E : XK), Room k (A.deeper (envOfC x (defScope st) s.heap.objs.size f cdv)) → sp vs H Q E →
      ∃ t, PSs (cxOf CX0 P w K mg base N x (defScope st) f cdv A outer s H E).nox (defBody st) t ∧ t { nx := fun _ H' => Q .non H', rt := Q } (start N vs) H) : Cal P w K mg base CX0 (k + 1) x ps sp := by
  obtain ⟨f, oc, od, kV, doc, pm, an, cdv, ct, osl, m, lk, hcd, kp⟩ := D.ex
  refine ⟨f, _, fn_of lk hcd S len fun A outer s H vs Q E hr hsp => ?_, m, kp, .all (hb kV doc pm an cdv ct)⟩
  obtain ⟨t, h, q⟩ := hbody f cdv A outer s H vs Q E hr hsp
  exact ⟨t, h.nox, q⟩
theorem DefTab.cal (D : DefTab K mg base x st c Pt) (S : FnScope N ps (defScope st)) (hb : BindsOk x st ps) (len : ∀ vs H Q E, sp vs H Q E → vs.length = ps.length)
    (hbody : ∀ (f : Addr) (A : Around) (outer : List Env) (s : Shared) (H : Hp) (vs : List V) (Q : VK) (E : XK), Room k (A.deeper (envOfC x (defScope st) s.heap.objs.size f (.ref c))) → sp vs H Q E →
      ∃ t, PSs (cxOf CX0 P w K mg base N x (defScope st) f (.ref c) A outer s H E).nox (defBody st) t ∧ t { nx := fun _ H' => Q .non H', rt := Q } (start N vs) H) : Cal P w K mg base CX0 (k + 1) x ps sp := by
  obtain ⟨f, oc, od, kV, doc, pm, an, ct, osl, m, lk, hcd, kp⟩ := D.ex
  refine ⟨f, _, fn_of lk hcd S len fun A outer s H vs Q E hr hsp => ?_, m, kp, .all (hb kV doc pm an _ ct)⟩
  obtain ⟨t, h, q⟩ := hbody f A outer s H vs Q E hr hsp
  exact ⟨t, h.nox, q⟩
/-- .. that may raise -/
theorem DefAt.calX (D : DefAt K mg x st) (S : FnScope N ps (defScope st)) (hb : BindsOk x st ps) (len : ∀ vs H Q E, sp vs H Q E → vs.length = ps.length)
    (hbody : ∀ (f : Addr) (cdv : Value) (A : Around) (outer : List Env) (s : Shared) (H : Hp) (vs : List V) (Q : VK) (E : XK), Room k (A.deeper (envOfC x (defScope st) s.heap.objs.size f cdv)) → sp vs H Q E →
      ∃ t, PSs (cxOf (L2.CX P w) P w K mg base N x (defScope st) f cdv A outer s H E) (defBody st) t ∧ t { nx := fun _ H' => Q .non H', rt := Q } (start N vs) H) : Cal P w K mg base (L2.CX P w) (k + 1) x ps sp := by
  obtain ⟨f, oc, od, kV, doc, pm, an, cdv, ct, osl, m, lk, hcd, kp⟩ := D.ex
  exact ⟨f, _, fn_of lk hcd S len fun A outer s H vs Q E hr hsp => hbody f cdv A outer s H vs Q E hr hsp, m, kp, .all (hb kV doc pm an cdv ct)⟩
/-- a call -/
theorem pe_cal {X : Cx} {CX : CXT} {E : XK} {e : Expr} {es : List Expr} {t : TA} {p pos : Pos} (C : Cal X.prog X.w X.K X.mg X.base CX k x ps sp) (hr : Room k X.A) (hg : Gl X x) (hx : Passes CX X E) (ha : PA X (e :: es) t)
    (hdb : (x == ("__debug__" : Str)) = false := by decide) (he : starEach (e :: es) X.env = (false, eval e X.env) :: starEach es X.env := by rfl) (hpl : (backTo pos (starEach es X.env)).any (·.1) = false := by rfl) :
    PE X (.Call (.Name x p) (e :: es) [] pos) (fun σ H Q => t σ H fun vs H1 => sp vs H1 Q E) := by
  obtain ⟨f, fd, F, m, kp, b⟩ := C.ex
  have h := pe_call (p := p) (pos := pos) F hr hg m kp b .nil hx ha hdb he hpl
  refine ⟨fun pins s σ H Q I hw => h.run pins s σ H Q I ?_⟩
  have e0 : (fun (vs : List V) (H1 : Hp) => sp (vs ++ []) H1 Q E) = fun vs H1 => sp vs H1 Q E := by
    funext vs H1
    rw [List.append_nil]
  show t σ H (fun vs H1 => sp (vs ++ []) H1 Q E)
  rw [e0]
  exact hw
end

/-! ### the names that no one has taken, and the text's constants -/
structure Bl (mg : Str → Option Value) : Prop where
  none_ : ∀ x ∈ (["isinstance", "int", "bool", "tuple", "list", "str", "len", "all", "zip", "sum", "min", "max", "range", "enumerate"] : List Str), mg x = none
  period : ∃ t, mg "MOST_PERIOD" = some (.int 12 t)
  wheels : ∃ t, mg "MOST_WHEELS" = some (.int 12 t)
  editions : ∃ t, mg "MOST_EDITIONS" = some (.int 4 t)
  exchanges : ∃ t, mg "MOST_EXCHANGES" = some (.int 24 t)
  planned : ∃ t, mg "MOST_PLANNED" = some (.int 100000 t)
  figures : ∃ t, mg "FIGURES" = some (.str "0123456789" t)
section
variable {mg : Str → Option Value} (B : Bl mg)
include B
theorem Bl.isi : mg "isinstance" = none := B.none_ _ (by decide)
theorem Bl.int : mg "int" = none := B.none_ _ (by decide)
theorem Bl.bool : mg "bool" = none := B.none_ _ (by decide)
theorem Bl.tuple : mg "tuple" = none := B.none_ _ (by decide)
theorem Bl.list : mg "list" = none := B.none_ _ (by decide)
theorem Bl.str : mg "str" = none := B.none_ _ (by decide)
theorem Bl.len : mg "len" = none := B.none_ _ (by decide)
theorem Bl.all : mg "all" = none := B.none_ _ (by decide)
theorem Bl.zip : mg "zip" = none := B.none_ _ (by decide)
theorem Bl.sum : mg "sum" = none := B.none_ _ (by decide)
theorem Bl.min : mg "min" = none := B.none_ _ (by decide)
theorem Bl.max : mg "max" = none := B.none_ _ (by decide)
theorem Bl.range : mg "range" = none := B.none_ _ (by decide)
theorem Bl.enum : mg "enumerate" = none := B.none_ _ (by decide)
end

/-! ### heaps: all but the tables at T stand -/
structure Ext (T : List Addr) (H H' : Hp) : Prop where
  keep : ∀ b o, H b = some o → b ∉ T → H' b = some o
  tab : ∀ P ∈ T, GxR.TabG H P → GxR.TabG H' P
def TOk (T : List Addr) (H : Hp) : Prop := ∀ P ∈ T, GxR.TabG H P
section
variable {T : List Addr} {H H1 H2 : Hp} {b p : Addr} {o u : HO}
theorem Ext.refl (T : List Addr) (H : Hp) : Ext T H H := ⟨fun _ _ e _ => e, fun _ _ t => t⟩
theorem Ext.trans (a : Ext T H H1) (c : Ext T H1 H2) : Ext T H H2 := ⟨fun b o e n => c.keep b o (a.keep b o e n) n, fun P h t => c.tab P h (a.tab P h t)⟩
theorem Ext.ok (a : Ext T H H1) (t : TOk T H) : TOk T H1 := fun P h => a.tab P h (t P h)
/-- what is no table lies beside the tables -/
theorem TOk.out (t : TOk T H) (e : H b = some o) (n : ∀ ps, o ≠ .tbl ps) : b ∉ T := fun h => by
  obtain ⟨ps, z, _⟩ := t b h
  rw [e] at z
  exact n ps (Option.some.inj z)
theorem Ext.at_ (a : Ext T H H1) (t : TOk T H) (e : H b = some o) (n : ∀ ps, o ≠ .tbl ps) : H1 b = some o := a.keep b o e (t.out e n)
theorem Ext.tup (a : Ext T H H1) (t : TOk T H) {xs : List V} (e : H b = some (.tup xs)) : H1 b = some (.tup xs) := a.at_ t e fun _ q => nomatch q
theorem Ext.lst (a : Ext T H H1) (t : TOk T H) {xs : List V} (e : H b = some (.lst xs)) : H1 b = some (.lst xs) := a.at_ t e fun _ q => nomatch q
theorem TOk.notnew (t : TOk T H) (e : H p = none) : p ∉ T := fun h => by
  obtain ⟨ps, z, _⟩ := t p h
  rw [e] at z
  cases z
/-- an object that was not there at the start is laid or changed -/
theorem Ext.put (a : Ext T H H1) (t : TOk T H) (e : H p = none) (u : HO) : Ext T H (upd H1 p u) := by
  refine ⟨fun b o h n => ?_, fun P h q => ?_⟩
  · rw [upd_ne (ne_of_none h e)]
    exact a.keep b o h n
  · obtain ⟨ps, z1, z2⟩ := a.tab P h q
    exact ⟨ps, by rw [upd_ne (fun z => t.notnew e (by rw [← z]; exact h))]; exact z1, z2⟩
theorem Ext.new (t : TOk T H) (e : H p = none) (u : HO) : Ext T H (upd H p u) := (Ext.refl T H).put t e u
/-- what is free later was free at the start -/
theorem Ext.free (a : Ext T H H1) (t : TOk T H) (e : H1 p = none) : H p = none := by
  by_cases h : p ∈ T
  · obtain ⟨ps, z, _⟩ := a.tab p h (t p h)
    rw [e] at z
    cases z
  · cases q : H p with
    | none => rfl
    | some o =>
      rw [a.keep p o q h] at e
      cases e
theorem Ext.of_tabbed {P : Addr} (hP : P ∈ T) (h : GxR.Tabbed P H H1) : Ext T H H1 := by
  refine ⟨fun b o e n => ?_, fun Q hQ t => ?_⟩
  · rw [h.2 b (fun z => n (by rw [z]; exact hP))]
    exact e
  · by_cases hq : Q = P
    · rw [hq]; exact h.1
    · obtain ⟨ps, z1, z2⟩ := t
      exact ⟨ps, by rw [h.2 Q hq]; exact z1, z2⟩
end

/-! ### data: tuples of ints, tuples of such -/
def TupI (H : Hp) (a : Addr) (ns : List Int) : Prop := H a = some (.tup (ns.map V.int))
def TupT (H : Hp) (a : Addr) (rows : List (List Int)) : Prop := ∃ as : List Addr, H a = some (.tup (as.map V.ref)) ∧ Paired (fun b r => TupI H b r) as rows
theorem TupI.ext {T : List Addr} {H H1 : Hp} {a : Addr} {ns : List Int} (h : TupI H a ns) (t : TOk T H) (e : Ext T H H1) : TupI H1 a ns := e.tup t h
theorem TupT.ext {T : List Addr} {H H1 : Hp} {a : Addr} {rows : List (List Int)} (h : TupT H a rows) (t : TOk T H) (e : Ext T H H1) : TupT H1 a rows := by
  obtain ⟨as, h1, h2⟩ := h
  exact ⟨as, e.tup t h1, Paired.mapP h2 fun b r q => TupI.ext q t e⟩
structure Clk where
  per : Int
  eds : List Int
  tch : List (List Int)
  gaps : List (List Int)
  book : List (List Int)
  deriving DecidableEq
def ClkAt (H : Hp) (a : Addr) (c : Clk) : Prop := ∃ e t g b : Addr, H a = some (.tup [.int c.per, .ref e, .ref t, .ref g, .ref b]) ∧ TupI H e c.eds ∧ TupT H t c.tch ∧ TupT H g c.gaps ∧ TupT H b c.book
theorem ClkAt.ext {T : List Addr} {H H1 : Hp} {a : Addr} {c : Clk} (h : ClkAt H a c) (t : TOk T H) (x : Ext T H H1) : ClkAt H1 a c := by
  obtain ⟨e, tt, g, b, h1, h2, h3, h4, h5⟩ := h
  exact ⟨e, tt, g, b, x.tup t h1, h2.ext t x, h3.ext t x, h4.ext t x, h5.ext t x⟩
theorem paired_get {α β : Type} {F : α → β → Prop} : ∀ {l : List α} {m : List β} {i : Nat} {y : β}, Paired F l m → m[i]? = some y → ∃ x, l[i]? = some x ∧ F x y
  | _, _, _, _, .nil, e => by simp at e
  | _, _, 0, _, .cons r _, e => by simp at e; subst e; exact ⟨_, rfl, r⟩
  | _, _, i + 1, y, .cons _ t, e => by
    obtain ⟨x, h1, h2⟩ := paired_get (i := i) (y := y) t (by simpa using e)
    exact ⟨x, by simpa using h1, h2⟩
theorem paired_get' {α β : Type} {F : α → β → Prop} : ∀ {l : List α} {m : List β} {i : Nat} {x : α}, Paired F l m → l[i]? = some x → ∃ y, m[i]? = some y ∧ F x y
  | _, _, _, _, .nil, e => by simp at e
  | _, _, 0, _, .cons r _, e => by simp at e; subst e; exact ⟨_, rfl, r⟩
  | _, _, i + 1, x, .cons _ t, e => by
    obtain ⟨y, h1, h2⟩ := paired_get' (i := i) (x := x) t (by simpa using e)
    exact ⟨y, by simpa using h1, h2⟩

/-! ### isinstance of a written built-in class -/
def rIsiS (K : PySem.W.Frag) : List V → Hp → VK → Prop := fun xs H Q => ∃ (x : V) (T t : String) (b : Bool), xs = [x, .ty T] ∧ TyX K H x (.type t) ∧ kitB t T = some b ∧ Q (.bl b) H
theorem call_isiS {X : Cx} : CallR X (.builtin "isinstance") (rIsiS X.K) := by
  intro pins s σ H xs us Q I r h
  obtain ⟨x, T, t, b, rfl, ty, e, q⟩ := h
  exact call_isi pins s σ H _ us Q I r ⟨x, .ty T, .type t, .type T, b, rfl, .ty T, ty, kit_ty e, q⟩
/-- isinstance(e, x), x the name of the built-in class T -/
theorem pe_isi {X : Cx} {T : String} {x : Str} {e : Expr} {te : TE} {p p2 pos : Pos} (B : Bl X.mg) (he : PE X e te) (hmT : X.mg x = none) (hv : bootBuiltins x = some (.type T)) (hg : Gl X "isinstance" := by rfl) (hgT : Gl X x := by rfl) (hn : x ≠ "__name__" := by decide) (hd : (x == ("__debug__" : Str)) = false := by decide)
    (hst : starEach [e, .Name x p2] X.env = (false, eval e X.env) :: starEach [.Name x p2] X.env := by rfl) (hst2 : starEach [.Name x p2] X.env = (false, eval (.Name x p2) X.env) :: starEach [] X.env := by rfl) (hpl : (backTo pos (starEach [.Name x p2] X.env)).any (·.1) = false := by rfl) :
    PE X (.Call (.Name "isinstance" p) [e, .Name x p2] [] pos) (tCB (rIsiS X.K) (tCons te (tCons (tC (.ty T)) tNil))) :=
  pe_callB (p := p) (pos := pos) call_isiS hg B.isi (by decide +kernel) (pa_cons he (pa_cons (pe_bltn (v := .ty T) (pos := p2) hgT hmT hv rfl hn hd) pa_nil hst2) hst) (by decide) (by decide) hst hpl
theorem ty_int {K : PySem.W.Frag} {H : Hp} (i : Int) : TyX K H (.int i) (.type "int") := .base (.int i)
theorem ty_str {K : PySem.W.Frag} {H : Hp} (x : Str) : TyX K H (.str x) (.type "str") := .base (.str x)
theorem ty_tup {K : PySem.W.Frag} {H : Hp} {a : Addr} {xs : List V} (e : H a = some (.tup xs)) : TyX K H (.ref a) (.type "tuple") := .base (.tup e)
theorem ty_lst {K : PySem.W.Frag} {H : Hp} {a : Addr} {xs : List V} (e : H a = some (.lst xs)) : TyX K H (.ref a) (.type "list") := .base (.lst e)
theorem kb_int_int : kitB "int" "int" = some true := by decide +kernel
theorem kb_int_bool : kitB "int" "bool" = some false := by decide +kernel
theorem kb_tup_tup : kitB "tuple" "tuple" = some true := by decide +kernel
theorem kb_str_str : kitB "str" "str" = some true := by decide +kernel
theorem kb_int_str : kitB "int" "str" = some false := by decide +kernel
theorem kb_tup_list : kitB "tuple" "list" = some false := by decide +kernel
theorem kb_tup_str : kitB "tuple" "str" = some false := by decide +kernel
end CW
namespace CW
open PySem PySem.Spec PyProof.Rows L2
theorem all_by {J : It} {g : TG} {te : TE} {vs : List Nat} {σ : L2.St} {H : Hp} {Q : VK} (n : Nat) (Pv : Nat → Hp → Prop) (h0 : Pv 0 H) (hgo : ∀ i H, i < n → Pv i H → J.go i H)
    (hs : ∀ i H x H', i < n → Pv i H → J.yld i H x H' → g x (wipe σ vs) H' fun σ2 H3 => wipe σ2 vs = wipe σ vs ∧ te σ2 H3 fun y H4 => ∃ b, y = .bl b ∧ (if b = true then Pv (i + 1) H4 else Q (.bl false) H4))
    (hd : ∀ H, Pv n H → J.stop n H ∧ Q (.bl true) H) : GA.AllRun J g te vs σ Q H := by
  refine ⟨fun i m H => m = n - i ∧ i ≤ n ∧ Pv i H, ⟨n, by simp, Nat.zero_le _, h0⟩, ?_⟩
  rintro i m H ⟨rfl, hi, p⟩
  by_cases hlt : i < n
  · exact .inr ⟨hgo i H hlt p, Pv (i + 1), fun H' p' => ⟨n - (i + 1), by omega, rfl, hlt, p'⟩, fun x H' y => hs i H x H' hlt p y⟩
  · have e : i = n := by omega
    subst e
    exact .inl (hd H p)
/-- each is less than the next -/
def Rise {α : Type} (lt : α → α → Prop) (l : List α) : Prop := ∀ i x y, l[i]? = some x → l[i + 1]? = some y → lt x y
abbrev RiseI (l : List Int) : Prop := Rise (· < ·) l
abbrev RiseT (l : List (List Int)) : Prop := Rise (fun x y => HT.lexLt x y = true) l
end CW
namespace CW
open PySem PySem.Spec PyProof.Rows L2
theorem pe_gint {X : Cx} {x : Str} {i : Int} {pos : Pos} (h : ∃ t, X.mg x = some (.int i t)) (hg : Gl X x := by rfl) (hd : (x == ("__debug__" : Str)) = false := by decide) : PE X (.Name x pos) (tC (.int i)) := by
  obtain ⟨t, hm⟩ := h
  exact pe_glob hg hm ⟨_, rfl⟩ hd
theorem pe_gstr {X : Cx} {x z : Str} {pos : Pos} (h : ∃ t, X.mg x = some (.str z t)) (hg : Gl X x := by rfl) (hd : (x == ("__debug__" : Str)) = false := by decide) : PE X (.Name x pos) (tC (.str z)) := by
  obtain ⟨t, hm⟩ := h
  exact pe_glob hg hm ⟨_, rfl⟩ hd
end CW

/-! sum of a tuple of ints. -/
namespace PySem
open PyProof.Rows
theorem sum_tupG {prog : Program} {w : World} {A : Around} {E : Value → Shared → Prop} {s : Shared} {l : Addr} {xs : Array (Int × Tok)} {Q : Value → Shared → Prop} (hh : A.handled = none) (hl : s.heap.IsTuple l (intItems xs))
    (h : ∀ h' tk t', (∀ b o, s.heap.get? b = some o → h'.get? b = some o) → Q (.int (preSum (numAt xs) xs.size) t') { s with heap := h', toks := tk }) :
    wpAny (model prog w) A (call (.builtin "sum") [.ref l]) Q E s := by
  have hlt : l < s.heap.objs.size := by
    obtain ⟨o, e, _⟩ := hl
    exact Heap.lt_size e
  refine call_sum_walkG (wpAny_pyIter_tuple hl ?_)
  refine ⟨_, _, _, _, _, _, numAt xs, rfl, Walks.tuple (A := A.in1) hh _ l (Nat.ne_of_lt hlt) (intItems xs), ⟨⟨_, Heap.get?_push_size _ rfl, rfl, rfl⟩, hl.at fun o e => Heap.get?_push_of_some _ e⟩, fun b hb => ?_, (fun _ _ => intItems_at), fun h' tk t' hk => ?_⟩
  · rcases List.mem_cons.mp hb with e | hb
    · rw [e]; show _ < (s.heap.push _).objs.size; rw [Heap.size_push]; exact Nat.lt_succ_self _
    · rw [List.mem_singleton.mp hb]; show _ < (s.heap.push _).objs.size; rw [Heap.size_push]; exact Nat.lt_succ_of_lt hlt
  · have := h h' tk t' (fun b o e => hk b o (fun z => by
      have h1 := Heap.lt_size e
      rw [List.mem_singleton.mp z] at h1
      exact absurd h1 (Nat.lt_irrefl _)) (Heap.get?_push_of_some _ e))
    simpa [intItems] using this
end PySem
namespace CW
open PySem PySem.Spec PyProof.Rows L2
def rSumT (K : PySem.W.Frag) : List V → Hp → VK → Prop := fun vs H Q => ∃ (a : Addr) (ns : List Int), vs = [V.ref a] ∧ SqT K H a (ns.map V.int) ∧ Q (.int ns.sum) H
theorem cr_sumT {X : Cx} (hc : X.calm = true) : CallR X (.builtin "sum") (rSumT X.K) := by
  intro pins s σ H vs us Q I r h
  obtain ⟨a, ns, rfl, hs, q⟩ := h
  obtain ⟨its, rv, hl, _⟩ := I.tuple hs
  rw [Vals.ref1 r]
  obtain ⟨xs, e⟩ := rv.ints.allInts.items
  have hn : numsOf (intItems xs).toList = ns := by rw [← e]; exact rv.ints.numsOf
  rw [nums_intItems] at hn
  have hl2 : s.heap.IsTuple a (intItems xs) := by rw [← e]; exact hl
  refine PySem.sum_tupG (I.ok.hd hc) hl2 fun h' tk t' hk => ?_
  rw [preSum_eq, List.take_of_length_le (by simp), hn]
  exact ⟨.int _, H, I.kept hk, ⟨_, rfl⟩, q⟩
end CW

namespace CW
open PySem PySem.Spec PyProof.Rows L2
section
variable {P : Program} {w : World} {K : PySem.W.Frag} {mg : Str → Option Value} {base : Heap}
/-! ### is_number -/
def spIsNum : Sp := fun vs H Q _ => ∃ v lo hi : Int, vs = [.int v, .int lo, .int hi] ∧ Q (.bl (decide (lo ≤ v ∧ v ≤ hi))) H
theorem scIsNum : FnScope ["value", "low", "high"] ["value", "low", "high"] (defScope sIsNum) := ⟨rfl, rfl, rfl, by decide +kernel, rfl, by decide +kernel, by decide +kernel⟩
theorem cal_isnum (D : DefAt K mg "is_number" sIsNum) (B : Bl mg) : Cal P w K mg base CX0 1 "is_number" ["value", "low", "high"] spIsNum := by
  refine D.cal scIsNum (fun _ _ _ _ _ _ us hl => match us, hl with | [_, _, _], _ => rfl) (fun vs H Q E h => ?_) (fun f cdv A outer s H vs Q E hr h => ?_)
  · obtain ⟨v, lo, hi, rfl, _⟩ := h
    rfl
  · obtain ⟨v, lo, hi, rfl, k⟩ := h
    refine ⟨_, pss_one (ps_ret (pe_and (pe_isi (T := "int") B (pv 0) B.int (by decide +kernel)) (pe_and (pe_not (pe_isi (T := "bool") B (pv 0) B.bool (by decide +kernel)))
      (pe_one (pe_chain op_le op_le (pv 1) (pv 0) (pv 2)))))), ?_⟩
    refine ⟨_, rfl, _, _, _, _, rfl, ty_int v, kb_int_int, true, rfl, ?_⟩
    refine ⟨_, rfl, _, _, _, _, rfl, ty_int v, kb_int_bool, false, rfl, true, rfl, ?_⟩
    refine ⟨_, rfl, _, rfl, _, _, rfl, rfl, _, rfl, ?_⟩
    by_cases h1 : lo ≤ v
    · rw [decide_eq_true h1]
      refine ⟨_, rfl, _, _, rfl, rfl, ?_⟩
      have e : decide (v ≤ hi) = decide (lo ≤ v ∧ v ≤ hi) := by simp [h1]
      show Q (V.bl (decide (v ≤ hi))) H
      rw [e]
      exact k
    · rw [decide_eq_false h1]
      have e : decide (lo ≤ v ∧ v ≤ hi) = false := by simp [h1]
      rw [e] at k
      exact k
end
end CW

namespace CW
open PySem PySem.Spec PyProof.Rows L2 GA
section
variable {P : Program} {w : World} {K : PySem.W.Frag} {mg : Str → Option Value} {base : Heap} {T : List Addr}
/-! ### are_rising -/
/-- two neighbours compared -/
def LtV (H : Hp) (x y : V) : Prop := (∃ i j : Int, x = .int i ∧ y = .int j ∧ i < j) ∨ (∃ (a b : Addr) (r q : List Int), x = .ref a ∧ y = .ref b ∧ TupI H a r ∧ TupI H b q ∧ HT.lexLt r q = true)
theorem LtV.ext {H H1 : Hp} {x y : V} (h : LtV H x y) (t : TOk T H) (e : Ext T H H1) : LtV H1 x y := by
  rcases h with h | ⟨a, b, r, q, h1, h2, h3, h4, h5⟩
  · exact .inl h
  · exact .inr ⟨a, b, r, q, h1, h2, h3.ext t e, h4.ext t e, h5⟩
def spRising (T : List Addr) : Sp := fun vs H Q _ => ∃ (a : Addr) (xs : List V), vs = [.ref a] ∧ H a = some (.tup xs) ∧ xs.length ≤ 1000 ∧ Rise (LtV H) xs ∧ TOk T H ∧ ∀ H', Ext T H H' → Q (.bl true) H'
theorem rise_ints {H : Hp} {ns : List Int} (h : RiseI ns) : Rise (LtV H) (ns.map V.int) := by
  intro i x y h1 h2
  rw [List.getElem?_map] at h1 h2
  cases e1 : ns[i]? with
  | none => rw [e1] at h1; cases h1
  | some n =>
    cases e2 : ns[i + 1]? with
    | none => rw [e2] at h2; cases h2
    | some m =>
      rw [e1] at h1
      rw [e2] at h2
      exact .inl ⟨n, m, (Option.some.inj h1).symm, (Option.some.inj h2).symm, h i n m e1 e2⟩
theorem rise_tups {H : Hp} {as : List Addr} {rows : List (List Int)} (p : Paired (fun b r => TupI H b r) as rows) (h : RiseT rows) : Rise (LtV H) (as.map V.ref) := by
  intro i x y h1 h2
  rw [List.getElem?_map] at h1 h2
  cases e1 : as[i]? with
  | none => rw [e1] at h1; cases h1
  | some a =>
    cases e2 : as[i + 1]? with
    | none => rw [e2] at h2; cases h2
    | some b =>
      rw [e1] at h1
      rw [e2] at h2
      obtain ⟨r, f1, g1⟩ := paired_get' p e1
      obtain ⟨q, f2, g2⟩ := paired_get' p e2
      exact .inr ⟨a, b, r, q, (Option.some.inj h1).symm, (Option.some.inj h2).symm, g1, g2, h i r q f1 f2⟩
theorem scRising : FnScope ["value", "one", "other"] ["value"] (defScope sRising) := ⟨rfl, rfl, rfl, by decide +kernel, rfl, by decide +kernel, by decide +kernel⟩
theorem getq {α : Type} {l : List α} {i : Nat} (h : i < l.length) : ∃ x, l[i]? = some x := ⟨l[i], List.getElem?_eq_getElem h⟩
theorem rising_loop {Pt a b : Addr} {H H1 : Hp} {xs : List V} {Q : VK} (hP : Pt ∈ T) (hT : TOk T H) (ha : H a = some (.tup xs)) (hR : Rise (LtV H) xs) (k : ∀ H', Ext T H H' → Q (.bl true) H') (e1 : Ext T H H1) (hb : H1 b = some (.tup (xs.drop 1))) :
    AllLoop Pt (RZ.ItzT K a b) (gTup K 2 (gCons (gName 1) (gCons (gName 2) gNil))) (tOp (fun x y H Q => (rI0 fun i j => .bl (decide (i < j))) x y H Q ∨ rLtT K x y H Q) (tVar 1) (tVar 2)) [1, 2] [some (.ref a), none, none] Q H1 := by
  refine ⟨e1.tab _ hP (hT _ hP), fun H2 h2 => all_by (xs.length - 1) (fun i H' => Ext T H1 H') (Ext.of_tabbed hP h2) (fun i H' hi e2 => ?_) (fun i H' x H3 hi e2 hy => ?_) (fun H' e2 => ?_)⟩
  · obtain ⟨x, hx⟩ := getq (l := xs) (i := i) (by omega)
    obtain ⟨y, hy⟩ := getq (l := xs.drop 1) (i := i) (by rw [List.length_drop]; omega)
    exact ⟨xs, xs.drop 1, x, y, SqT.of ((e1.trans e2).tup hT ha), SqT.of (e2.tup (e1.ok hT) hb), hx, hy⟩
  · obtain ⟨Tq, u, v, rfl, hn, rfl, hu, hv⟩ := hy
    have hx := hu xs (SqT.of ((e1.trans e2).tup hT ha))
    have hy := hv _ (SqT.of (e2.tup (e1.ok hT) hb))
    rw [List.getElem?_drop, Nat.add_comm] at hy
    have e3 : Ext T H1 (upd H' Tq (.tup [u, v])) := e2.put (e1.ok hT) (e2.free (e1.ok hT) hn) _
    have lt : LtV (upd H' Tq (.tup [u, v])) u v := (hR i u v hx hy).ext hT (e1.trans e3)
    refine ⟨Tq, [u, v], rfl, SqT.of upd_same, rfl, u, [v], rfl, v, [], rfl, rfl, rfl, u, rfl, v, rfl, ?_⟩
    rcases lt with ⟨i, j, rfl, rfl, l⟩ | ⟨p, q, r, t, rfl, rfl, h1, h2, l⟩
    · exact .inl ⟨i, j, rfl, rfl, _, rfl, by rw [decide_eq_true l]; exact e3⟩
    · exact .inr ⟨p, q, r, t, rfl, rfl, SqT.of h1, SqT.of h2, _, rfl, by rw [l]; exact e3⟩
  · exact ⟨⟨xs, xs.drop 1, SqT.of ((e1.trans e2).tup hT ha), SqT.of (e2.tup (e1.ok hT) hb), .inr (by rw [List.length_drop]; omega)⟩, k _ (e1.trans e2)⟩
theorem cal_rising {c Pt : Addr} (D : DefTab K mg base "are_rising" sRising c Pt) (hP : Pt ∈ T) (B : Bl mg) : Cal P w K mg base CX0 2 "are_rising" ["value"] (spRising T) := by
  refine D.cal scRising (fun _ _ _ _ _ _ us hl => match us, hl with | [_], _ => rfl) (fun vs H Q E h => ?_) (fun f A outer s H vs Q E hr h => ?_)
  · obtain ⟨a, xs, rfl, _⟩ := h
    rfl
  · obtain ⟨a, xs, rfl, ha, hl, hR, hT, k⟩ := h
    refine ⟨_, pss_one (ps_ret (pe_allG (k := 0) (own := [("one", 1), ("other", 2)]) (g := gTup K 2 (gCons (gName 1) (gCons (gName 2) gNil))) hr rfl B.all (by decide +kernel) D.tab rfl (gsc_by (by decide +kernel)) (blkOk_by (N := ["value", "one", "other"]) (sc := defScope sRising) (by decide +kernel)) scRising.nd
      (RZ.pi_zipA rfl B.zip (pa_cons (pv 0) (pa_cons (pe_slice sl_tupA (pv 0) (po_some pe_int) po_none) pa_nil)))
      (fun A s H C cl code fp => pg_tup rfl (pgs_cons (pg_name (i := 1) scRising.nd rfl (Or.inl rfl) (.inr rfl)) (pgs_cons (pg_name (i := 2) scRising.nd rfl (Or.inl rfl) (.inr rfl)) pgs_nil)))
      (fun A s H C cl code fp hr0 => pe_cmpR (OpR.or (r' := rLtT K) op_lt (op_ltT hr0.units0)) (pv 1) (pv 2) (nomark _)))), ?_⟩
    have sx : HT.sIx xs.length 0 (some ((1 : Nat) : Int)) = min 1 xs.length := HT.sIx_nat _ _ 1
    refine ⟨_, rfl, _, rfl, 1, rfl, a, xs, rfl, SqT.of ha, fun q => ?_, fun q p hp => ?_⟩
    · have e : xs = [] := by
        have q1 : HT.sIx xs.length 0 (some ((1 : Nat) : Int)) = 0 := q.1
        rw [sx] at q1
        exact List.length_eq_zero_iff.mp (by omega)
      refine ⟨a, a, xs, xs, rfl, .inr ⟨SqT.of ha, SqT.of ha, rising_loop hP hT ha hR k (Ext.refl T H) (by rw [e] at ha ⊢; exact ha)⟩⟩
    · have ec : cutV xs (some ((1 : Nat) : Int)) none = xs.drop 1 := by
        unfold cutV
        rw [sx, HT.sIx_none]
        by_cases h0 : xs.length = 0
        · rw [List.length_eq_zero_iff.mp h0]; rfl
        · rw [show min 1 xs.length = 1 by omega, List.take_of_length_le (by rw [List.length_drop]; omega)]
      have nab : a ≠ p := ne_of_none ha hp
      refine ⟨a, p, xs, _, rfl, .inr ⟨SqT.of (by rw [upd_ne nab]; exact ha), SqT.of upd_same, rising_loop hP hT ha hR k (Ext.new hT hp _) ?_⟩⟩
      rw [upd_same]
      exact congrArg (fun z => some (HO.tup z)) ec
end
end CW

namespace CW
open PySem PySem.Spec PyProof.Rows L2 GA
section
variable {P : Program} {w : World} {K : PySem.W.Frag} {mg : Str → Option Value} {base : Heap} {T : List Addr}
/-! ### are_editions -/
def EdsOk (ns : List Int) : Prop := 1 ≤ ns.length ∧ ns.length ≤ 12 ∧ (∀ n ∈ ns, 0 ≤ n ∧ n ≤ 4) ∧ ns.sum ≤ 24
def spEds (T : List Addr) : Sp := fun vs H Q _ => ∃ (a : Addr) (ns : List Int), vs = [.ref a] ∧ TupI H a ns ∧ EdsOk ns ∧ TOk T H ∧ ∀ H', Ext T H H' → Q (.bl true) H'
theorem scEds : FnScope ["value", "last"] ["value"] (defScope sEds) := ⟨rfl, rfl, rfl, by decide +kernel, rfl, by decide +kernel, by decide +kernel⟩
theorem mapI {ns : List Int} {i : Nat} {x : V} (h : (ns.map V.int)[i]? = some x) : ∃ n, ns[i]? = some n ∧ x = .int n := by
  rw [List.getElem?_map] at h
  cases e : ns[i]? with
  | none => rw [e] at h; cases h
  | some n => rw [e] at h; exact ⟨n, rfl, (Option.some.inj h).symm⟩
/-- all(test of x for x in tuple of ints), every one passes: the loop's reading -/
theorem nums_loop {Pt a : Addr} {H H1 : Hp} {ns : List Int} {Q : VK} {σ : L2.St} {te : TE} {j : Nat} (hP : Pt ∈ T) (hT : TOk T H) (ha : TupI H a ns) (e1 : Ext T H H1) (k : ∀ H', Ext T H H' → Q (.bl true) H')
    (hw : ∀ x, wipe ((wipe σ [j]).set j (some x)) [j] = wipe σ [j])
    (hte : ∀ n H' , n ∈ ns → Ext T H H' → ∀ Q' : VK, (∀ H'', Ext T H H'' → Q' (.bl true) H'') → te ((wipe σ [j]).set j (some (.int n))) H' Q') :
    AllLoop Pt (Itt K a) (gName j) te [j] σ Q H1 := by
  refine ⟨e1.tab _ hP (hT _ hP), fun H2 h2 => all_by ns.length (fun i H' => Ext T H H') (e1.trans (Ext.of_tabbed hP h2)) (fun i H' hi e2 => ?_) (fun i H' x H3 hi e2 hy => ?_) (fun H' e2 => ?_)⟩
  · obtain ⟨n, hn⟩ := getq hi
    exact ⟨ns.map V.int, .int n, SqT.of (e2.tup hT ha), by rw [List.getElem?_map, hn]; rfl⟩
  · obtain ⟨rfl, hx⟩ := hy
    obtain ⟨n, hn, rfl⟩ := mapI (hx _ (SqT.of (e2.tup hT ha)))
    exact ⟨hw _, hte n _ (List.mem_of_getElem? hn) e2 _ fun H'' e3 => ⟨true, rfl, e3⟩⟩
  · exact ⟨⟨ns.map V.int, SqT.of (e2.tup hT ha), by rw [List.length_map]; exact Nat.le_refl _⟩, k _ e2⟩
theorem cal_eds {c Pt : Addr} (D : DefTab K mg base "are_editions" sEds c Pt) (hP : Pt ∈ T) (B : Bl mg) (CN : Cal P w K mg base CX0 1 "is_number" ["value", "low", "high"] spIsNum) : Cal P w K mg base CX0 3 "are_editions" ["value"] (spEds T) := by
  refine D.cal scEds (fun _ _ _ _ _ _ us hl => match us, hl with | [_], _ => rfl) (fun vs H Q E h => ?_) (fun f A outer s H vs Q E hr h => ?_)
  · obtain ⟨a, xs, rfl, _⟩ := h
    rfl
  · obtain ⟨a, ns, rfl, ha, ⟨h1, h2, h3, h4⟩, hT, k⟩ := h
    refine ⟨_, pss_cons (ps_if (PW.pt (pw_or (pt_not (pt_val (pe_isi (T := "tuple") B (pv 0) B.tuple (by decide +kernel)))) (pw_or1 (pt_not (pt_chain op_le op_le pe_int (pe_callB call_len (by rfl) B.len PySem.boot_len (pa_cons (pv 0) pa_nil)) (pe_gint B.wheels)))))) (pss_one (ps_ret pe_bl)) pss_nil)
      (pss_one (ps_ret (pe_and (pe_allG (k := 1) (own := [("last", 1)]) (g := gName 1) (te := fun σ H Q => tCons (tVar 1) (tCons (tC (.int 0)) (tCons (tC (.int 4)) tNil)) σ H fun vs H1 => spIsNum vs H1 Q E0) hr rfl B.all (by decide +kernel) D.tab rfl (gsc_by (by decide +kernel)) (blkOk_by (N := ["value", "last"]) (sc := defScope sEds) (by decide +kernel)) scEds.nd
          (pi_tup (pv 0)) (fun A s H C cl code fp => pg_name (i := 1) scEds.nd rfl (Or.inl rfl) (.inr rfl))
          (fun A s H C cl code fp hr0 => pe_cal CN hr0 rfl pass0 (pa_cons (pv 1) (pa_cons pe_int (pa_cons (pe_gint B.editions) pa_nil)))))
        (pe_one (pe_cmpR op_le (pe_callB (cr_sumT rfl) (by rfl) B.sum (by decide +kernel) (pa_cons (pv 0) pa_nil)) (pe_gint B.exchanges) (nomark _)))))), ?_⟩
    have hl1 : decide ((1 : Int) ≤ ((ns.length : Nat) : Int)) = true := decide_eq_true (by omega)
    have hl2 : decide (((ns.length : Nat) : Int) ≤ 12) = true := decide_eq_true (by omega)
    -- the guard
    refine ⟨_, rfl, _, _, _, _, rfl, ty_tup ha, kb_tup_tup, true, rfl, ?_⟩
    refine iteF ?_
    refine ⟨_, rfl, _, _, rfl, .inr ⟨_, SqT.of ha, by rw [List.length_map]⟩, _, _, rfl, rfl, _, rfl, ?_⟩
    rw [hl1]
    refine iteT ⟨_, _, rfl, rfl, _, rfl, ?_⟩
    rw [hl2]
    refine iteF ?_
    refine ⟨_, rfl, a, rfl, ⟨_, SqT.of ha⟩, nums_loop hP hT ha (Ext.refl T H) (fun H' e => ?_) (fun x => rfl) (fun n H' hn e Q' q => ?_)⟩
    · refine ⟨true, rfl, iteT ⟨_, rfl, a, ns, rfl, SqT.of (e.tup hT ha), _, _, rfl, rfl, ?_⟩⟩
      show Q (V.bl (decide (ns.sum ≤ 24))) H'
      rw [decide_eq_true h4]
      exact k _ e
    · refine ⟨_, rfl, n, 0, 4, rfl, ?_⟩
      rw [decide_eq_true (h3 n hn)]
      exact q _ e
/-! ### are_touches -/
def TchOk (per : Int) (wh : Nat) (rows : List (List Int)) : Prop := (∀ r ∈ rows, ∃ p i j : Int, r = [p, i, j] ∧ 0 ≤ p ∧ p ≤ per - 1 ∧ 0 ≤ i ∧ i ≤ (wh : Int) - 1 ∧ i + 1 ≤ j ∧ j ≤ (wh : Int) - 1) ∧ RiseT rows ∧ rows.length ≤ 1000
def spTouches (T : List Addr) : Sp := fun vs H Q _ => ∃ (a : Addr) (per : Int) (wh : Nat) (rows : List (List Int)), vs = [.ref a, .int per, .int wh] ∧ TupT H a rows ∧ TchOk per wh rows ∧ TOk T H ∧ ∀ H', Ext T H H' → Q (.bl true) H'
theorem scTouches : FnScope ["value", "period", "wheels", "touch"] ["value", "period", "wheels"] (defScope sTouches) := ⟨rfl, rfl, rfl, by decide +kernel, rfl, by decide +kernel, by decide +kernel⟩
theorem mapR {as : List Addr} {i : Nat} {x : V} (h : (as.map V.ref)[i]? = some x) : ∃ n, as[i]? = some n ∧ x = .ref n := by
  rw [List.getElem?_map] at h
  cases e : as[i]? with
  | none => rw [e] at h; cases h
  | some n => rw [e] at h; exact ⟨n, rfl, (Option.some.inj h).symm⟩
theorem cal_touches (D : DefAt K mg "are_touches" sTouches) (B : Bl mg) (CN : Cal P w K mg base CX0 1 "is_number" ["value", "low", "high"] spIsNum) (CR : Cal P w K mg base CX0 2 "are_rising" ["value"] (spRising T)) : Cal P w K mg base CX0 3 "are_touches" ["value", "period", "wheels"] (spTouches T) := by
  refine D.cal scTouches (fun _ _ _ _ _ _ us hl => match us, hl with | [_, _, _], _ => rfl) (fun vs H Q E h => ?_) (fun f cdv A outer s H vs Q E hr h => ?_)
  · obtain ⟨a, per, wh, rows, rfl, _⟩ := h
    rfl
  · obtain ⟨a, per, wh, rows, rfl, ⟨as, ha, hp⟩, ⟨h1, h2, h3⟩, hT, k⟩ := h
    have hr1 : Room 1 _ := hr.mono (by decide)
    refine ⟨_, pss_cons (ps_if (pt_not (pt_val (pe_isi (T := "tuple") B (pv 0) B.tuple (by decide +kernel)))) (pss_one (ps_ret pe_bl)) pss_nil)
      (pss_cons (ps_for PassesOwn.never rfl (pi_tup (pv 0)) (pg_name (i := 3) scTouches.nd rfl (Or.inl rfl))
        (pss_cons (ps_if (PW.pt (pw_or (pt_not (pt_val (pe_isi (T := "tuple") B (pv 3) B.tuple (by decide +kernel)))) (pw_or (pt_cmpR op_ne (pe_callB call_len (by rfl) B.len PySem.boot_len (pa_cons (pv 3) pa_nil)) pe_int (nomark _))
            (pw_or1 (pt_not (pt_val (pe_cal CN hr1 rfl pass0 (pa_cons (pe_ix ix_tup (pv 3) pe_int (fun _ _ => rfl)) (pa_cons pe_int (pa_cons (pe_op op_sub (pv 1) pe_int) pa_nil)))))))))) (pss_one (ps_ret pe_bl)) pss_nil)
        (pss_one (ps_if (PW.pt (pw_or (pt_not (pt_val (pe_cal CN hr1 rfl pass0 (pa_cons (pe_ix ix_tup (pv 3) pe_int (fun _ _ => rfl)) (pa_cons pe_int (pa_cons (pe_op op_sub (pv 2) pe_int) pa_nil))))))
            (pw_or1 (pt_not (pt_val (pe_cal CN hr1 rfl pass0 (pa_cons (pe_ix ix_tup (pv 3) pe_int (fun _ _ => rfl)) (pa_cons (pe_op op_add (pe_ix ix_tup (pv 3) pe_int (fun _ _ => rfl)) pe_int) (pa_cons (pe_op op_sub (pv 2) pe_int) pa_nil))))))))) (pss_one (ps_ret pe_bl)) pss_nil))))
      (pss_one (ps_ret (pe_cal CR hr rfl pass0 (pa_cons (pv 0) pa_nil))))), ?_⟩
    refine ⟨_, rfl, _, _, _, _, rfl, ty_tup ha, kb_tup_tup, true, rfl, iteF ?_⟩
    refine ⟨_, rfl, a, rfl, ⟨_, SqT.of ha⟩, for_tup (K := K) (a := a) (xs := as.map V.ref) (fun i σ H' => (∃ v : Option V, σ = [some (.ref a), some (.int per), some (.int wh), v]) ∧ H' = H) ⟨⟨none, rfl⟩, rfl⟩ (fun i σ H' _ q => by rw [q.2]; exact SqT.of ha) ?_ ?_⟩
    · rintro i x σ H' hi ⟨⟨v, rfl⟩, rfl⟩
      obtain ⟨b, hb, rfl⟩ := mapR hi
      obtain ⟨r, hr', tb⟩ := paired_get' hp hb
      obtain ⟨p, ii, j, rfl, q1, q2, q3, q4, q5, q6⟩ := h1 r (List.mem_of_getElem? hr')
      have tb : H' b = some (.tup [.int p, .int ii, .int j]) := tb
      refine ⟨_, rfl, _, _, _, _, rfl, ty_tup tb, kb_tup_tup, true, rfl, iteF ?_⟩
      refine ⟨_, rfl, _, _, rfl, .inr ⟨_, SqT.of tb, rfl⟩, rfl, _, rfl, iteF ?_⟩
      refine ⟨_, rfl, _, _, _, _, rfl, rfl, SqT.of tb, rfl, _, rfl, _, _, rfl, rfl, p, 0, per - 1, rfl, _, rfl, ?_⟩
      rw [decide_eq_true (show 0 ≤ p ∧ p ≤ per - 1 from ⟨q1, q2⟩)]
      refine iteF ?_
      refine ⟨_, rfl, _, _, _, _, rfl, rfl, SqT.of tb, rfl, _, rfl, _, _, rfl, rfl, ii, 0, (wh : Int) - 1, rfl, _, rfl, ?_⟩
      rw [decide_eq_true (show 0 ≤ ii ∧ ii ≤ (wh : Int) - 1 from ⟨q3, q4⟩)]
      refine iteF ?_
      refine ⟨_, rfl, _, _, _, _, rfl, rfl, SqT.of tb, rfl, _, rfl, _, _, _, _, rfl, rfl, SqT.of tb, rfl, _, _, rfl, rfl, _, rfl, _, _, rfl, rfl, j, ii + 1, (wh : Int) - 1, rfl, _, rfl, ?_⟩
      rw [decide_eq_true (show ii + 1 ≤ j ∧ j ≤ (wh : Int) - 1 from ⟨q5, q6⟩)]
      exact iteF ⟨⟨_, rfl⟩, rfl⟩
    · rintro σ H' ⟨⟨v, rfl⟩, rfl⟩
      exact ⟨_, rfl, a, _, rfl, ha, by rw [List.length_map, hp.length]; exact h3, rise_tups hp h2, hT, k⟩
end
end CW

namespace CW
open PySem PySem.Spec PyProof.Rows L2 GA
section
variable {P : Program} {w : World} {K : PySem.W.Frag} {mg : Str → Option Value} {base : Heap} {T : List Addr}
/-! ### are_gaps -/
def GapsOk (per : Int) (eds : List Int) (rows : List (List Int)) : Prop := rows.length = eds.length ∧ (∀ r ∈ rows, (∀ n ∈ r, 0 ≤ n ∧ n ≤ per - 1) ∧ RiseI r ∧ r.length ≤ 1000) ∧ ∀ (i : Nat) (r : List Int) (e : Int), rows[i]? = some r → eds[i]? = some e → 0 < e → r ≠ []
def spGaps (T : List Addr) : Sp := fun vs H Q _ => ∃ (a b : Addr) (per : Int) (eds : List Int) (rows : List (List Int)), vs = [.ref a, .int per, .ref b] ∧ TupT H a rows ∧ TupI H b eds ∧ GapsOk per eds rows ∧ TOk T H ∧ ∀ H', Ext T H H' → Q (.bl true) H'
theorem scGaps : FnScope ["value", "period", "editions", "phases", "last", "phase"] ["value", "period", "editions"] (defScope sGaps) := ⟨rfl, rfl, rfl, by decide +kernel, rfl, by decide +kernel, by decide +kernel⟩
theorem cal_gaps {c Pt : Addr} (D : DefTab K mg base "are_gaps" sGaps c Pt) (hP : Pt ∈ T) (B : Bl mg) (CN : Cal P w K mg base CX0 1 "is_number" ["value", "low", "high"] spIsNum) (CR : Cal P w K mg base CX0 2 "are_rising" ["value"] (spRising T)) : Cal P w K mg base CX0 3 "are_gaps" ["value", "period", "editions"] (spGaps T) := by
  refine D.cal scGaps (fun _ _ _ _ _ _ us hl => match us, hl with | [_, _, _], _ => rfl) (fun vs H Q E h => ?_) (fun f A outer s H vs Q E hr h => ?_)
  · obtain ⟨a, b, per, eds, rows, rfl, _⟩ := h
    rfl
  · obtain ⟨a, b, per, eds, rows, rfl, ⟨as, ha, hp⟩, hb, ⟨h1, h2, h3⟩, hT, k⟩ := h
    have hb : H b = some (.tup (eds.map V.int)) := hb
    have hal : as.length = eds.length := by rw [hp.length, h1]
    refine ⟨_, pss_cons (ps_if (PW.pt (pw_or (pt_not (pt_val (pe_isi (T := "tuple") B (pv 0) B.tuple (by decide +kernel)))) (pw_or1 (pt_cmpR op_ne (pe_callB call_len (by rfl) B.len PySem.boot_len (pa_cons (pv 0) pa_nil)) (pe_callB call_len (by rfl) B.len PySem.boot_len (pa_cons (pv 2) pa_nil)) (nomark _))))) (pss_one (ps_ret pe_bl)) pss_nil)
      (pss_cons (ps_for PassesOwn.never rfl (RZ.pi_zipA rfl B.zip (pa_cons (pv 0) (pa_cons (pv 2) pa_nil))) (pg_tup rfl (pgs_cons (pg_name (i := 3) scGaps.nd rfl (Or.inl rfl)) (pgs_cons (pg_name (i := 4) scGaps.nd rfl (Or.inl rfl)) pgs_nil)))
        (pss_cons (ps_if (PW.pt (pw_or (pt_not (pt_val (pe_isi (T := "tuple") B (pv 3) B.tuple (by decide +kernel))))
            (pw_or1 (pt_not (pt_val (pe_allG (k := 1) (own := [("phase", 5)]) (g := gName 5) (te := fun σ H Q => tCons (tVar 5) (tCons (tC (.int 0)) (tCons (tOp (rI0 fun i j => .int (i - j)) (tVar 1) (tC (.int 1))) tNil)) σ H fun vs H1 => spIsNum vs H1 Q E0) hr rfl B.all (by decide +kernel) D.tab rfl (gsc_by (by decide +kernel)) (blkOk_by (N := ["value", "period", "editions", "phases", "last", "phase"]) (sc := defScope sGaps) (by decide +kernel)) scGaps.nd
              (pi_tup (pv 3)) (fun A s H C cl code fp => pg_name (i := 5) scGaps.nd rfl (Or.inl rfl) (.inr rfl))
              (fun A s H C cl code fp hr0 => pe_cal CN hr0 rfl pass0 (pa_cons (pv 5) (pa_cons pe_int (pa_cons (pe_op op_sub (pv 1) pe_int) pa_nil))))))))))  (pss_one (ps_ret pe_bl)) pss_nil)
        (pss_one (ps_if (PW.pt (pw_or (pt_not (pt_val (pe_cal CR hr rfl pass0 (pa_cons (pv 3) pa_nil))))
            (pw_or1 (PW.pt (pw_and (pt_cmpR op_gt (pv 4) pe_int (nomark _)) (pw_and1 (pt_not (pt_truth (pv 3) (by intro _; rfl))))))))) (pss_one (ps_ret pe_bl)) pss_nil))))
      (pss_one (ps_ret pe_bl))), ?_⟩
    refine ⟨_, rfl, _, _, _, _, rfl, ty_tup ha, kb_tup_tup, true, rfl, iteF ?_⟩
    refine ⟨_, rfl, _, as.length, rfl, .inr ⟨_, SqT.of ha, by rw [List.length_map]⟩, _, rfl, _, eds.length, rfl, .inr ⟨_, SqT.of hb, by rw [List.length_map]⟩, rfl, _, rfl, ?_⟩
    rw [hal]
    refine iteNS rfl ?_
    refine ⟨_, rfl, _, rfl, a, b, _, _, rfl, .inr ⟨SqT.of ha, SqT.of hb, RZ.for_zipT (K := K) (a := a) (b := b) (xs := as.map V.ref) (ys := eds.map V.int) (by rw [List.length_map, List.length_map]; exact hal)
      (fun i σ H' => (∃ v1 v2 : Option V, σ = [some (.ref a), some (.int per), some (.ref b), v1, v2, none]) ∧ Ext T H H') ⟨⟨none, none, rfl⟩, Ext.refl T H⟩ (fun i σ H' q => ⟨SqT.of (q.2.tup hT ha), SqT.of (q.2.tup hT hb)⟩) ?_ ?_⟩⟩
    · rintro i x y Tq σ H' hx hy ⟨⟨v1, v2, rfl⟩, e1⟩ hTq
      obtain ⟨ra, hra, rfl⟩ := mapR hx
      obtain ⟨e, he, rfl⟩ := mapI hy
      obtain ⟨r, hr', tr⟩ := paired_get' hp hra
      obtain ⟨g1, g2, g3⟩ := h2 r (List.mem_of_getElem? hr')
      have e2 : Ext T H (upd H' Tq (.tup [.ref ra, .int e])) := e1.put hT (e1.free hT hTq) _
      refine ⟨Tq, _, rfl, SqT.of upd_same, rfl, _, _, rfl, _, _, rfl, rfl, ?_⟩
      generalize upd H' Tq (.tup [.ref ra, .int e]) = H2 at e2
      have tr2 : H2 ra = some (.tup (r.map V.int)) := e2.tup hT tr
      refine ⟨_, rfl, _, _, _, _, rfl, ty_tup tr2, kb_tup_tup, true, rfl, iteF ?_⟩
      refine ⟨_, rfl, ra, rfl, ⟨_, SqT.of tr2⟩, nums_loop hP hT tr e2 (fun H3 e3 => ?_) (fun x => rfl) (fun n H3 hn e3 Q' q => ?_)⟩
      · refine ⟨true, rfl, iteF ?_⟩
        have tr3 : H3 ra = some (.tup (r.map V.int)) := e3.tup hT tr
        refine ⟨_, rfl, ra, _, rfl, tr3, by rw [List.length_map]; exact g3, rise_ints g2, e3.ok hT, fun H4 e4 => ⟨true, rfl, iteF ?_⟩⟩
        have e5 : Ext T H H4 := e3.trans e4
        have tr4 : H4 ra = some (.tup (r.map V.int)) := e5.tup hT tr
        refine ⟨_, rfl, _, _, rfl, rfl, _, rfl, ?_⟩
        refine ite2 (fun hgt => ?_) (fun _ => ?_)
        · have hne := h3 i r e hr' he (of_decide_eq_true hgt)
          refine ⟨_, rfl, !(r.map V.int).isEmpty, .inr (.inl ⟨_, SqT.of tr4, rfl⟩), ?_⟩
          have : (!(r.map V.int).isEmpty) = true := by
            cases r with
            | nil => exact absurd rfl hne
            | cons x y => rfl
          rw [this]
          exact iteF ⟨⟨_, _, rfl⟩, e5⟩
        · exact iteF ⟨⟨_, _, rfl⟩, e5⟩
      · refine ⟨_, rfl, _, rfl, _, _, rfl, rfl, n, 0, per - 1, rfl, ?_⟩
        rw [decide_eq_true (show 0 ≤ n ∧ n ≤ per - 1 from g1 n hn)]
        exact q _ e3
    · rintro σ H' ⟨⟨v1, v2, rfl⟩, e⟩
      exact k _ e
end
end CW

namespace CW
open PySem PySem.Spec PyProof.Rows L2 GA
section
variable {P : Program} {w : World} {K : PySem.W.Frag} {mg : Str → Option Value} {base : Heap} {T : List Addr}
/-! ### is_entry -/
def EntryOk (eds : List Int) (r : List Int) : Prop := ∃ (i j : Nat) (a b ei ej : Int), r = [(i : Int), a, (j : Int), b] ∧ eds[i]? = some ei ∧ eds[j]? = some ej ∧ 1 ≤ a ∧ a ≤ ei ∧ 1 ≤ b ∧ b ≤ ej ∧ i ≠ j
def spEntry : Sp := fun vs H Q _ => ∃ (a e : Addr) (eds r : List Int), vs = [.ref a, .ref e] ∧ TupI H a r ∧ TupI H e eds ∧ EntryOk eds r ∧ Q (.bl true) H
theorem scEntry : FnScope ["value", "editions"] ["value", "editions"] (defScope sEntry) := ⟨rfl, rfl, rfl, by decide +kernel, rfl, by decide +kernel, by decide +kernel⟩
theorem lt_of_get {α : Type} {l : List α} {i : Nat} {x : α} (h : l[i]? = some x) : i < l.length := (List.getElem?_eq_some_iff.mp h).1
theorem atI_int {ns : List Int} {i : Nat} {x : Int} (h : ns[i]? = some x) : atI (ns.map V.int) (i : Int) = some (V.int x) := by
  have e : (ns.map V.int)[i]? = some (.int x) := by rw [List.getElem?_map, h]; rfl
  exact atI_nat e
theorem cal_entry (D : DefAt K mg "is_entry" sEntry) (B : Bl mg) (CN : Cal P w K mg base CX0 1 "is_number" ["value", "low", "high"] spIsNum) : Cal P w K mg base CX0 2 "is_entry" ["value", "editions"] spEntry := by
  refine D.cal scEntry (fun _ _ _ _ _ _ us hl => match us, hl with | [_, _], _ => rfl) (fun vs H Q E h => ?_) (fun f cdv A outer s H vs Q E hr h => ?_)
  · obtain ⟨a, e, eds, r, rfl, _⟩ := h
    rfl
  · obtain ⟨ad, e, eds, r, rfl, hr', he, ⟨i, j, a, b, ei, ej, rfl, h1, h2, h3, h4, h5, h6, h7⟩, k⟩ := h
    have hr' : H ad = some (.tup [.int i, .int a, .int j, .int b]) := hr'
    have he : H e = some (.tup (eds.map V.int)) := he
    have li := lt_of_get h1
    have lj := lt_of_get h2
    refine ⟨_, pss_cons (ps_if (PW.pt (pw_or (pt_not (pt_val (pe_isi (T := "tuple") B (pv 0) B.tuple (by decide +kernel)))) (pw_or (pt_cmpR op_ne (pe_callB call_len (by rfl) B.len PySem.boot_len (pa_cons (pv 0) pa_nil)) pe_int (nomark _))
        (pw_or1 (pt_not (pt_val (pe_cal CN hr rfl pass0 (pa_cons (pe_ix ix_tup (pv 0) pe_int (fun _ _ => rfl)) (pa_cons pe_int (pa_cons (pe_op op_sub (pe_callB call_len (by rfl) B.len PySem.boot_len (pa_cons (pv 1) pa_nil)) pe_int) pa_nil)))))))))) (pss_one (ps_ret pe_bl)) pss_nil)
      (pss_cons (ps_if (PW.pt (pw_or (pt_not (pt_val (pe_cal CN hr rfl pass0 (pa_cons (pe_ix ix_tup (pv 0) pe_int (fun _ _ => rfl)) (pa_cons pe_int (pa_cons (pe_ix ix_tup (pv 1) (pe_ix ix_tup (pv 0) pe_int (fun _ _ => rfl)) (fun _ _ => rfl)) pa_nil))))))
        (pw_or1 (pt_not (pt_val (pe_cal CN hr rfl pass0 (pa_cons (pe_ix ix_tup (pv 0) pe_int (fun _ _ => rfl)) (pa_cons pe_int (pa_cons (pe_op op_sub (pe_callB call_len (by rfl) B.len PySem.boot_len (pa_cons (pv 1) pa_nil)) pe_int) pa_nil))))))))) (pss_one (ps_ret pe_bl)) pss_nil)
      (pss_one (ps_ret (pe_and (pe_cmpR op_ne (pe_ix ix_tup (pv 0) pe_int (fun _ _ => rfl)) (pe_ix ix_tup (pv 0) pe_int (fun _ _ => rfl)) (nomark _))
        (pe_one (pe_cal CN hr rfl pass0 (pa_cons (pe_ix ix_tup (pv 0) pe_int (fun _ _ => rfl)) (pa_cons pe_int (pa_cons (pe_ix ix_tup (pv 1) (pe_ix ix_tup (pv 0) pe_int (fun _ _ => rfl)) (fun _ _ => rfl)) pa_nil))))))))), ?_⟩
    refine ⟨_, rfl, _, _, _, _, rfl, ty_tup hr', kb_tup_tup, true, rfl, iteF ?_⟩
    refine ⟨_, rfl, _, _, rfl, .inr ⟨_, SqT.of hr', rfl⟩, rfl, _, rfl, iteF ?_⟩
    refine ⟨_, rfl, _, _, _, _, rfl, rfl, SqT.of hr', rfl, _, rfl, _, eds.length, rfl, .inr ⟨_, SqT.of he, by rw [List.length_map]⟩, _, _, rfl, rfl, i, 0, (eds.length : Int) - 1, rfl, _, rfl, ?_⟩
    rw [decide_eq_true (show (0 : Int) ≤ i ∧ (i : Int) ≤ (eds.length : Int) - 1 by omega)]
    refine iteF ?_
    refine ⟨_, rfl, _, _, _, _, rfl, rfl, SqT.of hr', rfl, _, rfl, _, rfl, _, _, _, _, rfl, rfl, SqT.of hr', rfl, e, _, _, _, rfl, rfl, SqT.of he, atI_int h1, a, 1, ei, rfl, _, rfl, ?_⟩
    rw [decide_eq_true (show 1 ≤ a ∧ a ≤ ei from ⟨h3, h4⟩)]
    refine iteF ?_
    refine ⟨_, rfl, _, _, _, _, rfl, rfl, SqT.of hr', rfl, _, rfl, _, eds.length, rfl, .inr ⟨_, SqT.of he, by rw [List.length_map]⟩, _, _, rfl, rfl, j, 0, (eds.length : Int) - 1, rfl, _, rfl, ?_⟩
    rw [decide_eq_true (show (0 : Int) ≤ j ∧ (j : Int) ≤ (eds.length : Int) - 1 by omega)]
    refine iteF ?_
    refine ⟨_, rfl, _, _, _, _, rfl, rfl, SqT.of hr', rfl, _, rfl, _, _, _, _, rfl, rfl, SqT.of hr', rfl, rfl, _, rfl, ?_⟩
    have hd : (!decide (V.int (i : Int) = V.int (j : Int))) = true := by
      rw [decide_eq_false (fun q => h7 (by injection q with q; omega))]
      rfl
    rw [hd]
    refine iteT ?_
    refine ⟨_, rfl, _, _, _, _, rfl, rfl, SqT.of hr', rfl, _, rfl, _, rfl, _, _, _, _, rfl, rfl, SqT.of hr', rfl, e, _, _, _, rfl, rfl, SqT.of he, atI_int h2, b, 1, ej, rfl, ?_⟩
    rw [decide_eq_true (show 1 ≤ b ∧ b ≤ ej from ⟨h5, h6⟩)]
    exact k
/-! ### is_book -/
def BookOk (eds : List Int) (rows : List (List Int)) : Prop := (∀ r ∈ rows, EntryOk eds r) ∧ RiseT (rows.map (·.take 3)) ∧ rows.length ≤ 1000
def spBook (T : List Addr) : Sp := fun vs H Q _ => ∃ (a b : Addr) (eds : List Int) (rows : List (List Int)), vs = [.ref a, .ref b] ∧ TupT H a rows ∧ TupI H b eds ∧ BookOk eds rows ∧ TOk T H ∧ ∀ H', Ext T H H' → Q (.bl true) H'
theorem scBook : FnScope ["value", "editions", "entry"] ["value", "editions"] (defScope sBook) := ⟨rfl, rfl, rfl, by decide +kernel, rfl, by decide +kernel, by decide +kernel⟩
/-- all(test of x for x in tuple of rows), every one passes -/
theorem rows_loop {Pt a : Addr} {H H1 : Hp} {rows : List (List Int)} {Q : VK} {σ : L2.St} {te : TE} {j : Nat} (hP : Pt ∈ T) (hT : TOk T H) (ha : TupT H a rows) (e1 : Ext T H H1) (k : ∀ H', Ext T H H' → Q (.bl true) H')
    (hw : ∀ x, wipe ((wipe σ [j]).set j (some x)) [j] = wipe σ [j])
    (hte : ∀ r b H' , r ∈ rows → TupI H b r → Ext T H H' → ∀ Q' : VK, (∀ H'', Ext T H H'' → Q' (.bl true) H'') → te ((wipe σ [j]).set j (some (.ref b))) H' Q') :
    AllLoop Pt (Itt K a) (gName j) te [j] σ Q H1 := by
  obtain ⟨as, ha, hp⟩ := ha
  refine ⟨e1.tab _ hP (hT _ hP), fun H2 h2 => all_by as.length (fun i H' => Ext T H H') (e1.trans (Ext.of_tabbed hP h2)) (fun i H' hi e2 => ?_) (fun i H' x H3 hi e2 hy => ?_) (fun H' e2 => ?_)⟩
  · obtain ⟨n, hn⟩ := getq hi
    exact ⟨as.map V.ref, .ref n, SqT.of (e2.tup hT ha), by rw [List.getElem?_map, hn]; rfl⟩
  · obtain ⟨rfl, hx⟩ := hy
    obtain ⟨n, hn, rfl⟩ := mapR (hx _ (SqT.of (e2.tup hT ha)))
    obtain ⟨r, hr, tr⟩ := paired_get' hp hn
    exact ⟨hw _, hte r n _ (List.mem_of_getElem? hr) tr e2 _ fun H'' e3 => ⟨true, rfl, e3⟩⟩
  · exact ⟨⟨as.map V.ref, SqT.of (e2.tup hT ha), by rw [List.length_map]; exact Nat.le_refl _⟩, k _ e2⟩
theorem pair_snoc {α β : Type} {F : α → β → Prop} {l : List α} {m : List β} {x : α} {y : β} (h : Paired F l m) (q : F x y) : Paired F (l ++ [x]) (m ++ [y]) := by
  induction h with
  | nil => exact .cons q .nil
  | cons r _ ih => exact .cons r ih
theorem take_more {α : Type} {l : List α} {i : Nat} {x : α} (h : l[i]? = some x) : l.take (i + 1) = l.take i ++ [x] := by
  rw [List.take_add_one, h]; rfl
theorem cal_book {c Pt : Addr} (D : DefTab K mg base "is_book" sBook c Pt) (hP : Pt ∈ T) (B : Bl mg) (CE : Cal P w K mg base CX0 2 "is_entry" ["value", "editions"] spEntry) (CR : Cal P w K mg base CX0 2 "are_rising" ["value"] (spRising T)) : Cal P w K mg base CX0 4 "is_book" ["value", "editions"] (spBook T) := by
  refine D.cal scBook (fun _ _ _ _ _ _ us hl => match us, hl with | [_, _], _ => rfl) (fun vs H Q E h => ?_) (fun f A outer s H vs Q E hr h => ?_)
  · obtain ⟨a, b, eds, rows, rfl, _⟩ := h
    rfl
  · obtain ⟨a, b, eds, rows, rfl, ha, hb, ⟨h1, h2, h3⟩, hT, k⟩ := h
    obtain ⟨as, ha1, hp⟩ := id ha
    have hl : as.length = rows.length := hp.length
    refine ⟨_, pss_cons (ps_if (PW.pt (pw_or (pt_not (pt_val (pe_isi (T := "tuple") B (pv 0) B.tuple (by decide +kernel))))
          (pw_or1 (pt_not (pt_val (pe_allG (k := 2) (own := [("entry", 2)]) (g := gName 2) (te := fun σ H Q => tCons (tVar 2) (tCons (tVar 1) tNil) σ H fun vs H1 => spEntry vs H1 Q E0) hr rfl B.all (by decide +kernel) D.tab rfl (gsc_by (by decide +kernel)) (blkOk_by (N := ["value", "editions", "entry"]) (sc := defScope sBook) (by decide +kernel)) scBook.nd
              (pi_tup (pv 0)) (fun A s H C cl code fp => pg_name (i := 2) scBook.nd rfl (Or.inl rfl) (.inr rfl))
              (fun A s H C cl code fp hr0 => pe_cal CE hr0 rfl pass0 (pa_cons (pv 2) (pa_cons (pv 1) pa_nil)))))))))  (pss_one (ps_ret pe_bl)) pss_nil)
      (pss_one (ps_ret (pe_cal CR (hr.mono (by decide)) rfl pass0 (pa_cons (pe_callTy call_tuple_of (by rfl) B.tuple (by decide +kernel)
        (pa_cons (pe_lc (own := [("entry", 2)]) (g := gName 2) (tt := tYes) (te := tSl (rSlT K) (tVar 2) tNoPart (tPart (tC (.int 3)))) rfl scBook.nd (pi_tup (pv 0)) (blkOk_by (N := ["value", "editions", "entry"]) (sc := defScope sBook) (by decide +kernel))
          (fun _ _ _ _ _ => pg_name (i := 2) scBook.nd rfl (Or.inl rfl)) (fun _ _ _ _ _ => pts_nil) (fun _ _ _ _ _ => pe_slice sl_tup (pv 2) po_none (po_some pe_int))) pa_nil)) pa_nil)))), ?_⟩
    refine ⟨_, rfl, _, _, _, _, rfl, ty_tup ha1, kb_tup_tup, true, rfl, iteF ?_⟩
    refine ⟨_, rfl, a, rfl, ⟨_, SqT.of ha1⟩, rows_loop hP hT ha (Ext.refl T H) (fun H1 e1 => ⟨true, rfl, iteF ?_⟩) (fun x => rfl) (fun r bb H' hm tr e1 Q' q => ?_)⟩
    · have hT1 := e1.ok hT
      refine ⟨_, rfl, a, rfl, ⟨_, SqT.of (e1.tup hT ha1)⟩, fun Dl hD => lc_tup (K := K) (a := a) (xs := as.map V.ref) (fun i H' => Ext T H1 H' ∧ ∃ ps : List Addr, H' Dl = some (.lst (ps.map V.ref)) ∧ Paired (fun b r => TupI H' b r) ps ((rows.take i).map (·.take 3)))
        ⟨Ext.new hT1 hD _, [], upd_same, .nil⟩ (fun i H' _ q => SqT.of ((e1.trans q.1).tup hT ha1)) ?_ ?_⟩
      · rintro i x H' hi ⟨e2, ps, hps, pps⟩
        obtain ⟨n, hn, rfl⟩ := mapR hi
        obtain ⟨r, hr, tr⟩ := paired_get' hp hn
        obtain ⟨ii, jj, aa, bb, ei, ej, rfl, _⟩ := h1 r (List.mem_of_getElem? hr)
        have tr2 : H' n = some (.tup [.int ii, .int aa, .int jj, .int bb]) := (e1.trans e2).tup hT tr
        refine ⟨rfl, _, rfl, 3, rfl, n, _, rfl, SqT.of tr2, (fun q => by have q2 : HT.sIx 4 4 (some 3) = 4 := q.2; revert q2; decide), fun p hp' => ?_⟩
        have nDp : Dl ≠ p := ne_of_none hps hp'
        have hpl : ps.length = i := by
          rw [pps.length, List.length_map, List.length_take]
          have := lt_of_get hr
          omega
        refine ⟨ps.map V.ref, by rw [upd_ne nDp]; exact hps, ?_, ?_, ps ++ [p], by rw [upd_same, List.map_append]; rfl, ?_⟩
        · rw [List.length_map, hpl]
          have := lt_of_get hr
          exact small1000 (by omega)
        · exact (e2.put hT1 (e2.free hT1 hp') _).put hT1 hD _
        · rw [take_more hr, List.map_append]
          have old : Paired (fun b r => TupI (upd (upd H' p (.tup (cutV [.int ii, .int aa, .int jj, .int bb] none (some 3)))) Dl (.lst (ps.map V.ref ++ [.ref p]))) b r) ps ((rows.take i).map (·.take 3)) := Paired.mapP pps fun b r q => by
            have q : H' b = some (.tup (r.map V.int)) := q
            have nb : b ≠ Dl := fun z => by rw [z, hps] at q; cases q
            show upd _ _ _ b = _
            rw [upd_ne nb, upd_ne (ne_of_none q hp')]
            exact q
          refine pair_snoc old ?_
          show upd _ _ _ p = _
          rw [upd_ne (Ne.symm nDp), upd_same]
          rfl
      · rintro H' ⟨e2, ps, hps, pps⟩
        rw [List.length_map, List.take_of_length_le (by omega)] at pps
        refine ⟨Dl, _, rfl, .inl ⟨SqL.of hps, fun l hl' => ?_⟩⟩
        have e3 : Ext T H1 (upd H' l (.tup (ps.map V.ref))) := e2.put hT1 (e2.free hT1 hl') _
        have e4 := e1.trans e3
        refine ⟨l, ps.map V.ref, rfl, upd_same, ?_, ?_, e4.ok hT, fun H5 e5 => k _ (e4.trans e5)⟩
        · rw [List.length_map, pps.length, List.length_map]
          exact h3
        · exact rise_tups (Paired.mapP pps fun b r q => by
            have q : H' b = some (.tup (r.map V.int)) := q
            show upd _ _ _ b = _
            rw [upd_ne (ne_of_none q hl')]
            exact q) h2
    · exact ⟨_, rfl, _, rfl, bb, b, eds, r, rfl, tr.ext hT e1, hb.ext hT e1, h1 r hm, q _ e1⟩
end
end CW

namespace CW
open PySem PySem.Spec PyProof.Rows L2 GA
section
variable {P : Program} {w : World} {K : PySem.W.Frag} {mg : Str → Option Value} {base : Heap} {T : List Addr}
/-! ### need_clock -/
structure Clk.Ok (c : Clk) : Prop where
  per : 1 ≤ c.per ∧ c.per ≤ 12
  eds : EdsOk c.eds
  tch : TchOk c.per c.eds.length c.tch
  gaps : GapsOk c.per c.eds c.gaps
  book : BookOk c.eds c.book
def spNeedC (T : List Addr) : Sp := fun vs H Q _ => ∃ (a : Addr) (c : Clk), vs = [.ref a] ∧ ClkAt H a c ∧ c.Ok ∧ TOk T H ∧ ∀ H', Ext T H H' → Q .non H'
theorem scNeedC : FnScope ["value", "period", "editions", "touches", "gaps", "book"] ["value"] (defScope sNeedC) := ⟨rfl, rfl, rfl, by decide +kernel, rfl, by decide +kernel, by decide +kernel⟩
theorem cal_needc (D : DefAt K mg "need_clock" sNeedC) (B : Bl mg) (CN : Cal P w K mg base CX0 1 "is_number" ["value", "low", "high"] spIsNum) (C1 : Cal P w K mg base CX0 3 "are_editions" ["value"] (spEds T))
    (C2 : Cal P w K mg base CX0 3 "are_touches" ["value", "period", "wheels"] (spTouches T)) (C3 : Cal P w K mg base CX0 3 "are_gaps" ["value", "period", "editions"] (spGaps T)) (C4 : Cal P w K mg base CX0 4 "is_book" ["value", "editions"] (spBook T)) :
    Cal P w K mg base CX0 5 "need_clock" ["value"] (spNeedC T) := by
  refine D.cal scNeedC (fun _ _ _ _ _ _ us hl => match us, hl with | [_], _ => rfl) (fun vs H Q E h => ?_) (fun f cdv A outer s H vs Q E hr h => ?_)
  · obtain ⟨a, c, rfl, _⟩ := h
    rfl
  · obtain ⟨a, c, rfl, ⟨e, t, g, b, h0, h1, h2, h3, h4⟩, ok, hT, k⟩ := h
    refine ⟨_, pss_cons (ps_if (PW.pt (pw_or (pt_not (pt_val (pe_isi (T := "tuple") B (pv 0) B.tuple (by decide +kernel)))) (pw_or1 (pt_cmpR op_ne (pe_callB call_len (by rfl) B.len PySem.boot_len (pa_cons (pv 0) pa_nil)) pe_int (nomark _))))) pss_never pss_nil)
      (pss_cons (ps_asg (pv 0) (pg_tup rfl (pgs_cons (pg_name (i := 1) scNeedC.nd rfl (Or.inl rfl)) (pgs_cons (pg_name (i := 2) scNeedC.nd rfl (Or.inl rfl)) (pgs_cons (pg_name (i := 3) scNeedC.nd rfl (Or.inl rfl)) (pgs_cons (pg_name (i := 4) scNeedC.nd rfl (Or.inl rfl)) (pgs_cons (pg_name (i := 5) scNeedC.nd rfl (Or.inl rfl)) pgs_nil)))))))
      (pss_cons (ps_if (pt_not (pt_val (pe_cal CN (hr.mono (by decide)) rfl pass0 (pa_cons (pv 1) (pa_cons pe_int (pa_cons (pe_gint B.period) pa_nil)))))) pss_never pss_nil)
      (pss_cons (ps_if (pt_not (pt_val (pe_cal C1 (hr.mono (by decide)) rfl pass0 (pa_cons (pv 2) pa_nil)))) pss_never pss_nil)
      (pss_cons (ps_if (pt_not (pt_val (pe_cal C2 (hr.mono (by decide)) rfl pass0 (pa_cons (pv 3) (pa_cons (pv 1) (pa_cons (pe_callB call_len (by rfl) B.len PySem.boot_len (pa_cons (pv 2) pa_nil)) pa_nil)))))) pss_never pss_nil)
      (pss_cons (ps_if (pt_not (pt_val (pe_cal C3 (hr.mono (by decide)) rfl pass0 (pa_cons (pv 4) (pa_cons (pv 1) (pa_cons (pv 2) pa_nil)))))) pss_never pss_nil)
      (pss_one (ps_if (pt_not (pt_val (pe_cal C4 (hr.mono (by decide)) rfl pass0 (pa_cons (pv 5) (pa_cons (pv 2) pa_nil))))) pss_never pss_nil))))))), ?_⟩
    refine ⟨_, rfl, _, _, _, _, rfl, ty_tup h0, kb_tup_tup, true, rfl, iteF ?_⟩
    refine ⟨_, rfl, _, _, rfl, .inr ⟨_, SqT.of h0, rfl⟩, rfl, _, rfl, iteF ?_⟩
    refine ⟨_, rfl, a, _, rfl, SqT.of h0, rfl, _, _, rfl, _, _, rfl, _, _, rfl, _, _, rfl, _, _, rfl, rfl, ?_⟩
    refine ⟨_, rfl, _, 1, 12, rfl, _, rfl, ?_⟩
    rw [decide_eq_true ok.per]
    refine iteF ?_
    refine ⟨_, rfl, e, c.eds, rfl, h1, ok.eds, hT, fun H1 x1 => ⟨true, rfl, iteF ?_⟩⟩
    have T1 := x1.ok hT
    have g1 : H1 e = some (.tup (c.eds.map V.int)) := h1.ext hT x1
    refine ⟨_, rfl, _, rfl, _, rfl, _, c.eds.length, rfl, .inr ⟨_, SqT.of g1, by rw [List.length_map]⟩, t, c.per, c.eds.length, c.tch, rfl, h2.ext hT x1, ok.tch, T1, fun H2 x2 => ⟨true, rfl, iteF ?_⟩⟩
    have x2 := x1.trans x2
    have T2 := x2.ok hT
    refine ⟨_, rfl, _, rfl, _, rfl, g, e, c.per, c.eds, c.gaps, rfl, h3.ext hT x2, h1.ext hT x2, ok.gaps, T2, fun H3 x3 => ⟨true, rfl, iteF ?_⟩⟩
    have x3 := x2.trans x3
    exact ⟨_, rfl, _, rfl, b, e, c.eds, c.book, rfl, h4.ext hT x3, h1.ext hT x3, ok.book, x3.ok hT, fun H4 x4 => ⟨true, rfl, iteF (k _ (x3.trans x4))⟩⟩
end
end CW

/-! enumerate of a tuple; enumerate of the zip of a list and a tuple. -/
namespace PySem
open Sem (wp)
theorem meets_enumerate_newI {v : Value} {ad : Heap → Addr} {gr : Heap → Heap} {H : Heap → Prop}
    (B : ∀ (prog : Program) (w : World) (A : Around) (E : Value → Shared → Prop) (s : Shared) (Q : Value → Shared → Prop), H s.heap → Q (.ref (ad s.heap)) { s with heap := gr s.heap } → wpAny (model prog w) A (pyIter v) Q E s) :
    Meets (Builtin.«enumerate.__new__» ⟨[.type "enumerate", v], []⟩) (fun _ R s => H s.heap ∧
      R (.ok (.ret (.ref (gr s.heap).objs.size))) { s with heap := (gr s.heap).push { cls := .type "enumerate", data := .fields #[.none, .bool false, .ref (ad s.heap), rawInt 0, .none, .none] } }) :=
  .of_wp fun prog w A R s h => by
    obtain ⟨hp, g, d, tk, os⟩ := s; obtain ⟨h1, h⟩ := h
    have hsub := sub_enumerate
    have q1 : ∀ {A' : Around} {E : Value → Shared → Prop} {Q : Value → Shared → Prop}, Q (.ref (ad hp)) ⟨gr hp, g, d, tk, os⟩ → wpAny (model prog w) A' (pyIter v) Q E ⟨hp, g, d, tk, os⟩ :=
      fun q => B prog w _ _ ⟨hp, g, d, tk, os⟩ _ h1 q
    wp_walk using q1
    refine wpAny_stack_any fun st => wpAny_pure ?_
    split
    · rename_i c _ _ _ _ _
      cases (c == Value.type "enumerate")
      · wp_walk using q1
        exact ⟨_, rfl, h⟩
      · wp_walk using q1
        exact ⟨_, rfl, h⟩
    · wp_walk using q1
      exact ⟨_, rfl, h⟩
section
variable {prog : Program} {w : World} {A : Around} {E : Value → Shared → Prop} {s : Shared}
theorem enum_beginsI {v : Value} {ad : Heap → Addr} {gr : Heap → Heap} {H : Heap → Prop} {Q : Value → Shared → Prop}
    (B : ∀ (prog : Program) (w : World) (A : Around) (E : Value → Shared → Prop) (s : Shared) (Q : Value → Shared → Prop), H s.heap → Q (.ref (ad s.heap)) { s with heap := gr s.heap } → wpAny (model prog w) A (pyIter v) Q E s) (h1 : H s.heap)
    (h : ∀ h', IsEnum h' (gr s.heap).objs.size (ad s.heap) 0 .none → h'.objs.size = (gr s.heap).objs.size + 1 →
      (∀ b o, (gr s.heap).get? b = some o → h'.get? b = some o) → Q (.ref (gr s.heap).objs.size) { s with heap := h' }) :
    wpAny (model prog w) A (call (.type "enumerate") [v]) Q E s := by
  refine callType_new F.called_enumerate (by decide) (F.typeCall_enumerate_1 _) (F.newCall_enumerate_1 _) (fun obj => F.args_object_init_2 obj _) F.entry_enumerate_new
    (meets_enumerate_newI B) ⟨h1, ?_⟩
  have he : IsEnum ((gr s.heap).push { cls := .type "enumerate", data := .fields #[.none, .bool false, .ref (ad s.heap), rawInt 0, .none, .none] }) (gr s.heap).objs.size (ad s.heap) 0 .none :=
    Heap.get?_push_size _ rfl
  exact ⟨⟨_, he, rfl⟩, h _ he (by rw [Heap.size_push]) fun b o x => Heap.get?_push_of_some _ x⟩
end
end PySem
namespace GB
open PySem PySem.Spec PyProof.Rows L2
/-- the tuple at a, each item in a new pair -/
def IteT (K : PySem.W.Frag) (a : Addr) : It :=
  ⟨fun i H => ∃ (xs : List V) (x : V), SqT K H a xs ∧ xs[i]? = some x, fun i H v H' => ∃ T x, v = .ref T ∧ H T = none ∧ H' = upd H T (.tup [.int (i : Nat), x]) ∧ ∀ xs, SqT K H a xs → xs[i]? = some x, fun i H => ∃ xs : List V, SqT K H a xs ∧ xs.length ≤ i⟩
theorem turn_enumT {P : Program} {w : World} {K : PySem.W.Frag} {elts : List Expr} {kk : Nat} {tpos : Pos} (a e it : Addr) :
    Turn P w K (.Tuple elts kk tpos) (IteT K a) [e, it] e (fun i h => (∃ old, IsEnum h e it ((i : Nat) : Int) old) ∧ h.IsTupleIter it a i ∧ e ≠ it ∧ a ≠ e ∧ a ≠ it) where
  mem := by simp
  obj := fun i h st b hb => by
    obtain ⟨⟨old, he⟩, ⟨o, ho, hc, hd⟩, _⟩ := st
    have e' : b = e ∨ b = it := by simpa using hb
    rcases e' with z | z
    · rw [z]; exact ⟨_, he, fun v q => nomatch q⟩
    · rw [z]; exact ⟨o, ho, fun v q => by rw [hd] at q; cases q⟩
  keep := fun i h h' st k => let ⟨⟨old, he⟩, hi, hne⟩ := st; ⟨⟨old, k e (by simp) _ he⟩, hi.at fun o q => k it (by simp) o q, hne⟩
  item := by
    intro X hP hw hK hc i pins s σ H E I hf st hg
    subst hP hw hK
    obtain ⟨⟨old, he⟩, hit, hne, hae, hai⟩ := st
    obtain ⟨xs, x, hq, hx⟩ := hg
    obtain ⟨its, rv, p, hz⟩ := I.tuple hq
    obtain ⟨u, hu, ru⟩ := rv.get hx
    have hel : e < s.heap.objs.size := Heap.lt_size he
    have hil : it < s.heap.objs.size := by obtain ⟨_, q, _⟩ := hit; exact Heap.lt_size q
    have hi : i < its.toArray.size := by
      have := (List.getElem?_eq_some_iff.mp hu).1
      simpa using this
    refine wpAny_pyNext_enum_itemD (Draws.tuple (A := X.A.in1) (I.ok.hd hc) it a hai its.toArray) he ⟨hit, p⟩ hi hne (by simp [hne, Ne.symm hae]) fun x' h' tk hP ho hst' hT hsz hk => ?_
    have ex : x' = u := by
      have e1 : its.toArray[i]? = some x' := hP
      simp only [List.getElem?_toArray] at e1
      rw [hu] at e1
      exact (Option.some.inj e1).symm
    subst ex
    refine ⟨_, rfl, wpAny_letOwnedTupleGo_enum (s := { s with heap := h', toks := tk + 1 }) ho fun h'' he' sb => ?_⟩
    have hT2 : h''.get? s.heap.objs.size = some { cls := .type "tuple", data := .seq #[.int i tk, x'] } := (sb.2 _ (Nat.ne_of_gt hel)).trans hT
    have new : ObjOk X.prog X.w (upd H s.heap.objs.size (.tup [.int (i : Nat), x])) h'' s.heap.objs.size (.tup [.int (i : Nat), x]) :=
      ⟨by show 2 ≤ sizeLine; decide, [.int i tk, x'], .cons ⟨_, rfl⟩ (.cons ru .nil), ⟨_, hT2, rfl, _, rfl⟩⟩
    have I1 : Inv X pins σ (upd H s.heap.objs.size (.tup [.int (i : Nat), x])) { s with heap := h'', toks := tk + 1 } :=
      I.turnedNew (ch := [e, it]) (fun b ob hb q => (sb.2 b (fun z => hb (by simp [z]))).trans (hk b ob (fun z => hb (by simp [z])) (fun z => hb (by simp [z])) q)) hf (Nat.le_refl _) new
    refine ⟨.ref s.heap.objs.size, _, I1, rfl, ⟨_, x, rfl, I.hok.fresh (Nat.le_refl _), rfl, fun ys hy => by rw [I.tuple_inj hy hq]; exact hx⟩, ⟨⟨x', ?_⟩, hst'.1.at fun o q => (sb.2 it (Ne.symm hne)).trans q, hne, hae, hai⟩, fun b hb => ?_⟩
    · have e1 : ((i + 1 : Nat) : Int) = (i : Int) + 1 := by omega
      rw [e1]; exact he'
    · have hb' : b < s.heap.objs.size := by
        have e' : b = e ∨ b = it := by simpa using hb
        rcases e' with z | z
        · rw [z]; exact hel
        · rw [z]; exact hil
      rw [upd_ne (Nat.ne_of_lt hb')]
      exact (hf b hb).1
  done := by
    intro X hP hw hK hc i pins s σ H E I hf st hg
    subst hP hw hK
    obtain ⟨⟨old, he⟩, hit, hne, hae, hai⟩ := st
    obtain ⟨xs, hq, hx⟩ := hg
    obtain ⟨its, rv, p, hz⟩ := I.tuple hq
    obtain ⟨f0, f1, f2, f3, f4, f5⟩ := hf it (by simp)
    have hl := rv.length
    have hT : s.TypeIs (.ref e) "enumerate" := ⟨_, he, rfl⟩
    unfold pyNext
    refine wpAny_bind (wpAny_attempt (wpAny_callSpecial?_slot (name := Str.ofString "__next__") hT F.slot_enumerate_next
      (wpAny_call_entry F.slot_enumerate_next hT F.entry_enumerate_next ?_ (F.args_enumerate_next_1 _))))
    show wpAny _ _ (field (.ref e) 2 >>= _) _ _ _
    refine wpAny_bind (wpAny_field he rfl (x := .ref it) rfl ?_)
    refine wpAny_bind (wpAny_nextOf_tuple_end (I.ok.hd hc) hit p (by simp; omega) fun h' x he' hx' => ?_)
    obtain ⟨o, ho, hcc⟩ := hx'
    refine wpAny_bind (wpAny_isInstance (T := "StopIteration") (b := true) ⟨o, ho, hcc⟩ isSubtype_stop ?_)
    exact wpAny_pure ⟨rfl, I.turned (t' := s.toks) (fun b o hb q => he' b o hb q) f0 f1 f3 f4 f5⟩
  self := fun A i s Q E st h => let ⟨⟨_, he⟩, _⟩ := st; wpAny_pyIter_enum he h
def iEnumT (K : PySem.W.Frag) (ta : TA) : TI := fun σ H R => ta σ H fun vs H1 => ∃ a xs, vs = [.ref a] ∧ SqT K H1 a xs ∧ R (IteT K a) H1
theorem pi_enumT {X : Cx} {e : Expr} {ta : TA} {p pos tpos : Pos} {elts : List Expr} {kk : Nat} (hg : Gl X "enumerate") (hm : X.mg "enumerate" = none) (ha : PA X [e] ta) (hs : starEach [e] X.env = [(false, eval e X.env)] := by rfl) :
    PI X (.Tuple elts kk tpos) (.Call (.Name "enumerate" p) [e] [] pos) (iEnumT X.K ta) := by
  refine ⟨fun pins s σ H R I h => ?_⟩
  refine Call_ (ld_blt I hg hm boot_enumerate (PyProof.Rows.callWith_type1 (thn (ha.run pos pins s σ H _ I h) fun us s1 ⟨vs, H1, I1, r1, q1⟩ => ?_) hs rfl))
  obtain ⟨a, xs, ex, hq, q⟩ := q1
  subst ex
  cases r1 with
  | cons r rr =>
    cases rr
    cases r
    obtain ⟨its, rv, p', hz⟩ := I1.tuple hq
    have hal : a < s1.heap.objs.size := by obtain ⟨_, q, _⟩ := p'; exact Heap.lt_size q
    refine PySem.enum_beginsI (ad := fun h => h.objs.size) (gr := fun h => h.push { cls := .type "tuple_iterator", data := .fields #[.ref a, .int 0 0] }) (H := fun h => h.IsTuple a its.toArray)
      (fun prog w A E s Q h1 q => wpAny_pyIter_tuple h1 q) p' fun h' he hsz hk => wpAny_pyIter_enum he ?_
    have hz' : (s1.heap.push { cls := .type "tuple_iterator", data := .fields #[.ref a, .int 0 0] }).objs.size = s1.heap.objs.size + 1 := Heap.size_push ..
    have hit : h'.IsTupleIter s1.heap.objs.size a 0 := ⟨_, hk _ _ (Heap.get?_push_size _ rfl), rfl, rfl⟩
    have I2 : Inv X pins σ H1 { s1 with heap := h' } := I1.kept (t' := s1.toks) fun b o q => hk b o (Heap.get?_push_of_some _ q)
    have he : IsEnum h' (s1.heap.objs.size + 1) s1.heap.objs.size 0 .none := by rw [← hz']; exact he
    show PIE X pins σ (.Tuple elts kk tpos) R (.ref (s1.heap.push { cls := .type "tuple_iterator", data := .fields #[.ref a, .int 0 0] }).objs.size) { s1 with heap := h' }
    rw [hz']
    refine ⟨s1.heap.objs.size + 1, [s1.heap.objs.size + 1, s1.heap.objs.size], _, _, H1, rfl, I2, turn_enumT a (s1.heap.objs.size + 1) s1.heap.objs.size, ⟨⟨.none, he⟩, hit, Nat.succ_ne_self _, Nat.ne_of_lt (Nat.lt_succ_of_lt hal), Nat.ne_of_lt hal⟩, fun b hb => ?_, q⟩
    have e' : b = s1.heap.objs.size + 1 ∨ b = s1.heap.objs.size := by simpa using hb
    have hle : s1.heap.objs.size ≤ b := by
      rcases e' with z | z
      · rw [z]; exact Nat.le_add_right _ _
      · rw [z]; exact Nat.le_refl _
    exact I1.fpOk hle (I1.hok.fresh hle)
/-- a for's loop by an invariant -/
theorem for_gen {J : It} {g : TG} {tb : TS} {D : Ends} {σ : L2.St} {H : Hp} (n : Nat) (Pv : Nat → L2.St → Hp → Prop) (h0 : Pv 0 σ H) (hgo : ∀ i σ H, i < n → Pv i σ H → J.go i H)
    (hs : ∀ i σ H v H', i < n → Pv i σ H → J.yld i H v H' → g v σ H' fun σ2 H2 => tb { D with nx := Pv (i + 1), ct := Pv (i + 1), bk := D.nx } σ2 H2) (hd : ∀ σ H, Pv n σ H → J.stop n H ∧ D.nx σ H) :
    ∃ W : Nat → Nat → L2.St → Hp → Prop, (∃ m, W 0 m σ H) ∧ ∀ i m σ H, W i m σ H →
      (J.stop i H ∧ D.nx σ H) ∨ (J.go i H ∧ ∃ N : L2.St → Hp → Prop, (∀ σ' H', N σ' H' → ∃ m', m' < m ∧ W (i + 1) m' σ' H') ∧ ∀ v H', J.yld i H v H' → g v σ H' fun σ2 H2 => tb { D with nx := N, ct := N, bk := D.nx } σ2 H2) := by
  refine ⟨fun i m σ H => m = n - i ∧ i ≤ n ∧ Pv i σ H, ⟨n, rfl, Nat.zero_le _, h0⟩, ?_⟩
  rintro i m σ H ⟨rfl, hi, p⟩
  by_cases hlt : i < n
  · exact .inr ⟨hgo i σ H hlt p, Pv (i + 1), fun σ' H' p' => ⟨n - (i + 1), by omega, rfl, hlt, p'⟩, fun v H' y => hs i σ H v H' hlt p y⟩
  · have e : i = n := by omega
    subst e
    exact .inl (hd σ H p)
/-- a for over enumerate(tuple at a) -/
theorem for_enumT {K : PySem.W.Frag} {a : Addr} {xs : List V} {g : TG} {tb : TS} {D : Ends} {σ : L2.St} {H : Hp} (Pv : Nat → L2.St → Hp → Prop) (h0 : Pv 0 σ H) (hl : ∀ i σ H, Pv i σ H → SqT K H a xs)
    (hs : ∀ (i : Nat) (x : V) (T : Addr) (σ : L2.St) (H : Hp), xs[i]? = some x → Pv i σ H → H T = none → g (.ref T) σ (upd H T (.tup [.int (i : Nat), x])) fun σ2 H2 => tb { D with nx := Pv (i + 1), ct := Pv (i + 1), bk := D.nx } σ2 H2) (hd : ∀ σ H, Pv xs.length σ H → D.nx σ H) :
    ∃ W : Nat → Nat → L2.St → Hp → Prop, (∃ m, W 0 m σ H) ∧ ∀ i m σ H, W i m σ H →
      ((IteT K a).stop i H ∧ D.nx σ H) ∨ ((IteT K a).go i H ∧ ∃ N : L2.St → Hp → Prop, (∀ σ' H', N σ' H' → ∃ m', m' < m ∧ W (i + 1) m' σ' H') ∧ ∀ v H', (IteT K a).yld i H v H' → g v σ H' fun σ2 H2 => tb { D with nx := N, ct := N, bk := D.nx } σ2 H2) :=
  for_gen xs.length Pv h0 (fun i σ H hi q => ⟨xs, xs[i], hl i σ H q, List.getElem?_eq_getElem hi⟩)
    (fun i σ H y H' hi q h => by
      obtain ⟨T, x, ey, hT, eH, hx⟩ := h
      subst ey eH
      exact hs i x T σ H (hx xs (hl i σ H q)) q hT)
    (fun σ H q => ⟨⟨xs, hl _ σ H q, Nat.le_refl _⟩, hd σ H q⟩)
/-- a for over enumerate(list at a) -/
theorem for_enumL {K : PySem.W.Frag} {a : Addr} {xs : List V} {g : TG} {tb : TS} {D : Ends} {σ : L2.St} {H : Hp} (Pv : Nat → L2.St → Hp → Prop) (h0 : Pv 0 σ H) (hl : ∀ i σ H, Pv i σ H → SqL K H a xs)
    (hs : ∀ (i : Nat) (x : V) (T : Addr) (σ : L2.St) (H : Hp), xs[i]? = some x → Pv i σ H → H T = none → g (.ref T) σ (upd H T (.tup [.int (i : Nat), x])) fun σ2 H2 => tb { D with nx := Pv (i + 1), ct := Pv (i + 1), bk := D.nx } σ2 H2) (hd : ∀ σ H, Pv xs.length σ H → D.nx σ H) :
    ∃ W : Nat → Nat → L2.St → Hp → Prop, (∃ m, W 0 m σ H) ∧ ∀ i m σ H, W i m σ H →
      ((Ite K a).stop i H ∧ D.nx σ H) ∨ ((Ite K a).go i H ∧ ∃ N : L2.St → Hp → Prop, (∀ σ' H', N σ' H' → ∃ m', m' < m ∧ W (i + 1) m' σ' H') ∧ ∀ v H', (Ite K a).yld i H v H' → g v σ H' fun σ2 H2 => tb { D with nx := N, ct := N, bk := D.nx } σ2 H2) :=
  for_gen xs.length Pv h0 (fun i σ H hi q => ⟨xs, xs[i], hl i σ H q, List.getElem?_eq_getElem hi⟩)
    (fun i σ H y H' hi q h => by
      obtain ⟨T, x, ey, hT, eH, hx⟩ := h
      subst ey eH
      exact hs i x T σ H (hx xs (hl i σ H q)) q hT)
    (fun σ H q => ⟨⟨xs, hl _ σ H q, Nat.le_refl _⟩, hd σ H q⟩)
end GB

namespace CW
open PySem PySem.Spec PyProof.Rows L2 GA
theorem inV_int {ns : List Int} {n : Int} : inV (.int n) (ns.map V.int) = decide (n ∈ ns) := by
  unfold inV
  induction ns with
  | nil => rfl
  | cons a t ih =>
    rw [List.map_cons, List.any_cons, ih]
    show ((a == n) || decide (n ∈ t)) = _
    by_cases h : a = n
    · subst h; simp
    · have h2 : ¬ n = a := fun z => h z.symm
      simp [h, h2]
theorem flat_int (ns : List Int) : (ns.map V.int).all flatV = true := by
  induction ns with
  | nil => rfl
  | cons a t ih => rw [List.map_cons, List.all_cons, ih]; rfl
theorem atI_ref {as : List Addr} {i : Nat} {x : Addr} (h : as[i]? = some x) : atI (as.map V.ref) (i : Int) = some (V.ref x) := by
  have e : (as.map V.ref)[i]? = some (.ref x) := by rw [List.getElem?_map, h]; rfl
  exact atI_nat e
section
variable {P : Program} {w : World} {K : PySem.W.Frag} {mg : Str → Option Value} {base : Heap} {T : List Addr}
/-! ### need_plan -/
def PlanOk (c : Clk) (rows : List (List Int)) : Prop := rows.length = c.eds.length ∧ ∀ (i : Nat) (r : List Int), rows[i]? = some r → c.eds[i]? = some (r.length : Int) ∧ RiseI r ∧ r.length ≤ 1000 ∧ ∀ n ∈ r, 0 ≤ n ∧ n ≤ 100000 ∧ ∃ g, c.gaps[i]? = some g ∧ n % c.per ∈ g
def spNeedP (T : List Addr) : Sp := fun vs H Q _ => ∃ (a p : Addr) (c : Clk) (rows : List (List Int)), vs = [.ref a, .ref p] ∧ ClkAt H a c ∧ 1 ≤ c.per ∧ TupT H p rows ∧ PlanOk c rows ∧ TOk T H ∧ ∀ H', Ext T H H' → Q .non H'
theorem scNeedP : FnScope ["clock", "value", "wheel", "ticks", "tick"] ["clock", "value"] (defScope sNeedP) := ⟨rfl, rfl, rfl, by decide +kernel, rfl, by decide +kernel, by decide +kernel⟩
theorem cal_needp {c Pt : Addr} (D : DefTab K mg base "need_plan" sNeedP c Pt) (hP : Pt ∈ T) (B : Bl mg) (CN : Cal P w K mg base CX0 1 "is_number" ["value", "low", "high"] spIsNum) (CR : Cal P w K mg base CX0 2 "are_rising" ["value"] (spRising T)) :
    Cal P w K mg base CX0 3 "need_plan" ["clock", "value"] (spNeedP T) := by
  refine D.cal scNeedP (fun _ _ _ _ _ _ us hl => match us, hl with | [_, _], _ => rfl) (fun vs H Q E h => ?_) (fun f A outer s H vs Q E hr h => ?_)
  · obtain ⟨a, p, c, rows, rfl, _⟩ := h
    rfl
  · obtain ⟨a, p, c, rows, rfl, ca, hper, ⟨as, hp, pr⟩, ⟨ok1, ok2⟩, hT, k⟩ := h
    obtain ⟨e, t, g, b, h0, h1, h2, ⟨gs, h3, h3p⟩, h4⟩ := ca
    have hal : as.length = c.eds.length := by rw [pr.length, ok1]
    have h1 : H e = some (.tup (c.eds.map V.int)) := h1
    refine ⟨_, pss_cons (ps_if (PW.pt (pw_or (pt_not (pt_val (pe_isi (T := "tuple") B (pv 1) B.tuple (by decide +kernel)))) (pw_or1 (pt_cmpR op_ne (pe_callB call_len (by rfl) B.len PySem.boot_len (pa_cons (pv 1) pa_nil)) (pe_callB call_len (by rfl) B.len PySem.boot_len (pa_cons (pe_ix ix_tup (pv 0) pe_int (fun _ _ => rfl)) pa_nil)) (nomark _))))) pss_never pss_nil)
      (pss_one (ps_for PassesOwn.never rfl (GB.pi_enumT rfl B.enum (pa_cons (pv 1) pa_nil)) (pg_tup rfl (pgs_cons (pg_name (i := 2) scNeedP.nd rfl (Or.inr rfl)) (pgs_cons (pg_name (i := 3) scNeedP.nd rfl (Or.inl rfl)) pgs_nil)))
        (pss_cons (ps_if (PW.pt (pw_or (pt_not (pt_val (pe_isi (T := "tuple") B (pv 3) B.tuple (by decide +kernel)))) (pw_or1 (pt_cmpR op_ne (pe_callB call_len (by rfl) B.len PySem.boot_len (pa_cons (pv 3) pa_nil)) (pe_ix ix_tup (pe_ix ix_tup (pv 0) pe_int (fun _ _ => rfl)) (pv 2) (fun _ _ => rfl)) (nomark _))))) pss_never pss_nil)
        (pss_cons (ps_if (pt_not (pt_val (pe_allG (k := 1) (own := [("tick", 4)]) (g := gName 4)
              (te := tAndV (fun σ H Q => tCons (tVar 4) (tCons (tC (.int 0)) (tCons (tC (.int 100000)) tNil)) σ H fun vs H1 => spIsNum vs H1 Q E0)
                (tOp (rIn K false) (tOp (rI (fun _ j => 0 < j) fun i j => .int (i % j)) (tVar 4) (tOp (rIxT K) (tVar 0) (tC (.int 0)))) (tOp (rIxT K) (tOp (rIxT K) (tVar 0) (tC (.int 3))) (tVar 2))))
              hr rfl B.all (by decide +kernel) D.tab rfl (gsc_by (by decide +kernel)) (blkOk_by (N := ["clock", "value", "wheel", "ticks", "tick"]) (sc := defScope sNeedP) (by decide +kernel)) scNeedP.nd
              (pi_tup (pv 3)) (fun A s H C cl code fp => pg_name (i := 4) scNeedP.nd rfl (Or.inl rfl) (.inr rfl))
              (fun A s H C cl code fp hr0 => pe_and (pe_cal CN hr0 rfl pass0 (pa_cons (pv 4) (pa_cons pe_int (pa_cons (pe_gint B.planned) pa_nil))))
                (pe_one (pe_cmpR op_in_seq (pe_op op_mod (pv 4) (pe_ix ix_tup (pv 0) pe_int (fun _ _ => rfl))) (pe_ix ix_tup (pe_ix ix_tup (pv 0) pe_int (fun _ _ => rfl)) (pv 2) (fun _ _ => rfl)) (by rfl))))))) pss_never pss_nil)
        (pss_one (ps_if (pt_not (pt_val (pe_cal CR hr rfl pass0 (pa_cons (pv 3) pa_nil)))) pss_never pss_nil)))))), ?_⟩
    refine ⟨_, rfl, _, _, _, _, rfl, ty_tup hp, kb_tup_tup, true, rfl, iteF ?_⟩
    refine ⟨_, rfl, _, as.length, rfl, .inr ⟨_, SqT.of hp, by rw [List.length_map]⟩, _, rfl, _, _, _, _, rfl, rfl, SqT.of h0, rfl, _, c.eds.length, rfl, .inr ⟨_, SqT.of h1, by rw [List.length_map]⟩, rfl, _, rfl, ?_⟩
    rw [hal]
    refine iteNS rfl ?_
    refine ⟨_, rfl, p, _, rfl, SqT.of hp, GB.for_enumT (K := K) (a := p) (xs := as.map V.ref)
      (fun i σ H' => (∃ v1 v2 : Option V, σ = [some (.ref a), some (.ref p), v1, v2, none]) ∧ Ext T H H') ⟨⟨none, none, rfl⟩, Ext.refl T H⟩ (fun i σ H' q => SqT.of (q.2.tup hT hp)) ?_ ?_⟩
    · rintro i x Tq σ H' hx ⟨⟨v1, v2, rfl⟩, e1⟩ hTq
      obtain ⟨ra, hra, rfl⟩ := mapR hx
      obtain ⟨r, hr', tr⟩ := paired_get' pr hra
      obtain ⟨g1, g2, g2', g3⟩ := ok2 i r hr'
      have e2 : Ext T H (upd H' Tq (.tup [.int (i : Nat), .ref ra])) := e1.put hT (e1.free hT hTq) _
      refine ⟨Tq, _, rfl, SqT.of upd_same, rfl, _, _, rfl, _, _, rfl, rfl, ?_⟩
      generalize upd H' Tq (.tup [.int (i : Nat), .ref ra]) = H2 at e2
      have tr2 : H2 ra = some (.tup (r.map V.int)) := e2.tup hT tr
      refine ⟨_, rfl, _, _, _, _, rfl, ty_tup tr2, kb_tup_tup, true, rfl, iteF ?_⟩
      refine ⟨_, rfl, _, r.length, rfl, .inr ⟨_, SqT.of tr2, by rw [List.length_map]⟩, _, rfl, _, _, _, _, rfl, rfl, SqT.of (e2.tup hT h0), rfl, _, rfl, _, _, _, _, rfl, rfl, SqT.of (e2.tup hT h1), atI_int g1, rfl, _, rfl, ?_⟩
      refine iteNS rfl ?_
      refine ⟨_, rfl, ra, rfl, ⟨_, SqT.of tr2⟩, nums_loop hP hT tr e2 (fun H3 e3 => ?_) (fun x => rfl) (fun n H3 hn e3 Q' q => ?_)⟩
      · refine ⟨true, rfl, iteF ?_⟩
        have tr3 : H3 ra = some (.tup (r.map V.int)) := e3.tup hT tr
        refine ⟨_, rfl, ra, _, rfl, tr3, by rw [List.length_map]; exact g2', rise_ints g2, e3.ok hT, fun H4 e4 => ⟨true, rfl, iteF ?_⟩⟩
        exact ⟨⟨_, _, rfl⟩, e3.trans e4⟩
      · obtain ⟨q1, q2, gg, q3, q4⟩ := g3 n hn
        obtain ⟨ga, hga, tga⟩ := paired_get h3p q3
        have tga : H3 ga = some (.tup (gg.map V.int)) := e3.tup hT tga
        refine ⟨_, rfl, n, 0, 100000, rfl, ?_⟩
        rw [decide_eq_true (show 0 ≤ n ∧ n ≤ 100000 from ⟨q1, q2⟩)]
        refine ⟨true, rfl, iteT ?_⟩
        refine ⟨_, rfl, _, rfl, _, _, _, _, rfl, rfl, SqT.of (e3.tup hT h0), rfl, _, _, rfl, rfl, by omega, _, rfl, _, _, _, _, rfl, rfl, SqT.of (e3.tup hT h0), rfl, _, rfl, _, _, _, _, rfl, rfl, SqT.of (e3.tup hT h3), atI_ref hga, ga, _, rfl, .inr (SqT.of tga), rfl, flat_int _, ?_⟩
        rw [inV_int, decide_eq_true q4]
        exact q _ e3
    · rintro σ H' ⟨⟨v1, v2, rfl⟩, e1⟩
      exact k _ e1
end
end CW

/-! Plain: words, numbers in words, the reader of a clock's lines, the writer. No program here. -/
namespace KM
open PySem TL

/-- a word: its signs -/
abbrev Wd := List Nat
def isFig (c : Nat) : Bool := decide (48 ≤ c ∧ c ≤ 57)
/-- the number that a word writes between two others -/
def numIn (w : Wd) (lo hi : Int) : Option Int :=
  if 1 ≤ w.length ∧ w.length ≤ 6 ∧ w.all isFig = true ∧ ¬ (w.head? = some 48 ∧ w ≠ [48]) then
    (if lo ≤ (NumText.digitsVal w : Int) ∧ (NumText.digitsVal w : Int) ≤ hi then some (NumText.digitsVal w : Int) else none)
  else none
/-- a number as a word -/
def num (i : Int) : Wd := numL i.toNat
theorem all_digits {w : Wd} (h : w.all isFig = true) : NumText.AllDigits w := by
  intro c hc
  have := List.all_eq_true.mp h c hc
  exact of_decide_eq_true this
theorem digits_all {w : Wd} (h : NumText.AllDigits w) : w.all isFig = true := List.all_eq_true.mpr fun c hc => decide_eq_true (h c hc)
theorem digitsVal_snoc (w : Wd) (c : Nat) : NumText.digitsVal (w ++ [c]) = NumText.digitsVal w * 10 + (c - 48) := by
  unfold NumText.digitsVal
  rw [List.foldl_append]
  rfl
theorem numL_head (n : Nat) (h : 1 ≤ n) : (numL n).head? ≠ some 48 := by
  induction n using Nat.strongRecOn with
  | _ n ih =>
    by_cases hn : n < 10
    · rw [numL_lt hn]
      simp
      omega
    · rw [numL_step (by omega)]
      have := ih (n / 10) (by omega) (by omega)
      cases e : numL (n / 10) with
      | nil => exact absurd e (numL_ne _)
      | cons a r =>
        rw [e] at this
        simpa using this
/-- figures without a needless nought are the number's own word -/
theorem numL_of : ∀ (k : Nat) (w : Wd), w.length = k → w ≠ [] → NumText.AllDigits w → ¬ (w.head? = some 48 ∧ w ≠ [48]) → numL (NumText.digitsVal w) = w := by
  intro k
  induction k with
  | zero => intro w hl hne; exact absurd (List.length_eq_zero_iff.mp hl) hne
  | succ k ih =>
    intro w hl hne hd hz
    obtain ⟨v, c, rfl⟩ : ∃ v c, w = v ++ [c] := ⟨w.dropLast, w.getLast hne, (List.dropLast_concat_getLast hne).symm⟩
    have hc : 48 ≤ c ∧ c ≤ 57 := hd c (by simp)
    rw [digitsVal_snoc]
    by_cases hv : v = []
    · subst hv
      show numL (0 * 10 + (c - 48)) = [] ++ [c]
      rw [numL_lt (by omega)]
      simp
      omega
    · have hdv : NumText.AllDigits v := fun d h => hd d (List.mem_append_left _ h)
      have hh : v.head? ≠ some 48 := fun e => by
        refine hz ⟨?_, fun q => ?_⟩
        · cases v with
          | nil => exact absurd rfl hv
          | cons a r => simpa using e
        · have := congrArg List.length q
          simp at this
          exact hv this
      have e := ih v (by simpa using hl) hv hdv (fun q => hh q.1)
      have pos : 1 ≤ NumText.digitsVal v := by
        rcases Nat.eq_zero_or_pos (NumText.digitsVal v) with z | z
        · rw [z] at e
          rw [show numL 0 = [48] from numL_lt (by decide)] at e
          rw [← e] at hh
          exact absurd rfl hh
        · exact z
      rw [numL_step (by omega)]
      have e1 : (NumText.digitsVal v * 10 + (c - 48)) / 10 = NumText.digitsVal v := by omega
      have e2 : 48 + (NumText.digitsVal v * 10 + (c - 48)) % 10 = c := by omega
      rw [e1, e2, e]
theorem numIn_num {n : Nat} {lo hi : Int} (h6 : n < 1000000) (h1 : lo ≤ n) (h2 : (n : Int) ≤ hi) : numIn (numL n) lo hi = some (n : Int) := by
  unfold numIn
  rw [numL_val, if_pos, if_pos ⟨h1, h2⟩]
  refine ⟨?_, ?_, digits_all (numL_digits n), fun q => ?_⟩
  · cases e : numL n with
    | nil => exact absurd e (numL_ne n)
    | cons a r => simp
  · exact numL_len (k := 6) (by decide) h6
  · rcases Nat.eq_zero_or_pos n with z | z
    · subst z
      exact q.2 (numL_lt (by decide))
    · exact numL_head n z q.1
theorem numIn_out {n : Nat} {lo hi : Int} (h : ¬ (lo ≤ n ∧ (n : Int) ≤ hi)) : numIn (numL n) lo hi = none := by
  unfold numIn
  rw [numL_val]
  split
  · first | rfl | rw [if_neg h]
  · rfl
theorem numIn_inv {w : Wd} {lo hi v : Int} (h : numIn w lo hi = some v) : ∃ n : Nat, v = n ∧ w = numL n ∧ lo ≤ v ∧ v ≤ hi ∧ n < 1000000 := by
  unfold numIn at h
  split at h
  · rename_i q
    split at h
    · rename_i r
      refine ⟨NumText.digitsVal w, (Option.some.inj h).symm, ?_, ?_, ?_, ?_⟩
      · refine (numL_of w.length w rfl (fun e => ?_) (all_digits q.2.2.1) q.2.2.2).symm
        rw [e] at q
        exact absurd q.1 (by decide)
      · rw [← Option.some.inj h]; exact r.1
      · rw [← Option.some.inj h]; exact r.2
      · have hd := all_digits q.2.2.1
        have hl := q.2.1
        have key : ∀ l : List Nat, NumText.AllDigits l → NumText.digitsVal l < 10 ^ l.length := by
          intro l
          induction hk : l.length generalizing l with
          | zero =>
            intro _
            rw [List.length_eq_zero_iff.mp hk]
            decide
          | succ k ih =>
            intro hd
            have hne : l ≠ [] := fun e => by rw [e] at hk; cases hk
            obtain ⟨v, c, rfl⟩ : ∃ v c, l = v ++ [c] := ⟨l.dropLast, l.getLast hne, (List.dropLast_concat_getLast hne).symm⟩
            have hc : 48 ≤ c ∧ c ≤ 57 := hd c (by simp)
            have e := ih v (by simpa using hk) (fun d h => hd d (List.mem_append_left _ h))
            rw [digitsVal_snoc, Nat.pow_succ]
            omega
        have k := key w hd
        have p : 10 ^ w.length ≤ 10 ^ 6 := Nat.pow_le_pow_right (by decide) hl
        have : (10 : Nat) ^ 6 = 1000000 := by decide
        omega
    · cases h
  · cases h
theorem num_nat (n : Nat) : num (n : Int) = numL n := rfl
theorem num_ne (i : Int) : num i ≠ [] := numL_ne _
theorem num_free {i : Int} {s : Nat} (h : s < 48 ∨ 57 < s) : s ∉ num i := numL_free h
theorem numIn_int {i lo hi : Int} (h0 : 0 ≤ i) (h6 : i < 1000000) (h1 : lo ≤ i) (h2 : i ≤ hi) : numIn (num i) lo hi = some i := by
  have e : ((i.toNat : Nat) : Int) = i := by omega
  have := numIn_num (n := i.toNat) (lo := lo) (hi := hi) (by omega) (by omega) (by omega)
  rw [e] at this
  exact this
theorem numIn_word {w : Wd} {lo hi v : Int} (h : numIn w lo hi = some v) : w = num v ∧ 0 ≤ v ∧ lo ≤ v ∧ v ≤ hi ∧ v < 1000000 := by
  obtain ⟨n, rfl, e, h1, h2, h3⟩ := numIn_inv h
  exact ⟨e, by omega, h1, h2, by omega⟩
end KM

namespace CW
open PySem PySem.Spec PyProof.Rows L2 GA TL
section
variable {P : Program} {w : World} {K : PySem.W.Frag} {mg : Str → Option Value} {base : Heap} {T : List Addr}
/-! ### number_in -/
def optV : Option Int → V
  | none => .non
  | some v => .int v
def spNumIn (T : List Addr) : Sp := fun vs H Q _ => ∃ (x : Str) (lo hi : Int), vs = [.str x, .int lo, .int hi] ∧ x.length ≤ 1000000 ∧ TOk T H ∧ ∀ H', Ext T H H' → Q (optV (KM.numIn (tl x) lo hi)) H'
theorem scNumIn : FnScope ["word", "low", "high", "sign"] ["word", "low", "high"] (defScope sNumIn) := ⟨rfl, rfl, rfl, by decide +kernel, rfl, by decide +kernel, by decide +kernel⟩
theorem fig_in (c : Nat) : decide (c ∈ (Str.ofString "0123456789").cps.toList) = KM.isFig c := by
  have e : (Str.ofString "0123456789").cps.toList = [48, 49, 50, 51, 52, 53, 54, 55, 56, 57] := by decide +kernel
  rw [e]
  unfold KM.isFig
  refine decide_eq_decide.mpr ?_
  simp only [List.mem_cons, List.not_mem_nil, or_false]
  omega
abbrev rSign : R2 := fun x y H Q => ∃ (c : Nat) (z : Str), x = .str ⟨#[c]⟩ ∧ y = .str z ∧ Q (.bl (decide (c ∈ z.cps.toList))) H
theorem signs_loop {Pt : Addr} {H H1 : Hp} {x : Str} {Q : VK} {σ : L2.St} {j : Nat} (hP : Pt ∈ T) (hT : TOk T H) (e1 : Ext T H H1) (k : ∀ H', Ext T H H' → Q (.bl ((tl x).all KM.isFig)) H')
    (hw : ∀ x, wipe ((wipe σ [j]).set j (some x)) [j] = wipe σ [j]) (hv : ∀ x, ((wipe σ [j]).set j (some x))[j]? = some (some x)) :
    AllLoop Pt (Its x) (gName j) (tOp rSign (tVar j) (tC (.str "0123456789"))) [j] σ Q H1 := by
  refine ⟨e1.tab _ hP (hT _ hP), fun H2 h2 => all_by x.cps.size (fun i H' => Ext T H H' ∧ ((tl x).take i).all KM.isFig = true) ⟨e1.trans (Ext.of_tabbed hP h2), rfl⟩ (fun i H' hi e2 => hi) (fun i H' y H3 hi e2 hy => ?_) (fun H' e2 => ?_)⟩
  · obtain ⟨rfl, c, hc, rfl⟩ := hy
    refine ⟨hw _, _, hv _, c, _, rfl, rfl, _, rfl, ?_⟩
    rw [fig_in]
    have hc' : (tl x)[i]? = some c := by
      show x.cps.toList[i]? = some c
      rw [Array.getElem?_toList]
      exact hc
    cases hf : KM.isFig c with
    | true =>
      refine ⟨e2.1, ?_⟩
      have e : (tl x).take (i + 1) = (tl x).take i ++ [c] := take_more hc'
      show ((tl x).take (i + 1)).all KM.isFig = true
      rw [e, List.all_append, e2.2, List.all_cons, hf]
      rfl
    | false =>
      have : (tl x).all KM.isFig = false := by
        cases h : (tl x).all KM.isFig with
        | false => rfl
        | true =>
          have := List.all_eq_true.mp h c (List.mem_of_getElem? hc')
          rw [hf] at this
          cases this
      show Q (.bl false) _
      rw [← this]
      exact k _ e2.1
  · refine ⟨Nat.le_refl _, ?_⟩
    have e : (tl x).take x.cps.size = tl x := List.take_of_length_le (by show x.cps.toList.length ≤ _; simp)
    rw [e] at e2
    have := k _ e2.1
    rw [e2.2] at this
    exact this
theorem tl_nought : tl (Str.ofString "0") = [48] := by decide +kernel
theorem str_nought (x : Str) : decide (V.str x = V.str (Str.ofString "0")) = decide (tl x = [48]) := by
  refine decide_eq_decide.mpr ⟨fun h => ?_, fun h => ?_⟩
  · injection h with h
    rw [h]; exact tl_nought
  · rw [ext_tl (x := x) (y := Str.ofString "0") (by rw [h, tl_nought])]
theorem cal_numin {c Pt : Addr} (D : DefTab K mg base "number_in" sNumIn c Pt) (hP : Pt ∈ T) (B : Bl mg) : Cal P w K mg base CX0 2 "number_in" ["word", "low", "high"] (spNumIn T) := by
  refine D.cal scNumIn (fun _ _ _ _ _ _ us hl => match us, hl with | [_, _, _], _ => rfl) (fun vs H Q E h => ?_) (fun f A outer s H vs Q E hr h => ?_)
  · obtain ⟨x, lo, hi, rfl, _⟩ := h
    rfl
  · obtain ⟨x, lo, hi, rfl, hz, hT, k⟩ := h
    have hlen : x.length = (tl x).length := len_tl x
    refine ⟨_, pss_cons (ps_if (PW.pt (pw_or (pt_not (pt_chain op_le op_le pe_int (pe_callB call_len (by rfl) B.len PySem.boot_len (pa_cons (pv 0) pa_nil)) pe_int))
        (pw_or (pt_not (pt_val (pe_allG (k := 0) (own := [("sign", 3)]) (g := gName 3) (te := tOp rSign (tVar 3) (tC (.str "0123456789"))) hr rfl B.all (by decide +kernel) D.tab rfl (gsc_by (by decide +kernel)) (blkOk_by (N := ["word", "low", "high", "sign"]) (sc := defScope sNumIn) (by decide +kernel)) scNumIn.nd
              (pi_str (pv 0)) (fun A s H C cl code fp => pg_name (i := 3) scNumIn.nd rfl (Or.inl rfl) (.inr rfl))
              (fun A s H C cl code fp hr0 => pe_cmpR op_in_sign (pv 3) (pe_gstr B.figures) (by rfl)))))
          (pw_or1 (PW.pt (pw_and (pt_cmpR op_eq (pe_ix ix_str (pv 0) pe_int (fun _ _ => rfl)) pe_str (nomark _)) (pw_and1 (pt_cmpR op_ne (pv 0) pe_str (nomark _))))))))) (pss_one (ps_ret pe_non)) pss_nil)
      (pss_one (ps_ret (pe_ifExp (pt_chain op_le op_le (pv 1) (pe_callTy call_int_str (by rfl) B.int (by decide +kernel) (pa_cons (pv 0) pa_nil)) (pv 2)) (pe_callTy call_int_str (by rfl) B.int (by decide +kernel) (pa_cons (pv 0) pa_nil)) pe_non))), ?_⟩
    have out : KM.numIn (tl x) lo hi = none → Q .non H := fun e => by
      have := k H (Ext.refl T H)
      rw [e] at this
      exact this
    have out1 : ∀ H1, Ext T H H1 → KM.numIn (tl x) lo hi = none → Q .non H1 := fun H1 e1 e => by
      have := k H1 e1
      rw [e] at this
      exact this
    refine ⟨_, rfl, _, x.length, rfl, ⟨Nat.le_trans hz (by decide), rfl⟩, _, _, rfl, rfl, _, rfl, ite2 (fun c1 => ⟨_, _, rfl, rfl, _, rfl, ite2 (fun c2 => ?_) (fun c2 => ?_)⟩) (fun c1 => ⟨false, rfl, iteT (iteT (out ?_))⟩)⟩
    · refine iteT (out ?_)
      have c2 : ¬ ((x.length : Int) ≤ 6) := by simpa using c2
      unfold KM.numIn
      rw [if_neg]
      rintro ⟨q1, q2, _⟩
      omega
    · have c1 : (1 : Int) ≤ (x.length : Int) := of_decide_eq_true c1
      have c2 : (x.length : Int) ≤ 6 := by simpa using c2
      refine ⟨_, rfl, x, rfl, signs_loop hP hT (Ext.refl T H) (fun H1 e1 => ⟨_, rfl, ite2 (fun c3 => iteT (out1 H1 e1 ?_)) (fun c3 => ?_)⟩) (fun y => rfl) (fun y => rfl)⟩
      · have c3 : (tl x).all KM.isFig = false := by simpa using c3
        unfold KM.numIn
        rw [if_neg]
        rintro ⟨q1, q2, q3, _⟩
        rw [c3] at q3
        cases q3
      · have c3 : (tl x).all KM.isFig = true := by
          cases h : (tl x).all KM.isFig with
          | true => rfl
          | false => rw [h] at c3; exact absurd rfl c3
        obtain ⟨c0, rest, hx⟩ : ∃ c0 rest, tl x = c0 :: rest := by
          cases e : tl x with
          | nil => rw [e] at hlen; simp only [List.length_nil] at hlen; omega
          | cons a b => exact ⟨a, b, rfl⟩
        have at0 : atI x.cps.toList 0 = some c0 := by
          show atI (tl x) 0 = some c0
          rw [hx]
          exact atI_nat (j := 0) rfl
        have n1 : NumText.AllDigits (tl x) := KM.all_digits c3
        have n2 : PySem.intText? x = some ((NumText.digitsVal (tl x) : Nat) : Int) := intText_digits n1 (by show tl x ≠ []; rw [hx]; simp) (by omega)
        -- what is left when no needless nought leads
        have fin : ¬ ((tl x).head? = some 48 ∧ tl x ≠ [48]) → tRet (tIf (tTest (tChain (rI0 fun i j => V.bl (decide (i ≤ j))) (rI0 fun i j => V.bl (decide (i ≤ j))) (tVar 1) (tCB (fun xs H Q => ∃ a n, xs = [V.str a] ∧ intText? a = some n ∧ a.length ≤ 640 ∧ Q (V.int n) H) (tCons (tVar 0) tNil)) (tVar 2)))
            (tCB (fun xs H Q => ∃ a n, xs = [V.str a] ∧ intText? a = some n ∧ a.length ≤ 640 ∧ Q (V.int n) H) (tCons (tVar 0) tNil)) (tC V.non)) { nx := fun x H' => Q V.non H', rt := Q } [some (.str x), some (.int lo), some (.int hi), none] H1 := by
          intro c4
          have hin : KM.numIn (tl x) lo hi = if lo ≤ (NumText.digitsVal (tl x) : Int) ∧ (NumText.digitsVal (tl x) : Int) ≤ hi then some (NumText.digitsVal (tl x) : Int) else none := by
            unfold KM.numIn
            rw [if_pos ⟨by omega, by omega, c3, c4⟩]
          refine ⟨_, rfl, _, rfl, x, _, rfl, n2, by omega, _, _, rfl, rfl, _, rfl, ite2 (fun d1 => ⟨_, rfl, _, _, rfl, rfl, _, rfl, ite2 (fun d2 => ⟨_, rfl, x, _, rfl, n2, by omega, ?_⟩) (fun d2 => ?_)⟩) (fun d1 => ?_)⟩
          · have := k H1 e1
            rw [hin, if_pos ⟨of_decide_eq_true d1, of_decide_eq_true d2⟩] at this
            exact this
          · refine out1 H1 e1 ?_
            rw [hin, if_neg]
            rintro ⟨_, q⟩
            exact d2 (decide_eq_true q)
          · refine ⟨false, rfl, iteF (out1 H1 e1 ?_)⟩
            rw [hin, if_neg]
            rintro ⟨q, _⟩
            exact d1 (decide_eq_true q)
        refine ⟨_, rfl, x, _, c0, rfl, rfl, Nat.le_trans hz (by decide), at0, rfl, _, rfl, ?_⟩
        have e0 : decide (V.str ⟨#[c0]⟩ = V.str (Str.ofString "0")) = decide (c0 = 48) := by
          rw [str_nought]
          refine decide_eq_decide.mpr ⟨fun h => ?_, fun h => ?_⟩
          · have : [c0] = [48] := h
            injection this
          · rw [h]
        refine ite2 (fun c4 => ⟨_, rfl, rfl, _, rfl, ite2 (fun c5 => out1 H1 e1 ?_) (fun c5 => fin ?_)⟩) (fun c4 => ?_)
        · rw [e0] at c4
          have c4 := of_decide_eq_true c4
          rw [str_nought] at c5
          unfold KM.numIn
          rw [if_neg]
          rintro ⟨_, _, _, q⟩
          refine q ⟨by rw [hx, c4]; rfl, fun z => ?_⟩
          rw [decide_eq_true z] at c5
          cases c5
        · rintro ⟨_, q⟩
          rw [str_nought, decide_eq_false q] at c5
          exact c5 rfl
        · refine iteF (fin ?_)
          rintro ⟨q, _⟩
          rw [hx] at q
          have q : c0 = 48 := by simpa using q
          rw [e0, decide_eq_true q] at c4
          exact c4 rfl
    · have c1 : ¬ ((1 : Int) ≤ (x.length : Int)) := fun q => c1 (decide_eq_true q)
      unfold KM.numIn
      rw [if_neg]
      rintro ⟨q1, _⟩
      omega
end
end CW

namespace L2
open PySem PySem.Spec PyProof.Rows
/-- X(), X an own exception class without own __init__ -/
theorem pmk_own0 {X : Cx} {C : Addr} {bmB : List Value} {B newId initId : String} {x : Str} {p pos : Pos} (F : ExcBaseFacts B newId initId bmB) (q : PySem.W.excIn X.K C bmB newId = true) (gC : X.mg x = some (.ref C))
    (kC : PySem.W.keepIn X.K (.ref C) = true) (r : Raises X (.ref C)) (hg : Gl X x) (hdb : (x == ("__debug__" : Str)) = false := by decide) :
    PMk X (.Call (.Name x p) [] [] pos) (fun σ H Q => Q (.ref C) none H) := by
  intro pins s σ H Q I h
  refine wpAny_Call_Name_kw (ld_glob I hg gC ?_ hdb)
  refine PySem.W.callWith_K0 I.kIn kC ?_
  show wpAny _ _ (call (.ref C) []) _ _ _
  obtain ⟨bm, N, nm, qn, bs, hdct, sn, sub, ab, col, dd, k0, k1, k2, k3, k5, mN, hC, hN, hni, T⟩ := exc_obj I.kIn q
  refine wpAny_call_exc_subT F T hC hN hni (fun h' e hm => ?_) (Nat.zero_le _)
  exact mk_of I hm r h (I.hok.gone hm.new)
end L2
namespace CW
open PySem PySem.Spec PyProof.Rows L2 GA TL
/-! ### a method, an __init__ that stands behind the top -/
structure MethAt (K : PySem.W.Frag) (C : Addr) (m q : Str) (st : Stmt) : Prop where
  ex : ∃ (f : Addr) (oc : Value) (od : Option Addr) (kV doc pm : Value) (an : Option Addr) (cdv ct : Value) (osl : Array (Option Value)),
    Meth K C m f ∧ K.lookup f = some ⟨oc, od, .func (PySem.W.fnOf m q (defArgs st) (defBody st) (defScope st) .none kV doc pm an cdv ct), osl⟩ ∧ PySem.W.codeIn K cdv q = true
structure MCal (P : Program) (w : World) (K : PySem.W.Frag) (mg : Str → Option Value) (base : Heap) (CX : CXT) (C : Addr) (k : Nat) (m : Str) (ps : List Str) (sp : Sp) : Prop where
  ex : ∃ (f : Addr) (fd : FuncData), FnOk P w K mg base CX k f fd ps sp ∧ Meth K C m f ∧ Binds K fd ps []
section
variable {P : Program} {w : World} {K : PySem.W.Frag} {mg : Str → Option Value} {base : Heap} {C : Addr} {m q : Str} {st : Stmt} {N ps : List Str} {k : Nat} {sp : Sp}
theorem MCal.mono {CX : CXT} {j : Nat} (D : MCal P w K mg base CX C j m ps sp) (h : j ≤ k) : MCal P w K mg base CX C k m ps sp := by
  obtain ⟨f, fd, F, a, b⟩ := D.ex
  exact ⟨f, fd, F.mono h, a, b⟩
abbrev BindsOkM (m q : Str) (st : Stmt) (ps : List Str) : Prop := ∀ (kV doc pm : Value) (an : Option Addr) (cdv ct : Value) (us : List Value), us.length = ps.length → bindArgs (PySem.W.fnOf m q (defArgs st) (defBody st) (defScope st) .none kV doc pm an cdv ct) ⟨us, []⟩ = pure (ps.zip us)
theorem MethAt.cal (D : MethAt K C m q st) (S : FnScope N ps (defScope st)) (hb : BindsOkM m q st ps) (len : ∀ vs H Q E, sp vs H Q E → vs.length = ps.length)
    (hbody : ∀ (f : Addr) (cdv : Value) (A : Around) (outer : List Env) (s : Shared) (H : Hp) (vs : List V) (Q : VK) (E : XK), Room k (A.deeper (envOfC q (defScope st) s.heap.objs.size f cdv)) → sp vs H Q E →
      ∃ t, PSs (cxOf CX0 P w K mg base N q (defScope st) f cdv A outer s H E).nox (defBody st) t ∧ t { nx := fun _ H' => Q .non H', rt := Q } (start N vs) H) : MCal P w K mg base CX0 C (k + 1) m ps sp := by
  obtain ⟨f, oc, od, kV, doc, pm, an, cdv, ct, osl, mm, lk, hcd⟩ := D.ex
  refine ⟨f, _, fn_of lk hcd S len fun A outer s H vs Q E hr hsp => ?_, mm, .all (hb kV doc pm an cdv ct)⟩
  obtain ⟨t, h, q⟩ := hbody f cdv A outer s H vs Q E hr hsp
  exact ⟨t, h.nox, q⟩
theorem MethAt.calX (D : MethAt K C m q st) (S : FnScope N ps (defScope st)) (hb : BindsOkM m q st ps) (len : ∀ vs H Q E, sp vs H Q E → vs.length = ps.length)
    (hbody : ∀ (f : Addr) (cdv : Value) (A : Around) (outer : List Env) (s : Shared) (H : Hp) (vs : List V) (Q : VK) (E : XK), Room k (A.deeper (envOfC q (defScope st) s.heap.objs.size f cdv)) → sp vs H Q E →
      ∃ t, PSs (cxOf (L2.CX P w) P w K mg base N q (defScope st) f cdv A outer s H E) (defBody st) t ∧ t { nx := fun _ H' => Q .non H', rt := Q } (start N vs) H) : MCal P w K mg base (L2.CX P w) C (k + 1) m ps sp := by
  obtain ⟨f, oc, od, kV, doc, pm, an, cdv, ct, osl, mm, lk, hcd⟩ := D.ex
  exact ⟨f, _, fn_of lk hcd S len fun A outer s H vs Q E hr hsp => hbody f cdv A outer s H vs Q E hr hsp, mm, .all (hb kV doc pm an cdv ct)⟩
/-- a method called -/
theorem pe_mcal {X : Cx} {CX : CXT} {E : XK} {o e : Expr} {es : List Expr} {ta : TE} {t : TA} {pos apos : Pos} {pl : Sem Bool} (D : MCal X.prog X.w X.K X.mg X.base CX C k m ps sp) (c : Cls X.K C) (he : PE X o ta) (hr : Room k X.A) (hx : Passes CX X E) (ha : PA X (e :: es) t)
    (hst : starEach (e :: es) X.env = (false, eval e X.env) :: starEach es X.env := by rfl) (hpl : (backTo pos (starEach es X.env)).any (·.1) = false := by rfl)
    (ht : eval (.Call (.Attribute o m apos) (e :: es) [] pos) X.env = (do
      let ov ← eval o X.env
      standAt apos.atName
      let (f, first) ← holding [ov] (getMethod ov m pl)
      callWith pos f first (backTo pos (starEach (e :: es) X.env)) (backToKw pos (keywordEach [] X.env))) := by rfl) :
    PE X (.Call (.Attribute o m apos) (e :: es) [] pos) (tMeth C m sp [] E ta t) := by
  obtain ⟨f, fd, F, mm, b⟩ := D.ex
  exact pe_meth he c mm F hr b .nil hx ha hst hpl ht
end

/-! ### BadLine -/
structure BLAt (K : PySem.W.Frag) (mg : Str → Option Value) (CL : Addr) : Prop where
  m : mg "BadLine" = some (.ref CL)
  ox : OexC K CL
  xf : XfC K CL
  nl : PySem.W.findIn K (.ref CL) "line" = some none
  nw : PySem.W.findIn K (.ref CL) "word" = some none
  ini : ∃ fI : Addr, PySem.W.findIn K (.ref CL) "__init__" = some (some (.ref fI)) ∧ PySem.W.typeIn K (.ref fI) = some (.type "function")
  def_ : MethAt K CL "__init__" "BadLine.__init__" sBLInit
structure BSAt (K : PySem.W.Frag) (mg : Str → Option Value) (CS : Addr) (bmB : List Value) (B newId initId : String) : Prop where
  m : mg "BadString" = some (.ref CS)
  F : ExcBaseFacts B newId initId bmB
  q : PySem.W.excIn K CS bmB newId = true
  k : PySem.W.keepIn K (.ref CS) = true
  s : PySem.W.subIn K (.ref CS) (.type "BaseException") = some true
  t : PySem.W.typeIn K (.ref CS) = some (.type "type")
def spBL (CL : Addr) : Sp := fun vs H Q _ => ∃ (a : Addr) (x y : V), vs = [.ref a, x, y] ∧ H a = some (exo a CL none) ∧
  ∀ dx, H dx = none → dx ≠ a → Q .non (upd (upd (upd H dx (exd dx [("line", x)])) a (exo a CL (some dx))) dx (exd dx [("word", y), ("line", x)]))
section
variable {P : Program} {w : World} {K : PySem.W.Frag} {mg : Str → Option Value} {base : Heap} {T : List Addr} {CL : Addr}
theorem scBL : FnScope ["self", "line", "word"] ["self", "line", "word"] (defScope sBLInit) := ⟨rfl, rfl, rfl, by decide +kernel, rfl, by decide +kernel, by decide +kernel⟩
theorem cal_bl (D : BLAt K mg CL) : MCal P w K mg base CX0 CL 1 "__init__" ["self", "line", "word"] (spBL CL) := by
  refine D.def_.cal scBL (fun _ _ _ _ _ _ us hl => match us, hl with | [_, _, _], _ => rfl) (fun vs H Q E h => ?_) (fun f cdv A outer s H vs Q E hr h => ?_)
  · obtain ⟨a, x, y, rfl, _⟩ := h
    rfl
  · obtain ⟨a, x, y, rfl, ha, k⟩ := h
    refine ⟨_, pss_cons (ps_ost (pv 0) (pv 1)) (pss_one (ps_ost (pv 0) (pv 2))), ?_⟩
    refine ⟨_, rfl, _, rfl, a, CL, rfl, D.ox, D.nl, .inl ⟨ha, fun dx hd hn => ?_⟩⟩
    refine ⟨_, rfl, _, rfl, a, CL, rfl, D.ox, D.nw, .inr ⟨dx, _, upd_same, ?_, by show 1 ≤ 900; decide, k dx hd hn⟩⟩
    rw [upd_ne hn, upd_same]
/-- an error that tells line and word leaves: all else as it was -/
def Raised (T : List Addr) (CL : Addr) (H : Hp) (l w : Int) (E : XK) : Prop := ∀ (H' : Hp) (d : Addr), Ext T H H' → H' d = some (.xd [("word", .int w), ("line", .int l)]) → E (.ref CL) (some d) H'
theorem Raised.ext {H H1 : Hp} {l w : Int} {E : XK} (h : Raised T CL H l w E) (e : Ext T H H1) : Raised T CL H1 l w E := fun H' d e' q => h H' d (e.trans e') q
theorem bl_close {H1 : Hp} {l w : Int} {Q : XK} (hT : TOk T H1) (h : Raised T CL H1 l w Q) : ([V.int l, V.int w] : List V).length ≤ 1000 ∧ ∀ a, H1 a = none → spBL CL (.ref a :: ([V.int l, V.int w] ++ [])) (upd H1 a (exo a CL none))
    (fun v H2 => v = .non ∧ ∃ (d : Addr) (fs : List (Str × V)), H2 a = some (exo a CL (some d)) ∧ H2 d = some (exd d fs) ∧ H1 d = none ∧ Q (.ref CL) (some d) (upd (del H2 a) d (.xd fs))) (fun _ _ _ => False) := by
  refine ⟨by show 2 ≤ 1000; decide, fun a ha => ⟨a, _, _, rfl, upd_same, fun dx hd hn => ⟨rfl, dx, _, ?_, upd_same, ?_, h _ dx ?_ upd_same⟩⟩⟩
  · rw [upd_ne (Ne.symm hn), upd_same]
  · rw [upd_ne hn] at hd
    exact hd
  · rw [upd_ne hn] at hd
    have out : ∀ b, H1 b ≠ none → b ≠ a ∧ b ≠ dx := fun b hb => ⟨fun z => hb (by rw [z]; exact ha), fun z => hb (by rw [z]; exact hd)⟩
    have same : ∀ b, b ≠ a → b ≠ dx → upd (del (upd (upd (upd (upd H1 a (exo a CL none)) dx (exd dx [("line", V.int l)])) a (exo a CL (some dx))) dx (exd dx [("word", V.int w), ("line", V.int l)])) a) dx (.xd [("word", V.int w), ("line", V.int l)]) b = H1 b := fun b h1 h2 => by
      rw [upd_ne h2, del_ne h1, upd_ne h2, upd_ne h1, upd_ne h2, upd_ne h1]
    refine ⟨fun b o e _ => ?_, fun Pq hP t => ?_⟩
    · obtain ⟨h1, h2⟩ := out b (by rw [e]; exact fun z => nomatch z)
      rw [same b h1 h2]
      exact e
    · obtain ⟨ps, z1, z2⟩ := t
      obtain ⟨h1, h2⟩ := out Pq (by rw [z1]; exact fun z => nomatch z)
      exact ⟨ps, by rw [same Pq h1 h2]; exact z1, z2⟩
/-- BadLine(e, e2) -/
theorem pmk_bl {X : Cx} {e : Expr} {es : List Expr} {ta : TA} {p pos : Pos} (D : BLAt X.K X.mg CL) (hr : Room 2 X.A) (hg : Gl X "BadLine") (ha : PA X (e :: es) ta)
    (he : starEach (e :: es) X.env = (false, eval e X.env) :: starEach es X.env := by rfl) (hpl : (backTo pos (starEach es X.env)).any (·.1) = false := by rfl) :
    PMk X (.Call (.Name "BadLine" p) (e :: es) [] pos) (tMkO CL (spBL CL) [] ta) := by
  obtain ⟨f, fd, F, mm, b⟩ := (cal_bl (P := X.prog) (w := X.w) (mg := X.mg) (base := X.base) D).ex
  obtain ⟨fI, i1, i2⟩ := D.ini
  have ef : f = fI := by
    have q := mm.at_
    rw [i1] at q
    injection q with q; injection q with q; injection q with q; exact q.symm
  subst ef
  exact pmk_oex D.ox i1 i2 F hr b .nil pass0 hg D.m ha (by decide) he hpl
/-! ### the words of a line; take, need_end -/
structure Wds (H : Hp) (a : Addr) (ws : List Str) : Prop where
  at_ : H a = some (.lst (ws.map V.str))
  len : ws.length ≤ 100000
  each : ∀ w ∈ ws, w.length ≤ 1000000
theorem Wds.ext {H H1 : Hp} {a : Addr} {ws : List Str} (h : Wds H a ws) (t : TOk T H) (e : Ext T H H1) : Wds H1 a ws := ⟨e.lst t h.at_, h.len, h.each⟩
def takeW (ws : List Str) (place : Nat) (lo hi : Int) : Option Int := ws[place]?.bind fun w => KM.numIn (tl w) lo hi
def spTake (T : List Addr) (CL : Addr) : Sp := fun vs H Q E => ∃ (x : V) (wa : Addr) (ws : List Str) (place : Nat) (lo hi at_ : Int), vs = [x, .ref wa, .int (place : Nat), .int lo, .int hi, .int at_] ∧ Wds H wa ws ∧ place ≤ ws.length ∧ TOk T H ∧
  (∀ v, takeW ws place lo hi = some v → ∀ H', Ext T H H' → Q (.int v) H') ∧ (takeW ws place lo hi = none → Raised T CL H at_ (place + 1) E)
def spEnd (T : List Addr) (CL : Addr) : Sp := fun vs H Q E => ∃ (x : V) (wa : Addr) (ws : List Str) (many : Nat) (at_ : Int), vs = [x, .ref wa, .int (many : Nat), .int at_] ∧ Wds H wa ws ∧ TOk T H ∧
  (ws.length ≤ many → Q .non H) ∧ (many < ws.length → Raised T CL H at_ (many + 1) E)
theorem scTake : FnScope ["self", "words", "place", "low", "high", "at", "found"] ["self", "words", "place", "low", "high", "at"] (defScope sTake) := ⟨rfl, rfl, rfl, by decide +kernel, rfl, by decide +kernel, by decide +kernel⟩
theorem scEnd : FnScope ["self", "words", "many", "at"] ["self", "words", "many", "at"] (defScope sEnd) := ⟨rfl, rfl, rfl, by decide +kernel, rfl, by decide +kernel, by decide +kernel⟩
theorem atI_str {ws : List Str} {i : Nat} {x : Str} (h : ws[i]? = some x) : atI (ws.map V.str) (i : Int) = some (V.str x) := by
  have e : (ws.map V.str)[i]? = some (.str x) := by rw [List.getElem?_map, h]; rfl
  exact atI_nat e
theorem cal_take {C : Addr} (D : MethAt K C "take" "ClockReader.take" sTake) (B : Bl mg) (BL : BLAt K mg CL) (CN : Cal P w K mg base CX0 2 "number_in" ["word", "low", "high"] (spNumIn T)) :
    MCal P w K mg base (L2.CX P w) C 3 "take" ["self", "words", "place", "low", "high", "at"] (spTake T CL) := by
  refine D.calX scTake (fun _ _ _ _ _ _ us hl => match us, hl with | [_, _, _, _, _, _], _ => rfl) (fun vs H Q E h => ?_) (fun f cdv A outer s H vs Q E hr h => ?_)
  · obtain ⟨x, wa, ws, place, lo, hi, at_, rfl, _⟩ := h
    rfl
  · obtain ⟨x, wa, ws, place, lo, hi, at_, rfl, hw, hp, hT, k1, k2⟩ := h
    refine ⟨_, pss_cons (ps_if (pt_cmpR op_eq (pv 2) (pe_callB call_len (by rfl) B.len PySem.boot_len (pa_cons (pv 1) pa_nil)) (nomark _)) (pss_one (ps_raise rfl (takes_of rfl rfl rfl rfl) (pmk_bl BL hr rfl (pa_cons (pv 5) (pa_cons (pe_op op_add (pv 2) pe_int) pa_nil))))) pss_nil)
      (pss_cons (ps_set (i := 6) scTake.nd rfl (Or.inl rfl) (pe_cal CN hr rfl pass0 (pa_cons (pe_ix ix_list (pv 1) (pv 2) (fun _ _ => rfl)) (pa_cons (pv 3) (pa_cons (pv 4) pa_nil)))))
      (pss_cons (ps_if (pt_cmpR op_isN (pv 6) pe_non (nomark _)) (pss_one (ps_raise rfl (takes_of rfl rfl rfl rfl) (pmk_bl BL hr rfl (pa_cons (pv 5) (pa_cons (pe_op op_add (pv 2) pe_int) pa_nil))))) pss_nil)
      (pss_one (ps_ret (pv 6))))), ?_⟩
    refine ⟨_, rfl, _, rfl, _, ws.length, rfl, .inl ⟨_, SqL.of hw.at_, by rw [List.length_map]⟩, rfl, _, rfl, ite2 (fun c => ?_) (fun c => ?_)⟩
    · have e : place = ws.length := by
        have c := of_decide_eq_true c
        injection c with c
        omega
      refine ⟨_, rfl, _, rfl, _, _, rfl, rfl, bl_close hT (k2 ?_)⟩
      unfold takeW
      rw [List.getElem?_eq_none (by omega)]
      rfl
    · have hlt : place < ws.length := by
        rcases Nat.lt_or_eq_of_le hp with h | h
        · exact h
        · exact absurd (decide_eq_true (by rw [h])) c
      obtain ⟨wd, hwd⟩ := getq hlt
      have ht : takeW ws place lo hi = KM.numIn (tl wd) lo hi := by
        unfold takeW
        rw [hwd]
        rfl
      refine ⟨_, rfl, _, rfl, wa, _, _, _, rfl, rfl, SqL.of hw.at_, atI_str hwd, _, rfl, _, rfl, wd, lo, hi, rfl, hw.each wd (List.mem_of_getElem? hwd), hT, fun H1 e1 => ?_⟩
      refine ⟨_, rfl, rfl, _, rfl, ?_⟩
      cases hv : KM.numIn (tl wd) lo hi with
      | none =>
        refine iteT ⟨_, rfl, _, rfl, _, _, rfl, rfl, bl_close (e1.ok hT) ((k2 (by rw [ht, hv])).ext e1)⟩
      | some v =>
        exact iteF ⟨_, rfl, k1 v (by rw [ht, hv]) H1 e1⟩
theorem cal_end {C : Addr} (D : MethAt K C "need_end" "ClockReader.need_end" sEnd) (B : Bl mg) (BL : BLAt K mg CL) :
    MCal P w K mg base (L2.CX P w) C 3 "need_end" ["self", "words", "many", "at"] (spEnd T CL) := by
  refine D.calX scEnd (fun _ _ _ _ _ _ us hl => match us, hl with | [_, _, _, _], _ => rfl) (fun vs H Q E h => ?_) (fun f cdv A outer s H vs Q E hr h => ?_)
  · obtain ⟨x, wa, ws, many, at_, rfl, _⟩ := h
    rfl
  · obtain ⟨x, wa, ws, many, at_, rfl, hw, hT, k1, k2⟩ := h
    refine ⟨_, pss_one (ps_if (pt_cmpR op_gt (pe_callB call_len (by rfl) B.len PySem.boot_len (pa_cons (pv 1) pa_nil)) (pv 2) (nomark _)) (pss_one (ps_raise rfl (takes_of rfl rfl rfl rfl) (pmk_bl BL hr rfl (pa_cons (pv 3) (pa_cons (pe_op op_add (pv 2) pe_int) pa_nil))))) pss_nil), ?_⟩
    refine ⟨_, rfl, _, ws.length, rfl, .inl ⟨_, SqL.of hw.at_, by rw [List.length_map]⟩, _, rfl, _, _, rfl, rfl, _, rfl, ite2 (fun c => ?_) (fun c => ?_)⟩
    · have c := of_decide_eq_true c
      exact ⟨_, rfl, _, rfl, _, _, rfl, rfl, bl_close hT (k2 (by omega))⟩
    · refine k1 ?_
      rcases Nat.lt_or_ge many ws.length with h | h
      · exact absurd (decide_eq_true (show (many : Int) < (ws.length : Int) by omega)) c
      · exact h
end
end CW

namespace PySem
open Sem (wp)
abbrev ZRec (h : Heap) (z TI TO : Addr) (v0 : Value) (f : Bool) : Prop :=
  h.get? z = some { cls := .type "zip", dict := none, data := .fields #[v0, .bool f, .bool false, .ref TI, .ref TO], slots := #[] }
def ZSt (z TI TO i1 i2 : Addr) (St1 St2 : Nat → Heap → Prop) (i : Nat) (h : Heap) : Prop :=
  (∃ v0 f, ZRec h z TI TO v0 f ∧ (v0 = .none ∨ ∃ T : Addr, v0 = rawInt T)) ∧ IsTupOf2 h TI (.ref i1) (.ref i2) ∧ (∃ a b, IsTupOf2 h TO a b) ∧ St1 i h ∧ St2 i h
section
variable {prog : Program} {w : World} {A : Around} {E : Value → Shared → Prop} {s : Shared} {z TI TO i1 i2 : Addr} {fp1 fp2 : List Addr} {n1 n2 i : Nat} {P1 P2 : Nat → Value → Prop} {St1 St2 : Nat → Heap → Prop}
theorem alive_ask {a : Addr} {Q : Option Obj → Shared → Prop} (h : Q (s.heap.get? a) s) : wpAny (model prog w) A (loadIfAlive a) Q E s := fun _ _ _ => h
/-- the question whether zip's tuple is free, at any state -/
theorem zip_isFree {v0 : Value} {f : Bool} {Q : Bool → Shared → Prop} (hz : ZRec s.heap z TI TO v0 f) (hv : v0 = .none ∨ ∃ T : Addr, v0 = rawInt T)
    (ht : Q true s) (hf : ∀ h', ZRec h' z TI TO v0 true → Heap.SameBut z s.heap h' → Q false { s with heap := h' }) : wpAny (model prog w) A (Builtin.SmallTypes.ownedTupleIsFree (.ref z)) Q E s := by
  unfold Builtin.SmallTypes.ownedTupleIsFree
  rcases hv with rfl | ⟨T, rfl⟩
  · exact wpAny_bind (wpAny_field hz rfl (x := .none) rfl (wpAny_pure ht))
  · refine wpAny_bind (wpAny_field hz rfl (x := rawInt T) rfl ?_)
    show wpAny _ _ (loadIfAlive ((T : Int).toNat) >>= _) _ _ _
    rw [Int.toNat_natCast]
    refine wpAny_bind (alive_ask ?_)
    cases hT : s.heap.get? T with
    | none =>
      simp only [Option.isNone_none, if_true]
      exact wpAny_pure ht
    | some oT =>
      simp only [Option.isNone_some, Bool.false_eq_true, if_false]
      refine wpAny_bind (wpAny_field hz rfl (x := .bool f) rfl ?_)
      cases f with
      | true =>
        rw [if_neg (show ¬ ((Value.bool true != Value.bool true) = true) from Bool.false_ne_true)]
        exact wpAny_pure (hf s.heap hz (Heap.SameBut.refl _ _))
      | false =>
        rw [if_pos (show (Value.bool false != Value.bool true) = true from rfl)]
        exact wpAny_bind (wpAny_setField_rec hz (by simp) fun h₁ hz₁ hs₁ => wpAny_pure (hf h₁ hz₁ hs₁))
theorem zipZ_item {Q : Value → Shared → Prop} (S : ZipSep2 z TI TO i1 i2 fp1 fp2) (D1 : Draws prog w A i1 fp1 n1 P1 St1) (D2 : Draws prog w A i2 fp2 n2 P2 St2)
    (st : ZSt z TI TO i1 i2 St1 St2 i s.heap) (hlt1 : i < n1) (hlt2 : i < n2)
    (hQ : ∀ x1 x2 h' tk, P1 i x1 → P2 i x2 → ZSt z TI TO i1 i2 St1 St2 (i + 1) h' → IsTupOf2 h' s.heap.objs.size x1 x2 → h'.objs.size = s.heap.objs.size + 1 →
      (∀ c o, c ≠ z → c ≠ TO → c ≠ i1 → c ≠ i2 → s.heap.get? c = some o → h'.get? c = some o) → Q (.ref s.heap.objs.size) { s with heap := h', toks := tk }) :
    wpAny (model prog w) A (Builtin.«zip.__next__» ⟨[.ref z], []⟩) (fun fin s' => ∃ v, fin = .done (.ret v) ∧ Q v s') E s := by
  obtain ⟨⟨v0, f, hz, hv⟩, hTI, ⟨a1, a2, hTO⟩, st1, st2⟩ := st
  obtain ⟨hp, g, d, tk0, os⟩ := s
  show wpAny _ _ (field (.ref z) 2 >>= _) _ _ _
  refine wpAny_bind (wpAny_field hz rfl (x := .bool false) rfl ?_)
  show wpAny _ _ (field (.ref z) 3 >>= _) _ _ _
  refine wpAny_bind (wpAny_field hz rfl (x := .ref TI) rfl ?_)
  refine wpAny_bind (wpAny_seqItems hTI rfl ?_)
  show wpAny _ _ (Builtin.SmallTypes.ownedTupleIsFree (.ref z) >>= _) _ _ _
  refine wpAny_bind (zip_isFree hz hv ?_ ?_)
  · simp only [if_true]
    refine wpAny_bind (wpAny_rule ?_)
    refine wpAny_bind (wpAny_field hz rfl (x := .ref TO) rfl ?_)
    refine wpAny_bind (wpAny_setField_rec hz (by simp) fun g0 hz0 hs0 => ?_)
    replace hz0 : ZRec g0 z TI TO .ellipsis f := hz0
    replace hs0 : Heap.SameBut z hp g0 := hs0
    refine wpAny_bind ?_
    simp only [List.zipIdx_cons, List.zipIdx_nil, List.forIn_cons, List.forIn_nil]
    refine wpAny_bind (wpAny_bind (wpAny_onRaise ?_))
    show wpAny _ _ (Builtin.SmallTypes.nextOf (.ref i1) >>= _) _ _ ⟨g0, g, d, tk0, os⟩
    refine wpAny_bind (D1.item i _ _ _ hlt1 (D1.over st1 hs0 S.zf1) fun x1 p1 tk1 hx1 sn1 hp1 => wpAny_pure ?_)
    replace hp1 : Heap.SameBut i1 g0 p1 := hp1
    have hU1 : IsTupOf2 p1 TO a1 a2 := hp1.extBut _ _ S.Ti1 (hs0.extBut _ _ S.TOz hTO)
    refine wpAny_bind (wpAny_seqItems (s := ⟨p1, g, d, tk1, os⟩) hU1 rfl ?_)
    refine wpAny_bind (updateSeq_IsTupOf2 (s := ⟨p1, g, d, tk1, os⟩) hU1 fun g1 hT1 hs1 => ?_)
    replace hT1 : IsTupOf2 g1 TO x1 a2 := hT1
    replace hs1 : Heap.SameBut TO p1 g1 := hs1
    refine wpAny_bind (wpAny_letGo (wpAny_pure ?_))
    refine wpAny_bind (wpAny_bind (wpAny_onRaise ?_))
    show wpAny _ _ (Builtin.SmallTypes.nextOf (.ref i2) >>= _) _ _ ⟨g1, g, d, tk1, os⟩
    refine wpAny_bind (D2.item i _ _ _ hlt2 (D2.over (D2.over (D2.over st2 hs0 S.zf2) hp1 S.sep1_2) hs1 S.Tf2) fun x2 p2 tk2 hx2 sn2 hp2 => wpAny_pure ?_)
    replace hp2 : Heap.SameBut i2 g1 p2 := hp2
    have hU2 : IsTupOf2 p2 TO x1 a2 := hp2.extBut _ _ S.Ti2 hT1
    refine wpAny_bind (wpAny_seqItems (s := ⟨p2, g, d, tk2, os⟩) hU2 rfl ?_)
    refine wpAny_bind (updateSeq_IsTupOf2 (s := ⟨p2, g, d, tk2, os⟩) hU2 fun g2 hT2 hs2 => ?_)
    replace hT2 : IsTupOf2 g2 TO x1 x2 := hT2
    replace hs2 : Heap.SameBut TO p2 g2 := hs2
    refine wpAny_bind (wpAny_letGo (wpAny_pure (wpAny_pure ?_)))
    refine wpAny_bind (wpAny_seqItems (s := ⟨g2, g, d, tk2, os⟩) hT2 rfl ?_)
    refine wpAny_bind (wpAny_newTuple ?_)
    have hsz : g2.objs.size = hp.objs.size := by rw [hs2.1, hp2.1, hs1.1, hp1.1, hs0.1]
    have hzz : ZRec g2 z TI TO .ellipsis f := (hs2.extBut _ _ S.TOz.symm (hp2.extBut _ _ S.zi2 (hs1.extBut _ _ S.TOz.symm (hp1.extBut _ _ S.zi1 hz0))))
    have hkk : ∀ c o, c ≠ z → c ≠ TO → c ≠ i1 → c ≠ i2 → hp.get? c = some o → g2.get? c = some o := fun c o cz cT c1 c2 e =>
      (hs2.extBut _ _ cT (hp2.extBut _ _ c2 (hs1.extBut _ _ cT (hp1.extBut _ _ c1 (hs0.extBut _ _ cz e)))))
    have hj1 : St1 (i + 1) g2 := (D1.over (D1.over (D1.over sn1 hs1 S.Tf1) hp2 S.sep2_1) hs2 S.Tf1)
    have hj2 : St2 (i + 1) g2 := (D2.over sn2 hs2 S.Tf2)
    have hzlt : z < g2.objs.size := Heap.lt_size hzz
    show wpAny _ _ (Builtin.SmallTypes.ownedTupleHandOut (.ref z) (.ref g2.objs.size) >>= _) _ _ ⟨g2.push { cls := .type "tuple", data := .seq #[x1, x2] }, g, d, tk2, os⟩
    refine wpAny_bind ?_
    unfold Builtin.SmallTypes.ownedTupleHandOut
    have hz₆ : ZRec (g2.push { cls := .type "tuple", data := .seq #[x1, x2] }) z TI TO .ellipsis f := Heap.get?_push_of_some _ hzz
    refine wpAny_bind (wpAny_setField_rec hz₆ (by simp) fun h₇ hz₇ hs₇ => ?_)
    replace hz₇ : ZRec h₇ z TI TO (rawInt g2.objs.size) f := hz₇
    refine wpAny_setField_rec hz₇ (by simp) fun h₈ hz₈ hs₈ => ?_
    replace hz₈ : ZRec h₈ z TI TO (rawInt g2.objs.size) false := hz₈
    replace hs₇ : Heap.SameBut z (g2.push { cls := .type "tuple", data := .seq #[x1, x2] }) h₇ := hs₇
    replace hs₈ : Heap.SameBut z h₇ h₈ := hs₈
    have up : ∀ c o, c ≠ z → g2.get? c = some o → h₈.get? c = some o := fun c o c1 e => hs₈.extBut _ _ c1 (hs₇.extBut _ _ c1 (Heap.get?_push_of_some _ e))
    have hT₈ : IsTupOf2 h₈ g2.objs.size x1 x2 := hs₈.extBut _ _ (Nat.ne_of_gt hzlt) (hs₇.extBut _ _ (Nat.ne_of_gt hzlt) (Heap.get?_push_size _ rfl))
    have hz8 : h₈.objs.size = g2.objs.size + 1 := by rw [hs₈.1, hs₇.1, Heap.size_push]
    rw [hsz] at hz₈ hT₈ hz8
    refine wpAny_pure ⟨_, rfl, ?_⟩
    show Q (.ref g2.objs.size) ⟨h₈, g, d, tk2, os⟩
    rw [hsz]
    exact hQ x1 x2 h₈ tk2 hx1 hx2 ⟨⟨_, _, hz₈, .inr ⟨_, rfl⟩⟩, up _ _ S.TIz (hkk _ _ S.TIz S.TITO S.TIi1 S.TIi2 hTI), ⟨_, _, up _ _ S.TOz hT2⟩, D1.frame _ _ _ hj1 fun b hb o e => up b o (fun q => S.zf1 (q ▸ hb)) e, D2.frame _ _ _ hj2 fun b hb o e => up b o (fun q => S.zf2 (q ▸ hb)) e⟩ hT₈ hz8 fun c o cz cT c1 c2 e => up c o cz (hkk c o cz cT c1 c2 e)
  · intro g0 hz0 hs0
    replace hs0 : Heap.SameBut z hp g0 := hs0
    simp only [Bool.false_eq_true, if_false]
    refine wpAny_bind ?_
    rw [← Array.forIn_toList]
    simp only [List.forIn_cons, List.forIn_nil]
    refine wpAny_bind (wpAny_bind (wpAny_holding ?_))
    show wpAny _ _ (Builtin.SmallTypes.nextOf (.ref i1) >>= _) _ _ ⟨g0, g, d, tk0, os⟩
    refine wpAny_bind (D1.item i _ _ _ hlt1 (D1.over st1 hs0 S.zf1) fun x1 p1 tk1 hx1 sn1 hp1 => wpAny_pure ?_)
    replace hp1 : Heap.SameBut i1 g0 p1 := hp1
    refine wpAny_pure ?_
    refine wpAny_bind (wpAny_bind (wpAny_holding ?_))
    show wpAny _ _ (Builtin.SmallTypes.nextOf (.ref i2) >>= _) _ _ ⟨p1, g, d, tk1, os⟩
    refine wpAny_bind (D2.item i _ _ _ hlt2 (D2.over (D2.over st2 hs0 S.zf2) hp1 S.sep1_2) fun x2 p2 tk2 hx2 sn2 hp2 => wpAny_pure ?_)
    replace hp2 : Heap.SameBut i2 p1 p2 := hp2
    refine wpAny_pure (wpAny_pure ?_)
    show wpAny _ _ (newTuple [x1, x2] >>= _) _ _ ⟨p2, g, d, tk2, os⟩
    refine wpAny_bind (wpAny_newTuple ?_)
    have hsz : p2.objs.size = hp.objs.size := by rw [hp2.1, hp1.1, hs0.1]
    have up : ∀ c o, c ≠ z → c ≠ i1 → c ≠ i2 → hp.get? c = some o → (p2.push { cls := .type "tuple", data := .seq #[x1, x2] }).get? c = some o := fun c o cz c1 c2 e =>
      Heap.get?_push_of_some _ (hp2.extBut _ _ c2 (hp1.extBut _ _ c1 (hs0.extBut _ _ cz e)))
    have hzz : ZRec (p2.push { cls := .type "tuple", data := .seq #[x1, x2] }) z TI TO v0 true := Heap.get?_push_of_some _ (hp2.extBut _ _ S.zi2 (hp1.extBut _ _ S.zi1 hz0))
    have hT : IsTupOf2 (p2.push { cls := .type "tuple", data := .seq #[x1, x2] }) p2.objs.size x1 x2 := Heap.get?_push_size _ rfl
    have hs8 : (p2.push { cls := .type "tuple", data := .seq #[x1, x2] }).objs.size = p2.objs.size + 1 := Heap.size_push ..
    refine wpAny_pure ⟨_, rfl, ?_⟩
    show Q (.ref p2.objs.size) _
    rw [hsz] at hT hs8 ⊢
    exact hQ x1 x2 _ tk2 hx1 hx2 ⟨⟨_, _, hzz, hv⟩, up _ _ S.TIz S.TIi1 S.TIi2 hTI, ⟨_, _, up _ _ S.TOz S.Ti1 S.Ti2 hTO⟩, D1.frame _ _ _ (D1.over sn1 hp2 S.sep2_1) fun b hb o e => Heap.get?_push_of_some _ e, D2.frame _ _ _ sn2 fun b hb o e => Heap.get?_push_of_some _ e⟩ hT hs8 fun c o cz cT c1 c2 e => up c o cz c1 c2 e
theorem zipZ_end {Q : Fin → Shared → Prop} (S : ZipSep2 z TI TO i1 i2 fp1 fp2) (D1 : Draws prog w A i1 fp1 n1 P1 St1) (D2 : Draws prog w A i2 fp2 n2 P2 St2)
    (st : ZSt z TI TO i1 i2 St1 St2 i s.heap) (hend : i = n1)
    (hE : ∀ h' tk e, (∀ c o, c ≠ z → c ≠ TO → c ≠ i1 → c ≠ i2 → s.heap.get? c = some o → h'.get? c = some o) → (∃ o, h'.get? e = some o ∧ o.cls = .type "StopIteration") → E (.ref e) { s with heap := h', toks := tk }) :
    wpAny (model prog w) A (Builtin.«zip.__next__» ⟨[.ref z], []⟩) Q E s := by
  obtain ⟨⟨v0, f, hz, hv⟩, hTI, ⟨a1, a2, hTO⟩, st1, st2⟩ := st
  obtain ⟨hp, g, d, tk0, os⟩ := s
  show wpAny _ _ (field (.ref z) 2 >>= _) _ _ _
  refine wpAny_bind (wpAny_field hz rfl (x := .bool false) rfl ?_)
  show wpAny _ _ (field (.ref z) 3 >>= _) _ _ _
  refine wpAny_bind (wpAny_field hz rfl (x := .ref TI) rfl ?_)
  refine wpAny_bind (wpAny_seqItems hTI rfl ?_)
  show wpAny _ _ (Builtin.SmallTypes.ownedTupleIsFree (.ref z) >>= _) _ _ _
  refine wpAny_bind (zip_isFree hz hv ?_ ?_)
  · simp only [if_true]
    refine wpAny_bind (wpAny_rule ?_)
    refine wpAny_bind (wpAny_field hz rfl (x := .ref TO) rfl ?_)
    refine wpAny_bind (wpAny_setField_rec hz (by simp) fun g0 hz0 hs0 => ?_)
    replace hz0 : ZRec g0 z TI TO .ellipsis f := hz0
    replace hs0 : Heap.SameBut z hp g0 := hs0
    refine wpAny_bind ?_
    simp only [List.zipIdx_cons, List.zipIdx_nil, List.forIn_cons, List.forIn_nil]
    refine wpAny_bind (wpAny_bind (wpAny_onRaise ?_))
    show wpAny _ _ (Builtin.SmallTypes.nextOf (.ref i1) >>= _) _ _ ⟨g0, g, d, tk0, os⟩
    refine wpAny_bind (D1.done ⟨g0, g, d, tk0, os⟩ _ _ (by rw [← hend]; exact (D1.over st1 hs0 S.zf1)) fun q e hq he => ?_)
    replace hq : Heap.ExtBut i1 g0 q := hq
    obtain ⟨oe, hoe, hce⟩ := he
    replace hoe : q.get? e = some oe := hoe
    have hzq : ZRec q z TI TO .ellipsis f := hq _ _ S.zi1 hz0
    have hez : e ≠ z := fun x => by subst x; rw [hzq] at hoe; cases hoe; simp at hce
    refine wpAny_setField_rec (s := ⟨q, g, d, tk0, os⟩) hzq (by simp) fun q' _ hq' => ?_
    replace hq' : Heap.SameBut z q q' := hq'
    exact hE q' tk0 e (fun c o cz cT c1 c2 x => hq'.extBut _ _ cz (hq _ _ c1 (hs0.extBut _ _ cz x))) ⟨oe, hq'.extBut _ _ hez hoe, hce⟩
  · intro g0 hz0 hs0
    replace hs0 : Heap.SameBut z hp g0 := hs0
    simp only [Bool.false_eq_true, if_false]
    refine wpAny_bind ?_
    rw [← Array.forIn_toList]
    simp only [List.forIn_cons, List.forIn_nil]
    refine wpAny_bind (wpAny_bind (wpAny_holding ?_))
    show wpAny _ _ (Builtin.SmallTypes.nextOf (.ref i1) >>= _) _ _ ⟨g0, g, d, tk0, os⟩
    refine wpAny_bind (D1.done ⟨g0, g, d, tk0, os⟩ _ _ (by rw [← hend]; exact (D1.over st1 hs0 S.zf1)) fun q e hq he => ?_)
    replace hq : Heap.ExtBut i1 g0 q := hq
    obtain ⟨oe, hoe, hce⟩ := he
    exact hE q tk0 e (fun c o cz cT c1 c2 x => (hq _ _ c1 (hs0.extBut _ _ cz x))) ⟨oe, hoe, hce⟩
theorem nextOf_zipZ_item {Q : Value → Shared → Prop} (S : ZipSep2 z TI TO i1 i2 fp1 fp2) (D1 : Draws prog w A.in1 i1 fp1 n1 P1 St1) (D2 : Draws prog w A.in1 i2 fp2 n2 P2 St2)
    (st : ZSt z TI TO i1 i2 St1 St2 i s.heap) (hlt1 : i < n1) (hlt2 : i < n2)
    (hQ : ∀ x1 x2 h' tk, P1 i x1 → P2 i x2 → ZSt z TI TO i1 i2 St1 St2 (i + 1) h' → IsTupOf2 h' s.heap.objs.size x1 x2 → h'.objs.size = s.heap.objs.size + 1 →
      (∀ c o, c ≠ z → c ≠ TO → c ≠ i1 → c ≠ i2 → s.heap.get? c = some o → h'.get? c = some o) → Q (.ref s.heap.objs.size) { s with heap := h', toks := tk }) :
    wpAny (model prog w) A (Builtin.SmallTypes.nextOf (.ref z)) Q E s := by
  obtain ⟨v0, f, hz, hv⟩ := id st.1
  have hT : s.TypeIs (.ref z) "zip" := ⟨_, hz, rfl⟩
  unfold Builtin.SmallTypes.nextOf
  exact wpAny_bind (wpAny_callSpecial?_slot (name := Str.ofString "__next__") hT F.slot_zip_next
    (wpAny_call_entry F.slot_zip_next hT F.entry_zip_next
      (zipZ_item S D1 D2 st hlt1 hlt2 fun x1 x2 h' tk y1 y2 b1 b2 b3 b4 => wpAny_pure (hQ x1 x2 h' tk y1 y2 b1 b2 b3 b4)) (F.args_zip_next_1 _)))
theorem nextOf_zipZ_end {Q : Value → Shared → Prop} (S : ZipSep2 z TI TO i1 i2 fp1 fp2) (D1 : Draws prog w A.in1 i1 fp1 n1 P1 St1) (D2 : Draws prog w A.in1 i2 fp2 n2 P2 St2)
    (st : ZSt z TI TO i1 i2 St1 St2 i s.heap) (hend : i = n1)
    (hE : ∀ h' tk e, (∀ c o, c ≠ z → c ≠ TO → c ≠ i1 → c ≠ i2 → s.heap.get? c = some o → h'.get? c = some o) → (∃ o, h'.get? e = some o ∧ o.cls = .type "StopIteration") → E (.ref e) { s with heap := h', toks := tk }) :
    wpAny (model prog w) A (Builtin.SmallTypes.nextOf (.ref z)) Q E s := by
  obtain ⟨v0, f, hz, hv⟩ := id st.1
  have hT : s.TypeIs (.ref z) "zip" := ⟨_, hz, rfl⟩
  unfold Builtin.SmallTypes.nextOf
  exact wpAny_bind (wpAny_callSpecial?_slot (name := Str.ofString "__next__") hT F.slot_zip_next
    (wpAny_call_entry F.slot_zip_next hT F.entry_zip_next (zipZ_end S D1 D2 st hend hE) (F.args_zip_next_1 _)))
end
end PySem

namespace PySem
open Sem (wp)
section
variable {prog : Program} {w : World} {A : Around} {E : Value → Shared → Prop} {s : Shared} {e it : Addr} {i : Nat}
/-- enumerate's next over any iterator it, told by what its own next does -/
theorem enumZ_item {old : Value} {R : Value → Heap → Nat → Prop} {ch : List Addr} {Q : Value → Shared → Prop}
    (he : IsEnum s.heap e it (i : Nat) old) (hne : e ∉ ch)
    (hn : ∀ (Q' : Value → Shared → Prop), (∀ x h1 tk, R x h1 tk → (∀ c o, c ∉ ch → s.heap.get? c = some o → h1.get? c = some o) → Q' x { s with heap := h1, toks := tk }) → wpAny (model prog w) A (Builtin.SmallTypes.nextOf (.ref it)) Q' E s)
    (hQ : ∀ x h1 tk h', R x h1 tk → (∀ c o, c ∉ ch → s.heap.get? c = some o → h1.get? c = some o) → IsEnumOut h' e it ((i : Int) + 1) x h1.objs.size →
      h'.get? h1.objs.size = some { cls := .type "tuple", data := .seq #[.int i tk, x] } → h'.objs.size = h1.objs.size + 1 →
      (∀ b o, b ≠ e → h1.get? b = some o → h'.get? b = some o) → Q (.ref h1.objs.size) { s with heap := h', toks := tk + 1 }) :
    wpAny (model prog w) A (Builtin.«enumerate.__next__» ⟨[.ref e], []⟩) (fun fin s' => ∃ v, fin = .done (.ret v) ∧ Q v s') E s := by
  obtain ⟨hp, g, d, tk₀, os⟩ := s
  show wpAny _ _ (field (.ref e) 2 >>= _) _ _ _
  refine wpAny_bind (wpAny_field he rfl (x := .ref it) rfl ?_)
  refine wpAny_bind (hn _ fun x h₁ tk hR hk₁ => ?_)
  have he₁ : IsEnum h₁ e it i old := hk₁ _ _ hne he
  show wpAny _ _ (field (.ref e) 3 >>= _) _ _ ⟨h₁, g, d, tk, os⟩
  refine wpAny_bind (wpAny_field he₁ rfl (x := rawInt i) rfl ?_)
  show wpAny _ _ (field (.ref e) 4 >>= _) _ _ ⟨h₁, g, d, tk, os⟩
  refine wpAny_bind (wpAny_field he₁ rfl (x := .none) rfl ?_)
  show wpAny _ _ (mkInt i >>= _) _ _ ⟨h₁, g, d, tk, os⟩
  refine wpAny_bind (wpAny_mkInt ?_)
  show wpAny _ _ (setField (.ref e) 3 (rawInt ((i : Int) + 1)) >>= _) _ _ ⟨h₁, g, d, tk + 1, os⟩
  refine wpAny_bind (wpAny_setField_rec he₁ (by simp) fun h₂ he₂ hs₂ => ?_)
  replace hs₂ : Heap.SameBut e h₁ h₂ := hs₂
  replace he₂ : IsEnum h₂ e it ((i : Int) + 1) old := he₂
  show wpAny _ _ (setField (.ref e) 4 .none >>= _) _ _ ⟨h₂, g, d, tk + 1, os⟩
  refine wpAny_bind (wpAny_setField_rec he₂ (by simp) fun h₃ he₃ hs₃ => ?_)
  replace hs₃ : Heap.SameBut e h₂ h₃ := hs₃
  replace he₃ : IsEnum h₃ e it ((i : Int) + 1) old := he₃
  show wpAny _ _ (newTuple [.int i tk, x] >>= _) _ _ ⟨h₃, g, d, tk + 1, os⟩
  refine wpAny_bind (wpAny_newTuple ?_)
  have he₄ : IsEnum (h₃.push { cls := .type "tuple", data := .seq #[.int i tk, x] }) e it ((i : Int) + 1) old := Heap.get?_push_of_some _ he₃
  generalize hh₄ : h₃.push { cls := .type "tuple", data := .seq #[.int i tk, x] } = h₄ at he₄
  have hsz : h₃.objs.size = h₁.objs.size := by rw [hs₃.1, hs₂.1]
  have hel : e < h₁.objs.size := Heap.lt_size he₁
  have ht₄ : h₄.get? h₁.objs.size = some { cls := .type "tuple", data := .seq #[.int i tk, x] } := by rw [← hh₄, ← hsz]; exact Heap.get?_push_size _ rfl
  have hz₄ : h₄.objs.size = h₁.objs.size + 1 := by rw [← hh₄, Heap.size_push, hsz]
  have hk₄ : ∀ b o, b ≠ e → h₁.get? b = some o → h₄.get? b = some o := fun b o hbe hb => by
    rw [← hh₄]; exact Heap.get?_push_of_some _ (hs₃.extBut b o hbe (hs₂.extBut b o hbe hb))
  show wpAny _ _ (Builtin.SmallTypes.ownedTupleIsFree (.ref e) >>= _) _ _ ⟨h₄, g, d, tk + 1, os⟩
  rw [hsz]
  clear hh₄ he₃ hs₃ he₂ hs₂ hsz h₃ h₂
  refine wpAny_bind ?_
  · unfold Builtin.SmallTypes.ownedTupleIsFree
    refine wpAny_bind (wpAny_field he₄ rfl (x := .none) rfl (wpAny_pure ?_))
    simp only [if_true]
    refine wpAny_bind (wpAny_rule ?_)
    refine wpAny_bind (wpAny_field he₄ rfl (x := old) rfl ?_)
    refine wpAny_bind (wpAny_setField_rec he₄ (by simp) fun h₅ he₅ hs₅ => ?_)
    replace hs₅ : Heap.SameBut e h₄ h₅ := hs₅
    replace he₅ : IsEnum h₅ e it ((i : Int) + 1) x := he₅
    show wpAny _ _ (Builtin.SmallTypes.ownedTupleHandOut (.ref e) (.ref h₁.objs.size) >>= _) _ _ ⟨h₅, g, d, tk + 1, os⟩
    refine wpAny_bind ?_
    · unfold Builtin.SmallTypes.ownedTupleHandOut
      refine wpAny_bind (wpAny_setField_rec he₅ (by simp) fun h₆ he₆ hs₆ => ?_)
      replace hs₆ : Heap.SameBut e h₅ h₆ := hs₆
      replace he₆ : IsEnumOut h₆ e it ((i : Int) + 1) x h₁.objs.size := he₆
      refine wpAny_setField_rec he₆ (by simp) fun h₇ he₇ hs₇ => ?_
      replace hs₇ : Heap.SameBut e h₆ h₇ := hs₇
      replace he₇ : IsEnumOut h₇ e it ((i : Int) + 1) x h₁.objs.size := he₇
      refine wpAny_bind (wpAny_letGo (wpAny_pure ⟨_, rfl, hQ x h₁ tk h₇ hR hk₁ he₇ ?_ ?_ ?_⟩))
      · exact hs₇.extBut _ _ (Nat.ne_of_gt hel) (hs₆.extBut _ _ (Nat.ne_of_gt hel) (hs₅.extBut _ _ (Nat.ne_of_gt hel) ht₄))
      · rw [hs₇.1, hs₆.1, hs₅.1, hz₄]
      · exact fun b o hbe hb => hs₇.extBut b o hbe (hs₆.extBut b o hbe (hs₅.extBut b o hbe (hk₄ b o hbe hb)))
end
end PySem
namespace GB
open PySem PySem.Spec PyProof.Rows L2
/-- enumerate(zip(the list at a, the tuple at b)): an index, and a pair of the items, both in new tuples -/
def IteZ (K : PySem.W.Frag) (a b : Addr) : It :=
  ⟨fun i H => ∃ (xs ys : List V) (x y : V), SqL K H a xs ∧ SqT K H b ys ∧ xs[i]? = some x ∧ ys[i]? = some y,
    fun i H v H' => ∃ T U x y, v = .ref T ∧ T ≠ U ∧ H T = none ∧ H U = none ∧ H' = upd (upd H U (.tup [x, y])) T (.tup [.int (i : Nat), .ref U]) ∧ (∀ xs, SqL K H a xs → xs[i]? = some x) ∧ ∀ ys, SqT K H b ys → ys[i]? = some y,
    fun i H => ∃ xs ys : List V, SqL K H a xs ∧ SqT K H b ys ∧ xs.length = i⟩
theorem turn_enumZ {P : Program} {w : World} {K : PySem.W.Frag} {elts : List Expr} {kk : Nat} {tpos : Pos} {a b e z TI TO i1 i2 : Addr} (S : ZipSep2 z TI TO i1 i2 [i1, a] [i2, b]) (n1 : e ≠ z) (n2 : e ≠ TI) (n3 : e ≠ TO) (n4 : e ≠ i1) (n5 : e ≠ i2) (n6 : a ≠ e) (n7 : b ≠ e) (n8 : a ≠ i1) (n9 : b ≠ i2) :
    Turn P w K (.Tuple elts kk tpos) (IteZ K a b) [e, z, TI, TO, i1, i2] e (fun i h => (∃ old, IsEnum h e z ((i : Nat) : Int) old) ∧ ZSt z TI TO i1 i2 (fun i h => h.IsListIter i1 a i) (fun i h => h.IsTupleIter i2 b i) i h) where
  mem := by simp
  obj := fun i h st c hc => by
    obtain ⟨⟨old, he⟩, ⟨v0, f, hz, _⟩, hTI, ⟨x, y, hTO⟩, ⟨o1, e1, _, d1⟩, ⟨o2, e2, _, d2⟩⟩ := st
    have e' : c = e ∨ c = z ∨ c = TI ∨ c = TO ∨ c = i1 ∨ c = i2 := by simpa using hc
    rcases e' with q | q | q | q | q | q
    · rw [q]; exact ⟨_, he, fun v q => nomatch q⟩
    · rw [q]; exact ⟨_, hz, fun v q => nomatch q⟩
    · rw [q]; exact ⟨_, hTI, fun v q => nomatch q⟩
    · rw [q]; exact ⟨_, hTO, fun v q => nomatch q⟩
    · rw [q]; exact ⟨o1, e1, fun v q => by rw [d1] at q; cases q⟩
    · rw [q]; exact ⟨o2, e2, fun v q => by rw [d2] at q; cases q⟩
  keep := fun i h h' st k => by
    obtain ⟨⟨old, he⟩, ⟨v0, f, hz, hv⟩, hTI, ⟨x, y, hTO⟩, h1, h2⟩ := st
    exact ⟨⟨old, k e (by simp) _ he⟩, ⟨v0, f, k z (by simp) _ hz, hv⟩, k TI (by simp) _ hTI, ⟨x, y, k TO (by simp) _ hTO⟩, h1.at fun o e => k i1 (by simp) o e, h2.at fun o e => k i2 (by simp) o e⟩
  item := by
    intro X hP hw hK hc i pins s σ H E I hf st hg
    subst hP hw hK
    obtain ⟨⟨old, he⟩, zs⟩ := st
    obtain ⟨xs, ys, x, y, hqx, hqy, hx, hy⟩ := hg
    obtain ⟨its, rv, p, _⟩ := I.list hqx
    obtain ⟨its2, rv2, p2, _⟩ := I.tuple hqy
    obtain ⟨u, hu, ru⟩ := rv.get hx
    obtain ⟨u2, hu2, ru2⟩ := rv2.get hy
    have hel : e < s.heap.objs.size := Heap.lt_size he
    have hi1 : i < its.toArray.size := by
      have := (List.getElem?_eq_some_iff.mp hu).1
      simpa using this
    have hi2 : i < its2.toArray.size := by
      have := (List.getElem?_eq_some_iff.mp hu2).1
      simpa using this
    have pz : ZSt z TI TO i1 i2 (fun i h => h.IsListIter i1 a i ∧ h.IsList a its.toArray) (fun i h => h.IsTupleIter i2 b i ∧ h.IsTuple b its2.toArray) i s.heap :=
      ⟨zs.1, zs.2.1, zs.2.2.1, ⟨zs.2.2.2.1, p.isList⟩, zs.2.2.2.2, p2⟩
    have hT : s.TypeIs (.ref e) "enumerate" := ⟨_, he, rfl⟩
    unfold pyNext
    refine wpAny_bind (wpAny_attempt (wpAny_callSpecial?_slot (name := Str.ofString "__next__") hT F.slot_enumerate_next
      (wpAny_call_entry F.slot_enumerate_next hT F.entry_enumerate_next
        (enumZ_item (ch := [z, TO, i1, i2]) (R := fun v h1 tk => v = .ref s.heap.objs.size ∧ h1.objs.size = s.heap.objs.size + 1 ∧ ∃ x1 x2, its.toArray[i]? = some x1 ∧ its2.toArray[i]? = some x2 ∧ IsTupOf2 h1 s.heap.objs.size x1 x2 ∧ ZSt z TI TO i1 i2 (fun i h => h.IsListIter i1 a i ∧ h.IsList a its.toArray) (fun i h => h.IsTupleIter i2 b i ∧ h.IsTuple b its2.toArray) (i + 1) h1) he
          (by simp [n1, n3, n4, n5]) (fun Q' hq => ?_) (fun v h1 tk h' hR hk1 ho hTt hsz hk2 => wpAny_pure ?_)) (F.args_enumerate_next_1 _))))
    · refine nextOf_zipZ_item S (Draws.list (A := X.A.in1.in1) (I.ok.hd hc) i1 a n8 its.toArray) (Draws.tuple (A := X.A.in1.in1) (I.ok.hd hc) i2 b n9 its2.toArray) pz hi1 hi2 fun x1 x2 h' tk y1 y2 b1 b2 b3 b4 => ?_
      exact hq _ h' tk ⟨rfl, b3, x1, x2, y1, y2, b2, b1⟩ fun c o hc q => b4 c o (fun z => hc (by simp [z])) (fun z => hc (by simp [z])) (fun z => hc (by simp [z])) (fun z => hc (by simp [z])) q
    · obtain ⟨rfl, hs1, x1, x2, hx1, hx2, hU, zs'⟩ := hR
      have ex1 : x1 = u := by
        simp only [List.getElem?_toArray] at hx1
        rw [hu] at hx1
        exact (Option.some.inj hx1).symm
      have ex2 : x2 = u2 := by
        simp only [List.getElem?_toArray] at hx2
        rw [hu2] at hx2
        exact (Option.some.inj hx2).symm
      subst ex1 ex2
      refine ⟨_, rfl, wpAny_letOwnedTupleGo_enum (s := { s with heap := h', toks := tk + 1 }) ho fun h'' he' sb => ?_⟩
      have hU1 : h1.get? s.heap.objs.size = some { cls := .type "tuple", data := .seq #[x1, x2] } := hU
      have hneU : s.heap.objs.size ≠ e := Nat.ne_of_gt hel
      have hneT : h1.objs.size ≠ e := by rw [hs1]; exact Nat.ne_of_gt (Nat.lt_succ_of_lt hel)
      have k12 : ∀ c o, c ≠ e → h1.get? c = some o → h''.get? c = some o := fun c o n q => (sb.2 c n).trans (hk2 c o n q)
      have hU2 : h''.get? s.heap.objs.size = some { cls := .type "tuple", data := .seq #[x1, x2] } := k12 _ _ hneU hU1
      have hT2 : h''.get? h1.objs.size = some { cls := .type "tuple", data := .seq #[.int i tk, .ref s.heap.objs.size] } := (sb.2 _ hneT).trans hTt
      -- first the pair, in zip's own heap
      have newU : ObjOk X.prog X.w (upd H s.heap.objs.size (.tup [x, y])) h1 s.heap.objs.size (.tup [x, y]) :=
        ⟨by show 2 ≤ sizeLine; decide, [x1, x2], .cons ru (.cons ru2 .nil), ⟨_, hU1, rfl, _, rfl⟩⟩
      have I1 : Inv X pins σ (upd H s.heap.objs.size (.tup [x, y])) { s with heap := h1, toks := tk } :=
        I.turnedNew (ch := [e, z, TI, TO, i1, i2]) (fun c o hb q => hk1 c o (fun hm => hb (by
          have : c = z ∨ c = TO ∨ c = i1 ∨ c = i2 := by simpa using hm
          rcases this with q | q | q | q <;> simp [q])) q) hf (Nat.le_refl _) newU
      have hlt : ∀ c ∈ [e, z, TI, TO, i1, i2], c < s.heap.objs.size := fun c hc => by
        obtain ⟨⟨v0, f, hz, _⟩, hTI, ⟨_, _, hTO⟩, ⟨⟨o1, e1, _⟩, _⟩, ⟨o2, e2, _⟩, _⟩ := pz
        have e' : c = e ∨ c = z ∨ c = TI ∨ c = TO ∨ c = i1 ∨ c = i2 := by simpa using hc
        rcases e' with q | q | q | q | q | q <;> rw [q]
        · exact hel
        · exact Heap.lt_size hz
        · exact Heap.lt_size hTI
        · exact Heap.lt_size hTO
        · exact Heap.lt_size e1
        · exact Heap.lt_size e2
      have hf1 : ∀ c ∈ [e, z, TI, TO, i1, i2], FpOk X pins (upd H s.heap.objs.size (.tup [x, y])) c := fun c hc => by
        obtain ⟨f0, fr⟩ := hf c hc
        exact ⟨by rw [upd_ne (Nat.ne_of_lt (hlt c hc))]; exact f0, fr⟩
      have newT : ObjOk X.prog X.w (upd (upd H s.heap.objs.size (.tup [x, y])) h1.objs.size (.tup [.int (i : Nat), .ref s.heap.objs.size])) h'' h1.objs.size (.tup [.int (i : Nat), .ref s.heap.objs.size]) :=
        ⟨by show 2 ≤ sizeLine; decide, [.int i tk, .ref s.heap.objs.size], .cons ⟨_, rfl⟩ (.cons rfl .nil), ⟨_, hT2, rfl, _, rfl⟩⟩
      have I2 : Inv X pins σ (upd (upd H s.heap.objs.size (.tup [x, y])) h1.objs.size (.tup [.int (i : Nat), .ref s.heap.objs.size])) { s with heap := h'', toks := tk + 1 } :=
        I1.turnedNew (ch := [e, z, TI, TO, i1, i2]) (fun c o hb q => k12 c o (fun z => hb (by simp [z])) q) hf1 (Nat.le_refl _) newT
      have nUT : h1.objs.size ≠ s.heap.objs.size := by rw [hs1]; exact Nat.succ_ne_self _
      refine ⟨.ref h1.objs.size, _, I2, rfl, ⟨_, _, x, y, rfl, nUT, I.hok.fresh (by rw [hs1]; exact Nat.le_succ _), I.hok.fresh (Nat.le_refl _), rfl, fun zs hz => by rw [I.list_inj hz hqx]; exact hx, fun zs hz => by rw [I.tuple_inj hz hqy]; exact hy⟩, ⟨⟨.ref s.heap.objs.size, ?_⟩, ?_⟩, fun c hc => ?_⟩
      · have e1 : ((i + 1 : Nat) : Int) = (i : Int) + 1 := by omega
        rw [e1]; exact he'
      · obtain ⟨⟨v0, f, hz, hv⟩, hTI, ⟨p1, p2, hTO⟩, q1, q2⟩ := zs'
        exact ⟨⟨v0, f, k12 _ _ (Ne.symm n1) hz, hv⟩, k12 _ _ (Ne.symm n2) hTI, ⟨p1, p2, k12 _ _ (Ne.symm n3) hTO⟩, q1.1.at fun o q => k12 _ o (Ne.symm n4) q, q2.1.at fun o q => k12 _ o (Ne.symm n5) q⟩
      · have hl := hlt c hc
        rw [upd_ne (by rw [hs1]; exact Nat.ne_of_lt (Nat.lt_succ_of_lt hl)), upd_ne (Nat.ne_of_lt hl)]
        exact (hf c hc).1
  done := by
    intro X hP hw hK hc i pins s σ H E I hf st hg
    subst hP hw hK
    obtain ⟨⟨old, he⟩, zs⟩ := st
    obtain ⟨xs, ys, hqx, hqy, hx⟩ := hg
    obtain ⟨its, rv, p, _⟩ := I.list hqx
    obtain ⟨its2, rv2, p2, _⟩ := I.tuple hqy
    have hl := rv.length
    have pz : ZSt z TI TO i1 i2 (fun i h => h.IsListIter i1 a i ∧ h.IsList a its.toArray) (fun i h => h.IsTupleIter i2 b i ∧ h.IsTuple b its2.toArray) i s.heap :=
      ⟨zs.1, zs.2.1, zs.2.2.1, ⟨zs.2.2.2.1, p.isList⟩, zs.2.2.2.2, p2⟩
    have hT : s.TypeIs (.ref e) "enumerate" := ⟨_, he, rfl⟩
    unfold pyNext
    refine wpAny_bind (wpAny_attempt (wpAny_callSpecial?_slot (name := Str.ofString "__next__") hT F.slot_enumerate_next
      (wpAny_call_entry F.slot_enumerate_next hT F.entry_enumerate_next ?_ (F.args_enumerate_next_1 _))))
    show wpAny _ _ (field (.ref e) 2 >>= _) _ _ _
    refine wpAny_bind (wpAny_field he rfl (x := .ref z) rfl ?_)
    refine wpAny_bind (nextOf_zipZ_end S (Draws.list (A := X.A.in1.in1) (I.ok.hd hc) i1 a n8 its.toArray) (Draws.tuple (A := X.A.in1.in1) (I.ok.hd hc) i2 b n9 its2.toArray) pz (by simp; omega) fun h' tk x hk hx' => ?_)
    obtain ⟨o, ho, hcc⟩ := hx'
    refine wpAny_bind (wpAny_isInstance (T := "StopIteration") (b := true) ⟨o, ho, hcc⟩ isSubtype_stop ?_)
    exact wpAny_pure ⟨rfl, I.turnedL (t' := tk) (ch := [e, z, TI, TO, i1, i2]) (fun c o hb q =>
      hk c o (fun q' => hb (by simp [q'])) (fun q' => hb (by simp [q'])) (fun q' => hb (by simp [q'])) (fun q' => hb (by simp [q'])) q) hf⟩
  self := fun A i s Q E st h => let ⟨⟨_, he⟩, _⟩ := st; wpAny_pyIter_enum he h
def iEnumZ (K : PySem.W.Frag) (ta : TA) : TI := fun σ H R => ta σ H fun vs H1 => ∃ a b xs ys, vs = [.ref a, .ref b] ∧ SqL K H1 a xs ∧ SqT K H1 b ys ∧ R (IteZ K a b) H1
theorem pi_enumZ {X : Cx} {e e2 : Expr} {ta : TA} {p pos pz posz tpos : Pos} {elts : List Expr} {kk : Nat} (hg : Gl X "enumerate") (hm : X.mg "enumerate" = none) (hgz : Gl X "zip") (hmz : X.mg "zip" = none) (ha : PA X [e, e2] ta)
    (hs1 : starEach [.Call (.Name "zip" pz) [e, e2] [] posz] X.env = [(false, eval (.Call (.Name "zip" pz) [e, e2] [] posz) X.env)] := by rfl)
    (hs : starEach [e, e2] X.env = (false, eval e X.env) :: starEach [e2] X.env := by rfl) (hpl : (backTo posz (starEach [e2] X.env)).any (·.1) = false := by rfl) :
    PI X (.Tuple elts kk tpos) (.Call (.Name "enumerate" p) [.Call (.Name "zip" pz) [e, e2] [] posz] [] pos) (iEnumZ X.K ta) := by
  refine ⟨fun pins s σ H R I h => ?_⟩
  refine Call_ (ld_blt I hg hm boot_enumerate (PyProof.Rows.callWith_type1 ?_ hs1 rfl))
  rw [hs1]
  show wpAny _ _ (spliced ((false, eval (.Call (.Name "zip" pz) [e, e2] [] posz) X.env) :: [])) _ _ s
  refine Calls.spliced_cons ?_
  refine Call_ (ld_blt I hgz hmz PyProof.Rows.boot_zip (PyProof.Rows.callWith_type1 (thn (ha.run posz pins s σ H _ I h) fun us s1 ⟨vs, H1, I1, r1, q1⟩ => ?_) hs hpl))
  obtain ⟨a, b, xs, ys, ex, hqx, hqy, q⟩ := q1
  subst ex
  cases r1 with
  | cons r rr =>
    cases rr with
    | cons r' rr =>
      cases rr
      cases r
      cases r'
      obtain ⟨its, rv, p1, _⟩ := I1.list hqx
      obtain ⟨its2, rv2, p2, _⟩ := I1.tuple hqy
      obtain ⟨o2, ho2, _⟩ := id p2
      have hal : a < s1.heap.objs.size := p1.lt
      have hbl : b < s1.heap.objs.size := Heap.lt_size ho2
      refine zip_begins2 (begins_list a its.toArray) (begins_tuple b its2.toArray) p1.isList p2 fun h' hz hTI hTO h1 h2 hsz hk => Calls.spliced_nil ?_
      refine PySem.enum_beginsI (s := { s1 with heap := h' }) (ad := fun _ => s1.heap.objs.size + 4) (gr := fun h => h) (H := fun h => IsZip h (s1.heap.objs.size + 4) (s1.heap.objs.size + 2) (s1.heap.objs.size + 3) .none)
        (fun prog w A E s Q h1 q => wpAny_pyIter_zip h1 q) hz fun h2' he hsz2 hk2 => wpAny_pyIter_enum he ?_
      have I2 : Inv X pins σ H1 { s1 with heap := h2' } := I1.kept (t' := s1.toks) fun b o q => hk2 b o (hk b o q)
      show PIE X pins σ (.Tuple elts kk tpos) R (.ref h'.objs.size) { s1 with heap := h2' }
      have he : IsEnum h2' h'.objs.size (s1.heap.objs.size + 4) 0 .none := he
      have hk2 : ∀ b o, h'.get? b = some o → h2'.get? b = some o := hk2
      rw [hsz] at he ⊢
      have nlt : ∀ {j k : Nat}, j ≠ k → (s1.heap.objs.size + j : Addr) ≠ s1.heap.objs.size + k := fun h z => h (Nat.add_left_cancel z)
      have nlt0' : ∀ {k : Nat}, k ≠ 0 → (s1.heap.objs.size + k : Addr) ≠ s1.heap.objs.size := fun h z => h (Nat.add_left_cancel (k := 0) z)
      have ale : ∀ {k : Nat}, a ≠ s1.heap.objs.size + k := Nat.ne_of_lt (Nat.lt_of_lt_of_le hal (Nat.le_add_right _ _))
      have ble : ∀ {k : Nat}, b ≠ s1.heap.objs.size + k := Nat.ne_of_lt (Nat.lt_of_lt_of_le hbl (Nat.le_add_right _ _))
      refine ⟨s1.heap.objs.size + 5, [s1.heap.objs.size + 5, s1.heap.objs.size + 4, s1.heap.objs.size + 2, s1.heap.objs.size + 3, s1.heap.objs.size, s1.heap.objs.size + 1], _, _, H1, rfl, I2,
        turn_enumZ (zip_sep2 (fun c hc => by rw [List.mem_singleton.mp hc]; exact hal) (fun c hc => by rw [List.mem_singleton.mp hc]; exact hbl)) (nlt (by decide)) (nlt (by decide)) (nlt (by decide)) (nlt0' (by decide)) (nlt (by decide)) ale ble (Nat.ne_of_lt hal) ble,
        ⟨⟨.none, he⟩, ⟨_, _, hk2 _ _ hz, .inl rfl⟩, hk2 _ _ hTI, ⟨_, _, hk2 _ _ hTO⟩, ⟨_, hk2 _ _ h1, rfl, rfl⟩, ⟨_, hk2 _ _ h2, rfl, rfl⟩⟩, fun c hc => ?_, q⟩
      have e' : c = s1.heap.objs.size + 5 ∨ c = s1.heap.objs.size + 4 ∨ c = s1.heap.objs.size + 2 ∨ c = s1.heap.objs.size + 3 ∨ c = s1.heap.objs.size ∨ c = s1.heap.objs.size + 1 := by simpa using hc
      have hle : s1.heap.objs.size ≤ c := by
        rcases e' with z | z | z | z | z | z
        · rw [z]; exact Nat.le_add_right _ _
        · rw [z]; exact Nat.le_add_right _ _
        · rw [z]; exact Nat.le_add_right _ _
        · rw [z]; exact Nat.le_add_right _ _
        · rw [z]; exact Nat.le_refl _
        · rw [z]; exact Nat.le_add_right _ _
      exact I1.fpOk hle (I1.hok.fresh hle)
end GB

/-! Plain: the reader of a clock's lines. -/
namespace KM
open PySem TL
structure Rd where
  per : Int
  lasts : List Int
  gaps : List (List Int)
  tch : List (List Int)
  book : List (List Int)
  deriving DecidableEq
def rd0 : Rd := ⟨0, [], [], [], []⟩
def takeO (ws : List Wd) (place : Nat) (lo hi : Int) : Option Int := ws[place]?.bind fun w => numIn w lo hi
def takeE (ws : List Wd) (place : Nat) (lo hi : Int) : Except Nat Int := match takeO ws place lo hi with
  | some v => .ok v
  | none => .error (place + 1)
def endE (ws : List Wd) (many : Nat) : Except Nat Unit := if many < ws.length then .error (many + 1) else .ok ()
def phasesE (ws : List Wd) (hi : Int) : Nat → Nat → Int → Except Nat (List Int)
  | 0, _, _ => .ok []
  | n + 1, place, least => match takeE ws place least hi with
    | .error j => .error j
    | .ok v => match phasesE ws hi n (place + 1) (v + 1) with
      | .error j => .error j
      | .ok r => .ok (v :: r)
def minI (a b : Int) : Int := if b < a then b else a
def rdWheel (r : Rd) (ws : List Wd) : Except Nat Rd :=
  if r.lasts.length = 12 then .error 1 else
  match takeE ws 1 0 (minI 4 (24 - r.lasts.sum)) with
  | .error j => .error j
  | .ok last => match phasesE ws (r.per - 1) ((max ws.length (if 0 < last then 3 else 2)) - 2) 2 0 with
    | .error j => .error j
    | .ok ph => .ok { r with lasts := r.lasts ++ [last], gaps := r.gaps ++ [ph] }
/-- the first place at which three numbers differ from three others, the last if they are alike -/
def fl3 (a b d e : Int) : Nat := if a ≠ d then 0 else if b ≠ e then 1 else 2
/-- the first three of the last row -/
def last3 (l : List (List Int)) : Option (Int × Int × Int) := match l.getLast? with
  | some (a :: b :: c :: _) => some (a, b, c)
  | _ => none
def le3 (a b c d e f : Int) : Bool := if a = d then (if b = e then decide (c ≤ f) else decide (b ≤ e)) else decide (a ≤ d)
def orderE (a b c : Int) (l : List (List Int)) : Except Nat Unit := match last3 l with
  | none => .ok ()
  | some (d, e, f) => if le3 a b c d e f = true then .error (fl3 a b d e + 2) else .ok ()
def rdTouch (r : Rd) (ws : List Wd) : Except Nat Rd :=
  match takeE ws 1 0 (r.per - 1) with
  | .error j => .error j
  | .ok a => match takeE ws 2 0 ((r.lasts.length : Int) - 1) with
    | .error j => .error j
    | .ok b => match takeE ws 3 (b + 1) ((r.lasts.length : Int) - 1) with
      | .error j => .error j
      | .ok c => match orderE a b c r.tch with
        | .error j => .error j
        | .ok _ => match endE ws 4 with
          | .error j => .error j
          | .ok _ => .ok { r with tch := r.tch ++ [[a, b, c]] }
def lastOf (r : Rd) (i : Int) : Int := r.lasts.getD i.toNat 0
def rdNeed (r : Rd) (ws : List Wd) : Except Nat Rd :=
  match takeE ws 1 0 ((r.lasts.length : Int) - 1) with
  | .error j => .error j
  | .ok a => match takeE ws 2 1 (lastOf r a) with
    | .error j => .error j
    | .ok b => match takeE ws 3 0 ((r.lasts.length : Int) - 1) with
      | .error j => .error j
      | .ok c => if c = a then .error 4 else
        match orderE a b c r.book with
        | .error j => .error j
        | .ok _ => match takeE ws 4 1 (lastOf r c) with
          | .error j => .error j
          | .ok d => match endE ws 5 with
            | .error j => .error j
            | .ok _ => .ok { r with book := r.book ++ [[a, b, c, d]] }
def wPeriod : Wd := "period".toList.map Char.toNat
def wWheel : Wd := "wheel".toList.map Char.toNat
def wTouch : Wd := "touch".toList.map Char.toNat
def wNeed : Wd := "need".toList.map Char.toNat
def rdLine (r : Rd) (ws : List Wd) : Except Nat Rd :=
  if ws.head? = some wPeriod ∧ r.per = 0 then
    match takeE ws 1 1 12 with
    | .error j => .error j
    | .ok v => match endE ws 2 with
      | .error j => .error j
      | .ok _ => .ok { r with per := v }
  else if ws.head? = some wWheel ∧ 0 < r.per ∧ r.tch = [] ∧ r.book = [] then rdWheel r ws
  else if ws.head? = some wTouch ∧ r.lasts ≠ [] ∧ r.book = [] then rdTouch r ws
  else if ws.head? = some wNeed ∧ r.lasts ≠ [] then rdNeed r ws
  else .error 1
/-- the lines from the one at place at on -/
def rdLines : Rd → List (List Wd) → Nat → Except (Nat × Nat) Rd
  | r, [], _ => .ok r
  | r, ws :: rest, at_ => if ws = [] then rdLines r rest (at_ + 1) else
    match rdLine r ws with
    | .error j => .error (at_, j)
    | .ok r' => rdLines r' rest (at_ + 1)
def rdClock (ls : List (List Wd)) : Except (Nat × Nat) Rd := match rdLines rd0 ls 1 with
  | .error e => .error e
  | .ok r => if r.lasts = [] then .error (ls.length + 1, 1) else .ok r
end KM

namespace CW
open PySem PySem.Spec PyProof.Rows L2 GA TL
section
variable {P : Program} {w : World} {K : PySem.W.Frag} {mg : Str → Option Value} {base : Heap} {T : List Addr} {CL : Addr}
def spFirst (T : List Addr) : Sp := fun vs H Q _ => ∃ (fa oa : Addr) (a b c d e f : Int), vs = [.ref fa, .ref oa] ∧ H fa = some (.lst [.int a, .int b, .int c]) ∧ H oa = some (.tup [.int d, .int e, .int f]) ∧ TOk T H ∧ ∀ H', Ext T H H' → Q (.int (KM.fl3 a b d e : Nat)) H'
theorem scFirst : FnScope ["found", "other", "place", "one", "two"] ["found", "other"] (defScope sFirst) := ⟨rfl, rfl, rfl, by decide +kernel, rfl, by decide +kernel, by decide +kernel⟩
theorem get3 {α : Type} {a b c x : α} {i : Nat} (h : [a, b, c][i]? = some x) : (i = 0 ∧ x = a) ∨ (i = 1 ∧ x = b) ∨ (i = 2 ∧ x = c) := by
  rcases i with _ | _ | _ | i
  · exact .inl ⟨rfl, (Option.some.inj h).symm⟩
  · exact .inr (.inl ⟨rfl, (Option.some.inj h).symm⟩)
  · exact .inr (.inr ⟨rfl, (Option.some.inj h).symm⟩)
  · simp at h
theorem cal_first (D : DefAt K mg "first_less" sFirst) (B : Bl mg) : Cal P w K mg base CX0 1 "first_less" ["found", "other"] (spFirst T) := by
  refine D.cal scFirst (fun _ _ _ _ _ _ us hl => match us, hl with | [_, _], _ => rfl) (fun vs H Q E h => ?_) (fun f cdv A outer s H vs Q E hr h => ?_)
  · obtain ⟨fa, oa, a, b, c, d, e, f, rfl, _⟩ := h
    rfl
  · obtain ⟨fa, oa, a, b, c, d, e, f, rfl, hf, ho, hT, k⟩ := h
    refine ⟨_, pss_cons (ps_for PassesOwn.never rfl (GB.pi_enumZ rfl B.enum rfl B.zip (pa_cons (pv 0) (pa_cons (pv 1) pa_nil))) (pg_tup rfl (pgs_cons (pg_name (i := 2) scFirst.nd rfl (Or.inl rfl)) (pgs_cons (pg_tup rfl (pgs_cons (pg_name (i := 3) scFirst.nd rfl (Or.inl rfl)) (pgs_cons (pg_name (i := 4) scFirst.nd rfl (Or.inl rfl)) pgs_nil))) pgs_nil)))
        (pss_one (ps_if (pt_cmpR op_ne (pv 3) (pv 4) (nomark _)) (pss_one (ps_ret (pv 2))) pss_nil)))
      (pss_one (ps_ret (pe_op op_sub (pe_callB call_len (by rfl) B.len PySem.boot_len (pa_cons (pv 0) pa_nil)) pe_int))), ?_⟩
    refine ⟨_, rfl, _, rfl, fa, oa, [.int a, .int b, .int c], [.int d, .int e, .int f], rfl, SqL.of hf, SqT.of ho, GB.for_gen 3
      (fun i σ H' => (∃ v1 v2 v3 : Option V, σ = [some (.ref fa), some (.ref oa), v1, v2, v3]) ∧ Ext T H H' ∧ (1 ≤ i → a = d) ∧ (2 ≤ i → b = e)) ⟨⟨none, none, none, rfl⟩, Ext.refl T H, fun h => absurd h (by decide), fun h => absurd h (by decide)⟩ ?_ ?_ ?_⟩
    · rintro i σ H' hi ⟨_, e1, _, _⟩
      obtain ⟨x, hx⟩ := getq (l := [V.int a, V.int b, V.int c]) (i := i) hi
      obtain ⟨y, hy⟩ := getq (l := [V.int d, V.int e, V.int f]) (i := i) hi
      exact ⟨_, _, x, y, SqL.of (e1.lst hT hf), SqT.of (e1.tup hT ho), hx, hy⟩
    · rintro i σ H' v H2 hi ⟨⟨v1, v2, v3, rfl⟩, e1, q1, q2⟩ ⟨Tq, U, x, y, rfl, hne, hTq, hU, rfl, hx, hy⟩
      have hx := hx _ (SqL.of (e1.lst hT hf))
      have hy := hy _ (SqT.of (e1.tup hT ho))
      have e2 : Ext T H (upd (upd H' U (.tup [x, y])) Tq (.tup [.int (i : Nat), .ref U])) := (e1.put hT (e1.free hT hU) _).put hT (e1.free hT hTq) _
      refine ⟨Tq, _, rfl, SqT.of upd_same, rfl, _, _, rfl, _, _, rfl, ⟨U, _, rfl, SqT.of (by rw [upd_ne (Ne.symm hne), upd_same]), rfl, _, _, rfl, _, _, rfl, rfl, rfl, ?_⟩⟩
      generalize upd (upd H' U (.tup [x, y])) Tq (.tup [.int (i : Nat), .ref U]) = H3 at e2
      rcases get3 hx with ⟨rfl, rfl⟩ | ⟨rfl, rfl⟩ | ⟨rfl, rfl⟩
      · obtain rfl : y = V.int d := (Option.some.inj hy).symm
        refine ⟨_, rfl, _, rfl, rfl, _, rfl, ite2 (fun c1 => ⟨_, rfl, ?_⟩) (fun c1 => ?_)⟩
        · have n : a ≠ d := fun z => by rw [z] at c1; simp at c1
          have := k H3 e2
          unfold KM.fl3 at this
          rw [if_pos n] at this
          exact this
        · have n : a = d := by
            by_cases z : a = d
            · exact z
            · exact absurd (by rw [decide_eq_false (fun q => z (by injection q))]; rfl) c1
          exact ⟨⟨_, _, _, rfl⟩, e2, fun _ => n, fun h => absurd h (by decide)⟩
      · obtain rfl : y = V.int e := (Option.some.inj hy).symm
        have n1 := q1 (by decide)
        refine ⟨_, rfl, _, rfl, rfl, _, rfl, ite2 (fun c1 => ⟨_, rfl, ?_⟩) (fun c1 => ?_)⟩
        · have n : b ≠ e := fun z => by rw [z] at c1; simp at c1
          have := k H3 e2
          unfold KM.fl3 at this
          rw [if_neg (fun z => z n1), if_pos n] at this
          exact this
        · have n : b = e := by
            by_cases z : b = e
            · exact z
            · exact absurd (by rw [decide_eq_false (fun q => z (by injection q))]; rfl) c1
          exact ⟨⟨_, _, _, rfl⟩, e2, fun _ => n1, fun _ => n⟩
      · have n1 := q1 (by decide)
        have n2 := q2 (by decide)
        obtain rfl : y = V.int f := (Option.some.inj hy).symm
        refine ⟨_, rfl, _, rfl, rfl, _, rfl, ite2 (fun c1 => ⟨_, rfl, ?_⟩) (fun c1 => ⟨⟨_, _, _, rfl⟩, e2, fun _ => n1, fun _ => n2⟩)⟩
        have := k H3 e2
        unfold KM.fl3 at this
        rw [if_neg (fun z => z n1), if_neg (fun z => z n2)] at this
        exact this
    · rintro σ H' ⟨⟨v1, v2, v3, rfl⟩, e1, q1, q2⟩
      have n1 := q1 (by decide)
      have n2 := q2 (by decide)
      refine ⟨⟨_, _, SqL.of (e1.lst hT hf), SqT.of (e1.tup hT ho), rfl⟩, _, rfl, _, 3, rfl, .inl ⟨_, SqL.of (e1.lst hT hf), rfl⟩, _, _, rfl, rfl, ?_⟩
      have := k H' e1
      unfold KM.fl3 at this
      rw [if_neg (fun z => z n1), if_neg (fun z => z n2)] at this
      exact this
end
end CW

namespace CW
open PySem PySem.Spec PyProof.Rows L2 GA TL
/-! ### heaps: all but the tables and some own objects stand -/
structure ExtS (T S : List Addr) (H H' : Hp) : Prop where
  keep : ∀ b o, H b = some o → b ∉ T → b ∉ S → H' b = some o
  tab : ∀ P ∈ T, GxR.TabG H P → GxR.TabG H' P
section
variable {T S : List Addr} {H H1 H2 : Hp} {b p : Addr} {o u : HO}
theorem Ext.toS (a : Ext T H H1) (S : List Addr) : ExtS T S H H1 := ⟨fun b o e n _ => a.keep b o e n, a.tab⟩
theorem ExtS.trans (a : ExtS T S H H1) (c : ExtS T S H1 H2) : ExtS T S H H2 := ⟨fun b o e n m => c.keep b o (a.keep b o e n m) n m, fun P h t => c.tab P h (a.tab P h t)⟩
theorem ExtS.ok (a : ExtS T S H H1) (t : TOk T H) : TOk T H1 := fun P h => a.tab P h (t P h)
/-- an own object is changed -/
theorem ExtS.own (t : TOk T H) (h : b ∈ S) (e : H b = some o) (n : ∀ ps, o ≠ .tbl ps) (u : HO) : ExtS T S H (upd H b u) := by
  refine ⟨fun c o' e' _ m => ?_, fun P hP q => ?_⟩
  · rw [upd_ne (fun z => m (by rw [z]; exact h))]
    exact e'
  · obtain ⟨ps, z1, z2⟩ := q
    exact ⟨ps, by rw [upd_ne (fun z => by rw [z, e] at z1; exact n ps (Option.some.inj z1))]; exact z1, z2⟩
/-- own objects that were not there at first: nothing of the first heap changed -/
theorem ExtS.toExt {H0 : Hp} (a : ExtS T S H H1) (e : Ext T H0 H) (t : TOk T H0) (n : ∀ b ∈ S, H0 b = none) : Ext T H0 H1 :=
  ⟨fun b o q m => a.keep b o (e.keep b o q m) m (fun z => by rw [n b z] at q; cases q), fun P h q => a.tab P h (e.tab P h q)⟩
end
def RaisedS (T S : List Addr) (CL : Addr) (H : Hp) (l w : Int) (E : XK) : Prop := ∀ (H' : Hp) (d : Addr), ExtS T S H H' → H' d = some (.xd [("word", .int w), ("line", .int l)]) → E (.ref CL) (some d) H'
theorem RaisedS.to {T S : List Addr} {CL : Addr} {H H1 : Hp} {l w : Int} {E : XK} (h : RaisedS T S CL H l w E) (e : ExtS T S H H1) : Raised T CL H1 l w E := fun H' d e' q => h H' d (e.trans (e'.toS S)) q
theorem RaisedS.toS {T S : List Addr} {CL : Addr} {H H1 : Hp} {l w : Int} {E : XK} (h : RaisedS T S CL H l w E) (e : ExtS T S H H1) : RaisedS T S CL H1 l w E := fun H' d e' q => h H' d (e.trans e') q
/-! ### the reader -/
def fsR (per : Int) (l g t b : Addr) : List (Str × V) := [("period", .int per), ("lasts", .ref l), ("gaps", .ref g), ("touches", .ref t), ("book", .ref b)]
section
variable {per q : Int} {l g t b : Addr}
theorem fs_period : (fsR per l g t b).lookup ("period" : Str) = some (.int per) := by
  unfold fsR
  rw [lookup_put, if_pos rfl]
theorem fs_lasts : (fsR per l g t b).lookup ("lasts" : Str) = some (.ref l) := by
  unfold fsR
  rw [lookup_put, if_neg (by decide +kernel), lookup_put, if_pos rfl]
theorem fs_gaps : (fsR per l g t b).lookup ("gaps" : Str) = some (.ref g) := by
  unfold fsR
  rw [lookup_put, if_neg (by decide +kernel), lookup_put, if_neg (by decide +kernel), lookup_put, if_pos rfl]
theorem fs_touches : (fsR per l g t b).lookup ("touches" : Str) = some (.ref t) := by
  unfold fsR
  rw [lookup_put, if_neg (by decide +kernel), lookup_put, if_neg (by decide +kernel), lookup_put, if_neg (by decide +kernel), lookup_put, if_pos rfl]
theorem fs_book : (fsR per l g t b).lookup ("book" : Str) = some (.ref b) := by
  unfold fsR
  rw [lookup_put, if_neg (by decide +kernel), lookup_put, if_neg (by decide +kernel), lookup_put, if_neg (by decide +kernel), lookup_put, if_neg (by decide +kernel), lookup_put, if_pos rfl]
theorem fs_no {m : Str} (h1 : ¬ m = "period") (h2 : ¬ m = "lasts") (h3 : ¬ m = "gaps") (h4 : ¬ m = "touches") (h5 : ¬ m = "book") : (fsR per l g t b).lookup m = none := by
  unfold fsR
  rw [lookup_put, if_neg h1, lookup_put, if_neg h2, lookup_put, if_neg h3, lookup_put, if_neg h4, lookup_put, if_neg h5]
  rfl
theorem fs_take : (fsR per l g t b).lookup ("take" : Str) = none := fs_no (by decide +kernel) (by decide +kernel) (by decide +kernel) (by decide +kernel) (by decide +kernel)
theorem fs_end : (fsR per l g t b).lookup ("need_end" : Str) = none := fs_no (by decide +kernel) (by decide +kernel) (by decide +kernel) (by decide +kernel) (by decide +kernel)
theorem fs_read : (fsR per l g t b).lookup ("read" : Str) = none := fs_no (by decide +kernel) (by decide +kernel) (by decide +kernel) (by decide +kernel) (by decide +kernel)
theorem fs_rw : (fsR per l g t b).lookup ("read_wheel" : Str) = none := fs_no (by decide +kernel) (by decide +kernel) (by decide +kernel) (by decide +kernel) (by decide +kernel)
theorem fs_rt : (fsR per l g t b).lookup ("read_touch" : Str) = none := fs_no (by decide +kernel) (by decide +kernel) (by decide +kernel) (by decide +kernel) (by decide +kernel)
theorem fs_rn : (fsR per l g t b).lookup ("read_need" : Str) = none := fs_no (by decide +kernel) (by decide +kernel) (by decide +kernel) (by decide +kernel) (by decide +kernel)
theorem fs_put : putF "period" (.int q) (fsR per l g t b) = fsR q l g t b := by
  unfold fsR
  show (if ("period" : Str) = "period" then _ else _) = _
  rw [if_pos rfl]
end
def LstT (H : Hp) (a : Addr) (rows : List (List Int)) : Prop := ∃ as : List Addr, H a = some (.lst (as.map V.ref)) ∧ Paired (fun b r => TupI H b r) as rows
structure RdAt (C : Addr) (H : Hp) (p l g t b : Addr) (r : KM.Rd) : Prop where
  hp : ∃ dx, H p = some (.ins C dx (fsR r.per l g t b))
  hl : H l = some (.lst (r.lasts.map V.int))
  hg : LstT H g r.gaps
  ht : LstT H t r.tch
  hb : LstT H b r.book
  lg : l ≠ g
  lt : l ≠ t
  lb : l ≠ b
  gt : g ≠ t
  gb : g ≠ b
  tb : t ≠ b
section
variable {T : List Addr} {C p l g t b : Addr} {H H1 : Hp} {r : KM.Rd}
theorem LstT.ext {a : Addr} {rows : List (List Int)} (h : LstT H a rows) (t : TOk T H) (e : Ext T H H1) : LstT H1 a rows := by
  obtain ⟨as, h1, h2⟩ := h
  exact ⟨as, e.lst t h1, Paired.mapP h2 fun b r q => TupI.ext q t e⟩
theorem RdAt.ext (h : RdAt C H p l g t b r) (tk : TOk T H) (e : Ext T H H1) : RdAt C H1 p l g t b r := by
  obtain ⟨dx, hp⟩ := h.hp
  exact ⟨⟨dx, e.at_ tk hp fun _ z => nomatch z⟩, e.lst tk h.hl, h.hg.ext tk e, h.ht.ext tk e, h.hb.ext tk e, h.lg, h.lt, h.lb, h.gt, h.gb, h.tb⟩
end
/-- the sizes of what is read -/
structure RdS (n : Nat) (r : KM.Rd) : Prop where
  per : 0 ≤ r.per ∧ r.per ≤ 12
  lasts : r.lasts.length ≤ 12
  four : ∀ x ∈ r.lasts, 0 ≤ x ∧ x ≤ 4
  gaps : r.gaps.length = r.lasts.length
  tch : r.tch.length ≤ n
  book : r.book.length ≤ n
  three : ∀ x ∈ r.tch, ∃ a b c : Int, x = [a, b, c]
  fours : ∀ x ∈ r.book, ∃ a b c d : Int, x = [a, b, c, d]
structure RCl (K : PySem.W.Frag) (C : Addr) : Prop where
  cl : Cls K C
  na : ∀ f ∈ (["period", "lasts", "gaps", "touches", "book"] : List Str), NoAttr K C f
section
variable {K : PySem.W.Frag} {C : Addr} (R : RCl K C)
include R
theorem RCl.period : NoAttr K C "period" := R.na _ (by decide)
theorem RCl.lasts : NoAttr K C "lasts" := R.na _ (by decide)
theorem RCl.gaps : NoAttr K C "gaps" := R.na _ (by decide)
theorem RCl.touches : NoAttr K C "touches" := R.na _ (by decide)
theorem RCl.book : NoAttr K C "book" := R.na _ (by decide)
end
def spLine (T : List Addr) (CL C : Addr) (f : KM.Rd → List KM.Wd → Except Nat KM.Rd) : Sp := fun vs H Q E => ∃ (p l g t b wa : Addr) (ws : List Str) (at_ : Int) (r : KM.Rd) (n : Nat), vs = [.ref p, .ref wa, .int at_] ∧ RdAt C H p l g t b r ∧ RdS n r ∧ n < 100000 ∧ Wds H wa ws ∧ ws ≠ [] ∧ TOk T H ∧
  (∀ r', f r (ws.map tl) = .ok r' → ∀ H', ExtS T [p, l, g, t, b] H H' → RdAt C H' p l g t b r' → Q .non H') ∧ (∀ j, f r (ws.map tl) = .error j → RaisedS T [p, l, g, t, b] CL H at_ (j : Nat) E)
theorem takeW_O {ws : List Str} {place : Nat} {lo hi : Int} : takeW ws place lo hi = KM.takeO (ws.map tl) place lo hi := by
  unfold takeW KM.takeO
  rw [List.getElem?_map]
  cases ws[place]? <;> rfl
section
variable {P : Program} {w : World} {K : PySem.W.Frag} {mg : Str → Option Value} {base : Heap} {T S : List Addr} {CL C : Addr} {H H0 : Hp}
theorem take_close {Q : VK} {E : XK} {x : V} {wa : Addr} {ws : List Str} {place : Nat} {lo hi at_ : Int} (hw : Wds H wa ws) (hp : place ≤ ws.length) (hT : TOk T H) (e0 : ExtS T S H0 H)
    (k1 : ∀ v, KM.takeE (ws.map tl) place lo hi = .ok v → KM.takeO (ws.map tl) place lo hi = some v → ∀ H', Ext T H H' → Q (.int v) H') (k2 : KM.takeE (ws.map tl) place lo hi = .error (place + 1) → RaisedS T S CL H0 at_ ((place + 1 : Nat) : Int) E) : spTake T CL [x, .ref wa, .int (place : Nat), .int lo, .int hi, .int at_] H Q E := by
  refine ⟨x, wa, ws, place, lo, hi, at_, rfl, hw, hp, hT, fun v h => k1 v ?_ (by rw [← takeW_O]; exact h), fun h => ?_⟩
  · unfold KM.takeE
    rw [← takeW_O, h]
  · exact (k2 (by unfold KM.takeE; rw [← takeW_O, h])).to e0
theorem takeO_lt {ws : List KM.Wd} {place : Nat} {lo hi v : Int} (h : KM.takeO ws place lo hi = some v) : place < ws.length := by
  unfold KM.takeO at h
  cases e : ws[place]? with
  | none => rw [e] at h; cases h
  | some w => exact lt_of_get e
theorem takeO_rng {ws : List KM.Wd} {place : Nat} {lo hi v : Int} (h : KM.takeO ws place lo hi = some v) : 0 ≤ v ∧ lo ≤ v ∧ v ≤ hi := by
  unfold KM.takeO at h
  cases e : ws[place]? with
  | none => rw [e] at h; cases h
  | some w =>
    rw [e] at h
    obtain ⟨_, h1, h2, h3, _⟩ := KM.numIn_word (w := w) (lo := lo) (hi := hi) h
    exact ⟨h1, h2, h3⟩
end
end CW

namespace CW
open PySem PySem.Spec PyProof.Rows L2 GA TL
section
variable {P : Program} {w : World} {K : PySem.W.Frag} {mg : Str → Option Value} {base : Heap} {T : List Addr} {CL C : Addr}
theorem scRWheel : FnScope ["self", "words", "at", "last", "phases", "least", "place"] ["self", "words", "at"] (defScope sRWheel) := ⟨rfl, rfl, rfl, by decide +kernel, rfl, by decide +kernel, by decide +kernel⟩
def app (vs : List Int) : Except Nat (List Int) → Except Nat (List Int)
  | .error j => .error j
  | .ok r => .ok (vs ++ r)
theorem atI_last {vs : List Int} {v : Int} : atI ((vs ++ [v]).map V.int) (-1) = some (V.int v) := by
  unfold atI ixN
  rw [List.length_map, List.length_append, List.length_singleton]
  rw [if_neg (by decide), if_pos (by omega)]
  show ((vs ++ [v]).map V.int)[((((vs.length + 1 : Nat) : Int)) + (-1)).toNat]? = _
  rw [show ((((vs.length + 1 : Nat) : Int)) + (-1)).toNat = vs.length by omega, List.getElem?_map, List.getElem?_append_right (Nat.le_refl _), Nat.sub_self]
  rfl
theorem nil_i {σ : L2.St} {H : Hp} {Q : List V → Hp → Prop} (h : Q [] H) : tNil σ H Q := h
theorem tIf_c {c : Bool} {v u : V} {σ : L2.St} {H : Hp} {Q : VK} (h : Q (if c = true then v else u) H) : if c = true then tC v σ H Q else tC u σ H Q := by
  cases c with
  | true => exact h
  | false => exact h
theorem lst_at {H : Hp} {a : Addr} {xs : List V} {K : PySem.W.Frag} (h : H a = some (.lst xs)) : tyV K "list" (.ref a) H := .inl ⟨rfl, _, SqL.of h⟩
theorem small_line {n : Nat} (h : n ≤ 200000) : n < sizeLine := by rw [sizeLine_eq]; omega
theorem cal_rwheel (D : MethAt K C "read_wheel" "ClockReader.read_wheel" sRWheel) (R : RCl K C) (B : Bl mg) (BL : BLAt K mg CL) (CT : MCal P w K mg base (L2.CX P w) C 3 "take" ["self", "words", "place", "low", "high", "at"] (spTake T CL)) :
    MCal P w K mg base (L2.CX P w) C 4 "read_wheel" ["self", "words", "at"] (spLine T CL C KM.rdWheel) := by
  refine D.calX scRWheel (fun _ _ _ _ _ _ us hl => match us, hl with | [_, _, _], _ => rfl) (fun vs H Q E h => ?_) (fun f cdv A outer s H vs Q E hr h => ?_)
  · obtain ⟨p, l, g, t, b, wa, ws, at_, r, n, rfl, _⟩ := h
    rfl
  · obtain ⟨p, l, g, t, b, wa, ws, at_, r, n, rfl, ra, rs, hn, hw, hne, hT, k1, k2⟩ := h
    have hpass : Passes (L2.CX P w) (cxOf (L2.CX P w) P w K mg base ["self", "words", "at", "last", "phases", "least", "place"] "ClockReader.read_wheel" (defScope sRWheel) f cdv A outer s H E) E := passes_call (takes_of rfl rfl rfl rfl) (fun _ _ _ _ h => h)
    refine ⟨_, pss_cons (ps_if (pt_cmpR op_eq (pe_callB call_len (by rfl) B.len PySem.boot_len (pa_cons (pe_fld (pv 0) rfl) pa_nil)) (pe_gint B.wheels) (nomark _)) (pss_one (ps_raise rfl (takes_of rfl rfl rfl rfl) (pmk_bl BL (hr.mono (by decide)) rfl (pa_cons (pv 2) (pa_cons pe_int pa_nil))))) pss_nil)
      (pss_cons (ps_set (i := 3) scRWheel.nd rfl (Or.inl rfl) (pe_mcal CT R.cl (pv 0) hr hpass (pa_cons (pv 1) (pa_cons pe_int (pa_cons pe_int (pa_cons (pe_callB (call_min2 rfl) (by rfl) B.min (by decide +kernel) (pa_cons (pe_gint B.editions) (pa_cons (pe_op op_sub (pe_gint B.exchanges) (pe_callB (cr_sum rfl) (by rfl) B.sum (by decide +kernel) (pa_cons (pe_fld (pv 0) rfl) pa_nil))) pa_nil))) (pa_cons (pv 2) pa_nil)))))))
      (pss_cons (ps_par (i := 4) (j := 5) rfl scRWheel.nd rfl rfl (by decide) rfl rfl (pa_cons (pe_lst pa_nil) (pa_cons pe_int pa_nil)) (by rfl))
      (pss_cons (ps_for (passes_of rfl) rfl (pi_range2 rfl B.range (pa_cons pe_int (pa_cons (pe_callB (call_max2 rfl) (by rfl) B.max (by decide +kernel) (pa_cons (pe_callB call_len (by rfl) B.len PySem.boot_len (pa_cons (pv 1) pa_nil)) (pa_cons (pe_ifExp (pt_cmpR op_gt (pv 3) pe_int (nomark _)) pe_int pe_int) pa_nil))) pa_nil))) (pg_name (i := 6) scRWheel.nd rfl (Or.inl rfl))
        (pss_cons (ps_expr (pe_bm PySem.F.plainAttrs_list PySem.F.slot_list_append PySem.F.type_list_append mt_append (pv 4) (pa_cons (pe_mcal CT R.cl (pv 0) hr hpass (pa_cons (pv 1) (pa_cons (pv 6) (pa_cons (pv 5) (pa_cons (pe_op op_sub (pe_fld (pv 0) rfl) pe_int) (pa_cons (pv 2) pa_nil)))))) pa_nil)))
        (pss_one (ps_set (i := 5) scRWheel.nd rfl (Or.inl rfl) (pe_op op_add (pe_ix ix_list (pv 4) (pe_un un_neg pe_int) (fun _ _ => rfl)) pe_int)))))
      (pss_cons (ps_expr (pe_bm PySem.F.plainAttrs_list PySem.F.slot_list_append PySem.F.type_list_append mt_append (pe_fld (pv 0) rfl) (pa_cons (pv 3) pa_nil)))
      (pss_one (ps_expr (pe_bm PySem.F.plainAttrs_list PySem.F.slot_list_append PySem.F.type_list_append mt_append (pe_fld (pv 0) rfl) (pa_cons (pe_callTy call_tuple_of (by rfl) B.tuple (by decide +kernel) (pa_cons (pv 4) pa_nil)) pa_nil)))))))), ?_⟩
    obtain ⟨dx, hpx⟩ := ra.hp
    obtain ⟨as, hg, pg⟩ := ra.hg
    have er : ExtS T [p, l, g, t, b] H H := (Ext.refl T H).toS _
    have hlen1 : 1 ≤ ws.length := by
      cases ws with
      | nil => exact absurd rfl hne
      | cons => simp
    refine ⟨_, rfl, p, C, dx, _, _, rfl, hpx, R.cl, R.lasts, fs_lasts, _, r.lasts.length, rfl, .inl ⟨_, SqL.of ra.hl, by rw [List.length_map]⟩, rfl, _, rfl, ite2 (fun c => ?_) (fun c => ?_)⟩
    · have c12 : r.lasts.length = 12 := by
        have c := of_decide_eq_true c
        injection c with c
        omega
      refine ⟨_, rfl, bl_close hT ((k2 1 ?_).to er)⟩
      unfold KM.rdWheel
      rw [if_pos c12]
    · have c12 : r.lasts.length ≠ 12 := fun z => c (decide_eq_true (by rw [z]; rfl))
      refine ⟨_, rfl, p, dx, _, rfl, hpx, fs_take, _, rfl, _, rfl, p, C, dx, _, _, rfl, hpx, R.cl, R.lasts, fs_lasts, l, r.lasts, rfl, SqL.of ra.hl, _, _, rfl, rfl, _, _, rfl, _, rfl, nil_i ?_⟩
      refine take_close (place := 1) (lo := 0) (hi := KM.minI 4 (24 - r.lasts.sum)) hw hlen1 hT er (fun last hv ho H1 e1 => ?_) (fun hv => k2 _ ?_)
      · have l2 : 2 ≤ ws.length := by have := takeO_lt ho; rw [List.length_map] at this; omega
        obtain ⟨z1, z2, z3⟩ := takeO_rng ho
        have z4 : last ≤ 4 := by
          unfold KM.minI at z3
          split at z3 <;> omega
        refine ⟨Nat.zero_le _, fun ph hph => ⟨_, _, rfl, ?_⟩⟩
        have h0 : H ph = none := e1.free hT hph
        have e2 : Ext T H (upd H1 ph (.lst [])) := e1.put hT h0 _
        have g2 : (upd H1 ph (.lst [])) ph = some (.lst (([] : List Int).map V.int)) := upd_same
        generalize upd H1 ph (.lst []) = H2 at e2 g2
        refine ⟨_, rfl, _, ws.length, rfl, .inl ⟨_, SqL.of (e2.lst hT hw.at_), by rw [List.length_map]⟩, _, rfl, _, _, rfl, rfl, _, rfl, tIf_c ?_⟩
        have em : (if decide ((0 : Int) < last) = true then V.int 3 else V.int 2) = V.int ((if 0 < last then 3 else 2 : Nat) : Int) := by
          by_cases q : 0 < last
          · rw [decide_eq_true q, if_pos rfl, if_pos q]; rfl
          · rw [decide_eq_false q, if_neg (by decide), if_neg q]; rfl
        have ih : (if 0 < last then 3 else 2 : Nat) ≤ 3 := by split <;> omega
        rw [em]
        generalize hm : (if 0 < last then 3 else 2 : Nat) = m at ih
        have wl := hw.len
        refine ⟨_, _, rfl, _, _, rfl, ⟨by decide, by decide, by split <;> omega, by split <;> omega⟩, ?_⟩
        have eN : ((if (m : Int) > (ws.length : Int) then (m : Int) else (ws.length : Int)) - 2).toNat = max ws.length m - 2 := by
          split <;> omega
        rw [eN]
        generalize hN : max ws.length m - 2 = N
        refine for_range (lo := 2) (n := N) (fun i σ H' => ∃ (vs : List Int) (least : Int) (v6 : Option V), σ = [some (.ref p), some (.ref wa), some (.int at_), some (.int last), some (.ref ph), some (.int least), v6] ∧ Ext T H H' ∧ H' ph = some (.lst (vs.map V.int)) ∧ vs.length = i ∧ 2 + i ≤ ws.length ∧
          KM.phasesE (ws.map tl) (r.per - 1) N 2 0 = app vs (KM.phasesE (ws.map tl) (r.per - 1) (N - i) (2 + i) least)) ⟨[], 0, none, rfl, e2, g2, rfl, l2, ?_⟩ ?_ ?_
        · show _ = app [] (KM.phasesE (ws.map tl) (r.per - 1) N 2 0)
          cases KM.phasesE (ws.map tl) (r.per - 1) N 2 0 <;> rfl
        · rintro i σ H' hi ⟨vs, least, v6, rfl, e3, g3, hvl, hb2, hph2⟩
          have T3 := e3.ok hT
          have hp3 := e3.at_ hT hpx fun _ z => nomatch z
          have eNi : N - i = (N - (i + 1)) + 1 := by omega
          refine ⟨_, rfl, lst_at g3, _, rfl, p, dx, _, rfl, hp3, fs_take, _, rfl, _, rfl, _, rfl, _, rfl, p, C, dx, _, _, rfl, hp3, R.cl, R.period, fs_period, _, _, rfl, rfl, _, rfl, nil_i ?_⟩
          have e2i : (2 : Int) + (i : Int) = ((2 + i : Nat) : Int) := by omega
          rw [e2i]
          refine take_close (hw.ext hT e3) hb2 T3 (e3.toS _) (fun v hv' ho' H4 e4 => ?_) (fun hv' => k2 _ ?_)
          · have g4 : H4 ph = some (.lst (vs.map V.int)) := e4.lst T3 g3
            refine ⟨ph, _, _, rfl, rfl, g4, small_line (by rw [List.length_map]; omega), ?_⟩
            have em2 : vs.map V.int ++ [V.int v] = (vs ++ [v]).map V.int := by rw [List.map_append]; rfl
            rw [em2]
            refine ⟨_, rfl, _, rfl, ph, _, (-1), _, rfl, rfl, SqL.of upd_same, atI_last, _, _, rfl, rfl, vs ++ [v], _, _, rfl, (e3.trans e4).put hT h0 _, upd_same, by rw [List.length_append, hvl]; rfl, by have := takeO_lt ho'; rw [List.length_map] at this; omega, ?_⟩
            rw [hph2, eNi]
            show app vs (match KM.takeE (ws.map tl) (2 + i) least (r.per - 1) with | .error j => .error j | .ok v => _) = _
            rw [hv']
            show app vs (match KM.phasesE (ws.map tl) (r.per - 1) (N - (i + 1)) (2 + i + 1) (v + 1) with | .error j => .error j | .ok r => .ok (v :: r)) = app (vs ++ [v]) (KM.phasesE (ws.map tl) (r.per - 1) (N - (i + 1)) (2 + (i + 1)) (v + 1))
            rw [show 2 + (i + 1) = 2 + i + 1 from rfl]
            cases KM.phasesE (ws.map tl) (r.per - 1) (N - (i + 1)) (2 + i + 1) (v + 1) with
            | error j => rfl
            | ok q => simp [app]
          · unfold KM.rdWheel
            rw [if_neg c12]
            have hv1 : KM.takeE (List.map tl ws) 1 0 (KM.minI 4 (24 - r.lasts.sum)) = .ok last := hv
            rw [hv1]
            dsimp only
            rw [List.length_map, hm, hN, hph2, eNi]
            show (match app vs (match KM.takeE (ws.map tl) (2 + i) least (r.per - 1) with | .error j => .error j | .ok v => _) with | .error j => _ | .ok ph => _) = _
            rw [hv']
            rfl
        · rintro σ H' ⟨vs, least, v6, rfl, e3, g3, hvl, hb2, hph2⟩
          have hp3 := e3.at_ hT hpx fun _ z => nomatch z
          have hl3 := e3.lst hT ra.hl
          have hg3 := e3.lst hT hg
          have npl : p ≠ l := ne_of hpx ra.hl fun q => nomatch q
          have npg : p ≠ g := ne_of hpx hg fun q => nomatch q
          have nlph : ph ≠ l := fun z => by rw [z, ra.hl] at h0; cases h0
          have ok1 : KM.phasesE (ws.map tl) (r.per - 1) N 2 0 = .ok vs := by
            rw [hph2, Nat.sub_self]
            show app vs (.ok []) = _
            simp [app]
          have ok2 : KM.rdWheel r (ws.map tl) = .ok { r with lasts := r.lasts ++ [last], gaps := r.gaps ++ [vs] } := by
            unfold KM.rdWheel
            rw [if_neg c12]
            have hv1 : KM.takeE (List.map tl ws) 1 0 (KM.minI 4 (24 - r.lasts.sum)) = .ok last := hv
            rw [hv1]
            dsimp only
            rw [List.length_map, hm, hN, ok1]
          refine ⟨_, rfl, p, C, dx, _, _, rfl, hp3, R.cl, R.lasts, fs_lasts, lst_at hl3, _, rfl, l, _, _, rfl, rfl, hl3, small_line (by rw [List.length_map]; have := rs.lasts; omega), ?_⟩
          have hp4 := (upd_ne (H := H') (o := .lst (r.lasts.map V.int ++ [V.int last])) npl).trans hp3
          refine ⟨_, rfl, p, C, dx, _, _, rfl, hp4, R.cl, R.gaps, fs_gaps, lst_at (by rw [upd_ne ra.lg.symm]; exact hg3), _, rfl, ph, _, rfl, .inl ⟨SqL.of (by rw [upd_ne nlph]; exact g3), fun tq htq => ?_⟩⟩
          have T3 := e3.ok hT
          have ntl : tq ≠ l := fun z => by rw [z, upd_same] at htq; cases htq
          have htq3 : H' tq = none := by rw [upd_ne ntl] at htq; exact htq
          have htq0 : H tq = none := e3.free hT htq3
          have ntg : tq ≠ g := fun z => by rw [z, hg3] at htq3; cases htq3
          have ntp : tq ≠ p := fun z => by rw [z, hp3] at htq3; cases htq3
          have el : r.lasts.map V.int ++ [V.int last] = (r.lasts ++ [last]).map V.int := by rw [List.map_append]; rfl
          have eg : as.map V.ref ++ [V.ref tq] = (as ++ [tq]).map V.ref := by rw [List.map_append]; rfl
          rw [el]
          refine ⟨g, _, _, rfl, rfl, (by rw [upd_ne ntg.symm, upd_ne ra.lg.symm]; exact hg3), small_line (by rw [List.length_map, pg.length, rs.gaps]; have := rs.lasts; omega), k1 _ ok2 _ ?_ ?_⟩
          · have x1 : ExtS T [p, l, g, t, b] H' (upd H' l (.lst ((r.lasts ++ [last]).map V.int))) := ExtS.own T3 (by simp) hl3 (fun _ z => nomatch z) _
            have T4 := x1.ok T3
            have x2 : ExtS T [p, l, g, t, b] (upd H' l (.lst ((r.lasts ++ [last]).map V.int))) (upd (upd H' l (.lst ((r.lasts ++ [last]).map V.int))) tq (.tup (vs.map V.int))) := (Ext.new T4 (by rw [upd_ne ntl]; exact htq3) _).toS _
            have hg5 : (upd (upd H' l (.lst ((r.lasts ++ [last]).map V.int))) tq (.tup (vs.map V.int))) g = some (.lst (as.map V.ref)) := by rw [upd_ne ntg.symm, upd_ne ra.lg.symm]; exact hg3
            exact ((e3.toS _).trans (x1.trans x2)).trans (ExtS.own (x2.ok T4) (by simp) hg5 (fun _ z => nomatch z) _)
          · rw [eg]
            have old : ∀ a u, H' a = some u → a ≠ l → a ≠ g → (upd (upd (upd H' l (.lst ((r.lasts ++ [last]).map V.int))) tq (.tup (vs.map V.int))) g (.lst ((as ++ [tq]).map V.ref))) a = some u := fun a u q n1 n2 => by
              rw [upd_ne n2, upd_ne (fun z => by rw [z, htq3] at q; cases q), upd_ne n1]
              exact q
            have keepT : ∀ a rw, TupI H a rw → TupI (upd (upd (upd H' l (.lst ((r.lasts ++ [last]).map V.int))) tq (.tup (vs.map V.int))) g (.lst ((as ++ [tq]).map V.ref))) a rw := fun a rw q => by
              have q' : H a = some (.tup (rw.map V.int)) := q
              exact old a _ (e3.tup hT q') (fun z => by rw [z, ra.hl] at q'; cases q') (fun z => by rw [z, hg] at q'; cases q')
            obtain ⟨ats, ht1, ht2⟩ := ra.ht
            obtain ⟨abs, hb1, hb2⟩ := ra.hb
            refine ⟨⟨dx, old p _ hp3 npl npg⟩, ?_, ⟨as ++ [tq], upd_same, ?_⟩, ⟨ats, old t _ (e3.lst hT ht1) ra.lt.symm ra.gt.symm, Paired.mapP ht2 keepT⟩, ⟨abs, old b _ (e3.lst hT hb1) ra.lb.symm ra.gb.symm, Paired.mapP hb2 keepT⟩, ra.lg, ra.lt, ra.lb, ra.gt, ra.gb, ra.tb⟩
            · show (upd (upd (upd H' l _) tq _) g _) l = _
              rw [upd_ne ra.lg, upd_ne ntl.symm, upd_same]
            · refine pair_snoc (Paired.mapP pg keepT) ?_
              show (upd (upd (upd H' l _) tq _) g _) tq = _
              rw [upd_ne ntg, upd_same]
      · unfold KM.rdWheel
        rw [if_neg c12]
        have hv1 : KM.takeE (List.map tl ws) 1 0 (KM.minI 4 (24 - r.lasts.sum)) = .error 2 := hv
        rw [hv1]
end
end CW

namespace CW
open PySem PySem.Spec PyProof.Rows L2 GA TL
theorem lexAt3 {a b c d e f : Int} : Ob.lexAt (fun j => decide (([a, b, c] : List Int).getD j 0 = ([d, e, f] : List Int).getD j 0)) (fun j => decide (([a, b, c] : List Int).getD j 0 ≤ ([d, e, f] : List Int).getD j 0)) (decide (([a, b, c] : List Int).length ≤ ([d, e, f] : List Int).length)) 0 (min ([a, b, c] : List Int).length ([d, e, f] : List Int).length) = KM.le3 a b c d e f := by
  show (if decide (a = d) = true then (if decide (b = e) = true then (if decide (c = f) = true then true else decide (c ≤ f)) else decide (b ≤ e)) else decide (a ≤ d)) = KM.le3 a b c d e f
  unfold KM.le3
  by_cases h1 : a = d
  · rw [decide_eq_true h1, if_pos rfl, if_pos h1]
    by_cases h2 : b = e
    · rw [decide_eq_true h2, if_pos rfl, if_pos h2]
      by_cases h3 : c = f
      · rw [decide_eq_true h3, if_pos rfl, h3]
        simp
      · rw [decide_eq_false h3, if_neg (by decide)]
    · rw [decide_eq_false h2, if_neg (by decide), if_neg h2]
  · rw [decide_eq_false h1, if_neg (by decide), if_neg h1]
theorem last_at {F : Addr → List Int → Prop} {as : List Addr} {rows : List (List Int)} (p : Paired F as rows) (h : rows ≠ []) : ∃ a r, atI (as.map V.ref) (-1) = some (.ref a) ∧ rows.getLast? = some r ∧ F a r ∧ r ∈ rows := by
  have hl := p.length
  have hp : 0 < rows.length := List.length_pos_iff.mpr h
  obtain ⟨r, hr⟩ := getq (l := rows) (i := rows.length - 1) (by omega)
  obtain ⟨a, ha, q⟩ := paired_get p hr
  refine ⟨a, r, ?_, ?_, q, List.mem_of_getElem? hr⟩
  · unfold atI ixN
    rw [List.length_map, hl]
    rw [if_neg (by decide), if_pos (by omega)]
    show (as.map V.ref)[((rows.length : Int) + (-1)).toNat]? = _
    rw [show ((rows.length : Int) + (-1)).toNat = rows.length - 1 by omega, List.getElem?_map, ha]
    rfl
  · rw [List.getLast?_eq_getElem?]
    exact hr
def rTupOf (K : PySem.W.Frag) : List V → Hp → VK → Prop := fun xs H Q => ∃ p ys, xs = [V.ref p] ∧ ((SqL K H p ys ∧ ∀ l, H l = none → Q (V.ref l) (upd H l (.tup ys))) ∨ (SqT K H p ys ∧ Q (V.ref p) H))
section
variable {P : Program} {w : World} {K : PySem.W.Frag} {mg : Str → Option Value} {base : Heap} {T S : List Addr} {CL C : Addr} {H H0 : Hp}
theorem end_close {Q : VK} {E : XK} {x : V} {wa : Addr} {ws : List Str} {many : Nat} {at_ : Int} (hw : Wds H wa ws) (hT : TOk T H) (e0 : ExtS T S H0 H)
    (k1 : KM.endE (ws.map tl) many = .ok () → Q .non H) (k2 : KM.endE (ws.map tl) many = .error (many + 1) → RaisedS T S CL H0 at_ ((many + 1 : Nat) : Int) E) : spEnd T CL [x, .ref wa, .int (many : Nat), .int at_] H Q E := by
  refine ⟨x, wa, ws, many, at_, rfl, hw, hT, fun h => k1 ?_, fun h => ?_⟩
  · unfold KM.endE
    rw [List.length_map, if_neg (by omega)]
  · exact (k2 (by unfold KM.endE; rw [List.length_map, if_pos h])).to e0
/-- one more row at the end of an own list of rows -/
theorem lst_snoc {H1 : Hp} {a tq : Addr} {as : List Addr} {rows : List (List Int)} {r : List Int} (h : H1 a = some (.lst (as.map V.ref))) (p : Paired (fun b r => TupI H1 b r) as rows) (n : tq ≠ a) (e : H1 tq = some (.tup (r.map V.int))) :
    LstT (upd H1 a (.lst (as.map V.ref ++ [V.ref tq]))) a (rows ++ [r]) := by
  refine ⟨as ++ [tq], by rw [upd_same, List.map_append]; rfl, pair_snoc (Paired.mapP p fun b r q => ?_) ?_⟩
  · have q : H1 b = some (.tup (r.map V.int)) := q
    show upd _ _ _ b = _
    rw [upd_ne (fun z => by rw [z, h] at q; cases q)]
    exact q
  · show upd _ _ _ tq = _
    rw [upd_ne n]
    exact e
theorem LstT.other {H1 : Hp} {a c : Addr} {rows : List (List Int)} {xs : List V} (h : LstT H1 a rows) (n : a ≠ c) (hc : ∃ ys, H1 c = some (.lst ys)) : LstT (upd H1 c (.lst xs)) a rows := by
  obtain ⟨as, h1, h2⟩ := h
  obtain ⟨ys, hc⟩ := hc
  refine ⟨as, by rw [upd_ne n]; exact h1, Paired.mapP h2 fun b r q => ?_⟩
  have q : H1 b = some (.tup (r.map V.int)) := q
  show upd _ _ _ b = _
  rw [upd_ne (fun z => by rw [z, hc] at q; cases q)]
  exact q
theorem scRTouch : FnScope ["self", "words", "at", "found"] ["self", "words", "at"] (defScope sRTouch) := ⟨rfl, rfl, rfl, by decide +kernel, rfl, by decide +kernel, by decide +kernel⟩
theorem cal_rtouch (D : MethAt K C "read_touch" "ClockReader.read_touch" sRTouch) (R : RCl K C) (B : Bl mg) (BL : BLAt K mg CL) (CT : MCal P w K mg base (L2.CX P w) C 3 "take" ["self", "words", "place", "low", "high", "at"] (spTake T CL))
    (CE : MCal P w K mg base (L2.CX P w) C 3 "need_end" ["self", "words", "many", "at"] (spEnd T CL)) (CF : Cal P w K mg base CX0 1 "first_less" ["found", "other"] (spFirst T)) :
    MCal P w K mg base (L2.CX P w) C 4 "read_touch" ["self", "words", "at"] (spLine T CL C KM.rdTouch) := by
  refine D.calX scRTouch (fun _ _ _ _ _ _ us hl => match us, hl with | [_, _, _], _ => rfl) (fun vs H Q E h => ?_) (fun f cdv A outer s H vs Q E hr h => ?_)
  · obtain ⟨p, l, g, t, b, wa, ws, at_, r, n, rfl, _⟩ := h
    rfl
  · obtain ⟨p, l, g, t, b, wa, ws, at_, r, n, rfl, ra, rs, hn, hw, hne, hT, k1, k2⟩ := h
    have hpass : Passes (L2.CX P w) (cxOf (L2.CX P w) P w K mg base ["self", "words", "at", "found"] "ClockReader.read_touch" (defScope sRTouch) f cdv A outer s H E) E := passes_call (takes_of rfl rfl rfl rfl) (fun _ _ _ _ h => h)
    refine ⟨_, pss_cons (ps_set (i := 3) scRTouch.nd rfl (Or.inl rfl) (pe_lst (pa_cons (pe_mcal CT R.cl (pv 0) hr hpass (pa_cons (pv 1) (pa_cons pe_int (pa_cons pe_int (pa_cons (pe_op op_sub (pe_fld (pv 0) rfl) pe_int) (pa_cons (pv 2) pa_nil)))))) pa_nil)))
      (pss_cons (ps_expr (pe_bm PySem.F.plainAttrs_list PySem.F.slot_list_append PySem.F.type_list_append mt_append (pv 3) (pa_cons (pe_mcal CT R.cl (pv 0) hr hpass (pa_cons (pv 1) (pa_cons pe_int (pa_cons pe_int (pa_cons (pe_op op_sub (pe_callB call_len (by rfl) B.len PySem.boot_len (pa_cons (pe_fld (pv 0) rfl) pa_nil)) pe_int) (pa_cons (pv 2) pa_nil)))))) pa_nil)))
      (pss_cons (ps_expr (pe_bm PySem.F.plainAttrs_list PySem.F.slot_list_append PySem.F.type_list_append mt_append (pv 3) (pa_cons (pe_mcal CT R.cl (pv 0) hr hpass (pa_cons (pv 1) (pa_cons pe_int (pa_cons (pe_op op_add (pe_ix ix_list (pv 3) pe_int (fun _ _ => rfl)) pe_int) (pa_cons (pe_op op_sub (pe_callB call_len (by rfl) B.len PySem.boot_len (pa_cons (pe_fld (pv 0) rfl) pa_nil)) pe_int) (pa_cons (pv 2) pa_nil)))))) pa_nil)))
      (pss_cons (ps_if (PW.pt (pw_and (pt_truth (pe_fld (pv 0) rfl) (by intro _; rfl)) (pw_and1 (pt_cmpR (op_leT hr.units0) (pe_callTy call_tuple_of (by rfl) B.tuple (by decide +kernel) (pa_cons (pv 3) pa_nil)) (pe_ix ix_list (pe_fld (pv 0) rfl) (pe_un un_neg pe_int) (fun _ _ => rfl)) (nomark _)))))
        (pss_one (ps_raise rfl (takes_of rfl rfl rfl rfl) (pmk_bl BL (hr.mono (by decide)) rfl (pa_cons (pv 2) (pa_cons (pe_op op_add (pe_cal CF (hr.mono (by decide)) rfl pass0 (pa_cons (pv 3) (pa_cons (pe_ix ix_list (pe_fld (pv 0) rfl) (pe_un un_neg pe_int) (fun _ _ => rfl)) pa_nil))) pe_int) pa_nil))))) pss_nil)
      (pss_cons (ps_expr (pe_mcal CE R.cl (pv 0) hr hpass (pa_cons (pv 1) (pa_cons pe_int (pa_cons (pv 2) pa_nil)))))
      (pss_one (ps_expr (pe_bm PySem.F.plainAttrs_list PySem.F.slot_list_append PySem.F.type_list_append mt_append (pe_fld (pv 0) rfl) (pa_cons (pe_callTy call_tuple_of (by rfl) B.tuple (by decide +kernel) (pa_cons (pv 3) pa_nil)) pa_nil)))))))), ?_⟩
    obtain ⟨dx, hpx⟩ := ra.hp
    obtain ⟨as, ht, pt⟩ := ra.ht
    have er : ExtS T [p, l, g, t, b] H H := (Ext.refl T H).toS _
    have hlen1 : 1 ≤ ws.length := by
      cases ws with
      | nil => exact absurd rfl hne
      | cons => simp
    refine ⟨_, rfl, p, dx, _, rfl, hpx, fs_take, _, rfl, _, rfl, p, C, dx, _, _, rfl, hpx, R.cl, R.period, fs_period, _, _, rfl, rfl, _, rfl, nil_i ?_⟩
    refine take_close (place := 1) (lo := 0) (hi := r.per - 1) hw hlen1 hT er (fun a hv1 ho1 H1 e1 => ?_) (fun hv => k2 _ ?e1)
    case e1 =>
      unfold KM.rdTouch
      rw [hv]
    have l2 : 2 ≤ ws.length := by have := takeO_lt ho1; rw [List.length_map] at this; omega
    refine nil_i ⟨by show 1 ≤ sizeLine; decide, fun ph hph => ?_⟩
    have h0 : H ph = none := e1.free hT hph
    have e1 : Ext T H (upd H1 ph (.lst [.int a])) := e1.put hT h0 _
    have g1 : (upd H1 ph (.lst [.int a])) ph = some (.lst [.int a]) := upd_same
    generalize upd H1 ph (.lst [.int a]) = H1 at e1 g1
    have hp1 := e1.at_ hT hpx fun _ z => nomatch z
    refine ⟨_, rfl, lst_at g1, _, rfl, p, dx, _, rfl, hp1, fs_take, _, rfl, _, rfl, p, C, dx, _, _, rfl, hp1, R.cl, R.lasts, fs_lasts, _, r.lasts.length, rfl, .inl ⟨_, SqL.of (e1.lst hT ra.hl), by rw [List.length_map]⟩, _, _, rfl, rfl, _, rfl, nil_i ?_⟩
    refine take_close (place := 2) (lo := 0) (hi := (r.lasts.length : Int) - 1) (hw.ext hT e1) l2 (e1.ok hT) (e1.toS _) (fun b' hv2 ho2 H2 e2 => ?_) (fun hv => k2 _ ?e2)
    case e2 =>
      unfold KM.rdTouch
      rw [hv1]
      dsimp only
      rw [hv]
    have l3 : 3 ≤ ws.length := by have := takeO_lt ho2; rw [List.length_map] at this; omega
    have e2 := e1.trans e2
    have g2 : H2 ph = some (.lst [.int a]) := by rename_i ee; exact ee.lst (e1.ok hT) g1
    refine ⟨ph, _, _, rfl, rfl, g2, small_line (by show 1 ≤ 200000; decide), ?_⟩
    have e3 : Ext T H (upd H2 ph (.lst [.int a, .int b'])) := e2.put hT h0 _
    have g3 : (upd H2 ph (.lst [.int a, .int b'])) ph = some (.lst [.int a, .int b']) := upd_same
    show tSeq _ _ _ _ (upd H2 ph (.lst [.int a, .int b']))
    generalize upd H2 ph (.lst [.int a, .int b']) = H3 at e3 g3
    have hp3 := e3.at_ hT hpx fun _ z => nomatch z
    refine ⟨_, rfl, lst_at g3, _, rfl, p, dx, _, rfl, hp3, fs_take, _, rfl, _, rfl, ph, _, _, _, rfl, rfl, SqL.of g3, rfl, _, _, rfl, rfl, _, rfl, p, C, dx, _, _, rfl, hp3, R.cl, R.lasts, fs_lasts, _, r.lasts.length, rfl, .inl ⟨_, SqL.of (e3.lst hT ra.hl), by rw [List.length_map]⟩, _, _, rfl, rfl, _, rfl, nil_i ?_⟩
    refine take_close (place := 3) (lo := b' + 1) (hi := (r.lasts.length : Int) - 1) (hw.ext hT e3) l3 (e3.ok hT) (e3.toS _) (fun c hv3 ho3 H4 e4 => ?_) (fun hv => k2 _ ?e3)
    case e3 =>
      unfold KM.rdTouch
      rw [hv1]
      dsimp only
      rw [hv2]
      dsimp only
      rw [hv]
    have g4 : H4 ph = some (.lst [.int a, .int b']) := e4.lst (e3.ok hT) g3
    have e4 := e3.trans e4
    refine ⟨ph, _, _, rfl, rfl, g4, small_line (by show 2 ≤ 200000; decide), ?_⟩
    have e5 : Ext T H (upd H4 ph (.lst [.int a, .int b', .int c])) := e4.put hT h0 _
    have g5 : (upd H4 ph (.lst [.int a, .int b', .int c])) ph = some (.lst ([a, b', c].map V.int)) := upd_same
    show tSeq _ _ _ _ (upd H4 ph (.lst [.int a, .int b', .int c]))
    generalize upd H4 ph (.lst [.int a, .int b', .int c]) = H5 at e5 g5
    have hp5 := e5.at_ hT hpx fun _ z => nomatch z
    have ht5 := e5.lst hT ht
    have tail : ∀ Hz, Ext T H Hz → Hz ph = some (.lst ([a, b', c].map V.int)) → KM.orderE a b' c r.tch = .ok () →
        tSeq (tDrop (tMeth C "need_end" (spEnd T CL) [] E (tVar 0) (tCons (tVar 1) (tCons (tC (V.int 4)) (tCons (tVar 2) tNil))))) (tDrop (tBM K "list" rAppend (tFld K (tVar 0) "touches") (tCons (tCB (rTupOf K) (tCons (tVar 3) tNil)) tNil)))
          { nx := fun _ H' => Q .non H', rt := Q } [some (.ref p), some (.ref wa), some (.int at_), some (.ref ph)] Hz := by
      intro Hz ez gz hord
      have Tz := ez.ok hT
      have hpz := ez.at_ hT hpx fun _ z => nomatch z
      have htz := ez.lst hT ht
      refine ⟨_, rfl, p, dx, _, rfl, hpz, fs_end, _, rfl, _, rfl, nil_i ?_⟩
      refine end_close (many := 4) (hw.ext hT ez) Tz (ez.toS _) (fun he => ?_) (fun he => k2 _ ?_)
      · refine ⟨_, rfl, p, C, dx, _, _, rfl, hpz, R.cl, R.touches, fs_touches, lst_at htz, _, rfl, ph, _, rfl, .inl ⟨SqL.of gz, fun tq htq => ?_⟩⟩
        have nt : tq ≠ t := fun z => by rw [z, htz] at htq; cases htq
        have x1 : Ext T H (upd Hz tq (.tup ([a, b', c].map V.int))) := ez.put hT (ez.free hT htq) _
        have q1 : (upd Hz tq (.tup ([a, b', c].map V.int))) tq = some (.tup ([a, b', c].map V.int)) := upd_same
        refine ⟨t, _, _, rfl, rfl, x1.lst hT ht, small_line (by rw [List.length_map, pt.length]; have := rs.tch; omega), k1 { r with tch := r.tch ++ [[a, b', c]] } ?_ _ ?_ ?_⟩
        · unfold KM.rdTouch
          rw [hv1]
          dsimp only
          rw [hv2]
          dsimp only
          rw [hv3]
          dsimp only
          rw [hord]
          dsimp only
          rw [he]
        · exact (x1.toS _).trans (ExtS.own (x1.ok hT) (by simp) (x1.lst hT ht) (fun _ z => nomatch z) _)
        · have r1 := ra.ext hT x1
          have ptz : Paired (fun b r => TupI (upd Hz tq (.tup ([a, b', c].map V.int))) b r) as r.tch := Paired.mapP pt fun b r q => TupI.ext q hT x1
          obtain ⟨dy, hy⟩ := r1.hp
          have tt := x1.lst hT ht
          exact ⟨⟨dy, by rw [upd_ne (ne_of hy tt fun q => nomatch q)]; exact hy⟩, by rw [upd_ne ra.lt]; exact r1.hl, r1.hg.other ra.gt ⟨_, tt⟩, lst_snoc tt ptz nt q1, r1.hb.other ra.tb.symm ⟨_, tt⟩, ra.lg, ra.lt, ra.lb, ra.gt, ra.gb, ra.tb⟩
      · unfold KM.rdTouch
        rw [hv1]
        dsimp only
        rw [hv2]
        dsimp only
        rw [hv3]
        dsimp only
        rw [hord]
        dsimp only
        rw [he]
    refine ⟨_, rfl, p, C, dx, _, _, rfl, hp5, R.cl, R.touches, fs_touches, _, .inl ⟨_, SqL.of ht5, rfl⟩, ite2 (fun c1 => ?_) (fun c1 => ?_)⟩
    · have hne2 : r.tch ≠ [] := fun z => by
        have := pt.length
        rw [z] at this
        rw [List.length_eq_zero_iff.mp this] at c1
        cases c1
      obtain ⟨la, lr, hat, hlast, tlr, hmem⟩ := last_at pt hne2
      obtain ⟨d, e, f', rfl⟩ := rs.three lr hmem
      have tlr5 : H5 la = some (.tup ([d, e, f'].map V.int)) := e5.tup hT tlr
      have hl3 : KM.last3 r.tch = some (d, e, f') := by unfold KM.last3; rw [hlast]
      refine ⟨_, rfl, ph, _, rfl, .inl ⟨SqL.of g5, fun tq htq => ?_⟩⟩
      have htq0 : H tq = none := e5.free hT htq
      have e6 : Ext T H (upd H5 tq (.tup ([a, b', c].map V.int))) := e5.put hT htq0 _
      have g6 : (upd H5 tq (.tup ([a, b', c].map V.int))) ph = some (.lst ([a, b', c].map V.int)) := by rw [upd_ne (fun z => by rw [← z, g5] at htq; cases htq)]; exact g5
      have q6 : (upd H5 tq (.tup ([a, b', c].map V.int))) tq = some (.tup ([a, b', c].map V.int)) := upd_same
      show tOp _ _ _ _ (upd H5 tq (.tup ([a, b', c].map V.int))) _
      generalize upd H5 tq (.tup ([a, b', c].map V.int)) = H6 at e6 g6 q6
      have hp6 := e6.at_ hT hpx fun _ z => nomatch z
      have ht6 := e6.lst hT ht
      have tlr6 : H6 la = some (.tup ([d, e, f'].map V.int)) := e6.tup hT tlr
      refine ⟨_, rfl, p, C, dx, _, _, rfl, hp6, R.cl, R.touches, fs_touches, _, rfl, t, _, (-1), _, rfl, rfl, SqL.of ht6, hat, tq, la, [a, b', c], [d, e, f'], rfl, rfl, SqT.of q6, SqT.of tlr6, _, rfl, ite2 (fun c2 => ?_) (fun c2 => ?_)⟩
      · rw [lexAt3] at c2
        refine ⟨_, rfl, _, rfl, _, rfl, p, C, dx, _, _, rfl, hp6, R.cl, R.touches, fs_touches, _, rfl, t, _, (-1), _, rfl, rfl, SqL.of ht6, hat, ph, la, a, b', c, d, e, f', rfl, g6, tlr6, e6.ok hT, fun H7 e7 => ⟨_, _, rfl, rfl, bl_close (e7.ok (e6.ok hT)) ?_⟩⟩
        have er2 : KM.rdTouch r (ws.map tl) = .error (KM.fl3 a b' d e + 2) := by
          unfold KM.rdTouch
          rw [hv1]
          dsimp only
          rw [hv2]
          dsimp only
          rw [hv3]
          dsimp only
          unfold KM.orderE
          rw [hl3]
          dsimp only
          rw [if_pos c2]
        have := (k2 _ er2).to ((e6.trans e7).toS _)
        rw [show ((KM.fl3 a b' d e + 2 : Nat) : Int) = ((KM.fl3 a b' d e : Nat) : Int) + 2 by omega] at this
        exact this
      · rw [lexAt3] at c2
        have hord : KM.orderE a b' c r.tch = .ok () := by
          unfold KM.orderE
          rw [hl3]
          dsimp only
          rw [if_neg c2]
        exact tail _ e6 g6 hord
    · have hne2 : r.tch = [] := by
        have hl := pt.length
        cases as with
        | nil => exact List.length_eq_zero_iff.mp hl.symm
        | cons => exact absurd rfl c1
      refine tail _ e5 g5 ?_
      unfold KM.orderE KM.last3
      rw [hne2]
      rfl
end
end CW

namespace CW
open PySem PySem.Spec PyProof.Rows L2 GA TL
section
variable {P : Program} {w : World} {K : PySem.W.Frag} {mg : Str → Option Value} {base : Heap} {T S : List Addr} {CL C : Addr} {H H0 : Hp}
theorem lasts_at {r : KM.Rd} {a : Int} (h0 : 0 ≤ a) (h1 : a ≤ (r.lasts.length : Int) - 1) : atI (r.lasts.map V.int) a = some (V.int (KM.lastOf r a)) := by
  have e : a = ((a.toNat : Nat) : Int) := by omega
  obtain ⟨x, hx⟩ := getq (l := r.lasts) (i := a.toNat) (by omega)
  have e2 : KM.lastOf r a = x := by
    unfold KM.lastOf
    rw [List.getD_eq_getElem?_getD, hx]
    rfl
  rw [e2]
  have := atI_int hx
  rw [← e] at this
  exact this
theorem scRNeed : FnScope ["self", "words", "at", "found"] ["self", "words", "at"] (defScope sRNeed) := ⟨rfl, rfl, rfl, by decide +kernel, rfl, by decide +kernel, by decide +kernel⟩
theorem cal_rneed (D : MethAt K C "read_need" "ClockReader.read_need" sRNeed) (R : RCl K C) (B : Bl mg) (BL : BLAt K mg CL) (CT : MCal P w K mg base (L2.CX P w) C 3 "take" ["self", "words", "place", "low", "high", "at"] (spTake T CL))
    (CE : MCal P w K mg base (L2.CX P w) C 3 "need_end" ["self", "words", "many", "at"] (spEnd T CL)) (CF : Cal P w K mg base CX0 1 "first_less" ["found", "other"] (spFirst T)) :
    MCal P w K mg base (L2.CX P w) C 4 "read_need" ["self", "words", "at"] (spLine T CL C KM.rdNeed) := by
  refine D.calX scRNeed (fun _ _ _ _ _ _ us hl => match us, hl with | [_, _, _], _ => rfl) (fun vs H Q E h => ?_) (fun f cdv A outer s H vs Q E hr h => ?_)
  · obtain ⟨p, l, g, t, b, wa, ws, at_, r, n, rfl, _⟩ := h
    rfl
  · obtain ⟨p, l, g, t, b, wa, ws, at_, r, n, rfl, ra, rs, hn, hw, hne, hT, k1, k2⟩ := h
    have hpass : Passes (L2.CX P w) (cxOf (L2.CX P w) P w K mg base ["self", "words", "at", "found"] "ClockReader.read_need" (defScope sRNeed) f cdv A outer s H E) E := passes_call (takes_of rfl rfl rfl rfl) (fun _ _ _ _ h => h)
    refine ⟨_, pss_cons (ps_set (i := 3) scRNeed.nd rfl (Or.inl rfl) (pe_lst (pa_cons (pe_mcal CT R.cl (pv 0) hr hpass (pa_cons (pv 1) (pa_cons pe_int (pa_cons pe_int (pa_cons (pe_op op_sub (pe_callB call_len (by rfl) B.len PySem.boot_len (pa_cons (pe_fld (pv 0) rfl) pa_nil)) pe_int) (pa_cons (pv 2) pa_nil)))))) pa_nil)))
      (pss_cons (ps_expr (pe_bm PySem.F.plainAttrs_list PySem.F.slot_list_append PySem.F.type_list_append mt_append (pv 3) (pa_cons (pe_mcal CT R.cl (pv 0) hr hpass (pa_cons (pv 1) (pa_cons pe_int (pa_cons pe_int (pa_cons (pe_ix ix_list (pe_fld (pv 0) rfl) (pe_ix ix_list (pv 3) pe_int (fun _ _ => rfl)) (fun _ _ => rfl)) (pa_cons (pv 2) pa_nil)))))) pa_nil)))
      (pss_cons (ps_expr (pe_bm PySem.F.plainAttrs_list PySem.F.slot_list_append PySem.F.type_list_append mt_append (pv 3) (pa_cons (pe_mcal CT R.cl (pv 0) hr hpass (pa_cons (pv 1) (pa_cons pe_int (pa_cons pe_int (pa_cons (pe_op op_sub (pe_callB call_len (by rfl) B.len PySem.boot_len (pa_cons (pe_fld (pv 0) rfl) pa_nil)) pe_int) (pa_cons (pv 2) pa_nil)))))) pa_nil)))
      (pss_cons (ps_if (pt_cmpR op_eq (pe_ix ix_list (pv 3) pe_int (fun _ _ => rfl)) (pe_ix ix_list (pv 3) pe_int (fun _ _ => rfl)) (nomark _)) (pss_one (ps_raise rfl (takes_of rfl rfl rfl rfl) (pmk_bl BL (hr.mono (by decide)) rfl (pa_cons (pv 2) (pa_cons pe_int pa_nil))))) pss_nil)
      (pss_cons (ps_if (PW.pt (pw_and (pt_truth (pe_fld (pv 0) rfl) (by intro _; rfl)) (pw_and1 (pt_cmpR (op_leT hr.units0) (pe_callTy call_tuple_of (by rfl) B.tuple (by decide +kernel) (pa_cons (pv 3) pa_nil)) (pe_slice sl_tup (pe_ix ix_list (pe_fld (pv 0) rfl) (pe_un un_neg pe_int) (fun _ _ => rfl)) po_none (po_some pe_int)) (nomark _))))) (pss_one (ps_raise rfl (takes_of rfl rfl rfl rfl) (pmk_bl BL (hr.mono (by decide)) rfl (pa_cons (pv 2) (pa_cons (pe_op op_add (pe_cal CF (hr.mono (by decide)) rfl pass0 (pa_cons (pv 3) (pa_cons (pe_slice sl_tup (pe_ix ix_list (pe_fld (pv 0) rfl) (pe_un un_neg pe_int) (fun _ _ => rfl)) po_none (po_some pe_int)) pa_nil))) pe_int) pa_nil))))) pss_nil)
      (pss_cons (ps_expr (pe_bm PySem.F.plainAttrs_list PySem.F.slot_list_append PySem.F.type_list_append mt_append (pv 3) (pa_cons (pe_mcal CT R.cl (pv 0) hr hpass (pa_cons (pv 1) (pa_cons pe_int (pa_cons pe_int (pa_cons (pe_ix ix_list (pe_fld (pv 0) rfl) (pe_ix ix_list (pv 3) pe_int (fun _ _ => rfl)) (fun _ _ => rfl)) (pa_cons (pv 2) pa_nil)))))) pa_nil)))
      (pss_cons (ps_expr (pe_mcal CE R.cl (pv 0) hr hpass (pa_cons (pv 1) (pa_cons pe_int (pa_cons (pv 2) pa_nil)))))
      (pss_one (ps_expr (pe_bm PySem.F.plainAttrs_list PySem.F.slot_list_append PySem.F.type_list_append mt_append (pe_fld (pv 0) rfl) (pa_cons (pe_callTy call_tuple_of (by rfl) B.tuple (by decide +kernel) (pa_cons (pv 3) pa_nil)) pa_nil)))))))))), ?_⟩
    obtain ⟨dx, hpx⟩ := ra.hp
    obtain ⟨as, ht, pt⟩ := ra.hb
    have er : ExtS T [p, l, g, t, b] H H := (Ext.refl T H).toS _
    have hlen1 : 1 ≤ ws.length := by
      cases ws with
      | nil => exact absurd rfl hne
      | cons => simp
    refine ⟨_, rfl, p, dx, _, rfl, hpx, fs_take, _, rfl, _, rfl, p, C, dx, _, _, rfl, hpx, R.cl, R.lasts, fs_lasts, _, r.lasts.length, rfl, .inl ⟨_, SqL.of ra.hl, by rw [List.length_map]⟩, _, _, rfl, rfl, _, rfl, nil_i ?_⟩
    refine take_close (place := 1) (lo := 0) (hi := (r.lasts.length : Int) - 1) hw hlen1 hT er (fun a hv1 ho1 H1 e1 => ?_) (fun hv => k2 _ ?e1)
    case e1 =>
      unfold KM.rdNeed
      rw [hv]
    have l2 : 2 ≤ ws.length := by have := takeO_lt ho1; rw [List.length_map] at this; omega
    obtain ⟨ra0, _, ra1⟩ := takeO_rng ho1
    refine nil_i ⟨by show 1 ≤ sizeLine; decide, fun ph hph => ?_⟩
    have h0 : H ph = none := e1.free hT hph
    have e1 : Ext T H (upd H1 ph (.lst [.int a])) := e1.put hT h0 _
    have g1 : (upd H1 ph (.lst [.int a])) ph = some (.lst [.int a]) := upd_same
    generalize upd H1 ph (.lst [.int a]) = H1 at e1 g1
    have hp1 := e1.at_ hT hpx fun _ z => nomatch z
    refine ⟨_, rfl, lst_at g1, _, rfl, p, dx, _, rfl, hp1, fs_take, _, rfl, _, rfl, p, C, dx, _, _, rfl, hp1, R.cl, R.lasts, fs_lasts, _, rfl, ph, _, _, _, rfl, rfl, SqL.of g1, rfl, l, _, _, _, rfl, rfl, SqL.of (e1.lst hT ra.hl), lasts_at ra0 ra1, _, rfl, nil_i ?_⟩
    refine take_close (place := 2) (lo := 1) (hi := KM.lastOf r a) (hw.ext hT e1) l2 (e1.ok hT) (e1.toS _) (fun b' hv2 ho2 H2 e2 => ?_) (fun hv => k2 _ ?e2)
    case e2 =>
      unfold KM.rdNeed
      rw [hv1]
      dsimp only
      rw [hv]
    have l3 : 3 ≤ ws.length := by have := takeO_lt ho2; rw [List.length_map] at this; omega
    have g2 : H2 ph = some (.lst [.int a]) := e2.lst (e1.ok hT) g1
    have e2 := e1.trans e2
    refine ⟨ph, _, _, rfl, rfl, g2, small_line (by show 1 ≤ 200000; decide), ?_⟩
    have e3 : Ext T H (upd H2 ph (.lst [.int a, .int b'])) := e2.put hT h0 _
    have g3 : (upd H2 ph (.lst [.int a, .int b'])) ph = some (.lst [.int a, .int b']) := upd_same
    show tSeq _ _ _ _ (upd H2 ph (.lst [.int a, .int b']))
    generalize upd H2 ph (.lst [.int a, .int b']) = H3 at e3 g3
    have hp3 := e3.at_ hT hpx fun _ z => nomatch z
    refine ⟨_, rfl, lst_at g3, _, rfl, p, dx, _, rfl, hp3, fs_take, _, rfl, _, rfl, p, C, dx, _, _, rfl, hp3, R.cl, R.lasts, fs_lasts, _, r.lasts.length, rfl, .inl ⟨_, SqL.of (e3.lst hT ra.hl), by rw [List.length_map]⟩, _, _, rfl, rfl, _, rfl, nil_i ?_⟩
    refine take_close (place := 3) (lo := 0) (hi := (r.lasts.length : Int) - 1) (hw.ext hT e3) l3 (e3.ok hT) (e3.toS _) (fun c hv3 ho3 H4 e4 => ?_) (fun hv => k2 _ ?e3)
    case e3 =>
      unfold KM.rdNeed
      rw [hv1]
      dsimp only
      rw [hv2]
      dsimp only
      rw [hv]
    have l4 : 4 ≤ ws.length := by have := takeO_lt ho3; rw [List.length_map] at this; omega
    obtain ⟨rc0, _, rc1⟩ := takeO_rng ho3
    have g4 : H4 ph = some (.lst [.int a, .int b']) := e4.lst (e3.ok hT) g3
    have e4 := e3.trans e4
    refine ⟨ph, _, _, rfl, rfl, g4, small_line (by show 2 ≤ 200000; decide), ?_⟩
    have e5 : Ext T H (upd H4 ph (.lst [.int a, .int b', .int c])) := e4.put hT h0 _
    have g5 : (upd H4 ph (.lst [.int a, .int b', .int c])) ph = some (.lst ([a, b', c].map V.int)) := upd_same
    show tSeq _ _ _ _ (upd H4 ph (.lst [.int a, .int b', .int c]))
    generalize upd H4 ph (.lst [.int a, .int b', .int c]) = H5 at e5 g5
    have hp5 := e5.at_ hT hpx fun _ z => nomatch z
    have ht5 := e5.lst hT ht
    refine ⟨_, rfl, ph, _, _, _, rfl, rfl, SqL.of g5, rfl, _, rfl, ph, _, _, _, rfl, rfl, SqL.of g5, rfl, rfl, _, rfl, ite2 (fun c0 => ?_) (fun c0 => ?_)⟩
    · have c0 : c = a := by
        have c0 := of_decide_eq_true c0
        injection c0
      refine ⟨_, rfl, bl_close (e5.ok hT) ((k2 4 ?_).to (e5.toS _))⟩
      unfold KM.rdNeed
      rw [hv1]
      dsimp only
      rw [hv2]
      dsimp only
      rw [hv3]
      dsimp only
      rw [if_pos c0]
    have nca : c ≠ a := fun z => c0 (decide_eq_true (by rw [z]))
    have tail : ∀ Hz, Ext T H Hz → Hz ph = some (.lst ([a, b', c].map V.int)) → KM.orderE a b' c r.book = .ok () →
        tSeq (tDrop (tBM K "list" rAppend (tVar 3) (tCons (tMeth C "take" (spTake T CL) [] E (tVar 0) (tCons (tVar 1) (tCons (tC (V.int 4)) (tCons (tC (V.int 1)) (tCons (tOp (rIxL K) (tFld K (tVar 0) "lasts") (tOp (rIxL K) (tVar 3) (tC (V.int 2)))) (tCons (tVar 2) tNil)))))) tNil)))
        (tSeq (tDrop (tMeth C "need_end" (spEnd T CL) [] E (tVar 0) (tCons (tVar 1) (tCons (tC (V.int 5)) (tCons (tVar 2) tNil))))) (tDrop (tBM K "list" rAppend (tFld K (tVar 0) "book") (tCons (tCB (rTupOf K) (tCons (tVar 3) tNil)) tNil))))
          { nx := fun _ H' => Q .non H', rt := Q } [some (.ref p), some (.ref wa), some (.int at_), some (.ref ph)] Hz := by
      intro Hz ez gz hord
      have Tz := ez.ok hT
      have hpz := ez.at_ hT hpx fun _ z => nomatch z
      refine ⟨_, rfl, lst_at gz, _, rfl, p, dx, _, rfl, hpz, fs_take, _, rfl, _, rfl, p, C, dx, _, _, rfl, hpz, R.cl, R.lasts, fs_lasts, _, rfl, ph, _, _, _, rfl, rfl, SqL.of gz, rfl, l, _, _, _, rfl, rfl, SqL.of (ez.lst hT ra.hl), lasts_at rc0 rc1, _, rfl, nil_i ?_⟩
      refine take_close (place := 4) (lo := 1) (hi := KM.lastOf r c) (hw.ext hT ez) l4 Tz (ez.toS _) (fun d hv4 ho4 Hy ey => ?_) (fun hv => k2 _ ?e4)
      case e4 =>
        unfold KM.rdNeed
        rw [hv1]
        dsimp only
        rw [hv2]
        dsimp only
        rw [hv3]
        dsimp only
        rw [if_neg nca, hord]
        dsimp only
        rw [hv]
      have gy : Hy ph = some (.lst ([a, b', c].map V.int)) := ey.lst Tz gz
      have ey := ez.trans ey
      refine ⟨ph, _, _, rfl, rfl, gy, small_line (by show 3 ≤ 200000; decide), ?_⟩
      have e6 : Ext T H (upd Hy ph (.lst ([a, b', c, d].map V.int))) := ey.put hT h0 _
      have g6 : (upd Hy ph (.lst ([a, b', c, d].map V.int))) ph = some (.lst ([a, b', c, d].map V.int)) := upd_same
      show tSeq _ _ _ _ (upd Hy ph (.lst ([a, b', c, d].map V.int)))
      generalize upd Hy ph (.lst ([a, b', c, d].map V.int)) = H6 at e6 g6
      have hp6 := e6.at_ hT hpx fun _ z => nomatch z
      refine ⟨_, rfl, p, dx, _, rfl, hp6, fs_end, _, rfl, _, rfl, nil_i ?_⟩
      refine end_close (many := 5) (hw.ext hT e6) (e6.ok hT) (e6.toS _) (fun he => ?_) (fun he => k2 _ ?_)
      · refine ⟨_, rfl, p, C, dx, _, _, rfl, hp6, R.cl, R.book, fs_book, lst_at (e6.lst hT ht), _, rfl, ph, _, rfl, .inl ⟨SqL.of g6, fun tq htq => ?_⟩⟩
        have nt : tq ≠ b := fun z => by rw [z, e6.lst hT ht] at htq; cases htq
        have x1 : Ext T H (upd H6 tq (.tup ([a, b', c, d].map V.int))) := e6.put hT (e6.free hT htq) _
        have q1 : (upd H6 tq (.tup ([a, b', c, d].map V.int))) tq = some (.tup ([a, b', c, d].map V.int)) := upd_same
        refine ⟨b, _, _, rfl, rfl, x1.lst hT ht, small_line (by rw [List.length_map, pt.length]; have := rs.book; omega), k1 { r with book := r.book ++ [[a, b', c, d]] } ?_ _ ?_ ?_⟩
        · unfold KM.rdNeed
          rw [hv1]
          dsimp only
          rw [hv2]
          dsimp only
          rw [hv3]
          dsimp only
          rw [if_neg nca, hord]
          dsimp only
          rw [hv4]
          dsimp only
          rw [he]
        · exact (x1.toS _).trans (ExtS.own (x1.ok hT) (by simp) (x1.lst hT ht) (fun _ z => nomatch z) _)
        · have r1 := ra.ext hT x1
          have ptz : Paired (fun b r => TupI (upd H6 tq (.tup ([a, b', c, d].map V.int))) b r) as r.book := Paired.mapP pt fun b r q => TupI.ext q hT x1
          obtain ⟨dy, hy⟩ := r1.hp
          have tt := x1.lst hT ht
          exact ⟨⟨dy, by rw [upd_ne (ne_of hy tt fun q => nomatch q)]; exact hy⟩, by rw [upd_ne ra.lb]; exact r1.hl, r1.hg.other ra.gb ⟨_, tt⟩, r1.ht.other ra.tb ⟨_, tt⟩, lst_snoc tt ptz nt q1, ra.lg, ra.lt, ra.lb, ra.gt, ra.gb, ra.tb⟩
      · unfold KM.rdNeed
        rw [hv1]
        dsimp only
        rw [hv2]
        dsimp only
        rw [hv3]
        dsimp only
        rw [if_neg nca, hord]
        dsimp only
        rw [hv4]
        dsimp only
        rw [he]
    refine ⟨_, rfl, p, C, dx, _, _, rfl, hp5, R.cl, R.book, fs_book, _, .inl ⟨_, SqL.of ht5, rfl⟩, ite2 (fun c1 => ?_) (fun c1 => ?_)⟩
    · have hne2 : r.book ≠ [] := fun z => by
        have := pt.length
        rw [z] at this
        rw [List.length_eq_zero_iff.mp this] at c1
        cases c1
      obtain ⟨la, lr, hat, hlast, tlr, hmem⟩ := last_at pt hne2
      obtain ⟨d, e, f', x4, rfl⟩ := rs.fours lr hmem
      have tlr5 : H5 la = some (.tup ([d, e, f', x4].map V.int)) := e5.tup hT tlr
      have hl3 : KM.last3 r.book = some (d, e, f') := by unfold KM.last3; rw [hlast]
      have nwhole : ¬ (HT.sIx ([d, e, f', x4].map V.int).length 0 none = 0 ∧ HT.sIx ([d, e, f', x4].map V.int).length ([d, e, f', x4].map V.int).length (some 3) = ([d, e, f', x4].map V.int).length) := fun q => by
        have q2 : HT.sIx 4 4 (some 3) = 4 := q.2
        revert q2
        decide
      refine ⟨_, rfl, ph, _, rfl, .inl ⟨SqL.of g5, fun tq htq => ?_⟩⟩
      have htq0 : H tq = none := e5.free hT htq
      have e6 : Ext T H (upd H5 tq (.tup ([a, b', c].map V.int))) := e5.put hT htq0 _
      have g6 : (upd H5 tq (.tup ([a, b', c].map V.int))) ph = some (.lst ([a, b', c].map V.int)) := by rw [upd_ne (fun z => by rw [← z, g5] at htq; cases htq)]; exact g5
      have q6 : (upd H5 tq (.tup ([a, b', c].map V.int))) tq = some (.tup ([a, b', c].map V.int)) := upd_same
      show tOp _ _ _ _ (upd H5 tq (.tup ([a, b', c].map V.int))) _
      generalize upd H5 tq (.tup ([a, b', c].map V.int)) = H6 at e6 g6 q6
      have hp6 := e6.at_ hT hpx fun _ z => nomatch z
      have ht6 := e6.lst hT ht
      have tlr6 : H6 la = some (.tup ([d, e, f', x4].map V.int)) := e6.tup hT tlr
      refine ⟨_, rfl, p, C, dx, _, _, rfl, hp6, R.cl, R.book, fs_book, _, rfl, b, _, (-1), _, rfl, rfl, SqL.of ht6, hat, 3, rfl, la, _, rfl, SqT.of tlr6, nwhole, fun tz htz => ?_⟩
      have e7 : Ext T H (upd H6 tz (.tup ([d, e, f'].map V.int))) := e6.put hT (e6.free hT htz) _
      have nz : ∀ {x u}, H6 x = some u → x ≠ tz := fun q z => by rw [z, htz] at q; cases q
      have g7 : (upd H6 tz (.tup ([d, e, f'].map V.int))) ph = some (.lst ([a, b', c].map V.int)) := by rw [upd_ne (nz g6)]; exact g6
      have q7 : (upd H6 tz (.tup ([d, e, f'].map V.int))) tq = some (.tup ([a, b', c].map V.int)) := by rw [upd_ne (nz q6)]; exact q6
      have z7 : (upd H6 tz (.tup ([d, e, f'].map V.int))) tz = some (.tup ([d, e, f'].map V.int)) := upd_same
      refine ⟨tq, tz, [a, b', c], [d, e, f'], rfl, rfl, SqT.of q7, SqT.of z7, _, rfl, ?_⟩
      rw [lexAt3]
      show (if KM.le3 a b' c d e f' = true then _ else _)
      have hcut : cutV ([d, e, f', x4].map V.int) none (some 3) = [d, e, f'].map V.int := rfl
      rw [hcut]
      generalize upd H6 tz (.tup ([d, e, f'].map V.int)) = H7 at e7 g7 q7 z7
      refine ite2 (fun c2 => ?_) (fun c2 => ?_)
      · have hp7 := e7.at_ hT hpx fun _ z => nomatch z
        have ht7 := e7.lst hT ht
        have tlr7 : H7 la = some (.tup ([d, e, f', x4].map V.int)) := e7.tup hT tlr
        refine ⟨_, rfl, _, rfl, _, rfl, p, C, dx, _, _, rfl, hp7, R.cl, R.book, fs_book, _, rfl, b, _, (-1), _, rfl, rfl, SqL.of ht7, hat, 3, rfl, la, _, rfl, SqT.of tlr7, nwhole, fun ty hty => ?_⟩
        have e8 : Ext T H (upd H7 ty (.tup ([d, e, f'].map V.int))) := e7.put hT (e7.free hT hty) _
        have g8 : (upd H7 ty (.tup ([d, e, f'].map V.int))) ph = some (.lst ([a, b', c].map V.int)) := by rw [upd_ne (fun z => by rw [z, hty] at g7; cases g7)]; exact g7
        refine ⟨ph, ty, a, b', c, d, e, f', rfl, g8, upd_same, e8.ok hT, fun H9 e9 => ⟨_, _, rfl, rfl, bl_close (e9.ok (e8.ok hT)) ?_⟩⟩
        have er2 : KM.rdNeed r (ws.map tl) = .error (KM.fl3 a b' d e + 2) := by
          unfold KM.rdNeed
          rw [hv1]
          dsimp only
          rw [hv2]
          dsimp only
          rw [hv3]
          dsimp only
          rw [if_neg nca]
          unfold KM.orderE
          rw [hl3]
          dsimp only
          rw [if_pos c2]
        have := (k2 _ er2).to ((e8.trans e9).toS _)
        rw [show ((KM.fl3 a b' d e + 2 : Nat) : Int) = ((KM.fl3 a b' d e : Nat) : Int) + 2 by omega] at this
        exact this
      · have hord : KM.orderE a b' c r.book = .ok () := by
          unfold KM.orderE
          rw [hl3]
          dsimp only
          rw [if_neg c2]
        exact tail _ e7 g7 hord
    · have hne2 : r.book = [] := by
        have hl := pt.length
        cases as with
        | nil => exact List.length_eq_zero_iff.mp hl.symm
        | cons => exact absurd rfl c1
      refine tail _ e5 g5 ?_
      unfold KM.orderE KM.last3
      rw [hne2]
      rfl
end
end CW

namespace CW
open PySem PySem.Spec PyProof.Rows L2 GA TL
/-! ### a test that changes nothing and comes out as b -/
def Tst (t : TT) (σ : L2.St) (H : Hp) (b : Bool) : Prop := ∀ Q : Bool → Hp → Prop, Q b H → t σ H Q
section
variable {t u : TT} {σ : L2.St} {H : Hp} {b c : Bool} {x y : TS} {D : Ends}
theorem Tst.and (h1 : Tst t σ H b) (h2 : Tst u σ H c) : Tst (tAnd t u) σ H (b && c) := by
  intro Q q
  refine h1 _ ?_
  cases b with
  | true => exact iteT (h2 _ q)
  | false => exact iteF q
theorem Tst.not (h1 : Tst t σ H b) : Tst (tNot t) σ H (!b) := fun Q q => h1 _ q
theorem if_tst (h : Tst t σ H b) (k1 : b = true → x D σ H) (k2 : b = false → y D σ H) : tIfS t x y D σ H := by
  refine h _ ?_
  cases b with
  | true => exact iteT (k1 rfl)
  | false => exact iteF (k2 rfl)
end
theorem str_is (x : Str) (s : String) : decide (V.str x = V.str (Str.ofString s)) = decide (tl x = s.toList.map Char.toNat) := by
  refine decide_eq_decide.mpr ⟨fun h => ?_, fun h => ?_⟩
  · injection h with h
    rw [h]; exact tl_ofString s
  · rw [ext_tl (x := x) (y := Str.ofString s) (by rw [h, tl_ofString])]
section
variable {P : Program} {w : World} {K : PySem.W.Frag} {mg : Str → Option Value} {base : Heap} {T S : List Addr} {CL C : Addr} {H H0 : Hp}
theorem scRead : FnScope ["self", "words", "at"] ["self", "words", "at"] (defScope sRead) := ⟨rfl, rfl, rfl, by decide +kernel, rfl, by decide +kernel, by decide +kernel⟩
theorem and_t {a b : Bool} (h : (a && b) = true) : a = true ∧ b = true := Bool.and_eq_true_iff.mp h
theorem cal_read (D : MethAt K C "read" "ClockReader.read" sRead) (R : RCl K C) (B : Bl mg) (BL : BLAt K mg CL) (CT : MCal P w K mg base (L2.CX P w) C 3 "take" ["self", "words", "place", "low", "high", "at"] (spTake T CL))
    (CE : MCal P w K mg base (L2.CX P w) C 3 "need_end" ["self", "words", "many", "at"] (spEnd T CL)) (C1 : MCal P w K mg base (L2.CX P w) C 4 "read_wheel" ["self", "words", "at"] (spLine T CL C KM.rdWheel))
    (C2 : MCal P w K mg base (L2.CX P w) C 4 "read_touch" ["self", "words", "at"] (spLine T CL C KM.rdTouch)) (C3 : MCal P w K mg base (L2.CX P w) C 4 "read_need" ["self", "words", "at"] (spLine T CL C KM.rdNeed)) :
    MCal P w K mg base (L2.CX P w) C 5 "read" ["self", "words", "at"] (spLine T CL C KM.rdLine) := by
  refine D.calX scRead (fun _ _ _ _ _ _ us hl => match us, hl with | [_, _, _], _ => rfl) (fun vs H Q E h => ?_) (fun f cdv A outer s H vs Q E hr h => ?_)
  · obtain ⟨p, l, g, t, b, wa, ws, at_, r, n, rfl, _⟩ := h
    rfl
  · obtain ⟨p, l, g, t, b, wa, ws, at_, r, n, rfl, ra, rs, hn, hw, hne, hT, k1, k2⟩ := h
    have hpass : Passes (L2.CX P w) (cxOf (L2.CX P w) P w K mg base ["self", "words", "at"] "ClockReader.read" (defScope sRead) f cdv A outer s H E) E := passes_call (takes_of rfl rfl rfl rfl) (fun _ _ _ _ h => h)
    have hr3 : Room 3 (A.deeper (envOfC "ClockReader.read" (defScope sRead) s.heap.objs.size f cdv)) := hr.mono (by decide)
    refine ⟨_, pss_one (ps_if (PW.pt (pw_and (pt_cmpR op_eq (pe_ix ix_list (pv 1) pe_int (fun _ _ => rfl)) pe_str (nomark _)) (pw_and1 (pt_cmpR op_eq (pe_fld (pv 0) rfl) pe_int (nomark _)))))
        (pss_cons (ps_fld (pv 0) (pe_mcal CT R.cl (pv 0) hr3 hpass (pa_cons (pv 1) (pa_cons pe_int (pa_cons pe_int (pa_cons (pe_gint B.period) (pa_cons (pv 2) pa_nil)))))) rfl)
          (pss_one (ps_expr (pe_mcal CE R.cl (pv 0) hr3 hpass (pa_cons (pv 1) (pa_cons pe_int (pa_cons (pv 2) pa_nil)))))))
      (pss_one (ps_if (PW.pt (pw_and (pt_cmpR op_eq (pe_ix ix_list (pv 1) pe_int (fun _ _ => rfl)) pe_str (nomark _)) (pw_and (pt_cmpR op_gt (pe_fld (pv 0) rfl) pe_int (nomark _)) (pw_and (pt_not (pt_truth (pe_fld (pv 0) rfl) (by intro _; rfl))) (pw_and1 (pt_not (pt_truth (pe_fld (pv 0) rfl) (by intro _; rfl))))))))
        (pss_one (ps_expr (pe_mcal C1 R.cl (pv 0) hr hpass (pa_cons (pv 1) (pa_cons (pv 2) pa_nil)))))
      (pss_one (ps_if (PW.pt (pw_and (pt_cmpR op_eq (pe_ix ix_list (pv 1) pe_int (fun _ _ => rfl)) pe_str (nomark _)) (pw_and (pt_truth (pe_fld (pv 0) rfl) (by intro _; rfl)) (pw_and1 (pt_not (pt_truth (pe_fld (pv 0) rfl) (by intro _; rfl)))))))
        (pss_one (ps_expr (pe_mcal C2 R.cl (pv 0) hr hpass (pa_cons (pv 1) (pa_cons (pv 2) pa_nil)))))
      (pss_one (ps_if (PW.pt (pw_and (pt_cmpR op_eq (pe_ix ix_list (pv 1) pe_int (fun _ _ => rfl)) pe_str (nomark _)) (pw_and1 (pt_truth (pe_fld (pv 0) rfl) (by intro _; rfl)))))
        (pss_one (ps_expr (pe_mcal C3 R.cl (pv 0) hr hpass (pa_cons (pv 1) (pa_cons (pv 2) pa_nil)))))
      (pss_one (ps_raise rfl (takes_of rfl rfl rfl rfl) (pmk_bl BL (hr.mono (by decide)) rfl (pa_cons (pv 2) (pa_cons pe_int pa_nil)))))))))))), ?_⟩
    obtain ⟨dx, hpx⟩ := ra.hp
    obtain ⟨ats, ht1, ht2⟩ := ra.ht
    obtain ⟨abs, hb1, hb2⟩ := ra.hb
    have er : ExtS T [p, l, g, t, b] H H := (Ext.refl T H).toS _
    obtain ⟨w0, wr, hws⟩ : ∃ w0 wr, ws = w0 :: wr := by
      cases ws with
      | nil => exact absurd rfl hne
      | cons a b => exact ⟨a, b, rfl⟩
    have hlen1 : 1 ≤ ws.length := by rw [hws]; simp
    have h0 : ws[0]? = some w0 := by rw [hws]; rfl
    have hd : (ws.map tl).head? = some (tl w0) := by rw [hws]; rfl
    have et : (!(ats.map V.ref).isEmpty) = !decide (r.tch = []) := by
      have := ht2.length
      cases ats with
      | nil => rw [List.length_eq_zero_iff.mp this.symm]; rfl
      | cons x y =>
        have : r.tch ≠ [] := fun z => by rw [z] at this; cases this
        rw [decide_eq_false this]; rfl
    have eb : (!(abs.map V.ref).isEmpty) = !decide (r.book = []) := by
      have := hb2.length
      cases abs with
      | nil => rw [List.length_eq_zero_iff.mp this.symm]; rfl
      | cons x y =>
        have : r.book ≠ [] := fun z => by rw [z] at this; cases this
        rw [decide_eq_false this]; rfl
    have el : (!(r.lasts.map V.int).isEmpty) = !decide (r.lasts = []) := by
      cases r.lasts with
      | nil => rfl
      | cons x y => rfl
    refine if_tst (Tst.and (b := decide (tl w0 = KM.wPeriod)) (c := decide (V.int r.per = V.int 0)) (fun Q q => ?_) (fun Q q => ?_)) (fun c => ?_) (fun c1 => ?_)
    · refine ⟨_, rfl, wa, _, 0, _, rfl, rfl, SqL.of hw.at_, atI_str h0, rfl, _, rfl, ?_⟩
      rw [str_is]; exact q
    · exact ⟨_, rfl, p, C, dx, _, _, rfl, hpx, R.cl, R.period, fs_period, rfl, _, rfl, q⟩
    · obtain ⟨ca, cb⟩ := and_t c
      have ca := of_decide_eq_true ca
      have cb : r.per = 0 := by have := of_decide_eq_true cb; injection this
      have hc : (ws.map tl).head? = some KM.wPeriod ∧ r.per = 0 := ⟨by rw [hd, ca], cb⟩
      refine ⟨_, rfl, p, dx, _, rfl, hpx, fs_take, _, rfl, _, rfl, nil_i ?_⟩
      refine take_close (place := 1) (lo := 1) (hi := 12) hw hlen1 hT er (fun v hv1 ho1 H1 e1 => ?_) (fun hv => k2 _ ?e1)
      case e1 =>
        unfold KM.rdLine
        rw [if_pos hc, hv]
      have hp1 := e1.at_ hT hpx fun _ z => nomatch z
      refine ⟨_, rfl, p, C, dx, _, rfl, hp1, R.cl, R.period, (by show 5 < 1000; decide), ?_⟩
      rw [fs_put]
      have T1 := e1.ok hT
      have x2 : ExtS T [p, l, g, t, b] H (upd H1 p (.ins C dx (fsR v l g t b))) := (e1.toS _).trans (ExtS.own T1 (by simp) hp1 (fun _ z => nomatch z) _)
      have r1 := ra.ext hT e1
      have old : ∀ {a u}, H1 a = some u → (∀ q, u ≠ HO.ins C dx q) → (upd H1 p (.ins C dx (fsR v l g t b))) a = some u := fun {a u} q n => by
        rw [upd_ne (fun z => by rw [z, hp1] at q; exact n _ (Option.some.inj q).symm)]
        exact q
      have lst2 : ∀ {a rows}, LstT H1 a rows → LstT (upd H1 p (.ins C dx (fsR v l g t b))) a rows := fun {a rows} ⟨as, q1, q2⟩ => ⟨as, old q1 (fun _ z => nomatch z), Paired.mapP q2 fun b r q => old q (fun _ z => nomatch z)⟩
      have r2 : RdAt C (upd H1 p (.ins C dx (fsR v l g t b))) p l g t b { r with per := v } := ⟨⟨dx, upd_same⟩, old r1.hl (fun _ z => nomatch z), lst2 r1.hg, lst2 r1.ht, lst2 r1.hb, ra.lg, ra.lt, ra.lb, ra.gt, ra.gb, ra.tb⟩
      have w2 : Wds (upd H1 p (.ins C dx (fsR v l g t b))) wa ws := ⟨old (hw.ext hT e1).at_ (fun _ z => nomatch z), hw.len, hw.each⟩
      refine ⟨_, rfl, p, dx, _, rfl, upd_same, fs_end, _, rfl, _, rfl, nil_i ?_⟩
      refine end_close (many := 2) w2 (x2.ok hT) x2 (fun he => k1 _ ?_ _ x2 r2) (fun he => k2 _ ?_)
      · unfold KM.rdLine
        rw [if_pos hc, hv1]
        dsimp only
        rw [he]
      · unfold KM.rdLine
        rw [if_pos hc, hv1]
        dsimp only
        rw [he]
    have n1 : ¬ ((ws.map tl).head? = some KM.wPeriod ∧ r.per = 0) := fun q => by
      rw [hd] at q
      have q1 : tl w0 = KM.wPeriod := Option.some.inj q.1
      rw [decide_eq_true q1, decide_eq_true (by rw [q.2])] at c1
      cases c1
    refine if_tst (Tst.and (b := decide (tl w0 = KM.wWheel)) (fun Q q => ?_) (Tst.and (b := decide (0 < r.per)) (fun Q q => ?_) (Tst.and (Tst.not (b := !decide (r.tch = [])) (fun Q q => ?_)) (Tst.not (b := !decide (r.book = [])) (fun Q q => ?_))))) (fun c => ?_) (fun c2 => ?_)
    · refine ⟨_, rfl, wa, _, 0, _, rfl, rfl, SqL.of hw.at_, atI_str h0, rfl, _, rfl, ?_⟩
      rw [str_is]; exact q
    · exact ⟨_, rfl, p, C, dx, _, _, rfl, hpx, R.cl, R.period, fs_period, _, _, rfl, rfl, _, rfl, q⟩
    · exact ⟨_, rfl, p, C, dx, _, _, rfl, hpx, R.cl, R.touches, fs_touches, _, .inl ⟨_, SqL.of ht1, rfl⟩, by rw [et]; exact q⟩
    · exact ⟨_, rfl, p, C, dx, _, _, rfl, hpx, R.cl, R.book, fs_book, _, .inl ⟨_, SqL.of hb1, rfl⟩, by rw [eb]; exact q⟩
    · have hc : (ws.map tl).head? = some KM.wWheel ∧ 0 < r.per ∧ r.tch = [] ∧ r.book = [] := by
        simpa [hd] using c
      refine ⟨_, rfl, p, dx, _, rfl, hpx, fs_rw, _, rfl, _, rfl, nil_i ⟨p, l, g, t, b, wa, ws, at_, r, n, rfl, ra, rs, hn, hw, hne, hT, fun r' h' => k1 r' ?_, fun j h' => k2 j ?_⟩⟩
      · unfold KM.rdLine
        rw [if_neg n1, if_pos hc, h']
      · unfold KM.rdLine
        rw [if_neg n1, if_pos hc, h']
    have n2 : ¬ ((ws.map tl).head? = some KM.wWheel ∧ 0 < r.per ∧ r.tch = [] ∧ r.book = []) := fun q => by
      rw [hd] at q
      obtain ⟨q1, q2, q3, q4⟩ := q
      have q1 : tl w0 = KM.wWheel := Option.some.inj q1
      rw [decide_eq_true q1, decide_eq_true q2, decide_eq_true q3, decide_eq_true q4] at c2
      cases c2
    refine if_tst (Tst.and (b := decide (tl w0 = KM.wTouch)) (fun Q q => ?_) (Tst.and (b := !decide (r.lasts = [])) (fun Q q => ?_) (Tst.not (b := !decide (r.book = [])) (fun Q q => ?_)))) (fun c => ?_) (fun c3 => ?_)
    · refine ⟨_, rfl, wa, _, 0, _, rfl, rfl, SqL.of hw.at_, atI_str h0, rfl, _, rfl, ?_⟩
      rw [str_is]; exact q
    · exact ⟨_, rfl, p, C, dx, _, _, rfl, hpx, R.cl, R.lasts, fs_lasts, _, .inl ⟨_, SqL.of ra.hl, rfl⟩, by rw [el]; exact q⟩
    · exact ⟨_, rfl, p, C, dx, _, _, rfl, hpx, R.cl, R.book, fs_book, _, .inl ⟨_, SqL.of hb1, rfl⟩, by rw [eb]; exact q⟩
    · have hc : (ws.map tl).head? = some KM.wTouch ∧ r.lasts ≠ [] ∧ r.book = [] := by
        simpa [hd] using c
      refine ⟨_, rfl, p, dx, _, rfl, hpx, fs_rt, _, rfl, _, rfl, nil_i ⟨p, l, g, t, b, wa, ws, at_, r, n, rfl, ra, rs, hn, hw, hne, hT, fun r' h' => k1 r' ?_, fun j h' => k2 j ?_⟩⟩
      · unfold KM.rdLine
        rw [if_neg n1, if_neg n2, if_pos hc, h']
      · unfold KM.rdLine
        rw [if_neg n1, if_neg n2, if_pos hc, h']
    have n3 : ¬ ((ws.map tl).head? = some KM.wTouch ∧ r.lasts ≠ [] ∧ r.book = []) := fun q => by
      rw [hd] at q
      obtain ⟨q1, q2, q3⟩ := q
      have q1 : tl w0 = KM.wTouch := Option.some.inj q1
      rw [decide_eq_true q1, decide_eq_false q2, decide_eq_true q3] at c3
      cases c3
    refine if_tst (Tst.and (b := decide (tl w0 = KM.wNeed)) (c := !decide (r.lasts = [])) (fun Q q => ?_) (fun Q q => ?_)) (fun c => ?_) (fun c4 => ?_)
    · refine ⟨_, rfl, wa, _, 0, _, rfl, rfl, SqL.of hw.at_, atI_str h0, rfl, _, rfl, ?_⟩
      rw [str_is]; exact q
    · exact ⟨_, rfl, p, C, dx, _, _, rfl, hpx, R.cl, R.lasts, fs_lasts, _, .inl ⟨_, SqL.of ra.hl, rfl⟩, by rw [el]; exact q⟩
    · have hc : (ws.map tl).head? = some KM.wNeed ∧ r.lasts ≠ [] := by
        simpa [hd] using c
      refine ⟨_, rfl, p, dx, _, rfl, hpx, fs_rn, _, rfl, _, rfl, nil_i ⟨p, l, g, t, b, wa, ws, at_, r, n, rfl, ra, rs, hn, hw, hne, hT, fun r' h' => k1 r' ?_, fun j h' => k2 j ?_⟩⟩
      · unfold KM.rdLine
        rw [if_neg n1, if_neg n2, if_neg n3, if_pos hc, h']
      · unfold KM.rdLine
        rw [if_neg n1, if_neg n2, if_neg n3, if_pos hc, h']
    have n4 : ¬ ((ws.map tl).head? = some KM.wNeed ∧ r.lasts ≠ []) := fun q => by
      rw [hd] at q
      obtain ⟨q1, q2⟩ := q
      have q1 : tl w0 = KM.wNeed := Option.some.inj q1
      rw [decide_eq_true q1, decide_eq_false q2] at c4
      cases c4
    refine ⟨_, rfl, bl_close hT ((k2 1 ?_).to er)⟩
    unfold KM.rdLine
    rw [if_neg n1, if_neg n2, if_neg n3, if_neg n4]
/-! ### ClockReader() -/
def spInitR (C : Addr) : Sp := fun vs H Q _ => ∃ (p dx : Addr), vs = [.ref p] ∧ H p = some (.ins C dx []) ∧ ∀ (H' : Hp) (l g t b : Addr), (∀ a u, H a = some u → a ≠ p → H' a = some u) → (∀ a ∈ [l, g, t, b], H a = none) → RdAt C H' p l g t b KM.rd0 → Q .non H'
theorem scInitR : FnScope ["self"] ["self"] (defScope sInit) := ⟨rfl, rfl, rfl, by decide +kernel, rfl, by decide +kernel, by decide +kernel⟩
theorem cal_initR (D : MethAt K C "__init__" "ClockReader.__init__" sInit) (R : RCl K C) : MCal P w K mg base CX0 C 1 "__init__" ["self"] (spInitR C) := by
  refine D.cal scInitR (fun _ _ _ _ _ _ us hl => match us, hl with | [_], _ => rfl) (fun vs H Q E h => ?_) (fun f cdv A outer s H vs Q E hr h => ?_)
  · obtain ⟨p, dx, rfl, _⟩ := h
    rfl
  · obtain ⟨p, dx, rfl, hp, k⟩ := h
    refine ⟨_, pss_cons (ps_fld (pv 0) pe_int rfl) (pss_cons (ps_fld (pv 0) (pe_lst pa_nil) rfl) (pss_cons (ps_fld (pv 0) (pe_lst pa_nil) rfl) (pss_cons (ps_fld (pv 0) (pe_lst pa_nil) rfl) (pss_one (ps_fld (pv 0) (pe_lst pa_nil) rfl))))), ?_⟩
    refine ⟨_, rfl, p, C, dx, [], rfl, hp, R.cl, R.period, (by show 0 < 1000; decide), ?_⟩
    refine ⟨Nat.zero_le _, fun l hl => ⟨_, rfl, p, C, dx, _, rfl, (by rw [upd_ne (fun z => by rw [← z, upd_same] at hl; cases hl), upd_same]), R.cl, R.lasts, (by show 1 < 1000; decide), ?_⟩⟩
    have npl : p ≠ l := fun z => by rw [← z, upd_same] at hl; cases hl
    have hl0 : H l = none := by rw [upd_ne npl.symm] at hl; exact hl
    refine ⟨Nat.zero_le _, fun g hg => ?_⟩
    have npg : p ≠ g := fun z => by rw [← z, upd_same] at hg; cases hg
    rw [upd_ne npg.symm] at hg
    have nlg : l ≠ g := fun z => by rw [← z, upd_same] at hg; cases hg
    rw [upd_ne nlg.symm, upd_ne npg.symm] at hg
    refine ⟨_, rfl, p, C, dx, _, rfl, (by rw [upd_ne npg, upd_same]), R.cl, R.gaps, (by show 2 < 1000; decide), ?_⟩
    refine ⟨Nat.zero_le _, fun t ht => ?_⟩
    have npt : p ≠ t := fun z => by rw [← z, upd_same] at ht; cases ht
    rw [upd_ne npt.symm] at ht
    have ngt : g ≠ t := fun z => by rw [← z, upd_same] at ht; cases ht
    rw [upd_ne ngt.symm, upd_ne npt.symm] at ht
    have nlt : l ≠ t := fun z => by rw [← z, upd_same] at ht; cases ht
    rw [upd_ne nlt.symm, upd_ne npt.symm] at ht
    refine ⟨_, rfl, p, C, dx, _, rfl, (by rw [upd_ne npt, upd_same]), R.cl, R.touches, (by show 3 < 1000; decide), ?_⟩
    refine ⟨Nat.zero_le _, fun b hb => ?_⟩
    have npb : p ≠ b := fun z => by rw [← z, upd_same] at hb; cases hb
    rw [upd_ne npb.symm] at hb
    have ntb : t ≠ b := fun z => by rw [← z, upd_same] at hb; cases hb
    rw [upd_ne ntb.symm, upd_ne npb.symm] at hb
    have ngb : g ≠ b := fun z => by rw [← z, upd_same] at hb; cases hb
    rw [upd_ne ngb.symm, upd_ne npb.symm] at hb
    have nlb : l ≠ b := fun z => by rw [← z, upd_same] at hb; cases hb
    rw [upd_ne nlb.symm, upd_ne npb.symm] at hb
    refine ⟨_, rfl, p, C, dx, _, rfl, (by rw [upd_ne npb, upd_same]), R.cl, R.book, (by show 4 < 1000; decide), ?_⟩
    refine k _ l g t b (fun a u e n => ?_) (fun a ha => ?_) ⟨⟨dx, upd_same⟩, ?_, ⟨[], ?_, .nil⟩, ⟨[], ?_, .nil⟩, ⟨[], ?_, .nil⟩, nlg, nlt, nlb, ngt, ngb, ntb⟩
    · have q : ∀ {x}, H x = none → a ≠ x := fun h z => by rw [z, h] at e; cases e
      rw [upd_ne n, upd_ne (q hb), upd_ne n, upd_ne (q ht), upd_ne n, upd_ne (q hg), upd_ne n, upd_ne (q hl0), upd_ne n]
      exact e
    · rcases List.mem_cons.mp ha with rfl | ha
      · exact hl0
      rcases List.mem_cons.mp ha with rfl | ha
      · exact hg
      rcases List.mem_cons.mp ha with rfl | ha
      · exact ht
      · rw [List.mem_singleton.mp ha]; exact hb
    · rw [upd_ne npl.symm, upd_ne nlb, upd_ne npl.symm, upd_ne nlt, upd_ne npl.symm, upd_ne nlg, upd_ne npl.symm, upd_same]; rfl
    · rw [upd_ne npg.symm, upd_ne ngb, upd_ne npg.symm, upd_ne ngt, upd_ne npg.symm, upd_same]; rfl
    · rw [upd_ne npt.symm, upd_ne ntb, upd_ne npt.symm, upd_same]; rfl
    · rw [upd_ne npb.symm, upd_same]; rfl
end
end CW

/-! Plain: texts, their lines and words. -/
namespace KM
open PySem TL
/-- what stands between the signs c -/
def cutL (c : Nat) : List Nat → List Nat → List (List Nat)
  | acc, [] => [acc]
  | acc, x :: r => if x = c then acc :: cutL c [] r else cutL c (acc ++ [x]) r
theorem spl_cut (c : Nat) : ∀ (l acc : List Nat), spl [c] 0 acc l = cutL c acc l
  | [], acc => rfl
  | x :: r, acc => by
    show (if pre [c] (x :: r) = true then acc :: spl [c] 0 [] r else spl [c] 0 (acc ++ [x]) r) = (if x = c then acc :: cutL c [] r else cutL c (acc ++ [x]) r)
    have e : pre [c] (x :: r) = decide (x = c) := by
      unfold pre
      show ([x] == [c]) = _
      by_cases h : x = c
      · subst h; simp
      · simp [h]
    rw [e, spl_cut c r [], spl_cut c r (acc ++ [x])]
    by_cases h : x = c
    · rw [decide_eq_true h, if_pos rfl, if_pos h]
    · rw [decide_eq_false h, if_neg (by decide), if_neg h]
theorem cut_len (c : Nat) : ∀ (l acc : List Nat), (cutL c acc l).length ≤ l.length + 1
  | [], acc => by simp [cutL]
  | x :: r, acc => by
    unfold cutL
    split
    · have := cut_len c r []
      simp only [List.length_cons]; omega
    · have := cut_len c r (acc ++ [x])
      simp only [List.length_cons]; omega
theorem cut_each (c : Nat) : ∀ (l acc : List Nat), ∀ w ∈ cutL c acc l, w.length ≤ acc.length + l.length
  | [], acc => by
    intro w h
    simp [cutL] at h
    subst h; simp
  | x :: r, acc => by
    intro w h
    unfold cutL at h
    split at h
    · rcases List.mem_cons.mp h with e | h
      · subst e; simp
      · have := cut_each c r [] w h
        simp only [List.length_cons, List.length_nil] at this ⊢; omega
    · have := cut_each c r (acc ++ [x]) w h
      simp only [List.length_append, List.length_cons, List.length_nil] at this ⊢; omega
theorem cut_ne (c : Nat) (l acc : List Nat) : cutL c acc l ≠ [] := by
  induction l generalizing acc with
  | nil => simp [cutL]
  | cons x r ih =>
    unfold cutL
    split
    · simp
    · exact ih _
/-- the words of a line -/
def wordsOf (row : List Nat) : List Wd := (cutL 32 [] row).filter fun w => decide (w ≠ [])
/-- the lines of a text -/
def linesOf (t : List Nat) : List (List Nat) := cutL 10 [] t
/-- what a text tells -/
def rdText (t : List Nat) : Except (Nat × Nat) Rd := rdClock ((linesOf t).map wordsOf)
theorem split_nl {x y : Str} {c : Nat} (ey : tl y = [c]) (hk : y.cps.all (· < 256) = true) : (Txt.split x y).map tl = cutL c [] (tl x) := by
  rw [split_spl x y (by rw [ey]; simp) (kind_ok hk), ey, spl_cut]
theorem takeE_ok {ws : List Wd} {place : Nat} {lo hi v : Int} (h : takeE ws place lo hi = .ok v) : takeO ws place lo hi = some v := by
  unfold takeE at h
  cases e : takeO ws place lo hi with
  | none => rw [e] at h; cases h
  | some u => rw [e] at h; injection h with h; rw [h]
theorem takeE_err {ws : List Wd} {place j : Nat} {lo hi : Int} (h : takeE ws place lo hi = .error j) : j = place + 1 ∧ takeO ws place lo hi = none := by
  unfold takeE at h
  cases e : takeO ws place lo hi with
  | none => rw [e] at h; injection h with h; exact ⟨h.symm, rfl⟩
  | some u => rw [e] at h; cases h
theorem takeE_rng {ws : List Wd} {place : Nat} {lo hi v : Int} (h : takeE ws place lo hi = .ok v) : ∃ w, ws[place]? = some w ∧ w = num v ∧ 0 ≤ v ∧ lo ≤ v ∧ v ≤ hi ∧ v < 1000000 := by
  have h := takeE_ok h
  unfold takeO at h
  cases e : ws[place]? with
  | none => rw [e] at h; cases h
  | some w =>
    rw [e] at h
    exact ⟨w, rfl, numIn_word (w := w) (lo := lo) (hi := hi) h⟩
theorem endE_ok {ws : List Wd} {many : Nat} {u : Unit} (h : endE ws many = .ok u) : ws.length ≤ many := by
  unfold endE at h
  split at h
  · cases h
  · omega
/-- the readings of one line, each step told -/
theorem rdWheel_ok {r r' : Rd} {ws : List Wd} (h : rdWheel r ws = .ok r') : ∃ last ph, r.lasts.length ≠ 12 ∧ takeE ws 1 0 (minI 4 (24 - r.lasts.sum)) = .ok last ∧ phasesE ws (r.per - 1) ((max ws.length (if 0 < last then 3 else 2)) - 2) 2 0 = .ok ph ∧ r' = { r with lasts := r.lasts ++ [last], gaps := r.gaps ++ [ph] } := by
  unfold rdWheel at h
  split at h
  · cases h
  · rename_i h12
    split at h
    · cases h
    · rename_i last h1
      split at h
      · cases h
      · rename_i ph h2
        injection h with h
        exact ⟨last, ph, h12, h1, h2, h.symm⟩
theorem rdTouch_ok {r r' : Rd} {ws : List Wd} (h : rdTouch r ws = .ok r') : ∃ a b c u, takeE ws 1 0 (r.per - 1) = .ok a ∧ takeE ws 2 0 ((r.lasts.length : Int) - 1) = .ok b ∧ takeE ws 3 (b + 1) ((r.lasts.length : Int) - 1) = .ok c ∧ orderE a b c r.tch = .ok u ∧ endE ws 4 = .ok u ∧ r' = { r with tch := r.tch ++ [[a, b, c]] } := by
  unfold rdTouch at h
  split at h
  · cases h
  · rename_i a h1
    split at h
    · cases h
    · rename_i b h2
      split at h
      · cases h
      · rename_i c h3
        split at h
        · cases h
        · rename_i u h4
          split at h
          · cases h
          · rename_i u2 h5
            injection h with h
            exact ⟨a, b, c, (), h1, h2, h3, h4, h5, h.symm⟩
theorem rdNeed_ok {r r' : Rd} {ws : List Wd} (h : rdNeed r ws = .ok r') : ∃ a b c d u, takeE ws 1 0 ((r.lasts.length : Int) - 1) = .ok a ∧ takeE ws 2 1 (lastOf r a) = .ok b ∧ takeE ws 3 0 ((r.lasts.length : Int) - 1) = .ok c ∧ c ≠ a ∧ orderE a b c r.book = .ok u ∧ takeE ws 4 1 (lastOf r c) = .ok d ∧ endE ws 5 = .ok u ∧ r' = { r with book := r.book ++ [[a, b, c, d]] } := by
  unfold rdNeed at h
  split at h
  · cases h
  · rename_i a h1
    split at h
    · cases h
    · rename_i b h2
      split at h
      · cases h
      · rename_i c h3
        split at h
        · cases h
        · rename_i hca
          split at h
          · cases h
          · rename_i u h4
            split at h
            · cases h
            · rename_i d h5
              split at h
              · cases h
              · rename_i u2 h6
                injection h with h
                exact ⟨a, b, c, d, (), h1, h2, h3, hca, h4, h5, h6, h.symm⟩
theorem rdLine_ok {r r' : Rd} {ws : List Wd} (h : rdLine r ws = .ok r') :
    (∃ v u, ws.head? = some wPeriod ∧ r.per = 0 ∧ takeE ws 1 1 12 = .ok v ∧ endE ws 2 = .ok u ∧ r' = { r with per := v }) ∨
    (ws.head? = some wWheel ∧ 0 < r.per ∧ r.tch = [] ∧ r.book = [] ∧ rdWheel r ws = .ok r') ∨
    (ws.head? = some wTouch ∧ r.lasts ≠ [] ∧ r.book = [] ∧ rdTouch r ws = .ok r') ∨
    (ws.head? = some wNeed ∧ r.lasts ≠ [] ∧ rdNeed r ws = .ok r') := by
  unfold rdLine at h
  split at h
  · rename_i c
    split at h
    · cases h
    · rename_i v h1
      split at h
      · cases h
      · rename_i u h2
        injection h with h
        exact .inl ⟨v, (), c.1, c.2, h1, h2, h.symm⟩
  · split at h
    · rename_i c
      exact .inr (.inl ⟨c.1, c.2.1, c.2.2.1, c.2.2.2, h⟩)
    · split at h
      · rename_i c
        exact .inr (.inr (.inl ⟨c.1, c.2.1, c.2.2, h⟩))
      · split at h
        · rename_i c
          exact .inr (.inr (.inr ⟨c.1, c.2, h⟩))
        · cases h
end KM

namespace CW
open PySem PySem.Spec PyProof.Rows L2 GA TL
theorem RdS.line {n : Nat} {r r' : KM.Rd} {ws : List KM.Wd} (s : RdS n r) (h : KM.rdLine r ws = .ok r') : RdS (n + 1) r' := by
  rcases KM.rdLine_ok h with ⟨v, u, _, _, h1, _, rfl⟩ | ⟨_, _, _, _, h1⟩ | ⟨_, _, _, h1⟩ | ⟨_, _, h1⟩
  · obtain ⟨w, _, _, q1, q2, q3, _⟩ := KM.takeE_rng h1
    exact ⟨⟨q1, q3⟩, s.lasts, s.four, s.gaps, Nat.le_succ_of_le s.tch, Nat.le_succ_of_le s.book, s.three, s.fours⟩
  · obtain ⟨last, ph, h12, q1, q2, rfl⟩ := KM.rdWheel_ok h1
    obtain ⟨w, _, _, z1, z2, z3, _⟩ := KM.takeE_rng q1
    refine ⟨s.per, ?_, fun x hx => ?_, ?_, Nat.le_succ_of_le s.tch, Nat.le_succ_of_le s.book, s.three, s.fours⟩
    · have := s.lasts
      show (r.lasts ++ [last]).length ≤ 12
      rw [List.length_append, List.length_singleton]
      omega
    · rcases List.mem_append.mp hx with h | h
      · exact s.four x h
      · rw [List.mem_singleton.mp h]
        refine ⟨z1, ?_⟩
        unfold KM.minI at z3
        split at z3 <;> omega
    · show (r.gaps ++ [ph]).length = (r.lasts ++ [last]).length
      rw [List.length_append, List.length_append, s.gaps]
      rfl
  · obtain ⟨a, b, c, u, _, _, _, _, _, rfl⟩ := KM.rdTouch_ok h1
    refine ⟨s.per, s.lasts, s.four, s.gaps, ?_, Nat.le_succ_of_le s.book, fun x hx => ?_, s.fours⟩
    · show (r.tch ++ [[a, b, c]]).length ≤ n + 1
      rw [List.length_append]
      exact Nat.add_le_add_right s.tch 1
    · rcases List.mem_append.mp hx with h | h
      · exact s.three x h
      · exact ⟨a, b, c, List.mem_singleton.mp h⟩
  · obtain ⟨a, b, c, d, u, _, _, _, _, _, _, _, rfl⟩ := KM.rdNeed_ok h1
    refine ⟨s.per, s.lasts, s.four, s.gaps, Nat.le_succ_of_le s.tch, ?_, s.three, fun x hx => ?_⟩
    · show (r.book ++ [[a, b, c, d]]).length ≤ n + 1
      rw [List.length_append]
      exact Nat.add_le_add_right s.book 1
    · rcases List.mem_append.mp hx with h | h
      · exact s.fours x h
      · exact ⟨a, b, c, d, List.mem_singleton.mp h⟩
theorem drop_get {α : Type} {l : List α} {i : Nat} {x : α} (h : l[i]? = some x) : l.drop i = x :: l.drop (i + 1) := by
  obtain ⟨hi, e⟩ := List.getElem?_eq_some_iff.mp h
  rw [List.drop_eq_getElem_cons hi, e]
def clkOf (r : KM.Rd) : Clk := ⟨r.per, r.lasts, r.tch, r.gaps, r.book⟩
structure RMk (K : PySem.W.Frag) (mg : Str → Option Value) (C : Addr) : Prop where
  makes : PySem.W.makesIn K C = true
  kp : PySem.W.keepIn K (.ref C) = true
  m : mg "ClockReader" = some (.ref C)
def spReadC (T : List Addr) (CL CS : Addr) : Sp := fun vs H Q E => TOk T H ∧ ((∃ x : Str, vs = [.str x] ∧ x.length ≤ 90000 ∧
    (∀ r, KM.rdText (tl x) = .ok r → ∀ (H' : Hp) (a : Addr), Ext T H H' → ClkAt H' a (clkOf r) → Q (.ref a) H') ∧ (∀ l j, KM.rdText (tl x) = .error (l, j) → Raised T CL H (l : Nat) (j : Nat) E)) ∨
  (∃ i : Int, vs = [.int i] ∧ E (.ref CS) none H))
theorem scReadC : FnScope ["text", "reader", "rows", "at", "row", "words", "word"] ["text"] (defScope sReadC) := ⟨rfl, rfl, rfl, by decide +kernel, rfl, by decide +kernel, by decide +kernel⟩
theorem tl_nl : tl (Str.ofString "\n") = [10] := by decide +kernel
theorem tl_sp : tl (Str.ofString " ") = [32] := by decide +kernel
def nonE (w : Str) : Bool := decide (tl w ≠ [])
theorem tl_em : tl (Str.ofString "") = [] := by decide +kernel
section
variable {P : Program} {w : World} {K : PySem.W.Frag} {mg : Str → Option Value} {base : Heap} {T S : List Addr} {CL CS C : Addr} {H H0 : Hp}
theorem cal_readc {bmB : List Value} {Bx newId initId : String} (D : DefAt K mg "read_clock" sReadC) (R : RCl K C) (M : RMk K mg C) (B : Bl mg) (BL : BLAt K mg CL) (BS : BSAt K mg CS bmB Bx newId initId) (CI : MCal P w K mg base CX0 C 1 "__init__" ["self"] (spInitR C))
    (CR : MCal P w K mg base (L2.CX P w) C 5 "read" ["self", "words", "at"] (spLine T CL C KM.rdLine)) :
    Cal P w K mg base (L2.CX P w) 6 "read_clock" ["text"] (spReadC T CL CS) := by
  refine D.calX scReadC (fun _ _ _ _ _ _ us hl => match us, hl with | [_], _ => rfl) (fun vs H Q E h => ?_) (fun f cdv A outer s H vs Q E hr h => ?_)
  · obtain ⟨_, ⟨x, rfl, _⟩ | ⟨i, rfl, _⟩⟩ := h <;> rfl
  · have hpass : Passes (L2.CX P w) (cxOf (L2.CX P w) P w K mg base ["text", "reader", "rows", "at", "row", "words", "word"] "read_clock" (defScope sReadC) f cdv A outer s H E) E := passes_call (takes_of rfl rfl rfl rfl) (fun _ _ _ _ h => h)
    obtain ⟨fi, fdi, FI, mi, bi⟩ := CI.ex
    refine ⟨_, pss_cons (ps_if (pt_not (pt_val (pe_isi (T := "str") B (pv 0) B.str (by decide +kernel)))) (pss_one (ps_raise rfl (takes_of rfl rfl rfl rfl) (pmk_own0 BS.F BS.q BS.m BS.k (raises_own BS.s BS.t) rfl))) pss_nil)
      (pss_cons (ps_par (i := 1) (j := 2) rfl scReadC.nd rfl rfl (by decide) rfl rfl (pa_cons (pe_make0 ⟨M.makes, mi.at_, mi.fn, M.kp⟩ FI (hr.mono (by decide)) rfl M.m bi .nil pass0) (pa_cons (pe_m1 PySem.F.slot_str_split PySem.F.type_str_split mt_split (pv 0) pe_str) pa_nil)) (by rfl))
      (pss_cons (ps_for (passes_of rfl) rfl (pi_enum rfl B.enum (pa_cons (pv 2) pa_nil)) (pg_tup rfl (pgs_cons (pg_name (i := 3) scReadC.nd rfl (Or.inl rfl)) (pgs_cons (pg_name (i := 4) scReadC.nd rfl (Or.inl rfl)) pgs_nil)))
        (pss_cons (ps_setLc (i := 5) (own := [("word", 6)]) (g := gName 6) (tt := tTest (tOp rNe (tVar 6) (tC (.str "")))) (te := tVar 6) rfl scReadC.nd rfl rfl (by rfl) (pi_list (pe_m1 PySem.F.slot_str_split PySem.F.type_str_split mt_split (pv 4) pe_str)) (blkOk_by (N := ["text", "reader", "rows", "at", "row", "words", "word"]) (sc := defScope sReadC) (by decide +kernel))
            (fun _ _ _ _ _ => pg_name (i := 6) scReadC.nd rfl (Or.inl rfl)) (fun _ _ _ _ _ => pts_one (pt_cmpR op_ne (pv 6) pe_str (nomark _))) (fun _ _ _ _ _ => pv 6))
        (pss_one (ps_if (pt_truth (pv 5) (by intro _; rfl)) (pss_one (ps_expr (pe_mcal CR R.cl (pv 1) hr hpass (pa_cons (pv 5) (pa_cons (pe_op op_add (pv 3) pe_int) pa_nil))))) pss_nil))))
      (pss_cons (ps_if (pt_not (pt_truth (pe_fld (pv 1) rfl) (by intro _; rfl))) (pss_one (ps_raise rfl (takes_of rfl rfl rfl rfl) (pmk_bl BL (hr.mono (by decide)) rfl (pa_cons (pe_op op_add (pe_callB call_len (by rfl) B.len PySem.boot_len (pa_cons (pv 2) pa_nil)) pe_int) (pa_cons pe_int pa_nil))))) pss_nil)
      (pss_one (ps_ret (pe_tup (pa_cons (pe_fld (pv 1) rfl) (pa_cons (pe_callTy call_tuple_of (by rfl) B.tuple (by decide +kernel) (pa_cons (pe_fld (pv 1) rfl) pa_nil)) (pa_cons (pe_callTy call_tuple_of (by rfl) B.tuple (by decide +kernel) (pa_cons (pe_fld (pv 1) rfl) pa_nil)) (pa_cons (pe_callTy call_tuple_of (by rfl) B.tuple (by decide +kernel) (pa_cons (pe_fld (pv 1) rfl) pa_nil)) (pa_cons (pe_callTy call_tuple_of (by rfl) B.tuple (by decide +kernel) (pa_cons (pe_fld (pv 1) rfl) pa_nil)) pa_nil))))))))))), ?_⟩
    obtain ⟨hT, ⟨x, rfl, hz, k1, k2⟩ | ⟨i, rfl, k⟩⟩ := h
    case inr => exact ⟨_, rfl, _, _, _, _, rfl, ty_int i, kb_int_str, false, rfl, iteT k⟩
    refine ⟨_, rfl, _, _, _, _, rfl, ty_str x, kb_str_str, true, rfl, iteF ?_⟩
    refine fun p dx np ndx nex => ⟨p, dx, rfl, upd_same, fun H1 l g t b kp fr rd => ⟨rfl, ?_⟩⟩
    have em : Ext T H (upd (upd H dx (.own p)) p (.ins C dx [])) := (Ext.new hT ndx _).put hT np _
    have e1 : Ext T H H1 := ⟨fun b o q n => kp b o (em.keep b o q n) (fun z => by rw [z, np] at q; cases q), fun Pq hP tb => by
      obtain ⟨ps, z1, z2⟩ := em.tab Pq hP tb
      exact ⟨ps, kp Pq _ z1 (fun z => by rw [z, upd_same] at z1; cases z1), z2⟩⟩
    have fresh : ∀ a ∈ [p, l, g, t, b], H a = none := fun a ha => by
      rcases List.mem_cons.mp ha with rfl | ha
      · exact np
      · exact em.free hT (fr a ha)
    refine ⟨_, rfl, ⟨_, rfl⟩, x, _, rfl, rfl, by decide +kernel, (by rw [sizeLine_eq]; omega), fun rows hrows => ⟨_, _, rfl, ?_⟩⟩
    have e2 : Ext T H (upd H1 rows (.lst ((Txt.split x (Str.ofString "\n")).map V.str))) := e1.put hT (e1.free hT hrows) _
    have hT1 := e1.ok hT
    have rd1 : RdAt C (upd H1 rows (.lst ((Txt.split x (Str.ofString "\n")).map V.str))) p l g t b KM.rd0 := rd.ext hT1 (Ext.new hT1 hrows _)
    have hr0 : (upd H1 rows (.lst ((Txt.split x (Str.ofString "\n")).map V.str))) rows = some (.lst ((Txt.split x (Str.ofString "\n")).map V.str)) := upd_same
    have nrS : rows ∉ [p, l, g, t, b] := fun h => by
      obtain ⟨dy, hy⟩ := rd.hp
      obtain ⟨_, hg, _⟩ := rd.hg
      obtain ⟨_, ht, _⟩ := rd.ht
      obtain ⟨_, hb, _⟩ := rd.hb
      simp only [List.mem_cons, List.not_mem_nil, or_false] at h
      rcases h with h | h | h | h | h
      · rw [h, hy] at hrows; cases hrows
      · rw [h, rd.hl] at hrows; cases hrows
      · rw [h, hg] at hrows; cases hrows
      · rw [h, ht] at hrows; cases hrows
      · rw [h, hb] at hrows; cases hrows
    generalize hHr : upd H1 rows (.lst ((Txt.split x (Str.ofString "\n")).map V.str)) = Hr at e2 rd1 hr0
    have hTr := e2.ok hT
    have hrs : (Txt.split x (Str.ofString "\n")).map tl = KM.linesOf (tl x) := KM.split_nl tl_nl (by decide +kernel)
    generalize hrsd : Txt.split x (Str.ofString "\n") = rs at hrs hr0
    have hll : (KM.linesOf (tl x)).length ≤ 90001 := by
      have := KM.cut_len 10 (tl x) []
      have h2 := len_tl x
      unfold KM.linesOf
      omega
    have hrl : rs.length = (KM.linesOf (tl x)).length := by rw [← hrs, List.length_map]
    have hraise : ∀ (lno j : Nat), KM.rdText (tl x) = .error (lno, j) → RaisedS T [p, l, g, t, b] CL Hr (lno : Nat) (j : Nat) E := fun lno j h H' d e q => k2 lno j h H' d (e.toExt e2 hT fresh) q
    generalize hlines : (KM.linesOf (tl x)).map KM.wordsOf = lines
    have hlen : lines.length = rs.length := by rw [← hlines, List.length_map, hrl]
    have hRT : KM.rdText (tl x) = KM.rdClock lines := by rw [← hlines]; rfl
    have hline : ∀ (i : Nat) (row : Str), rs[i]? = some row → lines[i]? = some (KM.wordsOf (tl row)) := fun i row h => by
      rw [← hlines, ← hrs, List.getElem?_map, List.getElem?_map, h]
      rfl
    have hrow : ∀ (i : Nat) (row : Str), rs[i]? = some row → row.length ≤ 90000 := fun i row h => by
      have hm : tl row ∈ KM.linesOf (tl x) := by rw [← hrs]; exact List.mem_map_of_mem (List.mem_of_getElem? h)
      have h1 := KM.cut_each 10 (tl x) [] _ hm
      have h2 := len_tl x
      have h3 := len_tl row
      simp only [List.length_nil] at h1
      omega
    refine ⟨_, rfl, rows, _, rfl, SqL.of hr0, GB.for_enumL (K := K) (a := rows) (xs := rs.map V.str) (fun i σ H' => ∃ (v3 v4 v5 : Option V) (r : KM.Rd), σ = [some (.str x), some (.ref p), some (.ref rows), v3, v4, v5, none] ∧ ExtS T [p, l, g, t, b] Hr H' ∧ RdAt C H' p l g t b r ∧ RdS i r ∧ KM.rdLines KM.rd0 lines 1 = KM.rdLines r (lines.drop i) (i + 1))
      ⟨none, none, none, KM.rd0, rfl, (Ext.refl T Hr).toS _, rd1, ⟨⟨by decide, by decide⟩, by decide, (fun _ h => nomatch h), rfl, Nat.le_refl _, Nat.le_refl _, (fun _ h => nomatch h), (fun _ h => nomatch h)⟩, rfl⟩
      (fun i σ H' ⟨_, _, _, _, _, q, _⟩ => SqL.of (q.keep rows _ hr0 (hTr.out hr0 fun _ z => nomatch z) nrS)) ?_ ?_⟩
    · rintro i y Tq σ H2 hy ⟨v3, v4, v5, r, rfl, e3, rd3, rs3, hrl3⟩ hTq
      obtain ⟨row, hrw, rfl⟩ : ∃ row, rs[i]? = some row ∧ y = V.str row := by
        rw [List.getElem?_map] at hy
        cases e : rs[i]? with
        | none => rw [e] at hy; cases hy
        | some row => rw [e] at hy; exact ⟨row, rfl, (Option.some.inj hy).symm⟩
      have T2 := e3.ok hTr
      have e4 : Ext T H2 (upd H2 Tq (.tup [.int (i : Nat), .str row])) := Ext.new T2 hTq _
      refine ⟨Tq, _, rfl, SqT.of upd_same, rfl, _, _, rfl, _, _, rfl, rfl, ?_⟩
      generalize upd H2 Tq (.tup [.int (i : Nat), .str row]) = H3 at e4
      have T3 := e4.ok T2
      have hzr := hrow i row hrw
      refine ⟨_, rfl, ⟨_, rfl⟩, row, _, rfl, rfl, by decide +kernel, (by rw [sizeLine_eq]; omega), fun wl hwl => ?_⟩
      have e5 : Ext T H3 (upd H3 wl (.lst ((Txt.split row (Str.ofString " ")).map V.str))) := Ext.new T3 hwl _
      have hw0 : (upd H3 wl (.lst ((Txt.split row (Str.ofString " ")).map V.str))) wl = some (.lst ((Txt.split row (Str.ofString " ")).map V.str)) := upd_same
      refine ⟨wl, rfl, ⟨_, SqL.of hw0⟩, fun Dl hD => ?_⟩
      have hps : (Txt.split row (Str.ofString " ")).map tl = KM.cutL 32 [] (tl row) := KM.split_nl tl_sp (by decide +kernel)
      generalize upd H3 wl (.lst ((Txt.split row (Str.ofString " ")).map V.str)) = H4 at e5 hw0 hD
      generalize Txt.split row (Str.ofString " ") = ps at hps hw0
      have T4 := e5.ok T3
      have hpl : ps.length ≤ 90001 := by
        have h1 := KM.cut_len 32 (tl row) []
        have h2 := len_tl row
        rw [← hps, List.length_map] at h1
        omega
      have hpe : ∀ wd ∈ ps, wd.length ≤ 90000 := fun wd h => by
        have hm : tl wd ∈ KM.cutL 32 [] (tl row) := by rw [← hps]; exact List.mem_map_of_mem h
        have h1 := KM.cut_each 32 (tl row) [] _ hm
        have h2 := len_tl row
        have h3 := len_tl wd
        simp only [List.length_nil] at h1
        omega
      refine lc_list (K := K) (a := wl) (xs := ps.map V.str) (fun j H' => Ext T H4 H' ∧ H' Dl = some (.lst (((ps.take j).filter nonE).map V.str)))
        ⟨Ext.new T4 hD _, upd_same⟩ (fun j H' _ q => SqL.of (q.1.lst T4 hw0)) ?_ ?_
      · rintro j z H' hz' ⟨q1, q2⟩
        obtain ⟨wd, hwd, rfl⟩ : ∃ wd, ps[j]? = some wd ∧ z = V.str wd := by
          rw [List.getElem?_map] at hz'
          cases e : ps[j]? with
          | none => rw [e] at hz'; cases hz'
          | some row => rw [e] at hz'; exact ⟨row, rfl, (Option.some.inj hz').symm⟩
        refine ⟨rfl, _, rfl, rfl, _, rfl, ite2 (fun c => ⟨_, rfl, _, q2, small_line ?_, q1.put T4 hD _, ?_⟩) (fun c => ⟨q1, ?_⟩)⟩
        · rw [List.length_map]
          have := List.length_filter_le nonE (ps.take j)
          rw [List.length_take] at this
          omega
        · rw [str_is] at c
          have c : nonE wd = true := by
            unfold nonE
            rw [decide_not]
            exact c
          rw [upd_same, take_more hwd, List.filter_append, List.filter_cons, if_pos c, List.filter_nil, List.map_append]
          rfl
        · rw [str_is] at c
          have c : ¬ nonE wd = true := by
            unfold nonE
            rw [decide_not]
            exact c
          rw [take_more hwd, List.filter_append, List.filter_cons, if_neg c, List.filter_nil, List.append_nil]
          exact q2
      · rintro H5 ⟨q1, q2⟩
        rw [List.length_map, List.take_of_length_le (Nat.le_refl _)] at q2
        have e6 : Ext T H2 H5 := e4.trans (e5.trans q1)
        have T5 := e6.ok T2
        have hx : ExtS T [p, l, g, t, b] Hr H5 := e3.trans (e6.toS _)
        have rd5 := rd3.ext T2 e6
        obtain ⟨dy, hy5⟩ := rd5.hp
        have hws : (ps.filter nonE).map tl = KM.wordsOf (tl row) := by
          unfold KM.wordsOf
          rw [← hps, List.filter_map]
          rfl
        have hdrop : lines.drop i = KM.wordsOf (tl row) :: lines.drop (i + 1) := drop_get (hline i row hrw)
        have hi9 : i < 90001 := by have := lt_of_get hrw; omega
        have hk : ∀ wd ∈ ps.filter nonE, wd.length ≤ 1000000 := fun wd h => by
          have := hpe wd (List.mem_filter.mp h).1
          omega
        have hwl : (ps.filter nonE).length ≤ 100000 := by
          have := List.length_filter_le nonE ps
          omega
        rw [hdrop] at hrl3
        generalize hwd : ps.filter nonE = ws at q2 hws hk hwl
        refine ⟨_, rfl, _, .inl ⟨_, SqL.of q2, rfl⟩, ite2 (fun c => ?_) (fun c => ?_)⟩
        · have hne : ws ≠ [] := fun z => by rw [z] at c; cases c
          have hne2 : KM.wordsOf (tl row) ≠ [] := fun z => by rw [← hws] at z; exact hne (List.map_eq_nil_iff.mp z)
          refine ⟨_, rfl, p, dy, _, rfl, hy5, fs_read, _, rfl, _, rfl, _, _, rfl, rfl, nil_i ⟨p, l, g, t, b, Dl, ws, _, r, i, rfl, rd5, rs3, by omega, ⟨q2, hwl, hk⟩, hne, T5, fun r' h' H6 x6 rd6 => ?_, fun j h' => ?_⟩⟩
          · rw [hws] at h'
            refine ⟨_, _, _, r', rfl, hx.trans x6, rd6, rs3.line h', ?_⟩
            rw [hrl3]
            show (if KM.wordsOf (tl row) = [] then _ else _) = _
            rw [if_neg hne2, h']
          · rw [hws] at h'
            have : KM.rdText (tl x) = .error (i + 1, j) := by
              rw [hRT]
              unfold KM.rdClock
              rw [hrl3]
              show (match (if KM.wordsOf (tl row) = [] then _ else _ : Except (Nat × Nat) KM.Rd) with | .error e => _ | .ok r => _) = _
              rw [if_neg hne2, h']
            exact (hraise (i + 1) j this).toS hx
        · have hne : ws = [] := by
            cases ws with
            | nil => rfl
            | cons => exact absurd rfl c
          refine ⟨_, _, _, r, rfl, hx, rd5, ⟨rs3.per, rs3.lasts, rs3.four, rs3.gaps, Nat.le_succ_of_le rs3.tch, Nat.le_succ_of_le rs3.book, rs3.three, rs3.fours⟩, ?_⟩
          rw [hrl3]
          show (if KM.wordsOf (tl row) = [] then _ else _) = _
          rw [if_pos (by rw [← hws, hne]; rfl)]
    · rintro σ H' ⟨v3, v4, v5, r, rfl, e3, rd3, rs3, hrl3⟩
      rw [List.length_map] at rs3 hrl3
      have T3 := e3.ok hTr
      obtain ⟨dy, hy3⟩ := rd3.hp
      have hend : KM.rdLines KM.rd0 lines 1 = .ok r := by
        rw [hrl3, List.drop_eq_nil_of_le (by rw [hlen]; exact Nat.le_refl _)]
        rfl
      refine ⟨_, rfl, p, C, dy, _, _, rfl, hy3, R.cl, R.lasts, fs_lasts, _, .inl ⟨_, SqL.of rd3.hl, rfl⟩, ite2 (fun c => ?_) (fun c => ?_)⟩
      · have hl0 : r.lasts = [] := by
          cases h : r.lasts with
          | nil => rfl
          | cons => rw [h] at c; cases c
        have : KM.rdText (tl x) = .error (lines.length + 1, 1) := by
          rw [hRT]
          unfold KM.rdClock
          rw [hend]
          dsimp only
          rw [if_pos hl0]
        have hrr := (hraise _ _ this).to e3
        rw [hlen] at hrr
        exact ⟨_, rfl, _, rs.length, rfl, .inl ⟨_, SqL.of (e3.keep rows _ hr0 (hTr.out hr0 fun _ z => nomatch z) nrS), by rw [List.length_map]⟩, _, _, rfl, rfl, bl_close T3 hrr⟩
      · have hl0 : r.lasts ≠ [] := fun z => by
          rw [z] at c
          exact c rfl
        have hok : KM.rdText (tl x) = .ok r := by
          rw [hRT]
          unfold KM.rdClock
          rw [hend]
          dsimp only
          rw [if_neg hl0]
        have hx : Ext T H H' := e3.toExt e2 hT fresh
        obtain ⟨ag, hg1, hg2⟩ := rd3.hg
        obtain ⟨at', ht1, ht2⟩ := rd3.ht
        obtain ⟨ab, hb1, hb2⟩ := rd3.hb
        refine ⟨_, rfl, p, C, dy, _, _, rfl, hy3, R.cl, R.period, fs_period, ?_⟩
        refine ⟨_, rfl, p, C, dy, _, _, rfl, hy3, R.cl, R.lasts, fs_lasts, l, _, rfl, .inl ⟨SqL.of rd3.hl, fun ea hea => ?_⟩⟩
        have x1 : Ext T H' (upd H' ea (.tup (r.lasts.map V.int))) := Ext.new T3 hea _
        have z1 : TupI (upd H' ea (.tup (r.lasts.map V.int))) ea r.lasts := upd_same
        generalize upd H' ea (.tup (r.lasts.map V.int)) = Ha at x1 z1
        have Ta := x1.ok T3
        refine ⟨_, rfl, p, C, dy, _, _, rfl, x1.at_ T3 hy3 (fun _ z => nomatch z), R.cl, R.touches, fs_touches, t, _, rfl, .inl ⟨SqL.of (x1.lst T3 ht1), fun ta hta => ?_⟩⟩
        have x2 : Ext T Ha (upd Ha ta (.tup (at'.map V.ref))) := Ext.new Ta hta _
        have z2 : (upd Ha ta (.tup (at'.map V.ref))) ta = some (.tup (at'.map V.ref)) := upd_same
        generalize upd Ha ta (.tup (at'.map V.ref)) = Hb at x2 z2
        have Tb := x2.ok Ta
        have x12 := x1.trans x2
        refine ⟨_, rfl, p, C, dy, _, _, rfl, x12.at_ T3 hy3 (fun _ z => nomatch z), R.cl, R.gaps, fs_gaps, g, _, rfl, .inl ⟨SqL.of (x12.lst T3 hg1), fun ga hga => ?_⟩⟩
        have x3 : Ext T Hb (upd Hb ga (.tup (ag.map V.ref))) := Ext.new Tb hga _
        have z3 : (upd Hb ga (.tup (ag.map V.ref))) ga = some (.tup (ag.map V.ref)) := upd_same
        generalize upd Hb ga (.tup (ag.map V.ref)) = Hc at x3 z3
        have Tc := x3.ok Tb
        have x123 := x12.trans x3
        refine ⟨_, rfl, p, C, dy, _, _, rfl, x123.at_ T3 hy3 (fun _ z => nomatch z), R.cl, R.book, fs_book, b, _, rfl, .inl ⟨SqL.of (x123.lst T3 hb1), fun ba hba => ?_⟩⟩
        have x4 : Ext T Hc (upd Hc ba (.tup (ab.map V.ref))) := Ext.new Tc hba _
        have z4 : (upd Hc ba (.tup (ab.map V.ref))) ba = some (.tup (ab.map V.ref)) := upd_same
        show tNil _ (upd Hc ba (.tup (ab.map V.ref))) _
        generalize upd Hc ba (.tup (ab.map V.ref)) = Hd at x4 z4
        refine nil_i ⟨by show 5 ≤ sizeLine; decide, fun ca hca => ?_⟩
        have Td := x4.ok Tc
        have x1234 := x123.trans x4
        have x5 : Ext T Hd (upd Hd ca (.tup [.int r.per, .ref ea, .ref ta, .ref ga, .ref ba])) := Ext.new Td hca _
        have x34 := x3.trans x4
        have xe := (x2.trans x34).trans x5
        have xall := x1234.trans x5
        refine k1 r hok _ ca (hx.trans xall) ⟨ea, ta, ga, ba, upd_same, z1.ext Ta xe, ⟨at', (x34.trans x5).tup Tb z2, Paired.mapP ht2 fun b r q => TupI.ext q T3 xall⟩, ⟨ag, (x4.trans x5).tup Tc z3, Paired.mapP hg2 fun b r q => TupI.ext q T3 xall⟩, ⟨ab, x5.tup Td z4, Paired.mapP hb2 fun b r q => TupI.ext q T3 xall⟩⟩
end
end CW

namespace CW
open PySem PySem.Spec PyProof.Rows L2 GA TL
/-! ### numbers as texts, lines -/
def strI (i : Int) : Str := Str.ofString (toString i)
theorem tl_strI {i : Int} (h : 0 ≤ i) : tl (strI i) = KM.num i := by
  have e : i = ((i.toNat : Nat) : Int) := by omega
  unfold strI KM.num
  rw [e]
  exact tl_num i.toNat
theorem strI_len {i : Int} (h : 0 ≤ i) (h2 : i < 1000000) : (strI i).length ≤ 6 := by
  rw [len_tl, tl_strI h]
  unfold KM.num
  exact numL_len (k := 6) (by decide) (by omega)
theorem log_small {i : Int} (h : 0 ≤ i) (h2 : i < 1000000) : i.natAbs.log2 < 1920 := by
  have : i.natAbs.log2 < 20 := PySem.Flt.log2_lt_of (by decide) (by have : (2 : Nat) ^ 20 = 1048576 := by decide
                                                                    omega)
  omega
theorem sum_le {l : List Nat} {m : Nat} (h : ∀ x ∈ l, x ≤ m) : l.sum ≤ l.length * m := by
  induction l with
  | nil => simp
  | cons a t ih =>
    have h1 := h a (by simp)
    have h2 := ih fun x hx => h x (by simp [hx])
    rw [List.sum_cons, List.length_cons, Nat.add_mul]
    omega
theorem sum_len {l : List Str} {m : Nat} (h : ∀ x ∈ l, x.length ≤ m) : (l.map (·.length)).sum ≤ l.length * m := by
  have := sum_le (l := l.map (·.length)) (m := m) fun x hx => by
    obtain ⟨y, hy, rfl⟩ := List.mem_map.mp hx
    exact h y hy
  rw [List.length_map] at this
  exact this
theorem joinL_len (S : List Nat) : ∀ parts : List (List Nat), (joinL S parts).length ≤ (parts.map List.length).sum + parts.length * S.length
  | [] => by simp [joinL]
  | [p] => by simp [joinL]
  | p :: q :: r => by
    have ih := joinL_len S (q :: r)
    show (p ++ (S ++ joinL S (q :: r))).length ≤ _
    rw [List.length_append, List.length_append, List.map_cons, List.sum_cons, List.length_cons, Nat.add_mul]
    omega
theorem join_len (y : Str) (parts : List Str) : (Txt.join y parts).length ≤ (parts.map (·.length)).sum + parts.length * y.length := by
  rw [len_tl, join_eq, tl_join]
  have := joinL_len (tl y) (parts.map tl)
  rw [List.length_map, List.map_map] at this
  have e : (parts.map (List.length ∘ tl)) = parts.map (·.length) := List.map_congr_left fun x _ => (len_tl x).symm
  rw [e, ← len_tl] at this
  exact this
def rJoin (K : PySem.W.Frag) : V → List V → Hp → VK → Prop := fun x xs H Q => ∃ a p, ∃ ys : List Str, x = .str a ∧ xs = [.ref p] ∧ (SqL K H p (ys.map V.str) ∨ SqT K H p (ys.map V.str)) ∧
    (ys.map (·.length)).sum + ys.length * a.length ≤ 16777216 ∧ Q (.str (Txt.join a ys)) H
def rStrI : List V → Hp → VK → Prop := fun xs H Q => ∃ i, xs = [.int i] ∧ i.natAbs.log2 < 1920 ∧ Q (.str (Str.ofString (toString i))) H
abbrev tLine (K : PySem.W.Frag) (hd : TA) (a k : Nat) : TE := tM1 (rJoin K) (tC (.str " ")) (tOp rCat (tLst hd) (tLc (iTup K (tVar a)) (gName k) tYes (tCB rStrI (tCons (tVar k) tNil)) [k]))
/-- numbers that a text may tell -/
def Small (ns : List Int) : Prop := ns.length ≤ 2000 ∧ ∀ n ∈ ns, 0 ≤ n ∧ n < 1000000
def lineS (hs : List Str) (ns : List Int) : Str := Txt.join (Str.ofString " ") (hs ++ ns.map strI)
theorem str_idx {ns : List Int} {i : Nat} {x : V} (h : (ns.map V.int)[i]? = some x) : ∃ n, ns[i]? = some n ∧ x = .int n := mapI h
theorem line_len {hs : List Str} {ns : List Int} (s : Small ns) (h1 : hs.length ≤ 2) (h2 : ∀ x ∈ hs, x.length ≤ 6) : (lineS hs ns).length ≤ (hs.length + ns.length) * 7 := by
  unfold lineS
  have := join_len (Str.ofString " ") (hs ++ ns.map strI)
  have h3 := sum_len (l := hs ++ ns.map strI) (m := 6) fun x hx => by
    rcases List.mem_append.mp hx with h | h
    · exact h2 x h
    · obtain ⟨n, hn, rfl⟩ := List.mem_map.mp h
      exact strI_len (s.2 n hn).1 (s.2 n hn).2
  have h4 : (Str.ofString " ").length = 1 := by decide +kernel
  rw [h4] at this
  rw [List.length_append, List.length_map] at this h3
  omega
section
variable {P : Program} {w : World} {K : PySem.W.Frag} {mg : Str → Option Value} {base : Heap} {T S : List Addr} {H H0 : Hp}
theorem line_read {σ : L2.St} {a k : Nat} {ad : Addr} {ns : List Int} {hs : List Str} {hd : TA} {Q : VK} (hT : TOk T H) (hσ : σ[a]? = some (some (.ref ad))) (hw : ∀ x, wipe ((wipe σ [k]).set k (some x)) [k] = wipe σ [k]) (hv : ∀ x, ((wipe σ [k]).set k (some x))[k]? = some (some x))
    (hhd : ∀ (H : Hp) (Q : List V → Hp → Prop), Q (hs.map V.str) H → hd σ H Q) (ht : TupI H ad ns) (s : Small ns) (h1 : hs.length ≤ 2) (h2 : ∀ x ∈ hs, x.length ≤ 6) (kk : ∀ H', Ext T H H' → Q (.str (lineS hs ns)) H') : tLine K hd a k σ H Q := by
  refine ⟨⟨_, rfl⟩, hhd _ _ ⟨by rw [List.length_map, sizeLine_eq]; omega, fun p hp => ?_⟩⟩
  have e1 : Ext T H (upd H p (.lst (hs.map V.str))) := Ext.new hT hp _
  have T1 := e1.ok hT
  have p1 : (upd H p (.lst (hs.map V.str))) p = some (.lst (hs.map V.str)) := upd_same
  refine ⟨_, hσ, ad, rfl, ⟨_, SqT.of (e1.tup hT ht)⟩, fun D hD => ?_⟩
  have t1 : TupI (upd H p (.lst (hs.map V.str))) ad ns := TupI.ext ht hT e1
  have nDp : D ≠ p := fun z => by rw [z, p1] at hD; cases hD
  generalize upd H p (.lst (hs.map V.str)) = H1 at e1 T1 p1 t1 hD
  refine lc_tup (K := K) (a := ad) (xs := ns.map V.int) (fun i H' => Ext T H1 H' ∧ H' D = some (.lst (((ns.take i).map strI).map V.str))) ⟨Ext.new T1 hD _, upd_same⟩ (fun i H' _ q => SqT.of (q.1.tup T1 t1)) ?_ ?_
  · rintro i x H' hi ⟨e2, d2⟩
    obtain ⟨n, hn, rfl⟩ := mapI hi
    obtain ⟨b1, b2⟩ := s.2 n (List.mem_of_getElem? hn)
    refine ⟨hw _, _, hv _, n, rfl, log_small b1 b2, _, d2, small_line ?_, e2.put T1 hD _, ?_⟩
    · rw [List.length_map, List.length_map, List.length_take]
      have := s.1
      omega
    · rw [upd_same, take_more hn, List.map_append, List.map_append]
      rfl
  · rintro H2 ⟨e2, d2⟩
    rw [List.length_map, List.take_of_length_le (Nat.le_refl _)] at d2
    have p2 : H2 p = some (.lst (hs.map V.str)) := e2.lst T1 p1
    have e3 := e1.trans e2
    refine ⟨p, D, _, _, rfl, rfl, p2, d2, by rw [List.length_map, List.length_map, List.length_map, sizeLine_eq]; have := s.1; omega, fun q hq => ?_⟩
    refine ⟨_, q, hs ++ ns.map strI, rfl, rfl, .inl (SqL.of (by rw [upd_same, List.map_append])), ?_, kk _ (e3.put hT (e3.free hT hq) _)⟩
    have h3 := sum_len (l := hs ++ ns.map strI) (m := 6) fun x hx => by
      rcases List.mem_append.mp hx with h | h
      · exact h2 x h
      · obtain ⟨n, hn, rfl⟩ := List.mem_map.mp h
        exact strI_len (s.2 n hn).1 (s.2 n hn).2
    have h4 : (Str.ofString " ").length = 1 := by decide +kernel
    rw [h4]
    rw [List.length_append, List.length_map] at h3 ⊢
    have := s.1
    omega
end
section
variable {P : Program} {w : World} {K : PySem.W.Frag} {mg : Str → Option Value} {base : Heap} {T S : List Addr} {H H0 : Hp}
theorem rows_readW {σ : L2.St} {j k : Nat} {t : Addr} {hd : Str} {wi : TI} {rows : List (List Int)} {Q : VK} (hT : TOk T H) (hi : ∀ R : It → Hp → Prop, R (Itt K t) H → wi σ H R) (ht : TupT H t rows)
    (hw : ∀ x, wipe ((wipe σ [j]).set j (some x)) [j] = wipe σ [j]) (hv : ∀ x, ((wipe σ [j]).set j (some x))[j]? = some (some x))
    (hw2 : ∀ x y, wipe ((wipe ((wipe σ [j]).set j (some x)) [k]).set k (some y)) [k] = wipe ((wipe σ [j]).set j (some x)) [k]) (hv2 : ∀ x y, ((wipe ((wipe σ [j]).set j (some x)) [k]).set k (some y))[k]? = some (some y))
    (hl : rows.length ≤ 5000) (hs : ∀ r ∈ rows, Small r) (hh : hd.length ≤ 6) (kk : ∀ H' D, Ext T H H' → H D = none → H' D = some (.lst ((rows.map (lineS [hd])).map V.str)) → Q (.ref D) H') :
    tLc wi (gName j) tYes (tLine K (tCons (tC (.str hd)) tNil) j k) [j] σ H Q := by
  obtain ⟨as, ht1, ht2⟩ := ht
  refine hi _ fun D hD => ?_
  refine lc_tup (K := K) (a := t) (xs := as.map V.ref) (fun i H' => Ext T H H' ∧ H' D = some (.lst (((rows.take i).map (lineS [hd])).map V.str))) ⟨Ext.new hT hD _, upd_same⟩ (fun i H' _ q => SqT.of (q.1.tup hT ht1)) ?_ ?_
  · rintro i x H' hi ⟨e2, d2⟩
    obtain ⟨ra, hra, rfl⟩ := mapR hi
    obtain ⟨r, hr, tr⟩ := paired_get' ht2 hra
    have T2 := e2.ok hT
    refine ⟨hw _, ?_⟩
    refine line_read (hs := [hd]) T2 (hv _) (hw2 _) (hv2 _) (fun H Q q => q) (tr.ext hT e2) (hs r (List.mem_of_getElem? hr)) (by show 1 ≤ 2; decide) (fun x hx => by rw [List.mem_singleton.mp hx]; exact hh) (fun H3 e3 => ⟨_, e3.lst T2 d2, small_line ?_, (e2.trans e3).put hT hD _, ?_⟩)
    · rw [List.length_map, List.length_map, List.length_take]
      omega
    · rw [upd_same, take_more hr, List.map_append, List.map_append]
      rfl
  · rintro H2 ⟨e2, d2⟩
    rw [List.length_map, ht2.length, List.take_of_length_le (Nat.le_refl _)] at d2
    exact kk H2 D e2 hD d2
theorem rows_read {σ : L2.St} {j k : Nat} {a t : Addr} {hd : Str} {fld : Int} {xs : List V} {rows : List (List Int)} {Q : VK} (hT : TOk T H) (hσ : σ[0]? = some (some (.ref a))) (h0 : H a = some (.tup xs)) (hf : atI xs fld = some (.ref t)) (ht : TupT H t rows)
    (hw : ∀ x, wipe ((wipe σ [j]).set j (some x)) [j] = wipe σ [j]) (hv : ∀ x, ((wipe σ [j]).set j (some x))[j]? = some (some x))
    (hw2 : ∀ x y, wipe ((wipe ((wipe σ [j]).set j (some x)) [k]).set k (some y)) [k] = wipe ((wipe σ [j]).set j (some x)) [k]) (hv2 : ∀ x y, ((wipe ((wipe σ [j]).set j (some x)) [k]).set k (some y))[k]? = some (some y))
    (hl : rows.length ≤ 5000) (hs : ∀ r ∈ rows, Small r) (hh : hd.length ≤ 6) (kk : ∀ H' D, Ext T H H' → H D = none → H' D = some (.lst ((rows.map (lineS [hd])).map V.str)) → Q (.ref D) H') :
    tLc (iTup K (tOp (rIxT K) (tVar 0) (tC (.int fld)))) (gName j) tYes (tLine K (tCons (tC (.str hd)) tNil) j k) [j] σ H Q := by
  obtain ⟨as, ht1, _⟩ := id ht
  exact rows_readW hT (fun R q => ⟨_, hσ, a, _, _, _, rfl, rfl, SqT.of h0, hf, t, rfl, ⟨_, SqT.of ht1⟩, q⟩) ht hw hv hw2 hv2 hl hs hh kk
end
/-! ### write_clock -/
def rowsOf (c : Clk) : List Str := (Str.ofString "period " ++ strI c.per) :: ((c.eds.zip c.gaps).map fun p => lineS [Str.ofString "wheel", strI p.1] p.2) ++ c.tch.map (lineS [Str.ofString "touch"]) ++ c.book.map (lineS [Str.ofString "need"])
def clkText (c : Clk) : Str := Txt.join (Str.ofString "\n") (rowsOf c)
def spWriteC (T : List Addr) : Sp := fun vs H Q _ => ∃ (a : Addr) (c : Clk), vs = [.ref a] ∧ ClkAt H a c ∧ c.Ok ∧ TOk T H ∧ ∀ H', Ext T H H' → Q (.str (clkText c)) H'
theorem small_gap {per : Int} {r : List Int} (hp : per ≤ 12) (h : (∀ n ∈ r, 0 ≤ n ∧ n ≤ per - 1) ∧ RiseI r ∧ r.length ≤ 1000) : Small r := ⟨by omega, fun n hn => ⟨(h.1 n hn).1, by have := (h.1 n hn).2; omega⟩⟩
theorem small_tch {per : Int} {wh : Nat} {r : List Int} (hp : per ≤ 12) (hw : wh ≤ 12) (h : ∃ p i j : Int, r = [p, i, j] ∧ 0 ≤ p ∧ p ≤ per - 1 ∧ 0 ≤ i ∧ i ≤ (wh : Int) - 1 ∧ i + 1 ≤ j ∧ j ≤ (wh : Int) - 1) : Small r := by
  obtain ⟨p, i, j, rfl, q1, q2, q3, q4, q5, q6⟩ := h
  refine ⟨by show 3 ≤ 2000; decide, fun n hn => ?_⟩
  simp only [List.mem_cons, List.not_mem_nil, or_false] at hn
  rcases hn with rfl | rfl | rfl <;> omega
theorem small_book {eds r : List Int} (he : EdsOk eds) (h : EntryOk eds r) : Small r ∧ r.length = 4 := by
  obtain ⟨i, j, aa, bb, ei, ej, rfl, q1, q2, q3, q4, q5, q6, q7⟩ := h
  have z1 := lt_of_get q1
  have z2 := lt_of_get q2
  have y1 := he.2.2.1 ei (List.mem_of_getElem? q1)
  have y2 := he.2.2.1 ej (List.mem_of_getElem? q2)
  have wl := he.2.1
  refine ⟨⟨by show 4 ≤ 2000; decide, fun n hn => ?_⟩, rfl⟩
  simp only [List.mem_cons, List.not_mem_nil, or_false] at hn
  rcases hn with rfl | rfl | rfl | rfl <;> omega
theorem rows_size {c : Clk} (ok : c.Ok) : (rowsOf c).length ≤ 2013 ∧ ∀ x ∈ rowsOf c, x.length ≤ 7014 := by
  have hel := ok.eds.2.1
  constructor
  · unfold rowsOf
    have h1 := ok.tch.2.2
    have h2 := ok.book.2.2
    rw [List.length_append, List.length_append, List.length_cons, List.length_map, List.length_zip, List.length_map, List.length_map]
    omega
  · intro x hx
    unfold rowsOf at hx
    rcases List.mem_append.mp hx with hx | hx
    · rcases List.mem_append.mp hx with hx | hx
      · rcases List.mem_cons.mp hx with rfl | hx
        · have per1 := ok.per
          have := strI_len (i := c.per) (by omega) (by omega)
          have h4 : (Str.ofString "period ").length = 7 := by decide +kernel
          have h5 : (Str.ofString "period " ++ strI c.per).length = (Str.ofString "period ").length + (strI c.per).length := by rw [len_tl, tl_append, List.length_append, ← len_tl, ← len_tl]
          rw [h5]
          omega
        · obtain ⟨⟨e, g⟩, hm, rfl⟩ := List.mem_map.mp hx
          have h1 := ok.eds.2.2.1 e (List.of_mem_zip hm).1
          have h2 := ok.gaps.2.1 g (List.of_mem_zip hm).2
          have := line_len (hs := [Str.ofString "wheel", strI e]) (small_gap ok.per.2 h2) (by show 2 ≤ 2; decide) (fun x hx => by
            rcases List.mem_cons.mp hx with rfl | hx
            · decide +kernel
            · rw [List.mem_singleton.mp hx]; exact strI_len (by omega) (by omega))
          have h3 := h2.2.2
          simp only [List.length_cons, List.length_nil] at this
          show (lineS [Str.ofString "wheel", strI e] g).length ≤ 7014
          omega
      · obtain ⟨r, hr, rfl⟩ := List.mem_map.mp hx
        have h1 := ok.tch.1 r hr
        have := line_len (hs := [Str.ofString "touch"]) (small_tch ok.per.2 hel h1) (by show 1 ≤ 2; decide) (fun x hx => by rw [List.mem_singleton.mp hx]; decide +kernel)
        have h3 : r.length = 3 := by obtain ⟨p, i, j, rfl, _⟩ := h1; rfl
        simp only [List.length_cons, List.length_nil, h3] at this
        omega
    · obtain ⟨r, hr, rfl⟩ := List.mem_map.mp hx
      have h1 := small_book ok.eds (ok.book.1 r hr)
      have := line_len (hs := [Str.ofString "need"]) h1.1 (by show 1 ≤ 2; decide) (fun x hx => by rw [List.mem_singleton.mp hx]; decide +kernel)
      simp only [List.length_cons, List.length_nil, h1.2] at this
      omega
abbrev scIn (x : Str) : Scope := { kind := .function, names := [(Str.ofString ".0", .local), (x, .local)], isGenerator := false, isCoroutine := false }
theorem scWriteC : FnScope ["clock", "rows", "last", "phases", "phase", "touch", "part", "entry"] ["clock"] (defScope sWriteC) := ⟨rfl, rfl, rfl, by decide +kernel, rfl, by decide +kernel, by decide +kernel⟩
section
variable {P : Program} {w : World} {K : PySem.W.Frag} {mg : Str → Option Value} {base : Heap} {T S : List Addr} {H H0 : Hp}
theorem cal_writec (D : DefAt K mg "write_clock" sWriteC) (B : Bl mg) (CN : Cal P w K mg base CX0 5 "need_clock" ["value"] (spNeedC T)) : Cal P w K mg base CX0 6 "write_clock" ["clock"] (spWriteC T) := by
  refine D.cal scWriteC (fun _ _ _ _ _ _ us hl => match us, hl with | [_], _ => rfl) (fun vs H Q E h => ?_) (fun f cdv A outer s H vs Q E hr h => ?_)
  · obtain ⟨a, c, rfl, _⟩ := h
    rfl
  · obtain ⟨a, c, rfl, hc, ok, hT, k⟩ := h
    refine ⟨_, pss_cons (ps_expr (pe_cal CN hr rfl pass0 (pa_cons (pv 0) pa_nil)))
      (pss_cons (ps_set (i := 1) scWriteC.nd rfl (Or.inl rfl) (pe_lst (pa_cons (pe_op op_add_str pe_str (pe_callTy call_str_int (by rfl) B.str (by decide +kernel) (pa_cons (pe_ix ix_tup (pv 0) pe_int (fun _ _ => rfl)) pa_nil))) pa_nil)))
      (pss_cons (ps_for PassesOwn.never rfl (RZ.pi_zipA rfl B.zip (pa_cons (pe_ix ix_tup (pv 0) pe_int (fun _ _ => rfl)) (pa_cons (pe_ix ix_tup (pv 0) pe_int (fun _ _ => rfl)) pa_nil))) (pg_tup rfl (pgs_cons (pg_name (i := 2) scWriteC.nd rfl (Or.inl rfl)) (pgs_cons (pg_name (i := 3) scWriteC.nd rfl (Or.inl rfl)) pgs_nil)))
        (pss_one (ps_expr (pe_bm PySem.F.plainAttrs_list PySem.F.slot_list_append PySem.F.type_list_append mt_append (pv 1) (pa_cons (pe_m1 PySem.F.slot_str_join PySem.F.type_str_join mt_join pe_str
          (pe_op op_cat (pe_lst (pa_cons pe_str (pa_cons (pe_callTy call_str_int (by rfl) B.str (by decide +kernel) (pa_cons (pv 2) pa_nil)) pa_nil)))
            (pe_lc (own := [("phase", 4)]) (g := gName 4) (tt := tYes) (te := tCB rStrI (tCons (tVar 4) tNil)) rfl scWriteC.nd (pi_tup (pv 3)) (blkOk_by (N := ["clock", "rows", "last", "phases", "phase", "touch", "part", "entry"]) (sc := defScope sWriteC) (by decide +kernel))
              (fun _ _ _ _ _ => pg_name (i := 4) scWriteC.nd rfl (Or.inl rfl)) (fun _ _ _ _ _ => pts_nil) (fun _ _ _ _ _ => pe_callTy call_str_int (by rfl) B.str (by decide +kernel) (pa_cons (pv 4) pa_nil))))) pa_nil)))))
      (pss_cons (ps_expr (pe_bm PySem.F.plainAttrs_list PySem.F.slot_list_extend PySem.F.type_list_extend mt_extend (pv 1) (pa_cons
          (pe_lc (own := [("touch", 5)]) (g := gName 5) (tt := tYes) (te := tLine K (tCons (tC (.str "touch")) tNil) 5 6) rfl scWriteC.nd (pi_tup (pe_ix ix_tup (pv 0) pe_int (fun _ _ => rfl))) (blkOk_by (N := ["clock", "rows", "last", "phases", "phase", "touch", "part", "entry"]) (sc := defScope sWriteC) (by decide +kernel))
            (fun _ _ _ _ _ => pg_name (i := 5) scWriteC.nd rfl (Or.inl rfl)) (fun _ _ _ _ _ => pts_nil) (fun _ _ _ _ _ => pe_m1 PySem.F.slot_str_join PySem.F.type_str_join mt_join pe_str
              (pe_op op_cat (pe_lst (pa_cons pe_str pa_nil))
                (pe_lc (own := [("part", 6)]) (g := gName 6) (tt := tYes) (te := tCB rStrI (tCons (tVar 6) tNil)) rfl scWriteC.nd (pi_tup (pv 5)) (blkOk_by (N := ["clock", "rows", "last", "phases", "phase", "touch", "part", "entry"]) (sc := scIn "touch") (by decide +kernel))
                  (fun _ _ _ _ _ => pg_name (i := 6) scWriteC.nd rfl (Or.inl rfl)) (fun _ _ _ _ _ => pts_nil) (fun _ _ _ _ _ => pe_callTy call_str_int (by rfl) B.str (by decide +kernel) (pa_cons (pv 6) pa_nil)))))) pa_nil)))
      (pss_cons (ps_expr (pe_bm PySem.F.plainAttrs_list PySem.F.slot_list_extend PySem.F.type_list_extend mt_extend (pv 1) (pa_cons
          (pe_lc (own := [("entry", 7)]) (g := gName 7) (tt := tYes) (te := tLine K (tCons (tC (.str "need")) tNil) 7 6) rfl scWriteC.nd (pi_tup (pe_ix ix_tup (pv 0) pe_int (fun _ _ => rfl))) (blkOk_by (N := ["clock", "rows", "last", "phases", "phase", "touch", "part", "entry"]) (sc := defScope sWriteC) (by decide +kernel))
            (fun _ _ _ _ _ => pg_name (i := 7) scWriteC.nd rfl (Or.inl rfl)) (fun _ _ _ _ _ => pts_nil) (fun _ _ _ _ _ => pe_m1 PySem.F.slot_str_join PySem.F.type_str_join mt_join pe_str
              (pe_op op_cat (pe_lst (pa_cons pe_str pa_nil))
                (pe_lc (own := [("part", 6)]) (g := gName 6) (tt := tYes) (te := tCB rStrI (tCons (tVar 6) tNil)) rfl scWriteC.nd (pi_tup (pv 7)) (blkOk_by (N := ["clock", "rows", "last", "phases", "phase", "touch", "part", "entry"]) (sc := scIn "entry") (by decide +kernel))
                  (fun _ _ _ _ _ => pg_name (i := 6) scWriteC.nd rfl (Or.inl rfl)) (fun _ _ _ _ _ => pts_nil) (fun _ _ _ _ _ => pe_callTy call_str_int (by rfl) B.str (by decide +kernel) (pa_cons (pv 6) pa_nil)))))) pa_nil)))
      (pss_one (ps_ret (pe_m1 PySem.F.slot_str_join PySem.F.type_str_join mt_join pe_str (pv 1)))))))), ?_⟩
    obtain ⟨e, t, g, b, h0, he, ht, hg, hb⟩ := id hc
    have he : H e = some (.tup (c.eds.map V.int)) := he
    have per1 := ok.per
    refine ⟨_, rfl, a, c, rfl, hc, ok, hT, fun H1 e1 => ?_⟩
    refine ⟨_, rfl, a, _, _, _, rfl, rfl, SqT.of (e1.tup hT h0), rfl, c.per, rfl, log_small (by omega) (by omega), _, _, rfl, rfl, ?_, ?_⟩
    · have := strI_len (i := c.per) (by omega) (by omega)
      have h4 : (Str.ofString "period ").length = 7 := by decide +kernel
      show (Str.ofString "period ").length + (strI c.per).length ≤ sizeLine
      rw [sizeLine_eq]
      omega
    refine nil_i ⟨by show 1 ≤ sizeLine; decide, fun rw hrw => ?_⟩
    have hrw0 : H rw = none := e1.free hT hrw
    have e2 : Ext T H (upd H1 rw (.lst (([Str.ofString "period " ++ strI c.per] : List Str).map V.str))) := e1.put hT hrw0 _
    have r2 : (upd H1 rw (.lst (([Str.ofString "period " ++ strI c.per] : List Str).map V.str))) rw = some (.lst (([Str.ofString "period " ++ strI c.per] : List Str).map V.str)) := upd_same
    show tSeq _ _ _ _ (upd H1 rw (.lst (([Str.ofString "period " ++ strI c.per] : List Str).map V.str)))
    generalize upd H1 rw (.lst (([Str.ofString "period " ++ strI c.per] : List Str).map V.str)) = H2 at e2 r2
    obtain ⟨as, hg1, hg2⟩ := hg
    have hal : c.eds.length = as.length := by rw [hg2.length, ok.gaps.1]
    have hel := ok.eds.2.1
    refine ⟨_, rfl, a, _, _, _, rfl, rfl, SqT.of (e2.tup hT h0), rfl, _, rfl, a, _, _, _, rfl, rfl, SqT.of (e2.tup hT h0), rfl, e, g, _, _, rfl, .inr ⟨SqT.of (e2.tup hT he), SqT.of (e2.tup hT hg1), RZ.for_zipT (K := K) (a := e) (b := g) (xs := c.eds.map V.int) (ys := as.map V.ref) (by rw [List.length_map, List.length_map]; exact hal)
      (fun i σ H' => (∃ v1 v2 : Option V, σ = [some (.ref a), some (.ref rw), v1, v2, none, none, none, none]) ∧ Ext T H H' ∧ H' rw = some (.lst (((Str.ofString "period " ++ strI c.per) :: ((c.eds.zip c.gaps).take i).map fun p => lineS [Str.ofString "wheel", strI p.1] p.2).map V.str))) ⟨⟨none, none, rfl⟩, e2, r2⟩
      (fun i σ H' q => ⟨SqT.of (q.2.1.tup hT he), SqT.of (q.2.1.tup hT hg1)⟩) ?_ ?_⟩⟩
    · rintro i x y Tq σ H3 hx hy ⟨⟨v1, v2, rfl⟩, e3, r3⟩ hTq
      obtain ⟨last, hlast, rfl⟩ := mapI hx
      obtain ⟨ra, hra, rfl⟩ := mapR hy
      obtain ⟨r, hr, tr⟩ := paired_get' hg2 hra
      have hz : (c.eds.zip c.gaps)[i]? = some (last, r) := by rw [List.getElem?_zip_eq_some]; exact ⟨hlast, hr⟩
      obtain ⟨l1, l2⟩ := ok.eds.2.2.1 last (List.mem_of_getElem? hlast)
      obtain ⟨g1, g2, g3⟩ := ok.gaps.2.1 r (List.mem_of_getElem? hr)
      have e4 : Ext T H (upd H3 Tq (.tup [.int last, .ref ra])) := e3.put hT (e3.free hT hTq) _
      have r4 : (upd H3 Tq (.tup [.int last, .ref ra])) rw = some (.lst (((Str.ofString "period " ++ strI c.per) :: ((c.eds.zip c.gaps).take i).map fun p => lineS [Str.ofString "wheel", strI p.1] p.2).map V.str)) := by rw [upd_ne (ne_of_none r3 hTq)]; exact r3
      refine ⟨Tq, _, rfl, SqT.of upd_same, rfl, _, _, rfl, _, _, rfl, rfl, ?_⟩
      generalize upd H3 Tq (.tup [.int last, .ref ra]) = H4 at e4 r4
      have T4 := e4.ok hT
      refine ⟨_, rfl, lst_at r4, ?_⟩
      refine line_read (hs := [Str.ofString "wheel", strI last]) (ns := r) T4 rfl (fun _ => rfl) (fun _ => rfl) (fun H Q q => ⟨_, rfl, last, rfl, log_small (by omega) (by omega), q⟩) (tr.ext hT e4) ⟨by omega, fun n hn => ⟨(g1 n hn).1, by have := (g1 n hn).2; omega⟩⟩ (by show 2 ≤ 2; decide) (fun x hx => ?_) (fun H5 e5 => nil_i ⟨rw, _, _, rfl, rfl, e5.lst T4 r4, small_line ?_, ⟨_, _, rfl⟩, (e4.trans e5).put hT hrw0 _, ?_⟩)
      · rcases List.mem_cons.mp hx with rfl | hx
        · decide +kernel
        · rw [List.mem_singleton.mp hx]; exact strI_len (by omega) (by omega)
      · rw [List.length_map, List.length_cons, List.length_map, List.length_take, List.length_zip]
        omega
      · rw [upd_same, take_more hz, List.map_append, List.map_cons, List.map_cons, List.map_append]
        rfl
    · rintro σ H3 ⟨⟨v1, v2, rfl⟩, e3, r3⟩
      rw [List.length_map, List.take_of_length_le (by rw [List.length_zip]; omega)] at r3
      have T3 := e3.ok hT
      obtain ⟨tk1, tk2, tk3⟩ := ok.tch
      obtain ⟨bk1, bk2, bk3⟩ := ok.book
      refine ⟨_, rfl, lst_at r3, ?_⟩
      refine rows_read (hd := Str.ofString "touch") T3 rfl (e3.tup hT h0) rfl (ht.ext hT e3) (fun _ => rfl) (fun _ => rfl) (fun _ _ => rfl) (fun _ _ => rfl) (by omega) (fun r hr => ?_) (by decide +kernel) (fun H4 D4 e4 d40 d4 => nil_i ⟨rw, D4, _, _, rfl, rfl, e4.lst T3 r3, d4, ?_, ?_⟩)
      · obtain ⟨p, i, j, rfl, q1, q2, q3, q4, q5, q6⟩ := tk1 r hr
        refine ⟨by show 3 ≤ 2000; decide, fun n hn => ?_⟩
        simp only [List.mem_cons, List.not_mem_nil, or_false] at hn
        rcases hn with rfl | rfl | rfl <;> omega
      · rw [List.length_map, List.length_cons, List.length_map, List.length_zip, List.length_map, List.length_map, sizeLine_eq]
        omega
      have e5 : Ext T H (upd H4 rw (.lst ((((Str.ofString "period " ++ strI c.per) :: (c.eds.zip c.gaps).map fun p => lineS [Str.ofString "wheel", strI p.1] p.2) ++ c.tch.map (lineS [Str.ofString "touch"])).map V.str))) := (e3.trans e4).put hT hrw0 _
      have r5 : (upd H4 rw (.lst ((((Str.ofString "period " ++ strI c.per) :: (c.eds.zip c.gaps).map fun p => lineS [Str.ofString "wheel", strI p.1] p.2) ++ c.tch.map (lineS [Str.ofString "touch"])).map V.str))) rw = some (.lst ((((Str.ofString "period " ++ strI c.per) :: (c.eds.zip c.gaps).map fun p => lineS [Str.ofString "wheel", strI p.1] p.2) ++ c.tch.map (lineS [Str.ofString "touch"])).map V.str)) := upd_same
      rw [← List.map_append]
      show tSeq _ _ _ _ (upd H4 rw (.lst ((((Str.ofString "period " ++ strI c.per) :: (c.eds.zip c.gaps).map fun p => lineS [Str.ofString "wheel", strI p.1] p.2) ++ c.tch.map (lineS [Str.ofString "touch"])).map V.str)))
      generalize upd H4 rw (.lst ((((Str.ofString "period " ++ strI c.per) :: (c.eds.zip c.gaps).map fun p => lineS [Str.ofString "wheel", strI p.1] p.2) ++ c.tch.map (lineS [Str.ofString "touch"])).map V.str)) = H5 at e5 r5
      have T5 := e5.ok hT
      have wl := ok.eds.2.1
      refine ⟨_, rfl, lst_at r5, ?_⟩
      refine rows_read (hd := Str.ofString "need") T5 rfl (e5.tup hT h0) rfl (hb.ext hT e5) (fun _ => rfl) (fun _ => rfl) (fun _ _ => rfl) (fun _ _ => rfl) (by omega) (fun r hr => ?_) (by decide +kernel) (fun H6 D6 e6 d60 d6 => nil_i ⟨rw, D6, _, _, rfl, rfl, e6.lst T5 r5, d6, ?_, ?_⟩)
      · obtain ⟨i, j, aa, bb, ei, ej, rfl, q1, q2, q3, q4, q5, q6, q7⟩ := bk1 r hr
        have z1 := lt_of_get q1
        have z2 := lt_of_get q2
        have y1 := ok.eds.2.2.1 ei (List.mem_of_getElem? q1)
        have y2 := ok.eds.2.2.1 ej (List.mem_of_getElem? q2)
        refine ⟨by show 4 ≤ 2000; decide, fun n hn => ?_⟩
        simp only [List.mem_cons, List.not_mem_nil, or_false] at hn
        rcases hn with rfl | rfl | rfl | rfl <;> omega
      · rw [List.length_map, List.length_append, List.length_cons, List.length_map, List.length_zip, List.length_map, List.length_map, List.length_map, sizeLine_eq]
        omega
      have e7 : Ext T H (upd H6 rw (.lst ((rowsOf c).map V.str))) := (e5.trans e6).put hT hrw0 _
      have r7 : (upd H6 rw (.lst ((rowsOf c).map V.str))) rw = some (.lst ((rowsOf c).map V.str)) := upd_same
      rw [← List.map_append]
      have er : (Str.ofString "period " ++ strI c.per) :: (c.eds.zip c.gaps).map (fun p => lineS [Str.ofString "wheel", strI p.1] p.2) ++ c.tch.map (lineS [Str.ofString "touch"]) ++ c.book.map (lineS [Str.ofString "need"]) = rowsOf c := rfl
      rw [er]
      generalize upd H6 rw (.lst ((rowsOf c).map V.str)) = H7 at e7 r7
      refine ⟨⟨_, rfl⟩, _, rfl, _, rw, rowsOf c, rfl, rfl, .inl (SqL.of r7), ?_, k _ e7⟩
      obtain ⟨z1, z2⟩ := rows_size ok
      have z3 := sum_len (l := rowsOf c) z2
      have h4 : (Str.ofString "\n").length = 1 := by decide +kernel
      rw [h4]
      have z4 : (rowsOf c).length * 7014 ≤ 2013 * 7014 := Nat.mul_le_mul_right _ z1
      omega
end
end CW

/-! Plain: the reader of a plan's lines. -/
namespace KM
open PySem TL
def tickLoop (per : Int) (gap : List Int) (ws : List Wd) : Nat → Nat → Int → Except Nat (List Int)
  | 0, _, _ => .ok []
  | n + 1, place, least => match takeO ws place least 100000 with
    | none => .error (place + 1)
    | some v => if v % per ∈ gap then (match tickLoop per gap ws n (place + 1) (v + 1) with
      | .error j => .error j
      | .ok r => .ok (v :: r)) else .error (place + 1)
def rdTicks (per : Int) (eds : List Int) (gaps : List (List Int)) (ws : List Wd) (wheel : Nat) : Except Nat (List Int) :=
  if ws.head? ≠ some wWheel ∨ wheel = eds.length then .error 1 else
  match tickLoop per (gaps.getD wheel []) ws (eds.getD wheel 0).toNat 1 0 with
  | .error j => .error j
  | .ok ts => if (eds.getD wheel 0).toNat + 1 < ws.length then .error ((eds.getD wheel 0).toNat + 2) else .ok ts
def rdPLines (per : Int) (eds : List Int) (gaps : List (List Int)) : List (List Int) → List (List Wd) → Nat → Except (Nat × Nat) (List (List Int))
  | acc, [], _ => .ok acc
  | acc, ws :: rest, at_ => if ws = [] then rdPLines per eds gaps acc rest (at_ + 1) else
    match rdTicks per eds gaps ws acc.length with
    | .error j => .error (at_, j)
    | .ok ts => rdPLines per eds gaps (acc ++ [ts]) rest (at_ + 1)
def rdPlan (per : Int) (eds : List Int) (gaps : List (List Int)) (t : List Nat) : Except (Nat × Nat) (List (List Int)) :=
  match rdPLines per eds gaps [] ((linesOf t).map wordsOf) 1 with
  | .error e => .error e
  | .ok acc => if acc.length < eds.length then .error ((linesOf t).length + 1, 1) else .ok acc
end KM

namespace CW
open PySem PySem.Spec PyProof.Rows L2 GA TL
/-! ### write_plan -/
def planText (rows : List (List Int)) : Str := Txt.join (Str.ofString "\n") (rows.map (lineS [Str.ofString "wheel"]))
def spWriteP (T : List Addr) : Sp := fun vs H Q _ => ∃ (a p : Addr) (c : Clk) (rows : List (List Int)), vs = [.ref a, .ref p] ∧ ClkAt H a c ∧ c.Ok ∧ TupT H p rows ∧ PlanOk c rows ∧ TOk T H ∧ ∀ H', Ext T H H' → Q (.str (planText rows)) H'
theorem scWriteP : FnScope ["clock", "plan", "ticks", "tick"] ["clock", "plan"] (defScope sWriteP) := ⟨rfl, rfl, rfl, by decide +kernel, rfl, by decide +kernel, by decide +kernel⟩
theorem plan_small {c : Clk} {rows : List (List Int)} (ok : c.Ok) (po : PlanOk c rows) : rows.length ≤ 12 ∧ ∀ r ∈ rows, Small r ∧ r.length ≤ 4 := by
  refine ⟨by rw [po.1]; exact ok.eds.2.1, fun r hr => ?_⟩
  obtain ⟨i, hi, e⟩ := List.getElem_of_mem hr
  have hg : rows[i]? = some r := by rw [List.getElem?_eq_getElem hi, e]
  obtain ⟨h1, _, _, h4⟩ := po.2 i r hg
  have h5 := ok.eds.2.2.1 _ (List.mem_of_getElem? h1)
  have h6 : r.length ≤ 4 := by omega
  exact ⟨⟨by omega, fun n hn => ⟨(h4 n hn).1, by have := (h4 n hn).2.1; omega⟩⟩, h6⟩
section
variable {P : Program} {w : World} {K : PySem.W.Frag} {mg : Str → Option Value} {base : Heap} {T S : List Addr} {CL CS : Addr} {H H0 : Hp}
theorem cal_writep (D : DefAt K mg "write_plan" sWriteP) (B : Bl mg) (CN : Cal P w K mg base CX0 5 "need_clock" ["value"] (spNeedC T)) (CP : Cal P w K mg base CX0 3 "need_plan" ["clock", "value"] (spNeedP T)) : Cal P w K mg base CX0 6 "write_plan" ["clock", "plan"] (spWriteP T) := by
  refine D.cal scWriteP (fun _ _ _ _ _ _ us hl => match us, hl with | [_, _], _ => rfl) (fun vs H Q E h => ?_) (fun f cdv A outer s H vs Q E hr h => ?_)
  · obtain ⟨a, p, c, rows, rfl, _⟩ := h
    rfl
  · obtain ⟨a, p, c, rows, rfl, hc, ok, hp, po, hT, k⟩ := h
    refine ⟨_, pss_cons (ps_expr (pe_cal CN hr rfl pass0 (pa_cons (pv 0) pa_nil)))
      (pss_cons (ps_expr (pe_cal CP (hr.mono (by decide)) rfl pass0 (pa_cons (pv 0) (pa_cons (pv 1) pa_nil))))
      (pss_one (ps_ret (pe_m1 PySem.F.slot_str_join PySem.F.type_str_join mt_join pe_str
          (pe_lc (own := [("ticks", 2)]) (g := gName 2) (tt := tYes) (te := tLine K (tCons (tC (.str "wheel")) tNil) 2 3) rfl scWriteP.nd (pi_tup (pv 1)) (blkOk_by (N := ["clock", "plan", "ticks", "tick"]) (sc := defScope sWriteP) (by decide +kernel))
            (fun _ _ _ _ _ => pg_name (i := 2) scWriteP.nd rfl (Or.inl rfl)) (fun _ _ _ _ _ => pts_nil) (fun _ _ _ _ _ => pe_m1 PySem.F.slot_str_join PySem.F.type_str_join mt_join pe_str
              (pe_op op_cat (pe_lst (pa_cons pe_str pa_nil))
                (pe_lc (own := [("tick", 3)]) (g := gName 3) (tt := tYes) (te := tCB rStrI (tCons (tVar 3) tNil)) rfl scWriteP.nd (pi_tup (pv 2)) (blkOk_by (N := ["clock", "plan", "ticks", "tick"]) (sc := scIn "ticks") (by decide +kernel))
                  (fun _ _ _ _ _ => pg_name (i := 3) scWriteP.nd rfl (Or.inl rfl)) (fun _ _ _ _ _ => pts_nil) (fun _ _ _ _ _ => pe_callTy call_str_int (by rfl) B.str (by decide +kernel) (pa_cons (pv 3) pa_nil)))))))))), ?_⟩
    obtain ⟨s1, s2⟩ := plan_small ok po
    refine ⟨_, rfl, a, c, rfl, hc, ok, hT, fun H1 e1 => ?_⟩
    refine ⟨_, rfl, _, rfl, a, p, c, rows, rfl, hc.ext hT e1, ok.per.1, hp.ext hT e1, po, e1.ok hT, fun H2 e2 => ?_⟩
    have e2 := e1.trans e2
    have hp2 := hp.ext hT e2
    obtain ⟨as, hp3, _⟩ := id hp2
    refine ⟨⟨_, rfl⟩, ?_⟩
    refine rows_readW (hd := Str.ofString "wheel") (t := p) (e2.ok hT) (fun R q => ⟨_, rfl, p, rfl, ⟨_, SqT.of hp3⟩, q⟩) hp2 (fun _ => rfl) (fun _ => rfl) (fun _ _ => rfl) (fun _ _ => rfl) (by omega) (fun r hr => (s2 r hr).1) (by decide +kernel) (fun H3 D3 e3 _ d3 => ⟨_, D3, _, rfl, rfl, .inl (SqL.of d3), ?_, k _ (e2.trans e3)⟩)
    have z3 := sum_len (l := rows.map (lineS [Str.ofString "wheel"])) (m := 35) (fun x hx => by
      obtain ⟨r, hr, rfl⟩ := List.mem_map.mp hx
      have := line_len (hs := [Str.ofString "wheel"]) (s2 r hr).1 (by show 1 ≤ 2; decide) (fun x hx => by rw [List.mem_singleton.mp hx]; decide +kernel)
      have h3 := (s2 r hr).2
      simp only [List.length_cons, List.length_nil] at this
      omega)
    have h4 : (Str.ofString "\n").length = 1 := by decide +kernel
    rw [h4]
    rw [List.length_map] at z3 ⊢
    omega
theorem Tst.or {t u : TT} {σ : L2.St} {H : Hp} {b c : Bool} (h1 : Tst t σ H b) (h2 : Tst u σ H c) : Tst (tOr t u) σ H (b || c) := by
  intro Q q
  refine h1 _ ?_
  cases b with
  | true => exact iteT q
  | false => exact iteF (h2 _ q)
/-! ### ticks_in -/
def spTicks (T : List Addr) (CL : Addr) : Sp := fun vs H Q E => ∃ (a wa : Addr) (c : Clk) (ws : List Str) (wheel : Nat) (at_ : Int), vs = [.ref a, .ref wa, .int (wheel : Nat), .int at_] ∧ ClkAt H a c ∧ c.Ok ∧ Wds H wa ws ∧ ws ≠ [] ∧ wheel ≤ c.eds.length ∧ TOk T H ∧
  (∀ ts, KM.rdTicks c.per c.eds c.gaps (ws.map tl) wheel = .ok ts → ∀ H' q, Ext T H H' → H q = none → TupI H' q ts → Q (.ref q) H') ∧ (∀ j, KM.rdTicks c.per c.eds c.gaps (ws.map tl) wheel = .error j → Raised T CL H at_ (j : Nat) E)
theorem scTicks : FnScope ["clock", "words", "wheel", "at", "found", "least", "place", "tick"] ["clock", "words", "wheel", "at"] (defScope sTicks) := ⟨rfl, rfl, rfl, by decide +kernel, rfl, by decide +kernel, by decide +kernel⟩
theorem cal_ticks (D : DefAt K mg "ticks_in" sTicks) (B : Bl mg) (BL : BLAt K mg CL) (CN : Cal P w K mg base CX0 2 "number_in" ["word", "low", "high"] (spNumIn T)) : Cal P w K mg base (L2.CX P w) 3 "ticks_in" ["clock", "words", "wheel", "at"] (spTicks T CL) := by
  refine D.calX scTicks (fun _ _ _ _ _ _ us hl => match us, hl with | [_, _, _, _], _ => rfl) (fun vs H Q E h => ?_) (fun f cdv A outer s H vs Q E hr h => ?_)
  · obtain ⟨a, wa, c, ws, wheel, at_, rfl, _⟩ := h
    rfl
  · obtain ⟨a, wa, c, ws, wheel, at_, rfl, hc, ok, hw, hne, hwl, hT, k1, k2⟩ := h
    have hpass : Passes (L2.CX P w) (cxOf (L2.CX P w) P w K mg base ["clock", "words", "wheel", "at", "found", "least", "place", "tick"] "ticks_in" (defScope sTicks) f cdv A outer s H E) E := passes_call (takes_of rfl rfl rfl rfl) (fun _ _ _ _ h => h)
    refine ⟨_, pss_cons (ps_if (PW.pt (pw_or (pt_cmpR op_ne (pe_ix ix_list (pv 1) pe_int (fun _ _ => rfl)) pe_str (nomark _)) (pw_or1 (pt_cmpR op_eq (pv 2) (pe_callB call_len (by rfl) B.len PySem.boot_len (pa_cons (pe_ix ix_tup (pv 0) pe_int (fun _ _ => rfl)) pa_nil)) (nomark _)))))
        (pss_one (ps_raise rfl (takes_of rfl rfl rfl rfl) (pmk_bl BL hr rfl (pa_cons (pv 3) (pa_cons pe_int pa_nil))))) pss_nil)
      (pss_cons (ps_par (i := 4) (j := 5) rfl scTicks.nd rfl rfl (by decide) rfl rfl (pa_cons (pe_lst pa_nil) (pa_cons pe_int pa_nil)) (by rfl))
      (pss_cons (ps_for (passes_of rfl) rfl (pi_range2 rfl B.range (pa_cons pe_int (pa_cons (pe_op op_add (pe_ix ix_tup (pe_ix ix_tup (pv 0) pe_int (fun _ _ => rfl)) (pv 2) (fun _ _ => rfl)) pe_int) pa_nil))) (pg_name (i := 6) scTicks.nd rfl (Or.inl rfl))
        (pss_cons (ps_set (i := 7) scTicks.nd rfl (Or.inl rfl) (pe_ifExp (pt_cmpR op_lt (pv 6) (pe_callB call_len (by rfl) B.len PySem.boot_len (pa_cons (pv 1) pa_nil)) (nomark _)) (pe_cal CN hr rfl pass0 (pa_cons (pe_ix ix_list (pv 1) (pv 6) (fun _ _ => rfl)) (pa_cons (pv 5) (pa_cons (pe_gint B.planned) pa_nil)))) pe_non))
        (pss_cons (ps_if (PW.pt (pw_or (pt_cmpR op_isN (pv 7) pe_non (nomark _)) (pw_or1 (pt_cmpR op_notIn_seq (pe_op op_mod (pv 7) (pe_ix ix_tup (pv 0) pe_int (fun _ _ => rfl))) (pe_ix ix_tup (pe_ix ix_tup (pv 0) pe_int (fun _ _ => rfl)) (pv 2) (fun _ _ => rfl)) (by rfl)))))
          (pss_one (ps_raise rfl (takes_of rfl rfl rfl rfl) (pmk_bl BL hr rfl (pa_cons (pv 3) (pa_cons (pe_op op_add (pv 6) pe_int) pa_nil))))) pss_nil)
        (pss_cons (ps_expr (pe_bm PySem.F.plainAttrs_list PySem.F.slot_list_append PySem.F.type_list_append mt_append (pv 4) (pa_cons (pv 7) pa_nil)))
        (pss_one (ps_set (i := 5) scTicks.nd rfl (Or.inl rfl) (pe_op op_add (pv 7) pe_int)))))))
      (pss_cons (ps_if (pt_cmpR op_gt (pe_callB call_len (by rfl) B.len PySem.boot_len (pa_cons (pv 1) pa_nil)) (pe_op op_add (pe_ix ix_tup (pe_ix ix_tup (pv 0) pe_int (fun _ _ => rfl)) (pv 2) (fun _ _ => rfl)) pe_int) (nomark _))
        (pss_one (ps_raise rfl (takes_of rfl rfl rfl rfl) (pmk_bl BL hr rfl (pa_cons (pv 3) (pa_cons (pe_op op_add (pe_ix ix_tup (pe_ix ix_tup (pv 0) pe_int (fun _ _ => rfl)) (pv 2) (fun _ _ => rfl)) pe_int) pa_nil))))) pss_nil)
      (pss_one (ps_ret (pe_callTy call_tuple_of (by rfl) B.tuple (by decide +kernel) (pa_cons (pv 4) pa_nil))))))), ?_⟩
    obtain ⟨e, t, g, b, h0, he, ht, ⟨ag, hg1, hg2⟩, hb⟩ := hc
    have he : H e = some (.tup (c.eds.map V.int)) := he
    obtain ⟨w0, wr, hws⟩ : ∃ w0 wr, ws = w0 :: wr := by
      cases ws with
      | nil => exact absurd rfl hne
      | cons a b => exact ⟨a, b, rfl⟩
    have h0w : ws[0]? = some w0 := by rw [hws]; rfl
    have hd : (ws.map tl).head? = some (tl w0) := by rw [hws]; rfl
    refine if_tst (Tst.or (b := !decide (tl w0 = KM.wWheel)) (c := decide (V.int (wheel : Nat) = V.int (c.eds.length : Nat))) (fun Q q => ?_) (fun Q q => ?_)) (fun c1 => ?_) (fun c1 => ?_)
    · refine ⟨_, rfl, wa, _, 0, _, rfl, rfl, SqL.of hw.at_, atI_str h0w, rfl, _, rfl, ?_⟩
      rw [str_is]; exact q
    · exact ⟨_, rfl, _, rfl, a, _, _, _, rfl, rfl, SqT.of h0, rfl, _, c.eds.length, rfl, .inr ⟨_, SqT.of he, by rw [List.length_map]⟩, rfl, _, rfl, q⟩
    · refine ⟨_, rfl, bl_close hT (k2 1 ?_)⟩
      unfold KM.rdTicks
      rw [if_pos]
      rw [hd]
      rcases Bool.or_eq_true_iff.mp c1 with q | q
      · left
        intro z
        have z : tl w0 = KM.wWheel := Option.some.inj z
        rw [decide_eq_true z] at q
        cases q
      · right
        have q := of_decide_eq_true q
        injection q with q
        omega
    have hwh : (ws.map tl).head? = some KM.wWheel := by
      rw [hd]
      by_cases z : tl w0 = KM.wWheel
      · rw [z]
      · rw [decide_eq_false z] at c1; cases c1
    have hlt : wheel < c.eds.length := by
      rcases Nat.lt_or_eq_of_le hwl with q | q
      · exact q
      · have q2 : decide (V.int ((wheel : Nat) : Int) = V.int ((c.eds.length : Nat) : Int)) = true := decide_eq_true (by rw [q])
        rw [q2, Bool.or_true] at c1
        cases c1
    have hcond : ¬ ((ws.map tl).head? ≠ some KM.wWheel ∨ wheel = c.eds.length) := by
      rintro (q | q)
      · exact q hwh
      · omega
    obtain ⟨n, hn⟩ := getq hlt
    obtain ⟨gp, hgp⟩ := getq (l := c.gaps) (i := wheel) (by rw [ok.gaps.1]; exact hlt)
    obtain ⟨ga, hga, tga⟩ := paired_get hg2 hgp
    have nb := ok.eds.2.2.1 n (List.mem_of_getElem? hn)
    have en : c.eds.getD wheel 0 = n := by rw [List.getD_eq_getElem?_getD, hn]; rfl
    have eg : c.gaps.getD wheel [] = gp := by rw [List.getD_eq_getElem?_getD, hgp]; rfl
    have hrd : KM.rdTicks c.per c.eds c.gaps (ws.map tl) wheel = match KM.tickLoop c.per gp (ws.map tl) n.toNat 1 0 with
        | .error j => .error j
        | .ok ts => if n.toNat + 1 < ws.length then .error (n.toNat + 2) else .ok ts := by
      unfold KM.rdTicks
      rw [if_neg hcond, en, eg, List.length_map]
      all_goals (cases KM.tickLoop c.per gp (ws.map tl) n.toNat 1 0 <;> rfl)
    have per1 := ok.per.1
    refine ⟨Nat.zero_le _, fun ph hph => ⟨_, _, rfl, ?_⟩⟩
    have e2 : Ext T H (upd H ph (.lst (([] : List Int).map V.int))) := Ext.new hT hph _
    have g2 : (upd H ph (.lst (([] : List Int).map V.int))) ph = some (.lst (([] : List Int).map V.int)) := upd_same
    show tSeq _ _ _ _ (upd H ph (.lst (([] : List Int).map V.int)))
    generalize upd H ph (.lst (([] : List Int).map V.int)) = H2 at e2 g2
    refine ⟨_, rfl, a, _, _, _, rfl, rfl, SqT.of (e2.tup hT h0), rfl, _, rfl, e, _, _, _, rfl, rfl, SqT.of (e2.tup hT he), atI_int hn, _, _, rfl, rfl, _, _, rfl, ⟨by decide, by decide, by omega, by omega⟩, ?_⟩
    rw [show (n + 1 - 1 : Int).toNat = n.toNat by omega]
    generalize hN : n.toNat = N at hrd
    refine for_range (lo := 1) (n := N) (fun i σ H' => ∃ (vs : List Int) (least : Int) (v6 v7 : Option V), σ = [some (.ref a), some (.ref wa), some (.int (wheel : Nat)), some (.int at_), some (.ref ph), some (.int least), v6, v7] ∧ Ext T H H' ∧ H' ph = some (.lst (vs.map V.int)) ∧ vs.length = i ∧
      KM.tickLoop c.per gp (ws.map tl) N 1 0 = app vs (KM.tickLoop c.per gp (ws.map tl) (N - i) (1 + i) least)) ⟨[], 0, none, none, rfl, e2, g2, rfl, ?_⟩ ?_ ?_
    · show _ = app [] (KM.tickLoop c.per gp (ws.map tl) N 1 0)
      cases KM.tickLoop c.per gp (ws.map tl) N 1 0 <;> rfl
    · rintro i σ H' hi ⟨vs, least, v6, v7, rfl, e3, g3, hvl, hph2⟩
      have T3 := e3.ok hT
      have w3 := hw.ext hT e3
      have e1i : (1 : Int) + (i : Int) = ((1 + i : Nat) : Int) := by omega
      have eNi : N - i = (N - (i + 1)) + 1 := by omega
      have raise : KM.takeO (ws.map tl) (1 + i) least 100000 = none → KM.rdTicks c.per c.eds c.gaps (ws.map tl) wheel = .error (1 + i + 1) := fun h => by
        rw [hrd, hph2, eNi]
        show (match app vs (match KM.takeO (ws.map tl) (1 + i) least 100000 with | none => _ | some v => _) with | .error j => _ | .ok ts => _) = _
        rw [h]
        rfl
      have ej : ((1 + i + 1 : Nat) : Int) = (1 : Int) + (i : Int) + 1 := by omega
      refine ⟨_, rfl, _, rfl, _, ws.length, rfl, .inl ⟨_, SqL.of w3.at_, by rw [List.length_map]⟩, _, _, rfl, rfl, _, rfl, ite2 (fun c2 => ?_) (fun c2 => ?_)⟩
      · have c2 := of_decide_eq_true c2
        obtain ⟨wd, hwd⟩ := getq (l := ws) (i := 1 + i) (by omega)
        have hto : KM.takeO (ws.map tl) (1 + i) least 100000 = KM.numIn (tl wd) least 100000 := by
          rw [← takeW_O]
          unfold takeW
          rw [hwd]
          rfl
        refine ⟨_, rfl, _, rfl, wa, _, _, _, rfl, rfl, SqL.of w3.at_, (by have := atI_str hwd; rw [← e1i] at this; exact this), _, rfl, wd, least, 100000, rfl, w3.each wd (List.mem_of_getElem? hwd), T3, fun H4 e4 => ?_⟩
        have e4' := e3.trans e4
        have T4 := e4.ok T3
        cases hv : KM.numIn (tl wd) least 100000 with
        | none =>
          have hr2 := raise (by rw [hto, hv])
          have hrr := (k2 _ hr2).ext e4'
          rw [ej] at hrr
          exact ⟨_, rfl, rfl, _, rfl, iteT (iteT ⟨_, rfl, _, rfl, _, _, rfl, rfl, bl_close T4 hrr⟩)⟩
        | some v =>
          have tga4 : H4 ga = some (.tup (gp.map V.int)) := e4'.tup hT tga
          have step : KM.tickLoop c.per gp (ws.map tl) N 1 0 = app vs (if v % c.per ∈ gp then (match KM.tickLoop c.per gp (ws.map tl) (N - (i + 1)) (1 + i + 1) (v + 1) with
              | .error j => .error j
              | .ok r => .ok (v :: r)) else .error (1 + i + 1)) := by
            rw [hph2, eNi]
            show app vs (match KM.takeO (ws.map tl) (1 + i) least 100000 with | none => _ | some v => _) = _
            rw [hto, hv]
            all_goals rfl
          refine ⟨_, rfl, rfl, _, rfl, iteF ⟨_, rfl, _, rfl, a, _, _, _, rfl, rfl, SqT.of (e4'.tup hT h0), rfl, v, c.per, rfl, rfl, by omega, _, rfl, a, _, _, _, rfl, rfl, SqT.of (e4'.tup hT h0), rfl, _, rfl, g, _, _, _, rfl, rfl, SqT.of (e4'.tup hT hg1), atI_ref hga, ga, _, rfl, .inr (SqT.of tga4), rfl, flat_int _, _, rfl, ite2 (fun c3 => ?_) (fun c3 => ?_)⟩⟩
          · have c3 : (!inV (V.int (v % c.per)) (gp.map V.int)) = true := c3
            rw [inV_int] at c3
            have c3 : ¬ v % c.per ∈ gp := fun z => by rw [decide_eq_true z] at c3; cases c3
            rw [if_neg c3] at step
            have hr2 : KM.rdTicks c.per c.eds c.gaps (ws.map tl) wheel = .error (1 + i + 1) := by
              rw [hrd, step]
              rfl
            have hrr := (k2 _ hr2).ext e4'
            rw [ej] at hrr
            exact ⟨_, rfl, _, rfl, _, _, rfl, rfl, bl_close T4 hrr⟩
          · have c3 : ¬ (!inV (V.int (v % c.per)) (gp.map V.int)) = true := c3
            rw [inV_int] at c3
            have c3 : v % c.per ∈ gp := by
              by_cases z : v % c.per ∈ gp
              · exact z
              · rw [decide_eq_false z] at c3; exact absurd rfl c3
            rw [if_pos c3] at step
            have g4 := e4.lst T3 g3
            refine ⟨_, rfl, lst_at g4, _, rfl, ph, _, _, rfl, rfl, g4, small_line (by rw [List.length_map]; omega), ?_⟩
            have em2 : vs.map V.int ++ [V.int v] = (vs ++ [v]).map V.int := by rw [List.map_append]; rfl
            refine ⟨_, rfl, _, _, rfl, rfl, vs ++ [v], _, _, _, rfl, e4'.put hT hph _, (by rw [upd_same]; exact congrArg (fun z => some (HO.lst z)) em2), by rw [List.length_append, hvl]; rfl, ?_⟩
            rw [step, show 1 + (i + 1) = 1 + i + 1 by omega]
            cases KM.tickLoop c.per gp (ws.map tl) (N - (i + 1)) (1 + i + 1) (v + 1) with
            | error j => rfl
            | ok q => simp [app]
      · have c2 : ¬ (1 + i < ws.length) := fun z => c2 (decide_eq_true (by omega))
        have hr2 := raise (by
          unfold KM.takeO
          rw [List.getElem?_eq_none (by rw [List.length_map]; omega)]
          rfl)
        have hrr := (k2 _ hr2).ext e3
        rw [ej] at hrr
        exact ⟨_, rfl, rfl, _, rfl, iteT (iteT ⟨_, rfl, _, rfl, _, _, rfl, rfl, bl_close T3 hrr⟩)⟩
    · rintro σ H' ⟨vs, least, v6, v7, rfl, e3, g3, hvl, hph2⟩
      have T3 := e3.ok hT
      have w3 := hw.ext hT e3
      have ok1 : KM.tickLoop c.per gp (ws.map tl) N 1 0 = .ok vs := by
        rw [hph2, Nat.sub_self]
        show app vs (.ok []) = _
        simp [app]
      rw [ok1] at hrd
      refine ⟨_, rfl, _, ws.length, rfl, .inl ⟨_, SqL.of w3.at_, by rw [List.length_map]⟩, _, rfl, a, _, _, _, rfl, rfl, SqT.of (e3.tup hT h0), rfl, _, rfl, e, _, _, _, rfl, rfl, SqT.of (e3.tup hT he), atI_int hn, _, _, rfl, rfl, _, _, rfl, rfl, _, rfl, ite2 (fun c2 => ?_) (fun c2 => ?_)⟩
      · have c2 := of_decide_eq_true c2
        have hr2 : KM.rdTicks c.per c.eds c.gaps (ws.map tl) wheel = .error (N + 2) := by
          rw [hrd]
          dsimp only
          rw [if_pos (by omega)]
        have hrr := (k2 _ hr2).ext e3
        rw [show ((N + 2 : Nat) : Int) = n + 2 by omega] at hrr
        exact ⟨_, rfl, _, rfl, a, _, _, _, rfl, rfl, SqT.of (e3.tup hT h0), rfl, _, rfl, e, _, _, _, rfl, rfl, SqT.of (e3.tup hT he), atI_int hn, _, _, rfl, rfl, bl_close T3 hrr⟩
      · have hr2 : KM.rdTicks c.per c.eds c.gaps (ws.map tl) wheel = .ok vs := by
          rw [hrd]
          dsimp only
          rw [if_neg]
          intro z
          exact c2 (decide_eq_true (by omega))
        exact ⟨_, rfl, ph, _, rfl, .inl ⟨SqL.of g3, fun q hq => k1 vs hr2 _ q (e3.put hT (e3.free hT hq) _) (e3.free hT hq) upd_same⟩⟩
end
end CW

namespace CW
open PySem PySem.Spec PyProof.Rows L2 GA TL
theorem seq_i {t u : TS} {D : Ends} {σ : L2.St} {H : Hp} (h : t { D with nx := u D } σ H) : tSeq t u D σ H := h
theorem asg_i {te : TE} {g : TG} {D : Ends} {σ : L2.St} {H : Hp} (h : te σ H fun x H1 => g x σ H1 D.nx) : tAsg te g D σ H := h
def rSplit : V → List V → Hp → VK → Prop := fun x xs H Q => ∃ a b, x = .str a ∧ xs = [.str b] ∧ (b.length == 0) = false ∧ a.length + 2 ≤ sizeLine ∧ rNewStrs (Txt.split a b) H Q
section
variable {P : Program} {w : World} {K : PySem.W.Frag} {mg : Str → Option Value} {base : Heap} {T S : List Addr} {CL CS : Addr} {H H0 : Hp}
theorem str_at {ps : List Str} {j : Nat} {z : V} (h : (ps.map V.str)[j]? = some z) : ∃ wd, ps[j]? = some wd ∧ z = V.str wd := by
  rw [List.getElem?_map] at h
  cases e : ps[j]? with
  | none => rw [e] at h; cases h
  | some row => rw [e] at h; exact ⟨row, rfl, (Option.some.inj h).symm⟩
/-- the words of a line, as a comprehension makes them -/
theorem words_read {σ : L2.St} {j k : Nat} {row : Str} {Q : VK} (hT : TOk T H) (hσ : σ[j]? = some (some (.str row))) (hzr : row.length ≤ 90000) (hw : ∀ x, wipe ((wipe σ [k]).set k (some x)) [k] = wipe σ [k]) (hv : ∀ x, ((wipe σ [k]).set k (some x))[k]? = some (some x))
    (kk : ∀ (H' : Hp) (D : Addr) (ws : List Str), Ext T H H' → H D = none → Wds H' D ws → ws.map tl = KM.wordsOf (tl row) → Q (.ref D) H') :
    tLc (iList K (tM1 rSplit (tVar j) (tC (.str (Str.ofString " "))))) (gName k) (tTest (tOp rNe (tVar k) (tC (.str (Str.ofString ""))))) (tVar k) [k] σ H Q := by
  refine ⟨_, hσ, ⟨_, rfl⟩, row, _, rfl, rfl, by decide +kernel, (by rw [sizeLine_eq]; omega), fun wl hwl => ?_⟩
  have e5 : Ext T H (upd H wl (.lst ((Txt.split row (Str.ofString " ")).map V.str))) := Ext.new hT hwl _
  have hw0 : (upd H wl (.lst ((Txt.split row (Str.ofString " ")).map V.str))) wl = some (.lst ((Txt.split row (Str.ofString " ")).map V.str)) := upd_same
  refine ⟨wl, rfl, ⟨_, SqL.of hw0⟩, fun Dl hD => ?_⟩
  have hps : (Txt.split row (Str.ofString " ")).map tl = KM.cutL 32 [] (tl row) := KM.split_nl tl_sp (by decide +kernel)
  generalize upd H wl (.lst ((Txt.split row (Str.ofString " ")).map V.str)) = H4 at e5 hw0 hD
  generalize Txt.split row (Str.ofString " ") = ps at hps hw0
  have T4 := e5.ok hT
  have hpl : ps.length ≤ 90001 := by
    have h1 := KM.cut_len 32 (tl row) []
    have h2 := len_tl row
    rw [← hps, List.length_map] at h1
    omega
  have hpe : ∀ wd ∈ ps, wd.length ≤ 90000 := fun wd h => by
    have hm : tl wd ∈ KM.cutL 32 [] (tl row) := by rw [← hps]; exact List.mem_map_of_mem h
    have h1 := KM.cut_each 32 (tl row) [] _ hm
    have h2 := len_tl row
    have h3 := len_tl wd
    simp only [List.length_nil] at h1
    omega
  refine lc_list (K := K) (a := wl) (xs := ps.map V.str) (fun j H' => Ext T H4 H' ∧ H' Dl = some (.lst (((ps.take j).filter nonE).map V.str)))
    ⟨Ext.new T4 hD _, upd_same⟩ (fun j H' _ q => SqL.of (q.1.lst T4 hw0)) ?_ ?_
  · rintro j z H' hz' ⟨q1, q2⟩
    obtain ⟨wd, hwd, rfl⟩ := str_at hz'
    refine ⟨hw _, _, hv _, rfl, _, rfl, ite2 (fun c => ⟨_, hv _, _, q2, small_line ?_, q1.put T4 hD _, ?_⟩) (fun c => ⟨q1, ?_⟩)⟩
    · rw [List.length_map]
      have := List.length_filter_le nonE (ps.take j)
      rw [List.length_take] at this
      omega
    · rw [str_is] at c
      have c : nonE wd = true := by
        unfold nonE
        rw [decide_not]
        exact c
      rw [upd_same, take_more hwd, List.filter_append, List.filter_cons, if_pos c, List.filter_nil, List.map_append]
      rfl
    · rw [str_is] at c
      have c : ¬ nonE wd = true := by
        unfold nonE
        rw [decide_not]
        exact c
      rw [take_more hwd, List.filter_append, List.filter_cons, if_neg c, List.filter_nil, List.append_nil]
      exact q2
  · rintro H5 ⟨q1, q2⟩
    rw [List.length_map, List.take_of_length_le (Nat.le_refl _)] at q2
    refine kk H5 Dl (ps.filter nonE) (e5.trans q1) (e5.free hT hD) ⟨q2, ?_, fun wd h => ?_⟩ ?_
    · have := List.length_filter_le nonE ps
      omega
    · have := hpe wd (List.mem_filter.mp h).1
      omega
    · unfold KM.wordsOf
      rw [← hps, List.filter_map]
      rfl
/-! ### read_plan -/
def spReadP (T : List Addr) (CL : Addr) : Sp := fun vs H Q E => ∃ (a : Addr) (c : Clk) (x : Str), vs = [.ref a, .str x] ∧ ClkAt H a c ∧ c.Ok ∧ x.length ≤ 90000 ∧ TOk T H ∧
    (∀ rows, KM.rdPlan c.per c.eds c.gaps (tl x) = .ok rows → ∀ (H' : Hp) (q : Addr), Ext T H H' → TupT H' q rows → Q (.ref q) H') ∧ (∀ l j, KM.rdPlan c.per c.eds c.gaps (tl x) = .error (l, j) → Raised T CL H (l : Nat) (j : Nat) E)
theorem scReadP : FnScope ["clock", "text", "found", "rows", "at", "row", "words", "word"] ["clock", "text"] (defScope sReadP) := ⟨rfl, rfl, rfl, by decide +kernel, rfl, by decide +kernel, by decide +kernel⟩
theorem ticks_lt {per : Int} {eds : List Int} {gaps : List (List Int)} {ws : List KM.Wd} {wheel : Nat} {ts : List Int} (h : KM.rdTicks per eds gaps ws wheel = .ok ts) (hl : wheel ≤ eds.length) : wheel < eds.length := by
  unfold KM.rdTicks at h
  split at h
  · cases h
  · rename_i c
    rcases Nat.lt_or_eq_of_le hl with q | q
    · exact q
    · exact absurd (.inr q) c
theorem cal_readp {bmB : List Value} {Bx newId initId : String} (D : DefAt K mg "read_plan" sReadP) (B : Bl mg) (BL : BLAt K mg CL) (BS : BSAt K mg CS bmB Bx newId initId) (CN : Cal P w K mg base CX0 5 "need_clock" ["value"] (spNeedC T))
    (CT : Cal P w K mg base (L2.CX P w) 3 "ticks_in" ["clock", "words", "wheel", "at"] (spTicks T CL)) : Cal P w K mg base (L2.CX P w) 6 "read_plan" ["clock", "text"] (spReadP T CL) := by
  refine D.calX scReadP (fun _ _ _ _ _ _ us hl => match us, hl with | [_, _], _ => rfl) (fun vs H Q E h => ?_) (fun f cdv A outer s H vs Q E hr h => ?_)
  · obtain ⟨a, c, x, rfl, _⟩ := h
    rfl
  · obtain ⟨a, c, x, rfl, hc, ok, hz, hT, k1, k2⟩ := h
    have hpass : Passes (L2.CX P w) (cxOf (L2.CX P w) P w K mg base ["clock", "text", "found", "rows", "at", "row", "words", "word"] "read_plan" (defScope sReadP) f cdv A outer s H E) E := passes_call (takes_of rfl rfl rfl rfl) (fun _ _ _ _ h => h)
    refine ⟨_, pss_cons (ps_expr (pe_cal CN hr rfl pass0 (pa_cons (pv 0) pa_nil)))
      (pss_cons (ps_if (pt_not (pt_val (pe_isi (T := "str") B (pv 1) B.str (by decide +kernel)))) (pss_one (ps_raise rfl (takes_of rfl rfl rfl rfl) (pmk_own0 BS.F BS.q BS.m BS.k (raises_own BS.s BS.t) rfl))) pss_nil)
      (pss_cons (ps_par (i := 2) (j := 3) rfl scReadP.nd rfl rfl (by decide) rfl rfl (pa_cons (pe_lst pa_nil) (pa_cons (pe_m1 PySem.F.slot_str_split PySem.F.type_str_split mt_split (pv 1) pe_str) pa_nil)) (by rfl))
      (pss_cons (ps_for (passes_of rfl) rfl (pi_enum rfl B.enum (pa_cons (pv 3) pa_nil)) (pg_tup rfl (pgs_cons (pg_name (i := 4) scReadP.nd rfl (Or.inl rfl)) (pgs_cons (pg_name (i := 5) scReadP.nd rfl (Or.inl rfl)) pgs_nil)))
        (pss_cons (ps_setLc (i := 6) (own := [("word", 7)]) (g := gName 7) (tt := tTest (tOp rNe (tVar 7) (tC (.str "")))) (te := tVar 7) rfl scReadP.nd rfl rfl (by rfl) (pi_list (pe_m1 PySem.F.slot_str_split PySem.F.type_str_split mt_split (pv 5) pe_str)) (blkOk_by (N := ["clock", "text", "found", "rows", "at", "row", "words", "word"]) (sc := defScope sReadP) (by decide +kernel))
            (fun _ _ _ _ _ => pg_name (i := 7) scReadP.nd rfl (Or.inl rfl)) (fun _ _ _ _ _ => pts_one (pt_cmpR op_ne (pv 7) pe_str (nomark _))) (fun _ _ _ _ _ => pv 7))
        (pss_one (ps_if (pt_truth (pv 6) (by intro _; rfl)) (pss_one (ps_expr (pe_bm PySem.F.plainAttrs_list PySem.F.slot_list_append PySem.F.type_list_append mt_append (pv 2) (pa_cons (pe_cal CT (hr.mono (by decide)) rfl hpass
          (pa_cons (pv 0) (pa_cons (pv 6) (pa_cons (pe_callB call_len (by rfl) B.len PySem.boot_len (pa_cons (pv 2) pa_nil)) (pa_cons (pe_op op_add (pv 4) pe_int) pa_nil))))) pa_nil)))) pss_nil))))
      (pss_cons (ps_if (pt_cmpR op_lt (pe_callB call_len (by rfl) B.len PySem.boot_len (pa_cons (pv 2) pa_nil)) (pe_callB call_len (by rfl) B.len PySem.boot_len (pa_cons (pe_ix ix_tup (pv 0) pe_int (fun _ _ => rfl)) pa_nil)) (nomark _)) (pss_one (ps_raise rfl (takes_of rfl rfl rfl rfl) (pmk_bl BL (hr.mono (by decide)) rfl (pa_cons (pe_op op_add (pe_callB call_len (by rfl) B.len PySem.boot_len (pa_cons (pv 3) pa_nil)) pe_int) (pa_cons pe_int pa_nil))))) pss_nil)
      (pss_one (ps_ret (pe_callTy call_tuple_of (by rfl) B.tuple (by decide +kernel) (pa_cons (pv 2) pa_nil)))))))), ?_⟩
    obtain ⟨e, t, g, b, h0, he, hrest⟩ := id hc
    have he : H e = some (.tup (c.eds.map V.int)) := he
    refine ⟨_, rfl, a, c, rfl, hc, ok, hT, fun H1 e1 => ?_⟩
    refine ⟨_, rfl, _, _, _, _, rfl, ty_str x, kb_str_str, true, rfl, iteF ?_⟩
    refine ⟨Nat.zero_le _, fun fa hfa => ?_⟩
    have fa0 : H fa = none := e1.free hT hfa
    have e2 : Ext T H (upd H1 fa (.lst (([] : List Addr).map V.ref))) := e1.put hT fa0 _
    have f2 : (upd H1 fa (.lst (([] : List Addr).map V.ref))) fa = some (.lst (([] : List Addr).map V.ref)) := upd_same
    refine ⟨_, rfl, ⟨_, rfl⟩, x, _, rfl, rfl, by decide +kernel, (by rw [sizeLine_eq]; omega), fun rows hrows => ⟨_, _, rfl, ?_⟩⟩
    have nrf : fa ≠ rows := fun z => by rw [← z, upd_same] at hrows; cases hrows
    have e3 : Ext T H (upd (upd H1 fa (.lst (([] : List Addr).map V.ref))) rows (.lst ((Txt.split x (Str.ofString "\n")).map V.str))) := e2.put hT (e2.free hT hrows) _
    have f3 : (upd (upd H1 fa (.lst (([] : List Addr).map V.ref))) rows (.lst ((Txt.split x (Str.ofString "\n")).map V.str))) fa = some (.lst (([] : List Addr).map V.ref)) := by rw [upd_ne nrf]; exact f2
    have r3 : (upd (upd H1 fa (.lst (([] : List Addr).map V.ref))) rows (.lst ((Txt.split x (Str.ofString "\n")).map V.str))) rows = some (.lst ((Txt.split x (Str.ofString "\n")).map V.str)) := upd_same
    show tSeq _ _ _ _ (upd (upd H1 fa (.lst (([] : List Addr).map V.ref))) rows (.lst ((Txt.split x (Str.ofString "\n")).map V.str)))
    generalize upd (upd H1 fa (.lst (([] : List Addr).map V.ref))) rows (.lst ((Txt.split x (Str.ofString "\n")).map V.str)) = H3 at e3 f3 r3
    have hrs : (Txt.split x (Str.ofString "\n")).map tl = KM.linesOf (tl x) := KM.split_nl tl_nl (by decide +kernel)
    generalize Txt.split x (Str.ofString "\n") = rs at hrs r3
    have T3 := e3.ok hT
    have hll : (KM.linesOf (tl x)).length ≤ 90001 := by
      have := KM.cut_len 10 (tl x) []
      have h2 := len_tl x
      unfold KM.linesOf
      omega
    have hrl : rs.length = (KM.linesOf (tl x)).length := by rw [← hrs, List.length_map]
    have hRT : KM.rdPlan c.per c.eds c.gaps (tl x) = match KM.rdPLines c.per c.eds c.gaps [] ((KM.linesOf (tl x)).map KM.wordsOf) 1 with
        | .error e => .error e
        | .ok acc => if acc.length < c.eds.length then .error (rs.length + 1, 1) else .ok acc := by rw [hrl]; rfl
    generalize hlines : (KM.linesOf (tl x)).map KM.wordsOf = lines at hRT
    have hlen : lines.length = rs.length := by rw [← hlines, List.length_map, hrl]
    have hline : ∀ (i : Nat) (row : Str), rs[i]? = some row → lines[i]? = some (KM.wordsOf (tl row)) := fun i row h => by
      rw [← hlines, ← hrs, List.getElem?_map, List.getElem?_map, h]
      rfl
    have hrow : ∀ (i : Nat) (row : Str), rs[i]? = some row → row.length ≤ 90000 := fun i row h => by
      have hm : tl row ∈ KM.linesOf (tl x) := by rw [← hrs]; exact List.mem_map_of_mem (List.mem_of_getElem? h)
      have h1 := KM.cut_each 10 (tl x) [] _ hm
      have h2 := len_tl x
      have h3 := len_tl row
      simp only [List.length_nil] at h1
      omega
    -- the rows' own list: new, so told beside Ext
    refine ⟨_, rfl, rows, _, rfl, SqL.of r3, GB.for_enumL (K := K) (a := rows) (xs := rs.map V.str) (fun i σ H' => ∃ (v4 v5 v6 : Option V) (as : List Addr) (acc : List (List Int)), σ = [some (.ref a), some (.str x), some (.ref fa), some (.ref rows), v4, v5, v6, none] ∧ Ext T H H' ∧ H' rows = some (.lst (rs.map V.str)) ∧
        H' fa = some (.lst (as.map V.ref)) ∧ Paired (fun b r => TupI H' b r) as acc ∧ acc.length ≤ c.eds.length ∧ KM.rdPLines c.per c.eds c.gaps [] lines 1 = KM.rdPLines c.per c.eds c.gaps acc (lines.drop i) (i + 1))
      ⟨none, none, none, [], [], rfl, e3, r3, f3, .nil, Nat.zero_le _, rfl⟩
      (fun i σ H' ⟨_, _, _, _, _, _, _, q, _⟩ => SqL.of q) ?_ ?_⟩
    · rintro i y Tq σ H4 hy ⟨v4, v5, v6, as, acc, rfl, e4, r4, f4, p4, l4, hrl3⟩ hTq
      obtain ⟨row, hrw, rfl⟩ := str_at hy
      have T4 := e4.ok hT
      have e5 : Ext T H4 (upd H4 Tq (.tup [.int (i : Nat), .str row])) := Ext.new T4 hTq _
      refine ⟨Tq, _, rfl, SqT.of upd_same, rfl, _, _, rfl, _, _, rfl, rfl, ?_⟩
      generalize upd H4 Tq (.tup [.int (i : Nat), .str row]) = H5 at e5
      have T5 := e5.ok T4
      refine seq_i (asg_i (words_read (j := 5) (k := 7) T5 rfl (hrow i row hrw) (fun _ => rfl) (fun _ => rfl) (fun H6 Dl ws e6 _ hws hwo => ?_)))
      have e56 := e5.trans e6
      have T6 := e56.ok T4
      have hdrop : lines.drop i = KM.wordsOf (tl row) :: lines.drop (i + 1) := drop_get (hline i row hrw)
      have hi9 : i < 90001 := by have := lt_of_get hrw; omega
      rw [hdrop] at hrl3
      have f6 := e56.lst T4 f4
      have r6 := e56.lst T4 r4
      have p6 : Paired (fun b r => TupI H6 b r) as acc := Paired.mapP p4 fun b r q => TupI.ext q T4 e56
      have e06 := e4.trans e56
      refine ⟨_, rfl, _, .inl ⟨_, SqL.of hws.at_, rfl⟩, ite2 (fun cc => ?_) (fun cc => ?_)⟩
      · have hne : ws ≠ [] := fun z => by rw [z] at cc; cases cc
        have hne2 : KM.wordsOf (tl row) ≠ [] := fun z => by rw [← hwo] at z; exact hne (List.map_eq_nil_iff.mp z)
        refine ⟨_, rfl, lst_at f6, _, rfl, _, rfl, _, rfl, _, acc.length, rfl, .inl ⟨_, SqL.of f6, by rw [List.length_map, p6.length]⟩, _, rfl, _, _, rfl, rfl, nil_i ⟨a, Dl, c, ws, acc.length, _, rfl, hc.ext hT e06, ok, hws, hne, l4, T6, fun ts h' H7 q e7 hq0 hq => nil_i ?_, fun j h' => ?_⟩⟩
        · rw [hwo] at h'
          have f7 := e7.lst T6 f6
          have r7 := e7.lst T6 r6
          refine ⟨fa, _, _, rfl, rfl, f7, small_line (by rw [List.length_map, p6.length]; have := ok.eds.2.1; omega), ?_⟩
          have nq : q ≠ fa := fun z => by rw [z, f6] at hq0; cases hq0
          have ef : as.map V.ref ++ [V.ref q] = (as ++ [q]).map V.ref := by rw [List.map_append]; rfl
          refine ⟨_, _, _, as ++ [q], acc ++ [ts], rfl, (e06.trans e7).put hT fa0 _, by rw [upd_ne (Ne.symm nrf)]; exact r7, by rw [upd_same, ef], ?_, ?_, ?_⟩
          · refine pair_snoc (Paired.mapP p6 fun b r q' => ?_) ?_
            · have q' : H7 b = some (.tup (r.map V.int)) := TupI.ext q' T6 e7
              show upd _ _ _ b = _
              rw [upd_ne (fun z => by rw [z, f7] at q'; cases q')]
              exact q'
            · show upd _ _ _ q = _
              rw [upd_ne nq]
              exact hq
          · have := ticks_lt h' l4
            rw [List.length_append, List.length_singleton]
            omega
          · rw [hrl3]
            show (if KM.wordsOf (tl row) = [] then _ else _) = _
            rw [if_neg hne2, h']
        · rw [hwo] at h'
          have : KM.rdPlan c.per c.eds c.gaps (tl x) = .error (i + 1, j) := by
            rw [hRT, hrl3]
            show (match (if KM.wordsOf (tl row) = [] then _ else _ : Except (Nat × Nat) (List (List Int))) with | .error e => _ | .ok r => _) = _
            rw [if_neg hne2, h']
          exact (k2 (i + 1) j this).ext e06
      · have hne : ws = [] := by
          cases ws with
          | nil => rfl
          | cons => exact absurd rfl cc
        refine ⟨_, _, _, as, acc, rfl, e06, r6, f6, p6, l4, ?_⟩
        rw [hrl3]
        show (if KM.wordsOf (tl row) = [] then _ else _) = _
        rw [if_pos (by rw [← hwo, hne]; rfl)]
    · rintro σ H4 ⟨v4, v5, v6, as, acc, rfl, e4, r4, f4, p4, l4, hrl3⟩
      rw [List.length_map] at hrl3
      have T4 := e4.ok hT
      have hend : KM.rdPLines c.per c.eds c.gaps [] lines 1 = .ok acc := by
        rw [hrl3, List.drop_eq_nil_of_le (by rw [hlen]; exact Nat.le_refl _)]
        rfl
      rw [hend] at hRT
      refine ⟨_, rfl, _, acc.length, rfl, .inl ⟨_, SqL.of f4, by rw [List.length_map, p4.length]⟩, _, rfl, a, _, _, _, rfl, rfl, SqT.of (e4.tup hT h0), rfl, _, c.eds.length, rfl, .inr ⟨_, SqT.of (e4.tup hT he), by rw [List.length_map]⟩, _, _, rfl, rfl, _, rfl, ite2 (fun cc => ?_) (fun cc => ?_)⟩
      · have cc := of_decide_eq_true cc
        have : KM.rdPlan c.per c.eds c.gaps (tl x) = .error (rs.length + 1, 1) := by
          rw [hRT]
          dsimp only
          rw [if_pos (by omega)]
        exact ⟨_, rfl, _, rs.length, rfl, .inl ⟨_, SqL.of r4, by rw [List.length_map]⟩, _, _, rfl, rfl, bl_close T4 ((k2 _ _ this).ext e4)⟩
      · have : KM.rdPlan c.per c.eds c.gaps (tl x) = .ok acc := by
          rw [hRT]
          dsimp only
          rw [if_neg]
          intro z
          exact cc (decide_eq_true (by omega))
        exact ⟨_, rfl, fa, _, rfl, .inl ⟨SqL.of f4, fun q hq => k1 acc this _ q (e4.put hT (e4.free hT hq) _) ⟨as, upd_same, Paired.mapP p4 fun b r q' => by
          have q' : H4 b = some (.tup (r.map V.int)) := q'
          show upd _ _ _ b = _
          rw [upd_ne (ne_of_none q' hq)]
          exact q'⟩⟩⟩
end
end CW

namespace CW
open PySem PySem.Spec PyProof.Rows L2 GA TL
theorem SqL.extS {K : PySem.W.Frag} {T S : List Addr} {H H' : Hp} {a : Addr} {xs : List V} (h : SqL K H a xs) (t : TOk T H) (e : ExtS T S H H') (n : a ∉ S) : SqL K H' a xs := by
  rcases h with (h | ⟨o, h⟩) | h
  · exact .inl (.inl (e.keep _ _ h (t.out h fun _ z => nomatch z) n))
  · exact .inl (.inr ⟨o, e.keep _ _ h (t.out h fun _ z => nomatch z) n⟩)
  · exact .inr h
/-- sc is none of S, or a list of the module's own that no heap tells of -/
def Off (K : PySem.W.Frag) (S : List Addr) (a : Addr) (xs : List V) : Prop := a ∉ S ∨ SqL K (fun _ => none) a xs
theorem SqL.extO {K : PySem.W.Frag} {T S : List Addr} {H H' : Hp} {a : Addr} {xs : List V} (h : SqL K H a xs) (t : TOk T H) (e : ExtS T S H H') (n : Off K S a xs) : SqL K H' a xs := by
  rcases n with n | n
  · exact SqL.extS h t e n
  · rcases n with (z | ⟨o, z⟩) | z
    · cases z
    · cases z
    · exact .inr z
theorem Off.app {K : PySem.W.Frag} {b d a : Addr} {xs : List V} (h : Off K [b] a xs) (g : Off K [d] a xs) : Off K [b, d] a xs := by
  rcases h with h | h
  · rcases g with g | g
    · exact .inl (by simp at h g ⊢; exact ⟨h, g⟩)
    · exact .inr g
  · exact .inr h
/-- a list that stands here and an address that is free here -/
theorem Off.new {K : PySem.W.Frag} {H : Hp} {p a : Addr} {xs : List V} (h : SqL K H a xs) (e : H p = none) : Off K [p] a xs := by
  rcases h with (z | ⟨o, z⟩) | z
  · exact .inl (by rw [List.mem_singleton]; intro q; rw [q, e] at z; cases z)
  · exact .inl (by rw [List.mem_singleton]; intro q; rw [q, e] at z; cases z)
  · exact .inr (.inr z)
/-- the row of the law's draws at rw -/
def LRow (K : PySem.W.Frag) (H : Hp) (rw sc : Addr) (ns : List Int) : Prop :=
  ∃ i m z : Int, H rw = some (.lst [.ref sc, .int i, .int m, .int z]) ∧ 0 ≤ i ∧ 0 ≤ m ∧ m < 2147483648 ∧ SqL K H sc (ns.map V.int) ∧ Off K [rw] sc (ns.map V.int)
def spTaken (K : PySem.W.Frag) (T : List Addr) : Sp := fun vs H Q _ => ∃ (rw sc : Addr) (ns : List Int) (many : Int), vs = [.ref rw, .int many] ∧ 1 ≤ many ∧ many ≤ 1000000 ∧ LRow K H rw sc ns ∧ TOk T H ∧
  ∀ (v : Int) (H' : Hp), 0 ≤ v → v < many → ExtS T [rw] H H' → LRow K H' rw sc ns → Q (.int v) H'
theorem scTaken : FnScope ["_law_row", "_law_many", "_law_found", "_law_cell"] ["_law_row", "_law_many"] (defScope sTaken) := ⟨rfl, rfl, rfl, by decide +kernel, rfl, by decide +kernel, by decide +kernel⟩
section
variable {P : Program} {w : World} {K : PySem.W.Frag} {mg : Str → Option Value} {base : Heap} {T S : List Addr} {H H0 : Hp}
theorem row_put {rw sc : Addr} {ns : List Int} {i m z i' m' z' : Int} (hT : TOk T H) (h : H rw = some (.lst [.ref sc, .int i, .int m, .int z])) (hs : SqL K H sc (ns.map V.int)) (n : Off K [rw] sc (ns.map V.int)) (h1 : 0 ≤ i') (h2 : 0 ≤ m') (h3 : m' < 2147483648) :
    ExtS T [rw] H (upd H rw (.lst [.ref sc, .int i', .int m', .int z'])) ∧ LRow K (upd H rw (.lst [.ref sc, .int i', .int m', .int z'])) rw sc ns := by
  have e : ExtS T [rw] H (upd H rw (.lst [.ref sc, .int i', .int m', .int z'])) := ExtS.own hT (by simp) h (fun _ q => nomatch q) _
  exact ⟨e, i', m', z', upd_same, h1, h2, h3, SqL.extO hs hT e n, n⟩
theorem cal_taken (D : DefAt K mg "_law_taken" sTaken) (B : Bl mg) : Cal P w K mg base CX0 1 "_law_taken" ["_law_row", "_law_many"] (spTaken K T) := by
  refine D.cal scTaken (fun _ _ _ _ _ _ us hl => match us, hl with | [_, _], _ => rfl) (fun vs H Q E h => ?_) (fun f cdv A outer s H vs Q E hr h => ?_)
  · obtain ⟨rw, sc, ns, many, rfl, _⟩ := h
    rfl
  · obtain ⟨rw, sc, ns, many, rfl, hm1, hm2, ⟨i, m, z, hrow, hi, hm, hm3, hsc, hne⟩, hT, k⟩ := h
    refine ⟨_, pss_cons (ps_if (pt_cmpR op_gt (pe_ix ix_list (pv 0) pe_int (fun _ _ => rfl)) pe_int (nomark _))
        (pss_cons (ps_set (i := 2) scTaken.nd rfl (Or.inl rfl) (pe_op op_mod (pe_callTy call_int1 (by rfl) B.int (by decide +kernel) (pa_cons (pe_ix ix_list (pv 0) pe_int (fun _ _ => rfl)) pa_nil)) (pv 1)))
        (pss_cons (ps_asg (pe_op op_fdiv (pe_ix ix_list (pv 0) pe_int (fun _ _ => rfl)) (pv 1)) (pg_sub (pv 0) pe_int set_list))
        (pss_one (ps_ret (pv 2))))) pss_nil)
      (pss_cons (ps_asg (pe_op op_add (pe_ix ix_list (pv 0) pe_int (fun _ _ => rfl)) pe_int) (pg_sub (pv 0) pe_int set_list))
      (pss_cons (ps_if (pt_cmpR op_gt (pe_ix ix_list (pv 0) pe_int (fun _ _ => rfl)) (pe_callB call_len (by rfl) B.len PySem.boot_len (pa_cons (pe_ix ix_list (pv 0) pe_int (fun _ _ => rfl)) pa_nil)) (nomark _))
        (pss_cons (ps_asg (pe_op op_mod (pe_callTy call_int1 (by rfl) B.int (by decide +kernel) (pa_cons (pe_op op_add (pe_op op_mul (pe_ix ix_list (pv 0) pe_int (fun _ _ => rfl)) pe_int) pe_int) pa_nil)) pe_int) (pg_sub (pv 0) pe_int set_list))
        (pss_one (ps_ret (pe_op op_mod (pe_callTy call_int1 (by rfl) B.int (by decide +kernel) (pa_cons (pe_op op_fdiv (pe_ix ix_list (pv 0) pe_int (fun _ _ => rfl)) pe_int) pa_nil)) (pv 1))))) pss_nil)
      (pss_cons (ps_set (i := 3) scTaken.nd rfl (Or.inl rfl) (pe_ix ix_list (pe_ix ix_list (pv 0) pe_int (fun _ _ => rfl)) (pe_op op_sub (pe_ix ix_list (pv 0) pe_int (fun _ _ => rfl)) pe_int) (fun _ _ => rfl)))
      (pss_cons (ps_asg (pe_op op_mod (pe_callTy call_int1 (by rfl) B.int (by decide +kernel) (pa_cons (pe_op op_add (pe_op op_add (pe_op op_mul (pe_ix ix_list (pv 0) pe_int (fun _ _ => rfl)) pe_int) (pv 3)) pe_int) pa_nil)) pe_int) (pg_sub (pv 0) pe_int set_list))
      (pss_cons (ps_if (pt_cmpR op_ge (pv 3) (pe_op op_pow pe_int pe_int) (nomark _)) (pss_one (ps_asg (pe_op op_fdiv (pv 3) (pv 1)) (pg_sub (pv 0) pe_int set_list))) pss_nil)
      (pss_one (ps_ret (pe_op op_mod (pe_callTy call_int1 (by rfl) B.int (by decide +kernel) (pa_cons (pv 3) pa_nil)) (pv 1))))))))), ?_⟩
    have hd : CDiv z many := ⟨by omega, by omega⟩
    refine ⟨_, rfl, rw, _, _, _, rfl, rfl, SqL.of hrow, rfl, _, _, rfl, rfl, _, rfl, ite2 (fun c => ?_) (fun c => ?_)⟩
    · refine ⟨_, rfl, rw, _, _, _, rfl, rfl, SqL.of hrow, rfl, .inl ⟨_, rfl, ?_⟩⟩
      refine ⟨_, rfl, _, _, rfl, rfl, by omega, ?_⟩
      refine ⟨_, rfl, rw, _, _, _, rfl, rfl, SqL.of hrow, rfl, _, rfl, _, _, rfl, rfl, hd, ?_⟩
      refine ⟨_, rfl, rw, _, 3, 3, rfl, rfl, hrow, rfl, ?_⟩
      obtain ⟨x1, x2⟩ := row_put (z' := z / many) (m' := m) (i' := i) hT hrow hsc hne hi hm hm3
      exact ⟨_, rfl, k _ _ (Int.emod_nonneg _ (by omega)) (Int.emod_lt_of_pos _ (by omega)) x1 x2⟩
    · refine ⟨_, rfl, rw, _, _, _, rfl, rfl, SqL.of hrow, rfl, _, _, rfl, rfl, ?_⟩
      refine ⟨_, rfl, rw, _, 1, 1, rfl, rfl, hrow, rfl, ?_⟩
      show tSeq _ _ _ _ (upd H rw (.lst [.ref sc, .int (i + 1), .int m, .int z]))
      obtain ⟨x1, x2⟩ := row_put (z' := z) (m' := m) (i' := i + 1) hT hrow hsc hne (by omega) hm hm3
      have h1 : (upd H rw (.lst [.ref sc, .int (i + 1), .int m, .int z])) rw = some (.lst [.ref sc, .int (i + 1), .int m, .int z]) := upd_same
      have hs1 : SqL K (upd H rw (.lst [.ref sc, .int (i + 1), .int m, .int z])) sc (ns.map V.int) := SqL.extO hsc hT x1 hne
      generalize upd H rw (.lst [.ref sc, .int (i + 1), .int m, .int z]) = H1 at x1 h1 hs1
      have T1 := x1.ok hT
      have mulok : CMul m 48271 := .inr ⟨by decide, by decide⟩
      refine ⟨_, rfl, rw, _, _, _, rfl, rfl, SqL.of h1, rfl, _, rfl, rw, _, _, _, rfl, rfl, SqL.of h1, rfl, _, ns.length, rfl, .inl ⟨_, hs1, by rw [List.length_map]⟩, _, _, rfl, rfl, _, rfl, ite2 (fun c2 => ?_) (fun c2 => ?_)⟩
      · refine ⟨_, rfl, rw, _, _, _, rfl, rfl, SqL.of h1, rfl, _, _, rfl, rfl, mulok, _, _, rfl, rfl, .inl ⟨_, rfl, _, _, rfl, rfl, (by show (0 : Int) < 2147483647; decide), ?_⟩⟩
        refine ⟨_, rfl, rw, _, 2, 2, rfl, rfl, h1, rfl, ?_⟩
        obtain ⟨y1, y2⟩ := row_put (z' := z) (m' := (m * 48271 + 11) % 2147483647) (i' := i + 1) T1 h1 hs1 hne (by omega) (Int.emod_nonneg _ (by decide)) (by have := Int.emod_lt_of_pos (m * 48271 + 11) (b := 2147483647) (by decide); omega)
        refine ⟨_, rfl, rw, _, _, _, rfl, rfl, SqL.of upd_same, rfl, _, _, rfl, rfl, ⟨by decide, by decide⟩, .inl ⟨_, rfl, _, rfl, _, _, rfl, rfl, by omega, ?_⟩⟩
        exact k _ _ (Int.emod_nonneg _ (by omega)) (Int.emod_lt_of_pos _ (by omega)) (x1.trans y1) y2
      · have c2 : i + 1 ≤ (ns.length : Int) := by
          by_cases q : (ns.length : Int) < i + 1
          · exact absurd (decide_eq_true q) c2
          · omega
        obtain ⟨cell, hcell⟩ := getq (l := ns) (i := i.toNat) (by omega)
        have hat : atI (ns.map V.int) (i + 1 - 1) = some (V.int cell) := by
          have := atI_int hcell
          rw [show ((i.toNat : Nat) : Int) = i + 1 - 1 by omega] at this
          exact this
        refine ⟨_, rfl, rw, _, _, _, rfl, rfl, SqL.of h1, rfl, _, rfl, rw, _, _, _, rfl, rfl, SqL.of h1, rfl, _, _, rfl, rfl, sc, _, _, _, rfl, rfl, hs1, hat, ?_⟩
        refine ⟨_, rfl, rw, _, _, _, rfl, rfl, SqL.of h1, rfl, _, _, rfl, rfl, mulok, _, rfl, _, _, rfl, rfl, _, _, rfl, rfl, .inl ⟨_, rfl, _, _, rfl, rfl, (by show (0 : Int) < 2147483647; decide), ?_⟩⟩
        refine ⟨_, rfl, rw, _, 2, 2, rfl, rfl, h1, rfl, ?_⟩
        obtain ⟨y1, y2⟩ := row_put (z' := z) (m' := (m * 48271 + cell + 11) % 2147483647) (i' := i + 1) T1 h1 hs1 hne (by omega) (Int.emod_nonneg _ (by decide)) (by have := Int.emod_lt_of_pos (m * 48271 + cell + 11) (b := 2147483647) (by decide); omega)
        have h2 : (upd H1 rw (.lst [.ref sc, .int (i + 1), .int ((m * 48271 + cell + 11) % 2147483647), .int z])) rw = some (.lst [.ref sc, .int (i + 1), .int ((m * 48271 + cell + 11) % 2147483647), .int z]) := upd_same
        have hs2 : SqL K (upd H1 rw (.lst [.ref sc, .int (i + 1), .int ((m * 48271 + cell + 11) % 2147483647), .int z])) sc (ns.map V.int) := SqL.extO hs1 T1 y1 hne
        show tSeq _ _ _ _ (upd H1 rw (.lst [.ref sc, .int (i + 1), .int ((m * 48271 + cell + 11) % 2147483647), .int z]))
        generalize upd H1 rw (.lst [.ref sc, .int (i + 1), .int ((m * 48271 + cell + 11) % 2147483647), .int z]) = H2 at y1 y2 h2 hs2
        have T2 := y1.ok T1
        refine ⟨_, rfl, _, _, rfl, rfl, ⟨by decide, by decide, by decide⟩, _, _, rfl, rfl, _, rfl, ite2 (fun c3 => ?_) (fun c3 => ?_)⟩
        · refine ⟨_, rfl, _, rfl, _, _, rfl, rfl, ⟨by omega, by omega⟩, _, rfl, rw, _, 3, 3, rfl, rfl, h2, rfl, ?_⟩
          obtain ⟨u1, u2⟩ := row_put (z' := cell / many) (m' := (m * 48271 + cell + 11) % 2147483647) (i' := i + 1) T2 h2 hs2 hne (by omega) (Int.emod_nonneg _ (by decide)) (by have := Int.emod_lt_of_pos (m * 48271 + cell + 11) (b := 2147483647) (by decide); omega)
          exact ⟨_, rfl, .inl ⟨_, rfl, _, rfl, _, _, rfl, rfl, by omega, k _ _ (Int.emod_nonneg _ (by omega)) (Int.emod_lt_of_pos _ (by omega)) ((x1.trans y1).trans u1) u2⟩⟩
        · exact ⟨_, rfl, .inl ⟨_, rfl, _, rfl, _, _, rfl, rfl, by omega, k _ _ (Int.emod_nonneg _ (by omega)) (Int.emod_lt_of_pos _ (by omega)) (x1.trans y1) y2⟩⟩
end
end CW

namespace CW
open PySem PySem.Spec PyProof.Rows L2 GA TL
section
variable {P : Program} {w : World} {K : PySem.W.Frag} {mg : Str → Option Value} {base : Heap} {T S : List Addr} {H H0 : Hp}
/-! ### _law_pick -/
def spPick (K : PySem.W.Frag) (T : List Addr) : Sp := fun vs H Q _ => ∃ (rw sc th : Addr) (ns : List Int) (xs : List V), vs = [.ref rw, .ref th] ∧ H th = some (.lst xs) ∧ xs ≠ [] ∧ xs.length ≤ 100000 ∧ th ≠ rw ∧ LRow K H rw sc ns ∧ TOk T H ∧
  ∀ (i : Nat) (x : V) (H' : Hp), xs[i]? = some x → ExtS T [rw] H H' → LRow K H' rw sc ns → Q x H'
theorem scPick : FnScope ["_law_row", "_law_things"] ["_law_row", "_law_things"] (defScope sPick) := ⟨rfl, rfl, rfl, by decide +kernel, rfl, by decide +kernel, by decide +kernel⟩
theorem cal_pick (D : DefAt K mg "_law_pick" sPick) (B : Bl mg) (CT : Cal P w K mg base CX0 1 "_law_taken" ["_law_row", "_law_many"] (spTaken K T)) : Cal P w K mg base CX0 2 "_law_pick" ["_law_row", "_law_things"] (spPick K T) := by
  refine D.cal scPick (fun _ _ _ _ _ _ us hl => match us, hl with | [_, _], _ => rfl) (fun vs H Q E h => ?_) (fun f cdv A outer s H vs Q E hr h => ?_)
  · obtain ⟨rw, sc, th, ns, xs, rfl, _⟩ := h
    rfl
  · obtain ⟨rw, sc, th, ns, xs, rfl, hth, hne, hz, nth, hrow, hT, k⟩ := h
    refine ⟨_, pss_one (ps_ret (pe_ix ix_list (pv 1) (pe_cal CT hr rfl pass0 (pa_cons (pv 0) (pa_cons (pe_callB call_len (by rfl) B.len PySem.boot_len (pa_cons (pv 1) pa_nil)) pa_nil))) (fun _ _ => rfl))), ?_⟩
    have hp := List.length_pos_iff.mpr hne
    refine ⟨_, rfl, _, rfl, _, rfl, _, xs.length, rfl, .inl ⟨_, SqL.of hth, rfl⟩, rw, sc, ns, _, rfl, by omega, by omega, hrow, hT, fun v H' h1 h2 e1 r1 => ?_⟩
    obtain ⟨x, hx⟩ := getq (l := xs) (i := v.toNat) (by omega)
    have hat : atI xs v = some x := by
      have := atI_nat hx
      rw [show ((v.toNat : Nat) : Int) = v by omega] at this
      exact this
    exact ⟨th, _, _, _, rfl, rfl, SqL.of (e1.keep th _ hth (hT.out hth fun _ z => nomatch z) (by simpa using nth)), hat, k v.toNat x H' hx e1 r1⟩
/-! ### _law_alike -/
/-- alike, to a depth -/
def Alk (H : Hp) : Nat → V → V → Prop
  | 0, _, _ => False
  | n + 1, x, y => (∃ i, x = .int i ∧ y = .int i) ∨ ∃ (a b : Addr) (xs ys : List V), x = .ref a ∧ y = .ref b ∧ H a = some (.tup xs) ∧ H b = some (.tup ys) ∧ xs.length = ys.length ∧ ys.length ≤ 10000 ∧
      ∀ (i : Nat) (u v : V), xs[i]? = some u → ys[i]? = some v → Alk H n u v
theorem Alk.ext {H1 : Hp} (t : TOk T H) (e : Ext T H H1) : ∀ {n : Nat} {x y : V}, Alk H n x y → Alk H1 n x y
  | 0, _, _, h => h
  | n + 1, x, y, h => by
    rcases h with h | ⟨a, b, xs, ys, h1, h2, h3, h4, h5, h6, h7⟩
    · exact .inl h
    · exact .inr ⟨a, b, xs, ys, h1, h2, e.tup t h3, e.tup t h4, h5, h6, fun i u v hu hv => Alk.ext t e (h7 i u v hu hv)⟩
theorem alk_tupI {n : Nat} {a b : Addr} {r : List Int} (h1 : TupI H a r) (h2 : TupI H b r) (hz : r.length ≤ 10000) : Alk H (n + 2) (.ref a) (.ref b) :=
  .inr ⟨a, b, _, _, rfl, rfl, h1, h2, rfl, by rw [List.length_map]; exact hz, fun i u v hu hv => by
    rw [hu] at hv
    obtain rfl := Option.some.inj hv
    obtain ⟨m, _, rfl⟩ := mapI hu
    exact .inl ⟨m, rfl, rfl⟩⟩
theorem alk_tupT {n : Nat} {a b : Addr} {rows : List (List Int)} (h1 : TupT H a rows) (h2 : TupT H b rows) (hz : rows.length ≤ 10000) (hr : ∀ r ∈ rows, r.length ≤ 10000) : Alk H (n + 3) (.ref a) (.ref b) := by
  obtain ⟨as, p1, q1⟩ := h1
  obtain ⟨bs, p2, q2⟩ := h2
  refine .inr ⟨a, b, _, _, rfl, rfl, p1, p2, by rw [List.length_map, List.length_map, q1.length, q2.length], by rw [List.length_map, q2.length]; exact hz, fun i u v hu hv => ?_⟩
  obtain ⟨x, hx, rfl⟩ := mapR hu
  obtain ⟨y, hy, rfl⟩ := mapR hv
  obtain ⟨r, hr1, t1⟩ := paired_get' q1 hx
  obtain ⟨r', hr2, t2⟩ := paired_get' q2 hy
  rw [hr1] at hr2
  obtain rfl := Option.some.inj hr2
  exact alk_tupI t1 t2 (hr r (List.mem_of_getElem? hr1))
theorem alk_clk {a b : Addr} {c : Clk} (h1 : ClkAt H a c) (h2 : ClkAt H b c) (z1 : c.eds.length ≤ 10000) (z2 : c.tch.length ≤ 10000) (z3 : c.gaps.length ≤ 10000) (z4 : c.book.length ≤ 10000) (z5 : ∀ r ∈ c.tch, r.length ≤ 10000) (z6 : ∀ r ∈ c.gaps, r.length ≤ 10000) (z7 : ∀ r ∈ c.book, r.length ≤ 10000) : Alk H 4 (.ref a) (.ref b) := by
  obtain ⟨e, t, g, bk, p0, p1, p2, p3, p4⟩ := h1
  obtain ⟨e', t', g', bk', q0, q1, q2, q3, q4⟩ := h2
  refine .inr ⟨a, b, _, _, rfl, rfl, p0, q0, rfl, by show 5 ≤ 10000; decide, fun i u v hu hv => ?_⟩
  rcases i with _ | _ | _ | _ | _ | i
  · obtain rfl := Option.some.inj hu
    obtain rfl := Option.some.inj hv
    exact .inl ⟨_, rfl, rfl⟩
  · obtain rfl := Option.some.inj hu
    obtain rfl := Option.some.inj hv
    exact alk_tupI p1 q1 z1
  · obtain rfl := Option.some.inj hu
    obtain rfl := Option.some.inj hv
    exact alk_tupT p2 q2 z2 z5
  · obtain rfl := Option.some.inj hu
    obtain rfl := Option.some.inj hv
    exact alk_tupT p3 q3 z3 z6
  · obtain rfl := Option.some.inj hu
    obtain rfl := Option.some.inj hv
    exact alk_tupT p4 q4 z4 z7
  · simp at hu
def spAlike (T : List Addr) (n : Nat) : Sp := fun vs H Q _ => ∃ x y : V, vs = [x, y] ∧ Alk H n x y ∧ TOk T H ∧ ∀ H', Ext T H H' → Q (.bl true) H'
theorem scAlike : FnScope ["_law_found", "_law_due", "_law_k"] ["_law_found", "_law_due"] (defScope sAlike) := ⟨rfl, rfl, rfl, by decide +kernel, rfl, by decide +kernel, by decide +kernel⟩
/-- isinstance(e, (x, y)), x and y the names of built-in classes -/
theorem pe_isi2 {X : Cx} {T1 T2 : String} {x y : Str} {e : Expr} {te : TE} {p p2 p3 p4 pos : Pos} {kk : Nat} (B : Bl X.mg) (he : PE X e te) (hm1 : X.mg x = none) (hv1 : bootBuiltins x = some (.type T1)) (hm2 : X.mg y = none) (hv2 : bootBuiltins y = some (.type T2)) (hg : Gl X "isinstance" := by rfl) (hg1 : Gl X x := by rfl) (hg2 : Gl X y := by rfl)
    (hn1 : x ≠ "__name__" := by decide) (hd1 : (x == ("__debug__" : Str)) = false := by decide) (hn2 : y ≠ "__name__" := by decide) (hd2 : (y == ("__debug__" : Str)) = false := by decide)
    (hst : starEach [e, .Tuple [.Name x p2, .Name y p3] kk p4] X.env = (false, eval e X.env) :: starEach [.Tuple [.Name x p2, .Name y p3] kk p4] X.env := by rfl)
    (hst2 : starEach [.Tuple [.Name x p2, .Name y p3] kk p4] X.env = (false, eval (.Tuple [.Name x p2, .Name y p3] kk p4) X.env) :: starEach [] X.env := by rfl) (hpl : (backTo pos (starEach [.Tuple [.Name x p2, .Name y p3] kk p4] X.env)).any (·.1) = false := by rfl)
    (hs1 : starEach [.Name x p2, .Name y p3] X.env = (false, eval (.Name x p2) X.env) :: starEach [.Name y p3] X.env := by rfl) (hs2 : starEach [.Name y p3] X.env = (false, eval (.Name y p3) X.env) :: starEach [] X.env := by rfl) :
    PE X (.Call (.Name "isinstance" p) [e, .Tuple [.Name x p2, .Name y p3] kk p4] [] pos) (tCB (rIsiT X.K) (tCons te (tCons (tTup (tCons (tC (.ty T1)) (tCons (tC (.ty T2)) tNil))) tNil))) :=
  pe_callB (p := p) (pos := pos) call_isiT hg B.isi (by decide +kernel) (pa_cons he (pa_cons (pe_tup (pa_cons (pe_bltn (v := .ty T1) (pos := p2) hg1 hm1 hv1 rfl hn1 hd1) (pa_cons (pe_bltn (v := .ty T2) (pos := p3) hg2 hm2 hv2 rfl hn2 hd2) pa_nil hs2) hs1)) pa_nil hst2) hst) (by decide) (by decide) hst hpl
theorem kit2_tup {K : PySem.W.Frag} : PySem.W.kitAny K (.type "tuple") [.type "tuple", .type "list"] = some true := by
  unfold PySem.W.kitAny
  rw [kit_ty kb_tup_tup]
theorem kb_int_tup : kitB "int" "tuple" = some false := by decide +kernel
theorem kb_int_list : kitB "int" "list" = some false := by decide +kernel
theorem kit2_int {K : PySem.W.Frag} : PySem.W.kitAny K (.type "int") [.type "tuple", .type "list"] = some false := by
  unfold PySem.W.kitAny
  rw [kit_ty kb_int_tup]
  dsimp only
  unfold PySem.W.kitAny
  rw [kit_ty kb_int_list]
  dsimp only
  unfold PySem.W.kitAny
  rfl
theorem cls2 : Paired ClsV [V.ty "tuple", V.ty "list"] [.type "tuple", .type "list"] := .cons (.ty _) (.cons (.ty _) .nil)
theorem cal_alike (D : DefAt K mg "_law_alike" sAlike) (B : Bl mg) : ∀ n, Cal P w K mg base CX0 n "_law_alike" ["_law_found", "_law_due"] (spAlike T n)
  | 0 => by
    obtain ⟨f, oc, od, kV, doc, pm, an, cdv, ct, osl, m, lk, hcd, kp⟩ := D.ex
    have no : ∀ {vs H Q E}, spAlike T 0 vs H Q E → False := fun ⟨_, _, _, h, _⟩ => h
    exact ⟨f, PySem.W.fnOf "_law_alike" "_law_alike" (defArgs sAlike) (defBody sAlike) (defScope sAlike) .none kV doc pm an cdv ct, ⟨fun _ _ _ _ h => (no h).elim, fun _ _ _ _ _ _ _ _ _ _ _ _ _ h => (no h).elim⟩, m, kp, .all fun us hl => match us, hl with | [_, _], _ => rfl⟩
  | n + 1 => by
    have IH := cal_alike D B n
    refine D.cal scAlike (fun _ _ _ _ _ _ us hl => match us, hl with | [_, _], _ => rfl) (fun vs H Q E h => ?_) (fun f cdv A outer s H vs Q E hr h => ?_)
    · obtain ⟨x, y, rfl, _⟩ := h
      rfl
    · obtain ⟨x, y, rfl, ha, hT, k⟩ := h
      refine ⟨_, pss_cons (ps_if (pt_val (pe_isi2 (T1 := "tuple") (T2 := "list") B (pv 1) B.tuple (by decide +kernel) B.list (by decide +kernel)))
          (pss_cons (ps_if (PW.pt (pw_or (pt_not (pt_val (pe_isi2 (T1 := "tuple") (T2 := "list") B (pv 0) B.tuple (by decide +kernel) B.list (by decide +kernel)))) (pw_or1 (pt_cmpR op_ne (pe_isi (T := "list") B (pv 0) B.list (by decide +kernel)) (pe_isi (T := "list") B (pv 1) B.list (by decide +kernel)) (nomark _))))) (pss_one (ps_ret pe_bl)) pss_nil)
          (pss_cons (ps_if (pt_cmpR op_ne (pe_callB call_len (by rfl) B.len PySem.boot_len (pa_cons (pv 0) pa_nil)) (pe_callB call_len (by rfl) B.len PySem.boot_len (pa_cons (pv 1) pa_nil)) (nomark _)) (pss_one (ps_ret pe_bl)) pss_nil)
          (pss_one (ps_ret (pe_cmpR (op_eqD hr.units) (pe_lc (own := [("_law_k", 2)]) (g := gName 2) (tt := tNot (tB (fun σ H Q => tCons (tOp (rIxT K) (tVar 0) (tVar 2)) (tCons (tOp (rIxT K) (tVar 1) (tVar 2)) tNil) σ H fun vs H1 => spAlike T n vs H1 Q E0))) (te := tVar 2) rfl scAlike.nd
              (pi_range1 rfl B.range (pa_cons (pe_callB call_len (by rfl) B.len PySem.boot_len (pa_cons (pv 1) pa_nil)) pa_nil)) (blkOk_by (N := ["_law_found", "_law_due", "_law_k"]) (sc := defScope sAlike) (by decide +kernel))
              (fun _ _ _ _ _ => pg_name (i := 2) scAlike.nd rfl (Or.inl rfl)) (fun _ _ _ _ _ => pts_one (pt_not (pt_val (pe_cal IH hr rfl pass0 (pa_cons (pe_ix ix_tup (pv 0) (pv 2) (fun _ _ => rfl)) (pa_cons (pe_ix ix_tup (pv 1) (pv 2) (fun _ _ => rfl)) pa_nil)))))) (fun _ _ _ _ _ => pv 2)) (pe_lst pa_nil) (nomark _)))))) pss_nil)
        (pss_cons (ps_if (PW.pt (pw_or (pt_cmpR op_isN (pv 1) pe_non (nomark _)) (pw_or1 (pt_val (pe_isi (T := "str") B (pv 1) B.str (by decide +kernel)))))) (pss_one (ps_ret (pe_and (pe_cmpR op_eq (pv 0) (pv 1) (nomark _)) (pe_one (pe_cmpR op_eq (pe_isi (T := "str") B (pv 0) B.str (by decide +kernel)) (pe_isi (T := "str") B (pv 1) B.str (by decide +kernel)) (nomark _)))))) pss_nil)
        (pss_one (ps_ret (pe_and (pe_isi (T := "int") B (pv 0) B.int (by decide +kernel)) (pe_and (pe_cmpR op_eq (pe_isi (T := "bool") B (pv 0) B.bool (by decide +kernel)) (pe_isi (T := "bool") B (pv 1) B.bool (by decide +kernel)) (nomark _)) (pe_one (pe_cmpR op_eq (pv 0) (pv 1) (nomark _)))))))), ?_⟩
      rcases ha with ⟨i, rfl, rfl⟩ | ⟨a, b, xs, ys, rfl, rfl, hx, hy, hl, hz, hal⟩
      · refine ⟨_, rfl, ⟨by show 2 ≤ sizeLine; decide, fun tp htp => ⟨_, tp, _, _, _, _, rfl, upd_same, cls2, ty_int i, kit2_int, false, rfl, iteF ?_⟩⟩⟩
        have e1 : Ext T H (upd H tp (.tup [.ty "tuple", .ty "list"])) := Ext.new hT htp _
        refine ⟨_, rfl, rfl, _, rfl, iteF ⟨_, rfl, _, _, _, _, rfl, ty_int i, kb_int_str, false, rfl, iteF ?_⟩⟩
        refine ⟨_, rfl, _, _, _, _, rfl, ty_int i, kb_int_int, true, rfl, iteT ⟨_, rfl, _, _, _, _, rfl, ty_int i, kb_int_bool, _, rfl, _, _, _, _, rfl, ty_int i, kb_int_bool, rfl, true, rfl, iteT ⟨_, rfl, _, rfl, rfl, ?_⟩⟩⟩
        rw [decide_eq_true rfl]
        exact k _ e1
      · refine ⟨_, rfl, ⟨by show 2 ≤ sizeLine; decide, fun tp htp => ⟨_, tp, _, _, _, _, rfl, upd_same, cls2, ty_tup (by rw [upd_ne (ne_of_none hy htp)]; exact hy), kit2_tup, true, rfl, iteT ?_⟩⟩⟩
        have e1 : Ext T H (upd H tp (.tup [.ty "tuple", .ty "list"])) := Ext.new hT htp _
        show tSeq _ _ _ _ (upd H tp (.tup [.ty "tuple", .ty "list"]))
        generalize upd H tp (.tup [.ty "tuple", .ty "list"]) = H1 at e1
        have T1 := e1.ok hT
        have hx1 := e1.tup hT hx
        refine ⟨_, rfl, ⟨by show 2 ≤ sizeLine; decide, fun tq htq => ⟨_, tq, _, _, _, _, rfl, upd_same, cls2, ty_tup (by rw [upd_ne (ne_of_none hx1 htq)]; exact hx1), kit2_tup, true, rfl, iteF ?_⟩⟩⟩
        have e2 : Ext T H (upd H1 tq (.tup [.ty "tuple", .ty "list"])) := e1.put hT (e1.free hT htq) _
        show tTest _ _ (upd H1 tq (.tup [.ty "tuple", .ty "list"])) _
        generalize upd H1 tq (.tup [.ty "tuple", .ty "list"]) = H2 at e2
        have T2 := e2.ok hT
        have hx2 := e2.tup hT hx
        have hy2 := e2.tup hT hy
        refine ⟨_, rfl, _, _, _, _, rfl, ty_tup hx2, kb_tup_list, _, rfl, _, _, _, _, rfl, ty_tup hy2, kb_tup_list, rfl, false, rfl, iteF ?_⟩
        refine ⟨_, rfl, _, xs.length, rfl, .inr ⟨_, SqT.of hx2, rfl⟩, _, rfl, _, ys.length, rfl, .inr ⟨_, SqT.of hy2, rfl⟩, rfl, _, rfl, ?_⟩
        rw [hl]
        refine iteNS rfl ?_
        refine ⟨_, rfl, _, ys.length, rfl, .inr ⟨_, SqT.of hy2, rfl⟩, _, rfl, by omega, by omega, fun D hD => ?_⟩
        refine lc_range (n := ys.length) (fun i H' => Ext T H2 H' ∧ H' D = some (.lst [])) ⟨Ext.new T2 hD _, upd_same⟩ ?_ ?_
        · rintro i H' hi ⟨e3, d3⟩
          have T3 := e3.ok T2
          obtain ⟨u, hu⟩ := getq (l := xs) (i := i) (by omega)
          obtain ⟨v, hv⟩ := getq (l := ys) (i := i) hi
          have au : atI xs (0 + (i : Int)) = some u := by rw [Int.zero_add]; exact atI_nat hu
          have av : atI ys (0 + (i : Int)) = some v := by rw [Int.zero_add]; exact atI_nat hv
          refine ⟨rfl, _, rfl, _, rfl, a, _, _, _, rfl, rfl, SqT.of (e3.tup T2 hx2), au, _, rfl, _, rfl, b, _, _, _, rfl, rfl, SqT.of (e3.tup T2 hy2), av, nil_i ⟨u, v, rfl, Alk.ext hT (e2.trans e3) (hal i u v hu hv), T3, fun H4 e4 => ⟨true, rfl, iteF ⟨e3.trans e4, e4.lst T3 d3⟩⟩⟩⟩
        · rintro H4 ⟨e4, d4⟩
          have T4 := e4.ok T2
          refine ⟨Nat.zero_le _, fun q hq => ?_⟩
          have e5 : Ext T H4 (upd H4 q (.lst [])) := Ext.new T4 hq _
          exact ⟨.list [], .list [], .lst (SqL.of (e5.lst T4 d4)) .nil, .lst (SqL.of upd_same) .nil, rfl, rfl, k _ ((e2.trans e4).trans e5)⟩
end
end CW

/-! try with several except clauses that all bind the same name. -/
namespace TM
open PySem PySem.Spec PyProof.Rows L2
/-- behind a suite the name is gone -/
def offAt (i : Nat) (D : Ends) : Ends := { nx := fun σ H => D.nx (σ.set i none) H, rt := D.rt, bk := fun σ H => D.bk (σ.set i none) H, ct := fun σ H => D.ct (σ.set i none) H }
/-- what the clauses wish of an exception of the body, one after the other -/
def wManyAs (K : PySem.W.Frag) (i : Nat) (Wout : WX) (D : Ends) : List (Value × (Addr → Value → Option Addr → TS)) → WX
  | [] => Wout
  | (c, ts) :: r => fun cls d σ H => ∃ b, PySem.W.exmOne K cls c = some b ∧ (b = true → ∀ a, H a = none → ts a cls d (offAt i D) (σ.set i (some (.ref a))) H) ∧ (b = false → wManyAs K i Wout D r cls d σ H)
inductive HdsAs (X : Cx) (n : Str) : List ExceptHandler → List (Value × (Addr → Value → Option Addr → TS)) → Prop
  | nil : HdsAs X n [] []
  | cons {x : Str} {c : Value} {ts : Addr → Value → Option Addr → TS} {b₀ : Stmt} {suite : List Stmt} {np pos' : Pos} {hds : List ExceptHandler} {l : List (Value × (Addr → Value → Option Addr → TS))} (hc : Names X x c)
      (hsu : ∀ (a : Addr) (oe : Obj) (cls : Value) (d : Option Addr) (pn : List (Addr × Obj)), Zc cls d oe → (∃ vs, oe.data = .fields vs) → PSs (X.suite a ((a, oe) :: pn)) (b₀ :: suite) (ts a cls d)) (r : HdsAs X n hds l) :
      HdsAs X n (.ExceptHandler (some (.Name x np)) (some n) (b₀ :: suite) pos' :: hds) ((c, ts) :: l)
section
variable {X : Cx} {n : Str} {i : Nat} {body : List Stmt} {h₀ : ExceptHandler} {hds : List ExceptHandler} {l : List (Value × (Addr → Value → Option Addr → TS))} {pos : Pos} {tb : WX → TS} {Wout : WX}
theorem ps_try_manyAs (hs : X.stack = X.env :: X.outer) (hf : X.env.frame = some X.env.locals) (hN : X.N.Nodup) (hi : X.N[i]? = some n) (hln : X.env.kindOf n = some .local) (tk : Takes X Wout)
    (hb : ∀ (W : WX) (pn : List (Addr × Obj)) (xe : Value → Shared → Prop), Takes (X.tr pn xe) W → PassesOwn (model X.prog X.w) X.A X.env xe → PSs (X.tr pn xe) body (tb W))
    (hh : HdsAs X n (h₀ :: hds) l) : PS X (.Try body (h₀ :: hds) [] [] pos) (fun D σ H => tb (wManyAs X.K i Wout D l) D σ H) := by
  refine ⟨fun pins s σ H D I h => ?_⟩
  have ok := I.ok
  have hfr : X.A.frames = some (X.env :: X.outer) := by rw [ok.frames, hs]
  have hloc : Loc X.env.scope n := .inl hln
  refine wpAny_Try_except ?_
  refine wpAny_mono ((hb (wManyAs X.K i Wout D l) (X.pn ++ pins) (fun e s₁ => wpAny (model X.prog X.w) X.A (noteFrame e X.env) (fun _ s₂ => wpAny (model X.prog X.w) X.A (setFlight e none) (fun _ s₃ =>
    wpAny (model X.prog X.w) X.A (handleBy e X.env (h₀ :: hds)) (SP X pins D) X.xe s₃) X.xe s₂) X.xe s₁) (fun u s' xx => ?_) PassesOwn.looking).run [] s σ H D (I.toTry _) h) (fun f s1 hsp => ?_) (fun e s1 he => he)
  · obtain ⟨a, B, sI, pins', σ', H', cls, d, rfl, J', nb, up, sky, na, os, ag, w⟩ := xx
    have J : Inv X pins σ' H' sI := J'.ofTry ok
    have sky' : Sky B (X.env :: X.outer) a (Zc cls d) X.env.locals s'.heap := by rw [← hs]; exact sky
    show wpAny (model X.prog X.w) X.A (noteFrame (.ref a) X.env) _ _ _
    refine Sky.land Zc.steady hfr hf sky' fun h3 fl3 up3 => ?_
    have J3 : Inv X pins σ' H' { s' with heap := h3 } := J.landed nb fl3.1 (up.trans up3) os ag
    obtain ⟨oe3, vs3, he3, hz3, hd3⟩ := fl3.there
    have notFr : ∀ {h : Heap} {o : Obj} {vs : Array Value}, h.FunFrames B (X.env :: X.outer) → h.get? a = some o → o.data = .fields vs → a ∉ frs (X.env :: X.outer) := fun {h o vs} ff e dd hm => by
      obtain ⟨_, o', e', hnf⟩ := ff.mem hm
      rw [e] at e'; cases e'
      exact hnf _ dd
    have nfr := notFr fl3.2.2.1 he3 hd3
    have nL : a ≠ X.env.locals := fun z => nfr (List.mem_filterMap.mpr ⟨X.env, List.mem_cons_self, by rw [hf, z]⟩)
    have nF : a ∉ X.fs := fun hm => by
      obtain ⟨e, he, q⟩ := List.mem_filterMap.mp hm
      exact nfr (List.mem_filterMap.mpr ⟨e, List.mem_cons_of_mem _ he, q⟩)
    have S3 := J3.suite he3 hd3 na nL nF
    have go : ∀ {hds' : List ExceptHandler} {l' : List (Value × (Addr → Value → Option Addr → TS))}, HdsAs X n hds' l' → wManyAs X.K i Wout D l' cls d σ' H' →
        wpAny (model X.prog X.w) X.A (handleBy (.ref a) X.env hds') (SP X pins D) X.xe { s' with heap := h3 } := by
      intro hds' l' hk
      induction hk with
      | nil =>
        intro w
        refine wpAny_handleBy_nil ?_
        obtain ⟨k1, k2, k3, oe, vs, T, oT, ts', he, hz, hd, h1, hr⟩ := id fl3
        unfold PySem.passOn
        refine wpAny_bind (wpAny_field he hd h1 ?_)
        rw [if_neg (show ¬ ((Value.ref T == Value.none) = true) from by simp)]
        have fin : wpAny (model X.prog X.w) X.A (setFlight (.ref a) X.env.frame) (fun _ s4 => wpAny (model X.prog X.w) X.A (throw (.ref a) : Sem Flow) (SP X pins D) X.xe s4) X.xe { s' with heap := h3 } := by
          rw [hf]
          refine HandSPX.setFlight_upZ fl3 fun h4 hh4 up4 => wpAny_throw (tk _ _ ?_)
          exact ⟨a, B, sI, pins, σ', H', cls, d, rfl, J, nb, (up.trans up3).trans up4, .inr (.inr (by rw [hs]; exact hh4)), na, os, ag, w⟩
        first
          | exact wpAny_bind (wpAny_pure (wpAny_bind fin))
          | exact wpAny_bind fin
      | @cons x c ts b₀ suite np pos' hds2 l2 hc hsu r ih =>
        intro w
        obtain ⟨b, hb1, hyes, hno⟩ := w
        refine wpAny_handleBy_cons (codeAny_handlers_test ?_) (by intro q; cases q)
        have LT : PySem.W.Looks (model X.prog X.w) h3 (typeOf (.ref a)) cls := fun A Q E s k q => wpAny_typeOf_ref (k _ _ he3) (by rw [hz3.1]; exact q)
        have LM := PySem.W.exm_one (M := model X.prog X.w) (J3.kIn) LT hb1
        have test : ∀ {Q : Value → Shared → Prop} {E : Value → Shared → Prop}, Q c { s' with heap := h3 } → wpAny (model X.prog X.w) (X.A.mark (some (.ref a))) (eval (.Name x np) X.env) Q E { s' with heap := h3 } := fun {Q E} q => by
          obtain ⟨hg, hdbg, hm | ⟨hm, hv, hnn⟩⟩ := hc
          · exact ld_glob (X := X.suite a ((a, oe3) :: (X.pn ++ pins))) S3 hg hm q hdbg
          · exact ld_blt (X := X.suite a ((a, oe3) :: (X.pn ++ pins))) S3 hg hm hv q hnn hdbg
        refine test (LM.here ?_)
        cases b with
        | true =>
          refine codeAny_handlers_suite_as ?_
          refine HandSPX.lands_againZ fl3 fun h4 fl4 up4 => ?_
          have J4 : Inv X pins σ' H' { s' with heap := h4 } := J.landed nb fl4.1 ((up.trans up3).trans up4) os ag
          obtain ⟨oe4, vs4, he4, hz4, hd4⟩ := fl4.there
          have S4 := J4.suite he4 hd4 na nL nF
          refine store_ok (X := X.suite a ((a, oe4) :: (X.pn ++ pins))) (v := .ref a) S4 hN hi hloc rfl (fun s5 S5 => ?_) (.inr hln)
          refine wpAny_mono ((hsu a oe4 cls d (X.pn ++ pins) hz4 ⟨_, hd4⟩).run [] s5 _ H' _ S5 (hyes rfl a na)) (fun f s6 hsp => ?_) (fun _ _ z => False.elim z)
          have end_ : ∀ {σ6 : L2.St} {H6 : Hp} {Q : Shared → Prop}, Inv (X.suite a ((a, oe4) :: (X.pn ++ pins))) [] σ6 H6 s6 → (∀ s7, Inv X pins (σ6.set i none) H6 s7 → Q s7) →
              wpAny (model X.prog X.w) X.A (do bindName X.env n .none; unbindBehindTheSuite X.env n pos') (fun _ s7 => Q s7) X.xe s6 := fun {σ6 H6 Q} S6 hq => gone_ok (S6.unsuite ok) hN hi hln hq
          cases f with
          | next =>
            obtain ⟨σ6, H6, S6, q6⟩ := hsp
            exact end_ S6 fun s7 J7 => ⟨_, _, J7, q6⟩
          | brk =>
            obtain ⟨σ6, H6, S6, q6⟩ := hsp
            exact end_ S6 fun s7 J7 => ⟨_, _, J7, q6⟩
          | cont =>
            obtain ⟨σ6, H6, S6, q6⟩ := hsp
            exact end_ S6 fun s7 J7 => ⟨_, _, J7, q6⟩
          | ret u =>
            obtain ⟨v6, σ6, H6, S6, r6, q6⟩ := hsp
            exact end_ S6 fun s7 J7 => ⟨_, _, _, J7, r6, q6⟩
        | false =>
          show wpAny _ X.A (handleBy (.ref a) X.env hds2) _ _ _
          exact ih (hno rfl)
    exact go hh w
  · cases f with
    | next =>
      obtain ⟨σ', H', J', q⟩ := hsp
      exact wpAny_execs_nil ⟨σ', H', J'.ofTry ok, q⟩
    | brk =>
      obtain ⟨σ', H', J', q⟩ := hsp
      exact ⟨σ', H', J'.ofTry ok, q⟩
    | cont =>
      obtain ⟨σ', H', J', q⟩ := hsp
      exact ⟨σ', H', J'.ofTry ok, q⟩
    | ret u =>
      obtain ⟨v, σ', H', J', r, q⟩ := hsp
      exact ⟨v, σ', H', J'.ofTry ok, r, q⟩
end
end TM

/-! A lambda with one parameter that has a written int as its default, handed to a def that calls it without arguments. -/
namespace LD
open PySem PySem.Spec PyProof.Rows L2 LamX

/-- the lambda's object, its defaults at T -/
abbrev ldFn (qual : Str) (params : Arguments) (body : Expr) (scope : Scope) (cl : List (Str × Addr)) (dV pm cdv ct : Value) : FuncData :=
  { name := "<lambda>", qualname := qual, params, body := .expr body, scope, globals := mainGlobals, closure := cl, defaults := dV, kwdefaults := .none, doc := .none, pyModule := pm, annotations := none, code := cdv, closureTuple := ct, builtins := builtinsNs }
abbrev ldObj (qual : Str) (params : Arguments) (body : Expr) (scope : Scope) (cl : List (Str × Addr)) (dV pm : Value) (c' : Addr) (ct : Value) : Obj :=
  { cls := .type "function", data := .func (ldFn qual params body scope cl dV pm (.ref c') ct) }
section
variable {M : Model} {A : Around} {E : Value → Shared → Prop} {s : Shared} {qual : Str} {params : Arguments} {body : Expr} {scope : Scope} {env : Env} {c P : Addr} {ps : Array Value} {pos : Pos} {firstLine : Nat} {mg : Str → Option Value}
  {clos : List (Str × Addr)} {Q : Value → Shared → Prop} {dV : Value}
theorem tail_new (hcl : closureFor scope env = pure clos) (hge0 : env.globals = mainGlobals) (hg : s.heap.Ns mainGlobals mg) (hcode : env.code = .ref c) (C : PySem.W.CodeHd s.heap c P) (hP : s.heap.get? P = some { cls := .none, data := .fields ps }) (ht : TriplesOk ps.toList)
    (hnf : codeAmong pos ps.toList = none) (hgP : mainGlobals ≠ P) (hb : s.heap.BuiltinsAt mg P)
    (h : ∀ c' ctv h' tk, Heap.ExtBut P s.heap h' → s.heap.objs.size ≤ c' → c' < h'.objs.size → h'.CodeRec (.ref c') qual → h'.get? P = some { cls := .none, data := .fields (ps ++ #[rawInt pos.line, rawInt pos.col, .ref c']) } →
      Q (.ref h'.objs.size) { s with heap := h'.push (ldObj qual params body scope clos dV ((mg "__name__").getD .none) c' ctv), toks := tk }) :
    wpAny M A (makeTail "<lambda>" qual params (.expr body) scope env dV .none none pos firstLine) Q E s := by
  obtain ⟨bm, ob, hbm, hne0, _, hneP, hbo, hcls, hdict, hdata⟩ := hb
  unfold makeTail
  rw [hcl, hge0]
  refine wpAny_bind (wpAny_pure ?_)
  have sz : ∀ oT : Obj, s.heap.objs.size ≤ (s.heap.push oT).objs.size := fun oT => by rw [Heap.size_push]; omega
  by_cases hc0 : clos.isEmpty = true
  · rw [if_pos hc0]
    refine wpAny_bind (wpAny_pure (wpAny_bind (wpAny_functionCodeX hcode (C.code hP ht) (C.tab hP) hnf fun c' h' tk hx hge hlt _ hrec htb _ => ?_)))
    refine wpAny_bind (wpAny_builtinsFor (hg.extBut hx hgP) hbm hne0 (hx _ _ hneP hbo) hcls hdict hdata (wpAny_bind (wpAny_nsGet (hg.extBut hx hgP) ?_)))
    exact wpAny_bind (wpAny_pure (wpAny_newObj_type (h c' .none h' tk hx hge hlt hrec htb.2) (by size_fits)))
  · rw [if_neg hc0]
    have kp : ∀ (oT : Obj) b o, s.heap.get? b = some o → (s.heap.push oT).get? b = some o := fun oT b o e => Heap.get?_push_of_some _ e
    refine wpAny_bind (wpAny_newTextTuple (wpAny_bind (wpAny_functionCodeX hcode ((C.keeps (kp _)).code (kp _ _ _ hP) ht) ((C.keeps (kp _)).tab (kp _ _ _ hP)) hnf fun c' h' tk hx hge hlt _ hrec htb _ => ?_)))
    have hx' : Heap.ExtBut P s.heap h' := fun b o hb' e => hx b o hb' (kp _ _ _ e)
    refine wpAny_bind (wpAny_builtinsFor ((hg.push _).extBut hx hgP) hbm hne0 (hx' _ _ hneP hbo) hcls hdict hdata (wpAny_bind (wpAny_nsGet ((hg.push _).extBut hx hgP) ?_)))
    exact wpAny_bind (wpAny_pure (wpAny_newObj_type (h c' _ h' tk hx' (Nat.le_trans (sz _) hge) hlt hrec htb.2) (by size_fits)))
theorem tail_hit {cv : Value} (hcl : closureFor scope env = pure clos) (hge0 : env.globals = mainGlobals) (hg : s.heap.Ns mainGlobals mg) (hcode : env.code = .ref c) (C : PySem.W.CodeHd s.heap c P) (hP : s.heap.get? P = some { cls := .none, data := .fields ps }) (ht : TriplesOk ps.toList)
    (hf : codeAmong pos ps.toList = some cv) (hb : s.heap.BuiltinsAt mg P)
    (h : ∀ (ctv : Value) (h' : Heap) (tk : Tok), (∀ b o, s.heap.get? b = some o → h'.get? b = some o) → s.heap.objs.size ≤ h'.objs.size →
      Q (.ref h'.objs.size) { s with heap := h'.push { cls := .type "function", data := .func (ldFn qual params body scope clos dV ((mg "__name__").getD .none) cv ctv) }, toks := tk }) :
    wpAny M A (makeTail "<lambda>" qual params (.expr body) scope env dV .none none pos firstLine) Q E s := by
  obtain ⟨bm, ob, hbm, hne0, _, hneP, hbo, hcls, hdict, hdata⟩ := hb
  unfold makeTail
  rw [hcl, hge0]
  refine wpAny_bind (wpAny_pure ?_)
  have sz : ∀ oT : Obj, s.heap.objs.size ≤ (s.heap.push oT).objs.size := fun oT => by rw [Heap.size_push]; omega
  have kp : ∀ (oT : Obj) b o, s.heap.get? b = some o → (s.heap.push oT).get? b = some o := fun oT b o e => Heap.get?_push_of_some _ e
  by_cases hc0 : clos.isEmpty = true
  · rw [if_pos hc0]
    refine wpAny_bind (wpAny_pure (wpAny_bind (wpAny_functionCode_hit hcode (C.code hP ht) hf (wpAny_bind (wpAny_builtinsFor hg hbm hne0 hbo hcls hdict hdata (wpAny_bind (wpAny_nsGet hg ?_)))))))
    exact wpAny_bind (wpAny_pure (wpAny_newObj_type (h .none s.heap s.toks (fun _ _ e => e) (Nat.le_refl _)) (by size_fits)))
  · rw [if_neg hc0]
    refine wpAny_bind (wpAny_newTextTuple (wpAny_bind (wpAny_functionCode_hit hcode ((C.keeps (kp _)).code (kp _ _ _ hP) ht) hf (wpAny_bind (wpAny_builtinsFor (hg.push _) hbm hne0 (kp _ _ _ hbo) hcls hdict hdata (wpAny_bind (wpAny_nsGet (hg.push _) ?_)))))))
    exact wpAny_bind (wpAny_pure (wpAny_newObj_type (h _ _ s.toks (kp _) (sz _)) (by size_fits)))
end

/-- all but the table at P stays -/
def ExtP (P : Addr) (H H' : Hp) : Prop := ∀ b o, H b = some o → b ≠ P → H' b = some o
theorem ExtP.refl (P : Addr) (H : Hp) : ExtP P H H := fun _ _ h _ => h
theorem ExtP.trans {P : Addr} {H H1 H2 : Hp} (a : ExtP P H H1) (b : ExtP P H1 H2) : ExtP P H H2 := fun c o h n => b c o (a c o h n) n
/-- what a lambda, made and handed on, promises -/
def tLamP (T : List (Addr × Str)) (P : Addr) (TT : (XK → Hp → VK → Prop) → Hp → VK → Prop) (t : XK → TE) : TE := fun σ H Q => Tabs T H ∧ ∀ H1, ExtP P H H1 → Tabs T H1 → TT (fun E H' Q' => t E σ H' Q') H1 Q
/-- the default: one written int -/
structure Dfl (params : Arguments) (i : Int) : Prop where
  ko : params.kwonlyargs = []
  eval : ∀ env : Env, ∃ j p, defaultsOf params env = ([PySem.eval (.Constant (.int i) j p) env], [])
section
variable {X : Cx} {pins : List (Addr × Obj)} {σ : L2.St} {H : Hp} {s : Shared}
/-- the lambda is made; its defaults stand in a new tuple at Td -/
theorem ld_make {T : List (Addr × Str)} {c P : Addr} {params : Arguments} {i : Int} {body : Expr} {scope : Scope} {pos : Pos} {E : Value → Shared → Prop} {Q : Value → Shared → Prop} (I : Inv X pins σ H s) (TB : LamX.TabB X.base X.mg c P) (hcode : X.env.code = .ref c)
    (hm : (P, X.env.qual ++ "<lambda>") ∈ T) (hu : ∀ p ∈ T, p.1 = P → p.2 = X.env.qual ++ "<lambda>") (hT : Tabs T H) (hdef : Dfl params i) (hfree : ∀ y ∈ scope.names, y.2 = .free → ∃ c, X.env.cells.lookup y.1 = some c)
    (h : ∀ (f c' Td : Addr) (pm ctv : Value) (H1 : Hp) (s' : Shared), Inv X pins σ H1 s' → ExtP P H H1 → Tabs T H1 → H1 Td = some (.tup [.int i]) →
      s'.heap.get? f = some (ldObj (X.env.qual ++ "<lambda>") params body scope (cloFrom X.env.cells scope.names []) (.ref Td) pm c' ctv) → H1 f = none → f ∉ frs X.stack → H1 c' = some (CodeO c' (X.env.qual ++ "<lambda>")) → Q (.ref f) s') :
    wpAny (model X.prog X.w) X.A (eval (.Lambda params body scope pos) X.env) Q E s := by
  obtain ⟨jd, pd, ed⟩ := hdef.eval X.env
  rw [arm_eval_Lambda, ed]
  show wpAny _ _ (do let dv ← evalAll [eval (.Constant (.int i) jd pd) X.env]; let kdv ← holding dv (evalAllOpt []); makeFunction "<lambda>" (X.env.qual ++ "<lambda>") params (.expr body) scope X.env dv kdv [] pos pos.line) _ _ _
  refine wpAny_bind (wpAny_bind (wpAny_Constant_int ?_))
  refine wpAny_bind (wpAny_holding (wpAny_pure (wpAny_pure ?_)))
  refine wpAny_bind (wpAny_holding (wpAny_pure ?_))
  rw [makeFunction_eq]
  simp only [hdef.ko, List.zip_nil_left, List.filterMap_nil, List.isEmpty_nil, List.isEmpty_cons, Bool.false_eq_true, if_true, if_false, pure_bind]
  refine wpAny_bind (wpAny_newTextTuple ?_)
  -- the defaults' tuple
  have I0 : Inv X pins σ H { s with toks := s.toks + 1 } := I.tok _
  generalize htd : ({ s with toks := s.toks + 1 } : Shared).heap.objs.size = Td
  have J : Inv X pins σ (upd H Td (.tup [.int i])) { s with heap := s.heap.push { cls := .type "tuple", data := .seq [Value.int i s.toks].toArray }, toks := s.toks + 1 } := by
    refine I.laid (t' := s.toks + 1) (fun b o e => Heap.get?_push_of_some _ e) (Nat.le_of_eq htd) ⟨(by show 1 ≤ sizeLine; decide), [Value.int i s.toks], .cons ⟨_, rfl⟩ .nil, ?_⟩
    rw [← htd]
    exact IsTup.new s.heap _
  have hTdn : H Td = none := I.hok.fresh (Nat.le_of_eq htd)
  have hE0 : ExtP P H (upd H Td (.tup [.int i])) := fun b o e _ => by rw [upd_ne (ne_of_none e hTdn)]; exact e
  have hT1 : Tabs T (upd H Td (.tup [.int i])) := hT.ext fun b o e => by rw [upd_ne (ne_of_none e hTdn)]; exact e
  generalize hH0 : upd H Td (.tup [.int i]) = H0 at J hE0 hT1
  have hTd : H0 Td = some (.tup [.int i]) := by rw [← hH0, upd_same]
  generalize hs0 : ({ s with heap := s.heap.push { cls := .type "tuple", data := .seq [Value.int i s.toks].toArray }, toks := s.toks + 1 } : Shared) = s0 at J
  show wpAny _ _ (makeTail "<lambda>" (X.env.qual ++ "<lambda>") params (.expr body) scope X.env (.ref Td) .none none pos pos.line) _ _ s0
  obtain ⟨ps, hP, ht, ha⟩ := hT1 _ hm
  have bP : s0.heap.BuiltinsAt X.mg P := TB.bm.keeps J.bk
  have hP' : s0.heap.get? P = some { cls := .none, data := .fields ps } := J.hok P _ hP
  have nofr : ∀ f, s0.heap.objs.size ≤ f → f ∉ frs X.stack := fun f hf z => by
    rcases List.mem_cons.mp (J.stkSub _ z) with e | e
    · have h1 := J.lt
      rw [← e] at h1
      exact Nat.lt_irrefl _ (Nat.lt_of_lt_of_le h1 hf)
    · exact J.nofs hf e
  cases hc : codeAmong pos ps.toList with
  | none =>
    refine tail_new (mg := X.mg) (c := c) (P := P) (ps := ps) (closure_ok hfree) J.ok.glob (J.mod.glob.keeps J.bk) hcode (TB.code.keeps J.bk) hP' ht hc TB.gP bP fun c' ctv h' tk hx hge hlt hrec htb => ?_
    obtain ⟨c2, oc, vs, t, e2, hoc, hd, hv⟩ := hrec
    cases e2
    have hsz : s0.heap.objs.size ≤ h'.objs.size := Nat.le_trans hge (Nat.le_of_lt hlt)
    have nC : H0 c' = none := J.hok.fresh hge
    have I1 := inv_table (t' := tk) (more := #[rawInt pos.line, rawInt pos.col, .ref c']) (h' := h'.push (ldObj (X.env.qual ++ "<lambda>") params body scope (cloFrom X.env.cells scope.names []) (.ref Td) ((X.mg "__name__").getD .none) c' ctv)) J hP
      (fun b o hb e => Heap.get?_push_of_some _ (hx b o hb e)) (Heap.get?_push_of_some _ htb) hge ⟨oc, vs, t, Heap.get?_push_of_some _ hoc, hd, hv⟩
    have neP : ∀ {b : Addr} {o : HO}, H0 b = some o → (∀ ps, o ≠ .tbl ps) → b ≠ P := fun {b o} e n z => n ps (Option.some.inj (e.symm.trans (by rw [z]; exact hP)))
    have hE : ExtP P H0 (upd (upd H0 P (.tbl (ps ++ #[rawInt pos.line, rawInt pos.col, .ref c']))) c' (CodeO c' (X.env.qual ++ "<lambda>"))) := fun b o e n => by
      rw [upd_ne (ne_of_none e nC), upd_ne n]
      exact e
    have eL : (ps ++ #[rawInt pos.line, rawInt pos.col, .ref c']).toList = ps.toList ++ [rawInt pos.line, rawInt pos.col, .ref c'] := by simp
    refine h h'.objs.size c' Td ((X.mg "__name__").getD .none) ctv _ _ I1 (hE0.trans hE) (fun p hp => ?_) (hE _ _ hTd (neP hTd fun ps z => by cases z)) (Heap.get?_push_size _ rfl) ?_ (nofr _ hsz) upd_same
    · by_cases hb : p.1 = P
      · rw [hu p hp hb, hb]
        refine ⟨_, by rw [upd_ne (ne_of_none hP nC), upd_same], by rw [eL]; exact PySem.TriplesOk_snoc _ _ _ _ ht, fun p' cv hcv => ?_⟩
        rw [eL] at hcv
        rcases among_app _ ht hcv with z | z
        · obtain ⟨c0, e1, e2⟩ := ha p' cv z
          exact ⟨c0, e1, hE _ _ e2 (neP e2 codeO_ne)⟩
        · exact ⟨c', z, upd_same⟩
      · obtain ⟨ps', a1, a2, a3⟩ := hT1 p hp
        refine ⟨ps', by rw [upd_ne (ne_of_none a1 nC), upd_ne hb]; exact a1, a2, fun p' cv hcv => ?_⟩
        obtain ⟨c0, e1, e2⟩ := a3 p' cv hcv
        exact ⟨c0, e1, hE _ _ e2 (neP e2 codeO_ne)⟩
    · rw [upd_ne (Nat.ne_of_gt hlt), upd_ne (Nat.ne_of_gt (Nat.lt_of_lt_of_le (Heap.lt_size hP') hsz))]
      exact J.hok.fresh hsz
  | some cv =>
    obtain ⟨c', e, hco⟩ := ha pos cv hc
    subst e
    refine tail_hit (mg := X.mg) (c := c) (P := P) (ps := ps) (closure_ok hfree) J.ok.glob (J.mod.glob.keeps J.bk) hcode (TB.code.keeps J.bk) hP' ht hc bP fun ctv h' tk hx hsz => ?_
    have I1 : Inv X pins σ H0 { s0 with heap := h'.push (ldObj (X.env.qual ++ "<lambda>") params body scope (cloFrom X.env.cells scope.names []) (.ref Td) ((X.mg "__name__").getD .none) c' ctv), toks := tk } := J.kept fun b o e => Heap.get?_push_of_some _ (hx b o e)
    exact h h'.objs.size c' Td ((X.mg "__name__").getD .none) ctv H0 _ I1 hE0 hT1 hTd (Heap.get?_push_size _ rfl) (J.hok.fresh hsz) (nofr _ hsz) hco
end
/-- the lambda's names: its parameter d (no slot of the maker's), captured ones and globals -/
structure LdS (N : List Str) (sc scope : Scope) (d : Str) : Prop where
  kind : scope.kind = .function
  co : scope.isCoroutine = false
  gen : scope.isGenerator = false
  par : scope.names.lookup d = some .local
  own : ∀ y ∈ scope.names, y.2 ≠ .cell ∧ (y.2 = .local → y.1 ∉ N)
  free : ∀ y ∈ scope.names, y.2 = .free → sc.names.lookup y.1 = some .cell ∨ sc.names.lookup y.1 = some .free
def ldSB (N : List Str) (sc scope : Scope) (d : Str) : Bool :=
  decide (scope.kind = .function) && !scope.isCoroutine && !scope.isGenerator && decide (scope.names.lookup d = some .local) && scope.names.all fun y => !decide (y.2 = .cell) && (!decide (y.2 = .local) || !decide (y.1 ∈ N)) && (!decide (y.2 = .free) || decide (sc.names.lookup y.1 = some .cell) || decide (sc.names.lookup y.1 = some .free))
theorem ldS_by {N : List Str} {sc scope : Scope} {d : Str} (h : ldSB N sc scope d = true) : LdS N sc scope d := by
  unfold ldSB at h
  simp only [Bool.and_eq_true, Bool.or_eq_true, Bool.not_eq_true', decide_eq_true_eq, decide_eq_false_iff_not, List.all_eq_true] at h
  obtain ⟨⟨⟨⟨h1, h2⟩, h3⟩, h4⟩, h5⟩ := h
  refine ⟨h1, h2, h3, h4, fun y hy => ⟨(h5 y hy).1.1, fun e => ?_⟩, fun y hy e => ?_⟩
  · rcases (h5 y hy).1.2 with z | z
    · exact absurd e z
    · exact z
  · rcases (h5 y hy).2 with (z | z) | z
    · exact absurd e z
    · exact .inl z
    · exact .inr z
theorem LdS.has {X : Cx} {scope : Scope} {d : Str} (L : LdS X.N X.env.scope scope d) (ok : X.Ok) : ∀ y ∈ scope.names, y.2 = .free → ∃ c, X.env.cells.lookup y.1 = some c := fun y hy e => by
  rcases L.free y hy e with k | k
  · exact ok.has _ (.inl k)
  · exact ok.has _ (.inr k)
section
variable {X : Cx} {pins : List (Addr × Obj)} {σ : L2.St} {H HZ : Hp} {s s1 : Shared}
theorem ld_start {A : Around} {outer : List Env} {E : XK} {scope : Scope} {d : Str} {f c' : Addr} {h₁ : Heap} {tk : Nat} {m₁ : Str → Option Value} (I : Inv X pins σ H s) (L : LdS X.N X.env.scope scope d) (e0 : Env0 X.prog X.w X.K X.mg X.base A outer s1 HZ) (hd : A.handled = none)
    (un : Un (frs X.stack) [] H HZ s.heap s1.heap) (hns : h₁.Ns s1.heap.objs.size m₁) (kp : ∀ b o, s1.heap.get? b = some o → h₁.get? b = some o) :
    Inv (lamCx X A outer s1 HZ E scope f c') [] σ HZ { s1 with heap := h₁, toks := tk } := by
  have hfree := L.has I.ok
  have cm : ∀ {y c}, (cloFrom X.env.cells scope.names []).lookup y = some c → X.env.cells.lookup y = some c := fun {y c} e => by
    rcases cloFrom_mem (PySem.mem_of_lookup e) with hm | ⟨h1, h2⟩
    · cases hm
    · obtain ⟨c1, hc⟩ := hfree _ h1 rfl
      have hc : X.env.cells.lookup y = some c1 := hc
      have e2 : c = c1 := by rw [h2, hc] <;> rfl
      rw [e2]; exact hc
  have look : ∀ {y}, scope.names.lookup y = some .free → ∃ c, (cloFrom X.env.cells scope.names []).lookup y = some c := fun {y} hl =>
    mem_lookup (cloFrom_has (cells := X.env.cells) (acc := []) (PySem.mem_of_lookup hl))
  have cellK : ∀ {c : Addr} {v : Option Value}, H c = none → s.heap.IsCell c v → h₁.IsCell c v := fun {c v} n ⟨o, ho, hd⟩ => by
    obtain ⟨sl, q⟩ := un.any ho n (by simp)
    exact ⟨_, kp _ _ q, hd⟩
  have noA : ∀ b : Addr, b ∉ (lamCx X A outer s1 HZ E scope f c').ex := fun b z => absurd (show b ∈ ([] : List Addr) from z) (by simp)
  refine ⟨⟨e0.mod, L.kind, rfl, rfl, Nat.le_refl _, fun y z c e1 e2 => I.ok.inj y z c (cm e1) (cm e2), fun y hy => ?_, fun y c z _ => ?_, fun _ => hd, Around.frames_deeper e0.frames, .inr ⟨rfl, rfl⟩, fun b z => absurd z (noA b), e0.bs, e0.bsz, fun b _ _ => noA b,
      fun b z => absurd z (noA b), e0.funs, e0.frf⟩,
    rfl, e0.bare, Un.kept kp, ⟨_, hns, fun i y v e1 e2 e3 => ?_⟩, fun y c e => ?_, e0.hok.fresh (Nat.le_refl _), fun y c e => ?_, fun q hq => absurd (show q ∈ ([] : List (Addr × Obj)) ++ [] from hq) (by simp), e0.hok.kept kp, I.len⟩
  · have hy : scope.names.lookup y = some .cell ∨ scope.names.lookup y = some .free := hy
    rcases hy with hy | hy
    · exact absurd rfl (L.own _ (PySem.mem_of_lookup hy)).1
    · exact look hy
  · have z : false = true := z
    cases z
  · have e3 : Vis scope y := e3
    rcases e3 with k | k | k
    · exact absurd (List.mem_of_getElem? e1) ((L.own _ (PySem.mem_of_lookup k)).2 rfl)
    · exact absurd rfl (L.own _ (PySem.mem_of_lookup k)).1
    · obtain ⟨m, hn, hl⟩ := I.loc
      have hvis : Vis X.env.scope y := (L.free _ (PySem.mem_of_lookup k) rfl).elim (fun k => .inr (.inl k)) (fun k => .inr (.inr k))
      obtain ⟨w', r, q⟩ := hl i y v e1 e2 hvis
      obtain ⟨c2, h2⟩ := look k
      refine ⟨w', r, .inr ⟨.inr k, c2, h2, ?_⟩⟩
      have c1 := cm h2
      rcases q with ⟨k', _⟩ | ⟨_, c3, e', z⟩
      · have k' : X.env.scope.names.lookup y = some .local := k'
        rcases L.free _ (PySem.mem_of_lookup k) rfl with k2 | k2 <;> rw [show X.env.scope.names.lookup y = _ from k2] at k' <;> cases k'
      · rw [c1] at e'
        cases e'
        exact cellK (I.freeC y _ c1) z
  · obtain ⟨w', z⟩ := I.cell y c (cm e)
    exact ⟨w', cellK (I.freeC y c (cm e)) z⟩
  · obtain ⟨v, o, ho, hd⟩ := I.cell y c (cm e)
    exact un.free c o ho (I.freeC y c (cm e)) (by simp)
/-- how the call without arguments binds the parameter -/
def LdBind (params : Arguments) (body : Expr) (scope : Scope) (d : Str) : Prop := ∀ (q : Str) (cl : List (Str × Addr)) (Td : Addr) (pm cv ctv v : Value),
  ∃ k, bindArgs (ldFn q params body scope cl (.ref Td) pm cv ctv) ⟨[], []⟩ = seqItems? (.ref Td) >>= k ∧ k (some #[v]) = pure [(d, v)]
/-- a(), in the def that got the lambda -/
theorem ld_act {CXg : CXT} {Eg : XK} {Ng : List Str} {qg : Str} {sg : Scope} {g f c' Td : Addr} {cdg pm ctv : Value} {params : Arguments} {body : Expr} {scope : Scope} {d : Str} {di : Int} {k i : Nat} {a : Str} {pn : List (Addr × Obj)} {xe : Value → Shared → Prop} {W : WX} {E : XK} {tb : TE} {p1 p2 : Pos}
    (I : Inv X pins σ H s) (L : LdS X.N X.env.scope scope d) (hf : s.heap.get? f = some (ldObj (X.env.qual ++ "<lambda>") params body scope (cloFrom X.env.cells scope.names []) (.ref Td) pm c' ctv)) (hfn : H f = none) (hfr : f ∉ frs X.stack)
    (hbind : LdBind params body scope d)
    (tk : Takes ((cxOf CXg X.prog X.w X.K X.mg X.base Ng qg sg g cdg X.A X.stack s H Eg).tr pn xe) W) (hW : ∀ cls d σ' H', E cls d H' → W cls d σ' H') (hr : Room (k + 1) (X.A.deeper (envOfC qg sg s.heap.objs.size g cdg)))
    (hbody : ∀ (A : Around) (outer : List Env) (s : Shared) (H : Hp), Room k (A.deeper (lamEnv X scope s.heap.objs.size f c')) → PE (lamCx X A outer s H E scope f c') body tb)
    (hN : Ng[i]? = some a) (hv : Vis sg a) (hd : (a == ("__debug__" : Str)) = false := by decide) (hcd : (a == ("__classdict__" : Str)) = false := by decide) :
    PE ((cxOf CXg X.prog X.w X.K X.mg X.base Ng qg sg g cdg X.A X.stack s H Eg).tr pn xe) (.Call (.Name a p1) [] [] p2)
      (fun σZ HZ Q => σZ[i]? = some (some (.ref f)) ∧ HZ c' = some (CodeO c' (X.env.qual ++ "<lambda>")) ∧ HZ Td = some (.tup [.int di]) ∧ tb σ HZ Q) := by
  refine ⟨fun pinsZ sZ σZ HZ Q IZ h => ?_⟩
  obtain ⟨hs, hc, htd, ht⟩ := h
  refine wpAny_Call_Name_kw (thn ((pe_var (pos := p1) (i := i) hN hv hd hcd).run pinsZ sZ σZ HZ (fun v H1 => v = .ref f ∧ H1 = HZ) IZ ⟨.ref f, hs, rfl, rfl⟩) fun u s1 ⟨v, H1, I1, r1, q1⟩ => ?_)
  obtain ⟨ev, eH⟩ := q1
  subst ev
  rw [eH] at I1
  obtain rfl : u = Value.ref f := r1
  have of1 : s1.heap.get? f = some (ldObj (X.env.qual ++ "<lambda>") params body scope (cloFrom X.env.cells scope.names []) (.ref Td) pm c' ctv) := I1.base.keep f _ hf hfn hfr (fun z => nomatch (show f ∈ ([] : List Addr) from z))
  refine PySem.W.callWith_F0 ⟨_, _, _, _, of1⟩ ?_
  have un : Un (frs X.stack) [] H HZ s.heap s1.heap := I1.base
  obtain ⟨⟨oc, vs, t, hoc, hdc, hvc⟩, _, _⟩ := I1.hok c' _ hc
  obtain ⟨_, its, rts, oT, hoT, hcT, nT, hdT⟩ := I1.hok Td _ htd
  obtain ⟨dv, rfl⟩ : ∃ dv, its = [dv] := by
    cases rts with
    | cons _ r => cases r; exact ⟨_, rfl⟩
  have rc : codeAny (model X.prog X.w) (X.A.deeper (envOfC qg sg s.heap.objs.size g cdg)) (.call (.ref f) ⟨[], []⟩) (CR (L2.CX X.prog X.w) (envOfC qg sg s.heap.objs.size g cdg :: X.stack) X.prog X.w HZ s1 Q E) s1 := by
    refine PySem.W.kla_callFunE hr.depth of1 rfl L.co L.gen rfl ⟨c', oc, vs, t, rfl, hoc, hdc, hvc⟩ ?_
    obtain ⟨kk, hk1, hk2⟩ := hbind (X.env.qual ++ "<lambda>") (cloFrom X.env.cells scope.names []) Td pm (.ref c') ctv dv
    rw [hk1]
    refine wpAny_bind (wpAny_seqItems hoT hdT ?_)
    show wpAny _ _ (kk (some #[dv])) _ _ _
    rw [hk2]
    refine wpAny_pure (wpAny_newFunctionEnv (fun y hy => (L.own y hy).1) (fun y hy => ?_) (fun h₁ hns hsb => ⟨I1.nolimit.fresh _ hsb, ?_⟩) L.kind)
    · have e : y = (d, dv) := by simpa using hy
      subst e
      exact L.par
    show codeAny _ _ (.expr body (lamEnv X scope s1.heap.objs.size f c')) _ _
    have kp : ∀ b o, s1.heap.get? b = some o → h₁.get? b = some o := fun b o e => hsb.extBut b o (Nat.ne_of_lt (Heap.lt_size e)) (Heap.get?_push_of_some _ e)
    have J : Inv (lamCx X (X.A.deeper (envOfC qg sg s.heap.objs.size g cdg)) (envOfC qg sg s.heap.objs.size g cdg :: X.stack) s1 HZ E scope f c') [] σ HZ { s1 with heap := h₁, toks := s1.toks + ([(d, dv)] : List (Str × Value)).length } :=
      ld_start I L I1.env0 hr.hd un hns kp
    refine PySem.W.kla_codeExpr (wpAny_mono ((hbody _ _ s1 HZ (hr.deeper _)).run [] _ _ HZ Q J ht) (fun v s' hq => ?_) fun e s' hq => hq)
    obtain ⟨w', H', J', rv, q⟩ := hq
    exact ⟨w', H', J'.os, J'.bare, J'.base, J'.hok, rv, q⟩
  have hx : Passes (L2.CX X.prog X.w) ((cxOf CXg X.prog X.w X.K X.mg X.base Ng qg sg g cdg X.A X.stack s H Eg).tr pn xe) E := passes_call tk hW
  refine wpAny_call (codeAny_mono rc fun r s' hq => ?_)
  cases r with
  | error e => exact hx pinsZ σZ HZ s1 e s' I1 hq
  | ok fl =>
    cases fl with
    | ret u => exact I1.after hq
    | next => exact False.elim hq
    | brk => exact False.elim hq
    | cont => exact False.elim hq
end
section
variable {X : Cx}
/-- x(lambda d=i: body) -/
theorem pe_lamcallD {T : List (Addr × Str)} {TT : (XK → Hp → VK → Prop) → Hp → VK → Prop} {x a d : Str} {g c P : Addr} {k : Nat} {di : Int} {pg : Arguments} {bg : List Stmt} {sg : Scope} {dV kV doc pm cdv ct oc : Value} {an od : Option Addr} {osl : Array (Option Value)} {Ng : List Str}
    {params : Arguments} {body : Expr} {scope : Scope} {t : XK → TE} {p lpos pos : Pos} (hg : Gl X x) (hm : X.mg x = some (.ref g)) (hk : PySem.W.keepIn X.K (.ref g) = true)
    (lk : X.K.lookup g = some ⟨oc, od, .func (PySem.W.fnOf x x pg bg sg dV kV doc pm an cdv ct), osl⟩) (hcg : PySem.W.codeIn X.K cdv x = true) (hb : L2.Binds X.K (PySem.W.fnOf x x pg bg sg dV kV doc pm an cdv ct) [a] []) (Sg : FnScope Ng [a] sg) (hNg : Ng[0]? = some a) (hva : Vis sg a)
    (hG : GivesTo X Ng x sg g cdv bg a (X.env.qual ++ "<lambda>") TT)
    (hTT : ∀ (φ : Hp → Prop) (tl : XK → Hp → VK → Prop) (H : Hp) (Q : VK), φ H → TT tl H Q → TT (fun E H' Q' => φ H' ∧ tl E H' Q') H Q)
    (TB : LamX.TabB X.base X.mg c P) (hcode : X.env.code = .ref c) (hmT : (P, X.env.qual ++ "<lambda>") ∈ T) (hu : ∀ p ∈ T, p.1 = P → p.2 = X.env.qual ++ "<lambda>") (hr : Room (k + 2) X.A) (L : LdS X.N X.env.scope scope d) (hdef : Dfl params di)
    (hbind : LdBind params body scope d)
    (hbody : ∀ (A : Around) (outer : List Env) (s : Shared) (H : Hp) (E : XK) (f c' : Addr), Room k (A.deeper (lamEnv X scope s.heap.objs.size f c')) → PE (lamCx X A outer s H E scope f c') body (t E))
    (hdb : (x == ("__debug__" : Str)) = false := by decide) (hd : (a == ("__debug__" : Str)) = false := by decide) (hcd : (a == ("__classdict__" : Str)) = false := by decide) :
    PE X (.Call (.Name x p) [.Lambda params body scope lpos] [] pos) (tLamP T P TT t) := by
  refine ⟨fun pins s σ H Q I h => ?_⟩
  obtain ⟨hT, h⟩ := h
  refine wpAny_Call_Name_kw (ld_glob I hg hm ?_ hdb)
  refine PySem.W.callWith_K (h₀ := X.base) I.ok.mod.kin hk ?_ (by rfl) (by rfl)
  show wpAny _ _ (spliced ((false, eval (.Lambda params body scope lpos) X.env) :: backTo pos (starEach [] X.env))) _ _ s
  refine Calls.spliced_cons (ld_make I TB hcode hmT hu hT hdef (L.has I.ok) fun f c' Td pm' ctv H1 s' I1 eN T1 hTd hf hfn hfr hco => ?_)
  refine Calls.spliced_nil ⟨I1.kIn, ?_⟩
  have rc : codeAny (model X.prog X.w) X.A (.call (.ref g) ⟨[.ref f], []⟩) (CR C8.CX0 X.stack X.prog X.w H1 s' Q C8.E0) s' := by
    refine run_ofS (N := Ng) (ps := [a]) (us := [.ref f]) (vs := [.ref f]) lk hcg Sg hr I1.env0 (hb s' [.ref f] I1.kIn rfl) (.cons rfl .nil) rfl fun hr' => ?_
    obtain ⟨t', ht', hq'⟩ := hG f c' s' H1 Q (fun E H' Q' => H' Td = some (.tup [.int di]) ∧ t E σ H' Q') (fun W pn xe E p1 p2 tk hW => ld_act (i := 0) I1 L hf hfn hfr hbind tk hW hr' (fun A outer s H hr2 => hbody A outer s H E f c' hr2) hNg hva hd hcd) hco (hTT (fun H' => H' Td = some (.tup [.int di])) _ _ _ hTd (h H1 eN T1))
    exact ⟨t', ht'.nox, hq'⟩
  refine wpAny_call (codeAny_mono rc fun r s2 hq => ?_)
  cases r with
  | error e => exact (show False from hq).elim
  | ok fl =>
    cases fl with
    | ret u => exact I1.after hq
    | next => exact False.elim hq
    | brk => exact False.elim hq
    | cont => exact False.elim hq
end
section
variable {X : Cx} {pins : List (Addr × Obj)} {σ : L2.St} {H : Hp} {s : Shared}
/-- a lambda without parameters is made: all but its table stays -/
theorem ld_make0 {T : List (Addr × Str)} {c P : Addr} {params : Arguments} {body : Expr} {scope : Scope} {pos : Pos} {E : Value → Shared → Prop} {Q : Value → Shared → Prop} (I : Inv X pins σ H s) (TB : LamX.TabB X.base X.mg c P) (hcode : X.env.code = .ref c)
    (hm : (P, X.env.qual ++ "<lambda>") ∈ T) (hu : ∀ p ∈ T, p.1 = P → p.2 = X.env.qual ++ "<lambda>") (hT : Tabs T H) (hdef : defaultsOf params X.env = ([], [])) (hfree : ∀ y ∈ scope.names, y.2 = .free → ∃ c, X.env.cells.lookup y.1 = some c)
    (h : ∀ (f c' : Addr) (pm ctv : Value) (H1 : Hp) (s' : Shared), Inv X pins σ H1 s' → ExtP P H H1 → Tabs T H1 →
      s'.heap.get? f = some (PySem.W.kla_obj "<lambda>" (X.env.qual ++ "<lambda>") params body scope (cloFrom X.env.cells scope.names []) pm c' ctv) → H1 f = none → f ∉ frs X.stack → H1 c' = some (CodeO c' (X.env.qual ++ "<lambda>")) → Q (.ref f) s') :
    wpAny (model X.prog X.w) X.A (eval (.Lambda params body scope pos) X.env) Q E s := by
  obtain ⟨ps, hP, ht, ha⟩ := hT _ hm
  refine PySem.W.kla_eval hdef ?_
  have bP : s.heap.BuiltinsAt X.mg P := TB.bm.keeps I.bk
  have hP' : s.heap.get? P = some { cls := .none, data := .fields ps } := I.hok P _ hP
  have nofr : ∀ f, s.heap.objs.size ≤ f → f ∉ frs X.stack := fun f hf z => by
    rcases List.mem_cons.mp (I.stkSub _ z) with e | e
    · have h1 := I.lt
      rw [← e] at h1
      exact Nat.lt_irrefl _ (Nat.lt_of_lt_of_le h1 hf)
    · exact I.nofs hf e
  cases hc : codeAmong pos ps.toList with
  | none =>
    refine PySem.W.kla_makeFunction (mg := X.mg) (c := c) (P := P) (ps := ps) (closure_ok hfree) I.ok.glob (I.mod.glob.keeps I.bk) hcode (TB.code.keeps I.bk) hP' ht hc TB.gP bP fun c' ctv h' tk hx hge hlt hrec htb => ?_
    obtain ⟨c2, oc, vs, t, e2, hoc, hd, hv⟩ := hrec
    cases e2
    have hsz : s.heap.objs.size ≤ h'.objs.size := Nat.le_trans hge (Nat.le_of_lt hlt)
    have nC : H c' = none := I.hok.fresh hge
    have I1 := inv_table (t' := tk) (more := #[rawInt pos.line, rawInt pos.col, .ref c']) (h' := h'.push (PySem.W.kla_obj "<lambda>" (X.env.qual ++ "<lambda>") params body scope (cloFrom X.env.cells scope.names []) ((X.mg "__name__").getD .none) c' ctv)) I hP
      (fun b o hb e => Heap.get?_push_of_some _ (hx b o hb e)) (Heap.get?_push_of_some _ htb) hge ⟨oc, vs, t, Heap.get?_push_of_some _ hoc, hd, hv⟩
    have neP : ∀ {b : Addr} {o : HO}, H b = some o → (∀ ps, o ≠ .tbl ps) → b ≠ P := fun {b o} e n z => n ps (Option.some.inj (e.symm.trans (by rw [z]; exact hP)))
    have hE : ExtP P H (upd (upd H P (.tbl (ps ++ #[rawInt pos.line, rawInt pos.col, .ref c']))) c' (CodeO c' (X.env.qual ++ "<lambda>"))) := fun b o e n => by
      rw [upd_ne (ne_of_none e nC), upd_ne n]
      exact e
    have eL : (ps ++ #[rawInt pos.line, rawInt pos.col, .ref c']).toList = ps.toList ++ [rawInt pos.line, rawInt pos.col, .ref c'] := by simp
    refine h h'.objs.size c' ((X.mg "__name__").getD .none) ctv _ _ I1 hE (fun p hp => ?_) (Heap.get?_push_size _ rfl) ?_ (nofr _ hsz) upd_same
    · by_cases hb : p.1 = P
      · rw [hu p hp hb, hb]
        refine ⟨_, by rw [upd_ne (ne_of_none hP nC), upd_same], by rw [eL]; exact PySem.TriplesOk_snoc _ _ _ _ ht, fun p' cv hcv => ?_⟩
        rw [eL] at hcv
        rcases among_app _ ht hcv with z | z
        · obtain ⟨c0, e1, e2⟩ := ha p' cv z
          exact ⟨c0, e1, hE _ _ e2 (neP e2 codeO_ne)⟩
        · exact ⟨c', z, upd_same⟩
      · obtain ⟨ps', a1, a2, a3⟩ := hT p hp
        refine ⟨ps', by rw [upd_ne (ne_of_none a1 nC), upd_ne hb]; exact a1, a2, fun p' cv hcv => ?_⟩
        obtain ⟨c0, e1, e2⟩ := a3 p' cv hcv
        exact ⟨c0, e1, hE _ _ e2 (neP e2 codeO_ne)⟩
    · rw [upd_ne (Nat.ne_of_gt hlt), upd_ne (Nat.ne_of_gt (Nat.lt_of_lt_of_le (Heap.lt_size hP') hsz))]
      exact I.hok.fresh hsz
  | some cv =>
    obtain ⟨c', e, hco⟩ := ha pos cv hc
    subst e
    refine PySem.W.kla_makeFunctionHit (mg := X.mg) (c := c) (P := P) (ps := ps) (closure_ok hfree) I.ok.glob (I.mod.glob.keeps I.bk) hcode (TB.code.keeps I.bk) hP' ht hc bP fun ctv h' tk hx hsz => ?_
    have I1 : Inv X pins σ H { s with heap := h'.push (PySem.W.kla_obj "<lambda>" (X.env.qual ++ "<lambda>") params body scope (cloFrom X.env.cells scope.names []) ((X.mg "__name__").getD .none) c' ctv), toks := tk } := I.kept fun b o e => Heap.get?_push_of_some _ (hx b o e)
    exact h h'.objs.size c' ((X.mg "__name__").getD .none) ctv H _ I1 (ExtP.refl P H) hT (Heap.get?_push_size _ rfl) (I.hok.fresh hsz) (nofr _ hsz) hco
end
section
variable {X : Cx}
/-- x(lambda: body) -/
theorem pe_lamcall0 {T : List (Addr × Str)} {TT : (XK → Hp → VK → Prop) → Hp → VK → Prop} {x a : Str} {g c P : Addr} {k : Nat} {pg : Arguments} {bg : List Stmt} {sg : Scope} {dV kV doc pm cdv ct oc : Value} {an od : Option Addr} {osl : Array (Option Value)} {Ng : List Str}
    {params : Arguments} {body : Expr} {scope : Scope} {t : XK → TE} {p lpos pos : Pos} (hg : Gl X x) (hm : X.mg x = some (.ref g)) (hk : PySem.W.keepIn X.K (.ref g) = true)
    (lk : X.K.lookup g = some ⟨oc, od, .func (PySem.W.fnOf x x pg bg sg dV kV doc pm an cdv ct), osl⟩) (hcg : PySem.W.codeIn X.K cdv x = true) (hb : L2.Binds X.K (PySem.W.fnOf x x pg bg sg dV kV doc pm an cdv ct) [a] []) (Sg : FnScope Ng [a] sg) (hNg : Ng[0]? = some a) (hva : Vis sg a)
    (hG : GivesTo X Ng x sg g cdv bg a (X.env.qual ++ "<lambda>") TT)
    (TB : LamX.TabB X.base X.mg c P) (hcode : X.env.code = .ref c) (hmT : (P, X.env.qual ++ "<lambda>") ∈ T) (hu : ∀ p ∈ T, p.1 = P → p.2 = X.env.qual ++ "<lambda>") (hr : Room (k + 2) X.A) (L : LamS X.env.scope scope) (hdef : defaultsOf params X.env = ([], []))
    (hbind : ∀ (q : Str) (cl : List (Str × Addr)) (pm cv ctv : Value), bindArgs (PySem.W.kla_fn "<lambda>" q params body scope cl pm cv ctv) ⟨[], []⟩ = pure [])
    (hbody : ∀ (A : Around) (outer : List Env) (s : Shared) (H : Hp) (E : XK) (f c' : Addr), Room k (A.deeper (lamEnv X scope s.heap.objs.size f c')) → PE (lamCx X A outer s H E scope f c') body (t E))
    (hdb : (x == ("__debug__" : Str)) = false := by decide) (hd : (a == ("__debug__" : Str)) = false := by decide) (hcd : (a == ("__classdict__" : Str)) = false := by decide) :
    PE X (.Call (.Name x p) [.Lambda params body scope lpos] [] pos) (tLamP T P TT t) := by
  refine ⟨fun pins s σ H Q I h => ?_⟩
  obtain ⟨hT, h⟩ := h
  refine wpAny_Call_Name_kw (ld_glob I hg hm ?_ hdb)
  refine PySem.W.callWith_K (h₀ := X.base) I.ok.mod.kin hk ?_ (by rfl) (by rfl)
  show wpAny _ _ (spliced ((false, eval (.Lambda params body scope lpos) X.env) :: backTo pos (starEach [] X.env))) _ _ s
  refine Calls.spliced_cons (ld_make0 I TB hcode hmT hu hT hdef (L.has I.ok) fun f c' pm' ctv H1 s' I1 eN T1 hf hfn hfr hco => ?_)
  refine Calls.spliced_nil ⟨I1.kIn, ?_⟩
  have rc : codeAny (model X.prog X.w) X.A (.call (.ref g) ⟨[.ref f], []⟩) (CR C8.CX0 X.stack X.prog X.w H1 s' Q C8.E0) s' := by
    refine run_ofS (N := Ng) (ps := [a]) (us := [.ref f]) (vs := [.ref f]) lk hcg Sg hr I1.env0 (hb s' [.ref f] I1.kIn rfl) (.cons rfl .nil) rfl fun hr' => ?_
    obtain ⟨t', ht', hq'⟩ := hG f c' s' H1 Q (fun E H' Q' => t E σ H' Q') (fun W pn xe E p1 p2 tk hW => pe_act (i := 0) I1 L hf hfn hfr (hbind _ _ _ _ _) tk hW hr' (fun A outer s H hr2 => hbody A outer s H E f c' hr2) hNg hva hd hcd) hco (h H1 eN T1)
    exact ⟨t', ht'.nox, hq'⟩
  refine wpAny_call (codeAny_mono rc fun r s2 hq => ?_)
  cases r with
  | error e => exact (show False from hq).elim
  | ok fl =>
    cases fl with
    | ret u => exact I1.after hq
    | next => exact False.elim hq
    | brk => exact False.elim hq
    | cont => exact False.elim hq
end
end LD

namespace CW
open PySem PySem.Spec PyProof.Rows L2 GA TL LamX TM
/-- what _law_said makes of what its argument does: None, the pair that BadLine tells, the word for BadString -/
def TTsaid (CL CS : Addr) : (XK → Hp → VK → Prop) → Hp → VK → Prop := fun tl H Q =>
  tl (fun cls d H' => (cls = .ref CL ∧ ∃ (dd : Addr) (l w : Int), d = some dd ∧ H' dd = some (.xd [("word", .int w), ("line", .int l)]) ∧ ∀ p, H' p = none → Q (.ref p) (upd H' p (.tup [.int l, .int w]))) ∨ (cls = .ref CS ∧ Q (.str "string") H')) H (fun _ H' => Q .non H')
structure Exm (K : PySem.W.Frag) (CL CS : Addr) : Prop where
  ll : PySem.W.exmOne K (.ref CL) (.ref CL) = some true
  sl : PySem.W.exmOne K (.ref CS) (.ref CL) = some false
  ss : PySem.W.exmOne K (.ref CS) (.ref CS) = some true
section
variable {X : Cx}
theorem scSaid : FnScope ["_law_work", "e"] ["_law_work"] (defScope sSaid) := ⟨rfl, rfl, rfl, by decide +kernel, rfl, by decide +kernel, by decide +kernel⟩
theorem pss_len {X : Cx} {b : List Stmt} {t : TS} (h : PSs X b t) {n : Nat} (hn : X.N.length = n) : PSs X b (fun D σ H => σ.length = n → t D σ H) := ⟨fun pins s σ H D I q => h.run pins s σ H D I (q (I.len.trans hn))⟩
theorem said_gives {CL CS : Addr} {bmB : List Value} {Bx newId initId : String} {g : Addr} {cdg : Value} (BL : BLAt X.K X.mg CL) (BS : BSAt X.K X.mg CS bmB Bx newId initId) (M : Exm X.K CL CS) (qq : Str) :
    GivesTo X ["_law_work", "e"] "_law_said" (defScope sSaid) g cdg (defBody sSaid) "_law_work" qq (TTsaid CL CS) := by
  intro f c' s H Q tl act hc h
  refine ⟨_, pss_cons (ps_try_manyAs (X := (cxOf C8.CX0 X.prog X.w X.K X.mg X.base ["_law_work", "e"] "_law_said" (defScope sSaid) g cdg X.A X.stack s H C8.E0).nox) (n := "e") (i := 1) (Wout := fun _ _ _ _ => False)
      (l := [(.ref CL, fun a cls d D σ H => σ.length = 2 → tRet (tTup (tCons (tXf a cls d CL "line" (tVar 1)) (tCons (tXf a cls d CL "word" (tVar 1)) tNil))) D σ H), (.ref CS, fun a cls d => tRet (tC (.str "string")))])
      (tb := fun W D σ H => ∃ Ech : XK, (∀ cls d σ' H', Ech cls d H' → W cls d σ' H') ∧ (σ[0]? = some (some (.ref f))) ∧ H c' = some (CodeO c' qq) ∧ tl Ech H fun _ H1 => D.nx σ H1)
      rfl rfl scSaid.nd rfl rfl L2.takes0 (fun W pn xe tk _ => ?_) (.cons ⟨rfl, by decide, .inl BL.m⟩ (fun a oe cls d pn hz hf => pss_len (n := 2) (pss_one (ps_ret (pe_tup (pa_cons (pe_xf (X := ((cxOf C8.CX0 X.prog X.w X.K X.mg X.base ["_law_work", "e"] "_law_said" (defScope sSaid) g cdg X.A X.stack s H C8.E0).nox)) BL.xf BL.nl hz hf (pv 1)) (pa_cons (pe_xf (X := ((cxOf C8.CX0 X.prog X.w X.K X.mg X.base ["_law_work", "e"] "_law_said" (defScope sSaid) g cdg X.A X.stack s H C8.E0).nox)) BL.xf BL.nw hz hf (pv 1)) pa_nil))))) rfl)
        (.cons ⟨rfl, by decide, .inl BS.m⟩ (fun a oe cls d pn hz hf => pss_one (ps_ret pe_str)) .nil))) (pss_one (ps_ret pe_non)), ?_⟩
  · refine ⟨fun pins s' σ H' D I h' => ?_⟩
    obtain ⟨Ech, hW, h1, h2, h3⟩ := h'
    exact (pss_one (ps_expr (act W pn xe Ech _ _ tk hW))).run pins s' σ H' D I ⟨h1, h2, h3⟩
  · refine ⟨_, ?_, rfl, hc, h⟩
    rintro cls d σ' H' (⟨rfl, dd, lno, wno, rfl, hd, k⟩ | ⟨rfl, k⟩)
    · refine ⟨true, M.ll, fun _ a ha hl => ?_, fun q => Bool.noConfusion q⟩
      rw [List.length_set] at hl
      obtain ⟨x, y, rfl⟩ : ∃ x y, σ' = [x, y] := by
        match σ', hl with
        | [x, y], _ => exact ⟨x, y, rfl⟩
      refine ⟨_, rfl, rfl, rfl, dd, _, _, rfl, hd, ?_, _, rfl, rfl, rfl, dd, _, _, rfl, hd, ?_, by show 2 ≤ sizeLine; decide, k⟩
      · rw [lookup_put, if_neg (by decide +kernel), lookup_put, if_pos rfl]
      · rw [lookup_put, if_pos rfl]
    · exact ⟨false, M.sl, fun q => Bool.noConfusion q, fun _ => ⟨true, M.ss, fun _ a ha => k, fun q => Bool.noConfusion q⟩⟩
end
end CW

namespace CW
open PySem PySem.Spec PyProof.Rows L2 GA TL
/-! ### what the law's draws leave -/
structure LS (K : PySem.W.Frag) (T : List Addr) (H0 : Hp) (rw sc : Addr) (ns : List Int) (H : Hp) : Prop where
  e : ExtS T [rw] H0 H
  r : LRow K H rw sc ns
theorem ExtS.put {T S : List Addr} {H H1 : Hp} {p : Addr} (a : ExtS T S H H1) (t : TOk T H) (e : H p = none) (u : HO) : ExtS T S H (upd H1 p u) := by
  refine ⟨fun b o h n m => ?_, fun P h q => ?_⟩
  · rw [upd_ne (ne_of_none h e)]
    exact a.keep b o h n m
  · obtain ⟨ps, z1, z2⟩ := a.tab P h q
    exact ⟨ps, by rw [upd_ne (fun z => t.notnew e (by rw [← z]; exact h))]; exact z1, z2⟩
section
variable {K : PySem.W.Frag} {T : List Addr} {H0 H H1 : Hp} {rw sc p a : Addr} {ns : List Int}
theorem LRow.at_ (r : LRow K H rw sc ns) : ∃ xs, H rw = some (.lst xs) := by
  obtain ⟨i, m, z, h, _⟩ := r
  exact ⟨_, h⟩
theorem LS.refl (r : LRow K H0 rw sc ns) : LS K T H0 rw sc ns H0 := ⟨(Ext.refl T H0).toS _, r⟩
theorem LS.ok (s : LS K T H0 rw sc ns H) (t : TOk T H0) : TOk T H := s.e.ok t
theorem LS.free (s : LS K T H0 rw sc ns H) (t : TOk T H0) (h : H p = none) : H0 p = none := by
  by_cases hp : p ∈ T
  · obtain ⟨ps, z, _⟩ := s.e.tab p hp (t p hp)
    rw [h] at z; cases z
  · by_cases hr : p = rw
    · obtain ⟨xs, z⟩ := s.r.at_
      rw [← hr, h] at z; cases z
    · cases q : H0 p with
      | none => rfl
      | some o =>
        rw [s.e.keep p o q hp (by simpa using hr)] at h
        cases h
theorem LRow.ne (r : LRow K H0 rw sc ns) (h : H0 p = none) : p ≠ rw := fun z => by
  obtain ⟨xs, q⟩ := r.at_
  rw [← z, h] at q; cases q
/-- a new object is laid or changed -/
theorem LS.put (s : LS K T H0 rw sc ns H) (t : TOk T H0) (r0 : LRow K H0 rw sc ns) (h : H0 p = none) (u : HO) : LS K T H0 rw sc ns (upd H p u) := by
  have e := s.e.put t h u
  obtain ⟨i, m, z, hr, h1, h2, h3, _, h5⟩ := s.r
  obtain ⟨_, _, _, _, _, _, _, hs, _⟩ := id r0
  exact ⟨e, i, m, z, by rw [upd_ne (r0.ne h).symm]; exact hr, h1, h2, h3, SqL.extO hs t e h5, h5⟩
/-- a call that keeps all but the tables -/
theorem LS.ext (s : LS K T H0 rw sc ns H) (t : TOk T H0) (e : Ext T H H1) : LS K T H0 rw sc ns H1 := by
  have T1 := s.ok t
  obtain ⟨i, m, z, hr, h1, h2, h3, hs, h5⟩ := s.r
  exact ⟨s.e.trans (e.toS _), i, m, z, e.lst T1 hr, h1, h2, h3, SqL.extO hs T1 (e.toS [rw]) h5, h5⟩
theorem LS.draw (s : LS K T H0 rw sc ns H) (e : ExtS T [rw] H H1) (r : LRow K H1 rw sc ns) : LS K T H0 rw sc ns H1 := ⟨s.e.trans e, r⟩
theorem taken_close {Q : VK} {E : XK} {many : Int} (s : LS K T H0 rw sc ns H) (t : TOk T H0) (h1 : 1 ≤ many) (h2 : many ≤ 1000000)
    (k : ∀ (v : Int) (H' : Hp), 0 ≤ v → v < many → LS K T H0 rw sc ns H' → ExtS T [rw] H H' → Q (.int v) H') : spTaken K T [.ref rw, .int many] H Q E :=
  ⟨rw, sc, ns, many, rfl, h1, h2, s.r, s.ok t, fun v H' q1 q2 e r => k v H' q1 q2 (s.draw e r) e⟩
theorem ExtS.obj {o : HO} (e : ExtS T [rw] H H1) (t : TOk T H) (h : H a = some o) (n : ∀ ps, o ≠ .tbl ps) (ne : a ≠ rw) : H1 a = some o := e.keep a o h (t.out h n) (by simpa using ne)
theorem ExtS.lst {xs : List V} (e : ExtS T [rw] H H1) (t : TOk T H) (h : H a = some (.lst xs)) (ne : a ≠ rw) : H1 a = some (.lst xs) := e.obj t h (fun _ z => nomatch z) ne
theorem ExtS.tup {xs : List V} (e : ExtS T [rw] H H1) (t : TOk T H) (r : LRow K H rw sc ns) (h : H a = some (.tup xs)) : H1 a = some (.tup xs) := e.obj t h (fun _ z => nomatch z) (fun z => by
  obtain ⟨ys, q⟩ := r.at_
  rw [← z, h] at q; cases q)
theorem TupI.extS {r : List Int} (h : TupI H a r) (t : TOk T H) (e : ExtS T [rw] H H1) (q : LRow K H rw sc ns) : TupI H1 a r := e.tup t q h
theorem LstT.extS {rows : List (List Int)} (h : LstT H a rows) (t : TOk T H) (e : ExtS T [rw] H H1) (q : LRow K H rw sc ns) (ne : a ≠ rw) : LstT H1 a rows := by
  obtain ⟨as, h1, h2⟩ := h
  exact ⟨as, e.lst t h1 ne, Paired.mapP h2 fun b r z => TupI.extS z t e q⟩
theorem TupT.extS {rows : List (List Int)} (h : TupT H a rows) (t : TOk T H) (e : ExtS T [rw] H H1) (q : LRow K H rw sc ns) : TupT H1 a rows := by
  obtain ⟨as, h1, h2⟩ := h
  exact ⟨as, e.tup t q h1, Paired.mapP h2 fun b r z => TupI.extS z t e q⟩
theorem ClkAt.extS {c : Clk} (h : ClkAt H a c) (t : TOk T H) (x : ExtS T [rw] H H1) (q : LRow K H rw sc ns) : ClkAt H1 a c := by
  obtain ⟨e, tt, g, b, h1, h2, h3, h4, h5⟩ := h
  exact ⟨e, tt, g, b, x.tup t q h1, h2.extS t x q, h3.extS t x q, h4.extS t x q, h5.extS t x q⟩
/-- beside a new object all stands -/
theorem put_obj {o : HO} {u : HO} (h : H a = some o) (e : H p = none) : upd H p u a = some o := by rw [upd_ne (ne_of_none h e)]; exact h
theorem LstT.put {rows : List (List Int)} {u : HO} (h : LstT H a rows) (e : H p = none) : LstT (upd H p u) a rows := by
  obtain ⟨as, h1, h2⟩ := h
  exact ⟨as, put_obj h1 e, Paired.mapP h2 fun b r z => put_obj z e⟩
/-- beside a changed list the other lists of rows stand -/
theorem LstT.beside {rows : List (List Int)} {xs : List V} {u : HO} (h : LstT H a rows) (e : H p = some (.lst xs)) (n : a ≠ p) : LstT (upd H p u) a rows := by
  obtain ⟨as, h1, h2⟩ := h
  refine ⟨as, by rw [upd_ne n]; exact h1, Paired.mapP h2 fun b r z => ?_⟩
  have z : H b = some (.tup (r.map V.int)) := z
  show upd _ _ _ b = _
  rw [upd_ne (fun q => by rw [q, e] at z; cases z)]
  exact z
end
/-! ### rising lists -/
theorem rise_app {α : Type} {lt : α → α → Prop} {l m : List α} (h : Rise lt l) (h2 : Rise lt m) (hx : ∀ y ∈ l, ∀ z ∈ m, lt y z) : Rise lt (l ++ m) := by
  intro i x y h1 h2'
  by_cases q : i + 1 < l.length
  · rw [List.getElem?_append_left (by omega)] at h1
    rw [List.getElem?_append_left q] at h2'
    exact h i x y h1 h2'
  · by_cases q2 : i < l.length
    · rw [List.getElem?_append_left q2] at h1
      rw [List.getElem?_append_right (by omega)] at h2'
      exact hx x (List.mem_of_getElem? h1) y (List.mem_of_getElem? h2')
    · rw [List.getElem?_append_right (by omega)] at h1 h2'
      exact h2 (i - l.length) x y h1 (by rw [← h2']; congr 1; omega)
theorem rise_nil {α : Type} {lt : α → α → Prop} : Rise lt ([] : List α) := fun i x y h => by simp at h
theorem rise_one {α : Type} {lt : α → α → Prop} {x : α} : Rise lt [x] := fun i a b h1 h2 => by
  rcases i with _ | i <;> simp at h2
theorem rise_snoc {α : Type} {lt : α → α → Prop} {l : List α} {x : α} (h : Rise lt l) (hx : ∀ y ∈ l, lt y x) : Rise lt (l ++ [x]) :=
  rise_app h rise_one fun y hy z hz => by rw [List.mem_singleton.mp hz]; exact hx y hy
/-- [p, i, j] stands before (q, k, l) -/
def Bef (p i j q k l : Int) : Prop := p < q ∨ (p = q ∧ (i < k ∨ (i = k ∧ j < l)))
theorem bef_lex {p i j q k l : Int} (h : Bef p i j q k l) : HT.lexLt [p, i, j] [q, k, l] = true := by
  rw [HT.lexLt_cons]
  rcases h with h | ⟨rfl, h⟩
  · rw [if_neg (by omega)]; exact decide_eq_true h
  · rw [if_pos rfl, HT.lexLt_cons]
    rcases h with h | ⟨rfl, h⟩
    · rw [if_neg (by omega)]; exact decide_eq_true h
    · rw [if_pos rfl, HT.lexLt_cons, if_neg (by omega)]; exact decide_eq_true h
end CW

/-! Plain: what is read is what would be written; a right state is kept. -/
namespace CW
open PySem TL KM
theorem order_ok {a b c : Int} {l : List (List Int)} {u : Unit} (h : orderE a b c l = .ok u) : ∀ d e f, last3 l = some (d, e, f) → Bef d e f a b c := by
  intro d e f hl
  unfold orderE at h
  rw [hl] at h
  dsimp only at h
  split at h
  · cases h
  · rename_i q
    unfold le3 at q
    unfold Bef
    by_cases h1 : a = d
    · rw [if_pos h1] at q
      by_cases h2 : b = e
      · rw [if_pos h2] at q
        have : ¬ c ≤ f := fun z => q (decide_eq_true z)
        omega
      · rw [if_neg h2] at q
        have : ¬ b ≤ e := fun z => q (decide_eq_true z)
        omega
    · rw [if_neg h1] at q
      have : ¬ a ≤ d := fun z => q (decide_eq_true z)
      omega
theorem phases_ok {ws : List Wd} {hi : Int} : ∀ {n place : Nat} {least : Int} {ph : List Int}, 0 ≤ least → phasesE ws hi n place least = .ok ph →
    ph.length = n ∧ (∀ i v, ph[i]? = some v → ws[place + i]? = some (num v) ∧ least ≤ v ∧ v ≤ hi) ∧ RiseI ph ∧ (∀ v ∈ ph, least ≤ v ∧ v ≤ hi)
  | 0, place, least, ph, _, h => by
    unfold phasesE at h
    injection h with h
    subst h
    exact ⟨rfl, fun i v h => by simp at h, rise_nil, fun _ h => nomatch h⟩
  | n + 1, place, least, ph, hl, h => by
    unfold phasesE at h
    split at h
    · cases h
    · rename_i v hv
      split at h
      · cases h
      · rename_i r hr
        injection h with h
        subst h
        obtain ⟨w, e1, e2, v0, v1, v2, _⟩ := takeE_rng hv
        obtain ⟨i1, i2, i3, i4⟩ := phases_ok (by omega) hr
        refine ⟨by rw [List.length_cons, i1], fun i x hx => ?_, ?_, fun x hx => ?_⟩
        · rcases i with _ | i
          · obtain rfl := Option.some.inj hx
            exact ⟨by rw [Nat.add_zero, e1, e2], v1, v2⟩
          · have := i2 i x hx
            rw [show place + 1 + i = place + (i + 1) by omega] at this
            exact ⟨this.1, by omega, this.2.2⟩
        · intro i x y h1 h2
          rcases i with _ | i
          · obtain rfl := Option.some.inj h1
            have := i4 y (List.mem_of_getElem? h2)
            show v < y
            omega
          · exact i3 i x y h1 h2
        · rcases List.mem_cons.mp hx with rfl | hx
          · exact ⟨v1, v2⟩
          · have := i4 x hx
            exact ⟨by omega, this.2⟩
/-- the lines that a state would write -/
def whl (r : Rd) : List (List Wd) := (r.lasts.zip r.gaps).map fun p => wWheel :: num p.1 :: p.2.map num
def outR (r : Rd) : List (List Wd) := (if r.per = 0 then [] else [[wPeriod, num r.per]]) ++ whl r ++ r.tch.map (fun x => wTouch :: x.map num) ++ r.book.map (fun x => wNeed :: x.map num)
structure GoodR (n : Nat) (r : Rd) : Prop where
  per : 0 ≤ r.per ∧ r.per ≤ 12
  zero : r.per = 0 → r.lasts = []
  emp : r.lasts = [] → r.tch = [] ∧ r.book = []
  lasts : r.lasts.length ≤ 12 ∧ (∀ x ∈ r.lasts, 0 ≤ x ∧ x ≤ 4) ∧ r.lasts.sum ≤ 24
  gaps : GapsOk r.per r.lasts r.gaps
  tch : (∀ x ∈ r.tch, ∃ p i j : Int, x = [p, i, j] ∧ 0 ≤ p ∧ p ≤ r.per - 1 ∧ 0 ≤ i ∧ i ≤ (r.lasts.length : Int) - 1 ∧ i + 1 ≤ j ∧ j ≤ (r.lasts.length : Int) - 1) ∧ RiseT r.tch ∧ r.tch.length ≤ n
  book : (∀ x ∈ r.book, EntryOk r.lasts x) ∧ RiseT (r.book.map (·.take 3)) ∧ r.book.length ≤ n
theorem good0 : GoodR 0 rd0 := ⟨⟨by decide, by decide⟩, fun _ => rfl, fun _ => ⟨rfl, rfl⟩, ⟨by decide, (fun _ h => nomatch h), by decide⟩, ⟨rfl, (fun _ h => nomatch h), fun i r e h => by simp [rd0] at h⟩, ⟨(fun _ h => nomatch h), rise_nil, Nat.le_refl _⟩, ⟨(fun _ h => nomatch h), rise_nil, Nat.le_refl _⟩⟩
theorem no_mem {α : Type} {l : List α} (h : l = []) {P : α → Prop} : ∀ x ∈ l, P x := by
  subst h
  intro x hx
  cases hx
theorem ws_eq {ws xs : List Wd} (hl : ws.length = xs.length) (h : ∀ (i : Nat) (w : Wd), xs[i]? = some w → ws[i]? = some w) : ws = xs := by
  refine List.ext_getElem? fun i => ?_
  by_cases q : i < xs.length
  · obtain ⟨w, hw⟩ := getq q
    rw [hw, h i w hw]
  · rw [List.getElem?_eq_none (by omega), List.getElem?_eq_none (by omega)]
theorem head_get {ws : List Wd} {w : Wd} (h : ws.head? = some w) : ws[0]? = some w := by
  cases ws with
  | nil => cases h
  | cons a r => exact h
theorem last_before {l : List (List Int)} {x : List Int} (h : RiseT l) (hx : ∀ y, l.getLast? = some y → HT.lexLt y x = true) : RiseT (l ++ [x]) := by
  intro i u v h1 h2
  have h3 := lt_of_get h2
  rw [List.length_append, List.length_singleton] at h3
  by_cases q : i + 1 < l.length
  · rw [List.getElem?_append_left (by omega)] at h1
    rw [List.getElem?_append_left q] at h2
    exact h i u v h1 h2
  · rw [List.getElem?_append_left (by omega)] at h1
    rw [List.getElem?_append_right (by omega), show i + 1 - l.length = 0 by omega] at h2
    obtain rfl := Option.some.inj h2
    refine hx u ?_
    rw [List.getLast?_eq_getElem?, show l.length - 1 = i by omega]
    exact h1
theorem zip_snoc {α β : Type} {l : List α} {m : List β} {x : α} {y : β} (h : l.length = m.length) : (l ++ [x]).zip (m ++ [y]) = l.zip m ++ [(x, y)] := by
  rw [List.zip_append h]
  rfl
theorem four_rows {r : Rd} {n : Nat} (g : GoodR n r) {x : List Int} (h : x ∈ r.book) : ∃ a b c d : Int, x = [a, b, c, d] := by
  obtain ⟨i, j, a, b, _, _, rfl, _⟩ := g.book.1 x h
  exact ⟨_, _, _, _, rfl⟩
theorem good_step {n : Nat} {r r' : Rd} {ws : List Wd} (g : GoodR n r) (hz : ws.length ≤ 900) (h : rdLine r ws = .ok r') : GoodR (n + 1) r' ∧ outR r' = outR r ++ [ws] := by
  rcases rdLine_ok h with ⟨v, u, hh, hp, h1, h2, rfl⟩ | ⟨hh, hp, ht, hb, h1⟩ | ⟨hh, hne, hb, h1⟩ | ⟨hh, hne, h1⟩
  · obtain ⟨w, e1, rfl, v0, v1, v2, _⟩ := takeE_rng h1
    have hl := endE_ok h2
    have hl2 := lt_of_get e1
    have h0 := g.zero hp
    have ⟨t0, b0⟩ := g.emp h0
    have g0 : r.gaps = [] := List.length_eq_zero_iff.mp (by rw [g.gaps.1, h0]; rfl)
    refine ⟨⟨⟨v0, v2⟩, fun z => by dsimp only at z; omega, fun _ => ⟨t0, b0⟩, g.lasts, ⟨g.gaps.1, no_mem g0, g.gaps.2.2⟩, ⟨no_mem t0, g.tch.2.1, Nat.le_succ_of_le g.tch.2.2⟩, ⟨g.book.1, g.book.2.1, Nat.le_succ_of_le g.book.2.2⟩⟩, ?_⟩
    have hws : ws = [wPeriod, num v] := ws_eq (by show ws.length = 2; omega) fun i w hw => by
      rcases i with _ | _ | i
      · obtain rfl := Option.some.inj hw; exact head_get hh
      · obtain rfl := Option.some.inj hw; exact e1
      · simp at hw
    unfold outR whl
    dsimp only
    rw [if_pos hp, if_neg (by omega), h0, g0, t0, b0, hws]
    rfl
  · obtain ⟨last, ph, h12, q1, q2, rfl⟩ := rdWheel_ok h1
    obtain ⟨w, e1, rfl, v0, v1, v2, _⟩ := takeE_rng q1
    obtain ⟨p1, p2, p3, p4⟩ := phases_ok (by decide) q2
    have hl2 := lt_of_get e1
    have hm : minI 4 (24 - r.lasts.sum) ≤ 4 ∧ minI 4 (24 - r.lasts.sum) ≤ 24 - r.lasts.sum := by unfold minI; split <;> omega
    have hlen : ws.length = 2 + ph.length := by
      by_cases q : ws.length < (if 0 < last then 3 else 2)
      · exfalso
        have h3 : 0 < last := by
          by_cases z : 0 < last
          · exact z
          · rw [if_neg z] at q; omega
        rw [if_pos h3] at q p1
        obtain ⟨x, hx⟩ := getq (l := ph) (i := 0) (by omega)
        have := lt_of_get (p2 0 x hx).1
        omega
      · rw [p1, Nat.max_eq_left (by omega)]; omega
    have hws : ws = wWheel :: num last :: ph.map num := ws_eq (by rw [hlen]; simp; omega) fun i w hw => by
      rcases i with _ | _ | i
      · obtain rfl := Option.some.inj hw; exact head_get hh
      · obtain rfl := Option.some.inj hw; exact e1
      · have hw : (ph.map num)[i]? = some w := hw
        rw [List.getElem?_map] at hw
        cases e : ph[i]? with
        | none => rw [e] at hw; cases hw
        | some v =>
          rw [e] at hw
          obtain rfl := Option.some.inj hw
          have := (p2 i v e).1
          rw [Nat.add_comm] at this
          exact this
    refine ⟨⟨g.per, fun z => by dsimp only at z; omega, fun z => by dsimp only at z; exact absurd (congrArg List.length z) (by simp), ⟨?_, fun x hx => ?_, ?_⟩, ⟨?_, fun x hx => ?_, fun i x e hx he hp' => ?_⟩, ⟨no_mem ht, g.tch.2.1, Nat.le_succ_of_le g.tch.2.2⟩, ⟨no_mem hb, g.book.2.1, Nat.le_succ_of_le g.book.2.2⟩⟩, ?_⟩
    · show (r.lasts ++ [last]).length ≤ 12
      rw [List.length_append, List.length_singleton]
      have := g.lasts.1
      omega
    · rcases List.mem_append.mp hx with q | q
      · exact g.lasts.2.1 x q
      · rw [List.mem_singleton.mp q]; omega
    · show (r.lasts ++ [last]).sum ≤ 24
      rw [List.sum_append, List.sum_singleton]
      omega
    · show (r.gaps ++ [ph]).length = (r.lasts ++ [last]).length
      rw [List.length_append, List.length_append, g.gaps.1]
      rfl
    · rcases List.mem_append.mp hx with q | q
      · exact g.gaps.2.1 x q
      · rw [List.mem_singleton.mp q]
        exact ⟨p4, p3, by omega⟩
    · dsimp only at hx he
      by_cases q : i < r.gaps.length
      · rw [List.getElem?_append_left q] at hx
        rw [List.getElem?_append_left (by rw [← g.gaps.1]; exact q)] at he
        exact g.gaps.2.2 i x e hx he hp'
      · have hi := lt_of_get hx
        rw [List.length_append, List.length_singleton] at hi
        have ei : i = r.gaps.length := by omega
        rw [List.getElem?_append_right (by omega), show i - r.gaps.length = 0 by omega] at hx
        rw [List.getElem?_append_right (by rw [← g.gaps.1]; omega), show i - r.lasts.length = 0 by rw [← g.gaps.1]; omega] at he
        obtain rfl := Option.some.inj hx
        obtain rfl := Option.some.inj he
        intro z
        rw [z] at p1
        rw [if_pos hp'] at p1
        have hx3 : 3 ≤ max ws.length 3 := Nat.le_max_right _ _
        simp only [List.length_nil] at p1
        omega
    · unfold outR whl
      dsimp only
      rw [ht, hb, zip_snoc g.gaps.1.symm, List.map_append, hws, if_neg (by omega)]
      simp
  · obtain ⟨a, b, c, u, q1, q2, q3, q4, q5, rfl⟩ := rdTouch_ok h1
    obtain ⟨w1, e1, rfl, a0, a1, a2, _⟩ := takeE_rng q1
    obtain ⟨w2, e2, rfl, b0, b1, b2, _⟩ := takeE_rng q2
    obtain ⟨w3, e3, rfl, c0, c1, c2, _⟩ := takeE_rng q3
    have hl := endE_ok q5
    have hl2 := lt_of_get e3
    have hws : ws = [wTouch, num a, num b, num c] := ws_eq (by show ws.length = 4; omega) fun i w hw => by
      rcases i with _ | _ | _ | _ | i
      · obtain rfl := Option.some.inj hw; exact head_get hh
      · obtain rfl := Option.some.inj hw; exact e1
      · obtain rfl := Option.some.inj hw; exact e2
      · obtain rfl := Option.some.inj hw; exact e3
      · simp at hw
    refine ⟨⟨g.per, g.zero, fun z => absurd z hne, g.lasts, g.gaps, ⟨fun x hx => ?_, last_before g.tch.2.1 fun y hy => ?_, ?_⟩, ⟨g.book.1, g.book.2.1, Nat.le_succ_of_le g.book.2.2⟩⟩, ?_⟩
    · rcases List.mem_append.mp hx with q | q
      · exact g.tch.1 x q
      · exact ⟨a, b, c, List.mem_singleton.mp q, by omega, a2, b0, b2, c1, c2⟩
    · obtain ⟨d, e, f, rfl, _⟩ := g.tch.1 y (List.mem_of_getLast? hy)
      exact bef_lex (order_ok q4 d e f (by unfold last3; rw [hy]))
    · show (r.tch ++ [[a, b, c]]).length ≤ n + 1
      rw [List.length_append]
      exact Nat.add_le_add_right g.tch.2.2 1
    · unfold outR
      dsimp only
      rw [hb, hws, List.map_append]
      simp [whl]
  · obtain ⟨a, b, c, d, u, q1, q2, q3, q4, q5, q6, q7, rfl⟩ := rdNeed_ok h1
    obtain ⟨w1, e1, rfl, a0, a1, a2, _⟩ := takeE_rng q1
    obtain ⟨w2, e2, rfl, b0, b1, b2, _⟩ := takeE_rng q2
    obtain ⟨w3, e3, rfl, c0, c1, c2, _⟩ := takeE_rng q3
    obtain ⟨w4, e4, rfl, d0, d1, d2, _⟩ := takeE_rng q6
    have hl := endE_ok q7
    have hl2 := lt_of_get e4
    have hws : ws = [wNeed, num a, num b, num c, num d] := ws_eq (by show ws.length = 5; omega) fun i w hw => by
      rcases i with _ | _ | _ | _ | _ | i
      · obtain rfl := Option.some.inj hw; exact head_get hh
      · obtain rfl := Option.some.inj hw; exact e1
      · obtain rfl := Option.some.inj hw; exact e2
      · obtain rfl := Option.some.inj hw; exact e3
      · obtain rfl := Option.some.inj hw; exact e4
      · simp at hw
    have lo : ∀ i : Int, 0 ≤ i → i ≤ (r.lasts.length : Int) - 1 → r.lasts[i.toNat]? = some (lastOf r i) := fun i h1 h2 => by
      obtain ⟨x, hx⟩ := getq (l := r.lasts) (i := i.toNat) (by omega)
      unfold lastOf
      rw [List.getD_eq_getElem?_getD, hx]
      rfl
    refine ⟨⟨g.per, g.zero, fun z => absurd z hne, g.lasts, g.gaps, ⟨g.tch.1, g.tch.2.1, Nat.le_succ_of_le g.tch.2.2⟩, ⟨fun x hx => ?_, ?_, ?_⟩⟩, ?_⟩
    · rcases List.mem_append.mp hx with q | q
      · exact g.book.1 x q
      · refine ⟨a.toNat, c.toNat, b, d, _, _, ?_, lo a a0 a2, lo c c0 c2, b1, b2, d1, d2, fun z => q4 (by omega)⟩
        rw [List.mem_singleton.mp q, show ((a.toNat : Nat) : Int) = a by omega, show ((c.toNat : Nat) : Int) = c by omega]
    · dsimp only
      rw [List.map_append]
      refine last_before g.book.2.1 fun y hy => ?_
      rw [List.getLast?_map] at hy
      cases e : r.book.getLast? with
      | none => rw [e] at hy; cases hy
      | some x =>
        rw [e] at hy
        obtain rfl := Option.some.inj hy
        obtain ⟨d', e', f', x4, rfl⟩ := four_rows g (List.mem_of_getLast? e)
        exact bef_lex (order_ok q5 d' e' f' (by unfold last3; rw [e]))
    · show (r.book ++ [[a, b, c, d]]).length ≤ n + 1
      rw [List.length_append]
      exact Nat.add_le_add_right g.book.2.2 1
    · unfold outR
      dsimp only
      rw [hws, List.map_append]
      simp [whl]
end CW

/-! Plain: what is written is read back. -/
namespace CW
open PySem TL KM
theorem rdLines_good : ∀ {ls : List (List Wd)} {n at_ : Nat} {r r' : Rd}, GoodR n r → (∀ ws ∈ ls, ws ≠ [] ∧ ws.length ≤ 900) → rdLines r ls at_ = .ok r' → GoodR (n + ls.length) r' ∧ outR r' = outR r ++ ls
  | [], n, at_, r, r', g, _, h => by
    injection h with h
    subst h
    exact ⟨g, by simp⟩
  | ws :: rest, n, at_, r, r', g, hw, h => by
    obtain ⟨h1, h2⟩ := hw ws (by simp)
    have h : (if ws = [] then rdLines r rest (at_ + 1) else match rdLine r ws with | .error j => .error (at_, j) | .ok r'' => rdLines r'' rest (at_ + 1)) = Except.ok r' := h
    rw [if_neg h1] at h
    cases e : rdLine r ws with
    | error j => rw [e] at h; cases h
    | ok r1 =>
      rw [e] at h
      obtain ⟨g1, o1⟩ := good_step g h2 e
      obtain ⟨g2, o2⟩ := rdLines_good g1 (fun x hx => hw x (by simp [hx])) h
      refine ⟨by rw [List.length_cons]; rw [show n + (rest.length + 1) = n + 1 + rest.length by omega]; exact g2, ?_⟩
      rw [o2, o1, List.append_assoc]
      rfl
theorem rdLines_cons {r r' : Rd} {ws : List Wd} {rest : List (List Wd)} {at_ : Nat} (hne : ws ≠ []) (h : rdLine r ws = .ok r') : rdLines r (ws :: rest) at_ = rdLines r' rest (at_ + 1) := by
  show (if ws = [] then _ else _) = _
  rw [if_neg hne, h]
theorem takeE_num {ws : List Wd} {place : Nat} {lo hi v : Int} (hw : ws[place]? = some (num v)) (h0 : 0 ≤ v) (h6 : v < 1000000) (h1 : lo ≤ v) (h2 : v ≤ hi) : takeE ws place lo hi = .ok v := by
  unfold takeE takeO
  rw [hw]
  show (match numIn (num v) lo hi with | some v => _ | none => _) = _
  rw [numIn_int h0 h6 h1 h2]
theorem phases_run {ws : List Wd} {hi : Int} : ∀ {ph : List Int} {place : Nat} {least : Int}, 0 ≤ least → hi < 1000000 → RiseI ph → (∀ v ∈ ph, least ≤ v ∧ v ≤ hi) → (∀ i v, ph[i]? = some v → ws[place + i]? = some (num v)) → phasesE ws hi ph.length place least = .ok ph
  | [], _, _, _, _, _, _, _ => rfl
  | v :: r, place, least, h0, hh, hr, hv, hw => by
    have v1 := hv v (by simp)
    show phasesE ws hi (r.length + 1) place least = _
    unfold phasesE
    have hw0 : ws[place]? = some (num v) := hw 0 v rfl
    rw [takeE_num hw0 (by omega) (by omega) v1.1 v1.2]
    dsimp only
    have rr : RiseI r := fun i x y h1 h2 => hr (i + 1) x y h1 h2
    have big : ∀ x ∈ r, v < x := by
      intro x hx
      obtain ⟨i, hi, e⟩ := List.getElem_of_mem hx
      have key : ∀ (i : Nat) (x : Int), r[i]? = some x → v < x := by
        intro i
        induction i with
        | zero => intro x h; exact hr 0 v x rfl h
        | succ i ih =>
          intro x h
          obtain ⟨y, hy⟩ := getq (l := r) (i := i) (by have := lt_of_get h; omega)
          have h1 := ih y hy
          have h2 : y < x := rr i y x hy h
          omega
      exact key i x (by rw [List.getElem?_eq_getElem hi, e])
    rw [phases_run (ph := r) (by omega) hh rr (fun x hx => ⟨by have := big x hx; omega, (hv x (by simp [hx])).2⟩) (fun i x hx => by
      have := hw (i + 1) x hx
      rw [show place + 1 + i = place + (i + 1) by omega]
      exact this)]
theorem num_get {xs : List Int} {i : Nat} {v : Int} (h : xs[i]? = some v) : (xs.map num)[i]? = some (num v) := by
  rw [List.getElem?_map, h]
  rfl
theorem hd_ne {a b : Wd} {r : List Wd} (h : a ≠ b) (q : (a :: r).head? = some b) : False := h (Option.some.inj q)
theorem wheel_run {r : Rd} {last : Int} {ph : List Int} (hper : 0 < r.per ∧ r.per ≤ 12) (ht : r.tch = []) (hb : r.book = []) (hl : r.lasts.length < 12) (h0 : 0 ≤ last ∧ last ≤ 4) (hs : r.lasts.sum + last ≤ 24) (hp : (∀ n ∈ ph, 0 ≤ n ∧ n ≤ r.per - 1) ∧ RiseI ph) (hn : 0 < last → ph ≠ []) :
    rdLine r (wWheel :: num last :: ph.map num) = .ok { r with lasts := r.lasts ++ [last], gaps := r.gaps ++ [ph] } := by
  unfold rdLine
  rw [if_neg (by rintro ⟨q, _⟩; exact hd_ne (b := wPeriod) (by decide +kernel) q), if_pos ⟨rfl, hper.1, ht, hb⟩]
  unfold rdWheel
  rw [if_neg (by omega)]
  have hm : last ≤ minI 4 (24 - r.lasts.sum) := by unfold minI; split <;> omega
  rw [takeE_num (v := last) rfl h0.1 (by omega) h0.1 hm]
  dsimp only
  have en : max (wWheel :: num last :: ph.map num).length (if 0 < last then 3 else 2) - 2 = ph.length := by
    simp only [List.length_cons, List.length_map]
    by_cases q : 0 < last
    · rw [if_pos q]
      have := List.length_pos_iff.mpr (hn q)
      omega
    · rw [if_neg q]; omega
  rw [en, phases_run (by decide) (by omega) hp.2 hp.1 (fun i v h => by
    rw [Nat.add_comm]
    exact num_get h)]
theorem order_run {a b c : Int} {l : List (List Int)} (h : ∀ d e f, last3 l = some (d, e, f) → Bef d e f a b c) : orderE a b c l = .ok () := by
  unfold orderE
  cases q : last3 l with
  | none => rfl
  | some p =>
    obtain ⟨d, e, f⟩ := p
    have hb := h d e f q
    dsimp only
    rw [if_neg]
    unfold le3
    unfold Bef at hb
    intro z
    by_cases h1 : a = d
    · rw [if_pos h1] at z
      by_cases h2 : b = e
      · rw [if_pos h2] at z
        have := of_decide_eq_true z
        omega
      · rw [if_neg h2] at z
        have := of_decide_eq_true z
        omega
    · rw [if_neg h1] at z
      have := of_decide_eq_true z
      omega
theorem touch_run {r : Rd} {a b c : Int} (hne : r.lasts ≠ []) (hper : r.per ≤ 12) (hw : r.lasts.length ≤ 12) (hb : r.book = []) (h1 : 0 ≤ a ∧ a ≤ r.per - 1) (h2 : 0 ≤ b ∧ b ≤ (r.lasts.length : Int) - 1) (h3 : b + 1 ≤ c ∧ c ≤ (r.lasts.length : Int) - 1) (ho : ∀ d e f, last3 r.tch = some (d, e, f) → Bef d e f a b c) :
    rdLine r [wTouch, num a, num b, num c] = .ok { r with tch := r.tch ++ [[a, b, c]] } := by
  unfold rdLine
  rw [if_neg (by rintro ⟨q, _⟩; exact hd_ne (b := wPeriod) (by decide +kernel) q), if_neg (by rintro ⟨q, _⟩; exact hd_ne (b := wWheel) (by decide +kernel) q), if_pos ⟨rfl, hne, hb⟩]
  unfold rdTouch
  rw [takeE_num (v := a) rfl h1.1 (by omega) h1.1 h1.2]
  dsimp only
  rw [takeE_num (v := b) rfl h2.1 (by omega) h2.1 h2.2]
  dsimp only
  rw [takeE_num (v := c) rfl (by omega) (by omega) h3.1 h3.2]
  dsimp only
  rw [order_run ho]
  dsimp only
  unfold endE
  rw [if_neg (by show ¬ 4 < 4; decide)]
theorem need_run {r : Rd} {i j : Nat} {a b ei ej : Int} (hw : r.lasts.length ≤ 12) (hf : ∀ x ∈ r.lasts, x ≤ 4) (hi : r.lasts[i]? = some ei) (hj : r.lasts[j]? = some ej) (h1 : 1 ≤ a ∧ a ≤ ei) (h2 : 1 ≤ b ∧ b ≤ ej) (hij : i ≠ j) (ho : ∀ d e f, last3 r.book = some (d, e, f) → Bef d e f i a j) :
    rdLine r [wNeed, num i, num a, num j, num b] = .ok { r with book := r.book ++ [[(i : Int), a, (j : Int), b]] } := by
  have hne : r.lasts ≠ [] := fun z => by rw [z] at hi; simp at hi
  have li := lt_of_get hi
  have lj := lt_of_get hj
  have fi := hf ei (List.mem_of_getElem? hi)
  have fj := hf ej (List.mem_of_getElem? hj)
  have lo : ∀ (k : Nat) (e : Int), r.lasts[k]? = some e → lastOf r (k : Int) = e := fun k e h => by
    unfold lastOf
    rw [List.getD_eq_getElem?_getD, Int.toNat_natCast, h]
    rfl
  unfold rdLine
  rw [if_neg (by rintro ⟨q, _⟩; exact hd_ne (b := wPeriod) (by decide +kernel) q), if_neg (by rintro ⟨q, _⟩; exact hd_ne (b := wWheel) (by decide +kernel) q), if_neg (by rintro ⟨q, _⟩; exact hd_ne (b := wTouch) (by decide +kernel) q), if_pos ⟨rfl, hne⟩]
  unfold rdNeed
  rw [takeE_num (v := i) rfl (by omega) (by omega) (by omega) (by omega)]
  dsimp only
  rw [lo i ei hi, takeE_num (v := a) rfl (by omega) (by omega) h1.1 h1.2]
  dsimp only
  rw [takeE_num (v := j) rfl (by omega) (by omega) (by omega) (by omega)]
  dsimp only
  rw [if_neg (by omega), order_run ho]
  dsimp only
  rw [lo j ej hj, takeE_num (v := b) rfl (by omega) (by omega) h2.1 h2.2]
  dsimp only
  unfold endE
  rw [if_neg (by show ¬ 5 < 5; decide)]
theorem wheels_run {per : Int} (hper : 0 < per ∧ per ≤ 12) : ∀ {l2 : List Int} {g2 : List (List Int)} {l1 : List Int} {g1 : List (List Int)} {rest : List (List Wd)} {at_ : Nat}, g2.length = l2.length → l1.length + l2.length ≤ 12 → l1.sum + l2.sum ≤ 24 → (∀ x ∈ l2, 0 ≤ x ∧ x ≤ 4) → (∀ g ∈ g2, (∀ n ∈ g, 0 ≤ n ∧ n ≤ per - 1) ∧ RiseI g) →
    (∀ (i : Nat) (g : List Int) (e : Int), g2[i]? = some g → l2[i]? = some e → 0 < e → g ≠ []) →
    rdLines ⟨per, l1, g1, [], []⟩ ((l2.zip g2).map (fun p => wWheel :: num p.1 :: p.2.map num) ++ rest) at_ = rdLines ⟨per, l1 ++ l2, g1 ++ g2, [], []⟩ rest (at_ + l2.length)
  | [], [], l1, g1, rest, at_, _, _, _, _, _, _ => by simp
  | [], _ :: _, _, _, _, _, h, _, _, _, _, _ => by simp at h
  | _ :: _, [], _, _, _, _, h, _, _, _, _, _ => by simp at h
  | x :: l2, g :: g2, l1, g1, rest, at_, h, hl, hs, hx, hg, hne => by
    have x1 := hx x (by simp)
    rw [List.length_cons] at hl
    rw [List.sum_cons] at hs
    have sp : 0 ≤ l2.sum := by
      have : ∀ l : List Int, (∀ y ∈ l, 0 ≤ y ∧ y ≤ 4) → 0 ≤ l.sum := by
        intro l
        induction l with
        | nil => intro _; decide
        | cons a t ih =>
          intro q
          rw [List.sum_cons]
          have := q a (by simp)
          have := ih fun y hy => q y (by simp [hy])
          omega
      exact this l2 fun y hy => hx y (by simp [hy])
    rw [List.zip_cons_cons, List.map_cons, List.cons_append]
    rw [rdLines_cons (by simp) (wheel_run (r := ⟨per, l1, g1, [], []⟩) hper rfl rfl (by show l1.length < 12; omega) x1 (by show l1.sum + x ≤ 24; omega) (hg g (by simp)) (hne 0 g x rfl rfl))]
    rw [wheels_run hper (l1 := l1 ++ [x]) (g1 := g1 ++ [g]) (by simpa using h) (by rw [List.length_append]; simp; omega) (by rw [List.sum_append]; simp; omega) (fun y hy => hx y (by simp [hy])) (fun y hy => hg y (by simp [hy])) (fun i g' e h1 h2 => hne (i + 1) g' e h1 h2)]
    rw [List.append_assoc, List.append_assoc, List.length_cons, show at_ + 1 + l2.length = at_ + (l2.length + 1) by omega]
    rfl
theorem rise_last {l : List (List Int)} {x : List Int} {rest : List (List Int)} (h : RiseT (l ++ x :: rest)) : ∀ y, l.getLast? = some y → HT.lexLt y x = true := by
  intro y hy
  have hne : l ≠ [] := fun z => by rw [z] at hy; cases hy
  have hp := List.length_pos_iff.mpr hne
  rw [List.getLast?_eq_getElem?] at hy
  refine h (l.length - 1) y x ?_ ?_
  · rw [List.getElem?_append_left (by omega)]
    exact hy
  · rw [show l.length - 1 + 1 = l.length by omega, List.getElem?_append_right (Nat.le_refl _), Nat.sub_self]
    rfl
theorem lex_bef {p i j q k l : Int} (h : HT.lexLt [p, i, j] [q, k, l] = true) : Bef p i j q k l := by
  rw [HT.lexLt_cons, HT.lexLt_cons, HT.lexLt_cons] at h
  unfold Bef
  by_cases h1 : p = q
  · rw [if_pos h1] at h
    by_cases h2 : i = k
    · rw [if_pos h2] at h
      by_cases h3 : j = l
      · rw [if_pos h3] at h; cases h
      · rw [if_neg h3] at h
        have := of_decide_eq_true h
        omega
    · rw [if_neg h2] at h
      have := of_decide_eq_true h
      omega
  · rw [if_neg h1] at h
    have := of_decide_eq_true h
    omega
theorem touches_run {per : Int} {l : List Int} {g : List (List Int)} (hper : per ≤ 12) (hw : l.length ≤ 12) (hne : l ≠ []) : ∀ {t2 t1 : List (List Int)} {rest : List (List Wd)} {at_ : Nat}, (∀ x ∈ t1, x.length = 3) → RiseT (t1 ++ t2) →
    (∀ r ∈ t2, ∃ p i j : Int, r = [p, i, j] ∧ 0 ≤ p ∧ p ≤ per - 1 ∧ 0 ≤ i ∧ i ≤ (l.length : Int) - 1 ∧ i + 1 ≤ j ∧ j ≤ (l.length : Int) - 1) →
    rdLines ⟨per, l, g, t1, []⟩ (t2.map (fun x => wTouch :: x.map num) ++ rest) at_ = rdLines ⟨per, l, g, t1 ++ t2, []⟩ rest (at_ + t2.length)
  | [], t1, rest, at_, _, _, _ => by simp
  | x :: t2, t1, rest, at_, h3, hr, hx => by
    obtain ⟨p, i, j, rfl, q1, q2, q3, q4, q5, q6⟩ := hx x (by simp)
    rw [List.map_cons, List.cons_append]
    have hb : ∀ d e f, last3 t1 = some (d, e, f) → Bef d e f p i j := fun d e f h => by
      unfold last3 at h
      split at h
      · rename_i a b c r hl
        injection h with h
        injection h with h1 h2
        injection h2 with h2 h3'
        subst h1 h2 h3'
        have := rise_last hr _ hl
        have hlen := h3 _ (List.mem_of_getLast? hl)
        have : r = [] := List.length_eq_zero_iff.mp (by simpa using hlen)
        subst this
        exact lex_bef (rise_last hr _ hl)
      · cases h
    show rdLines _ ([wTouch, num p, num i, num j] :: _) _ = _
    rw [rdLines_cons (by simp) (touch_run (r := ⟨per, l, g, t1, []⟩) hne hper hw rfl ⟨q1, q2⟩ ⟨q3, q4⟩ ⟨q5, q6⟩ hb)]
    rw [touches_run hper hw hne (t1 := t1 ++ [[p, i, j]]) (fun y hy => by
      rcases List.mem_append.mp hy with q | q
      · exact h3 y q
      · rw [List.mem_singleton.mp q]; rfl) (by rw [List.append_assoc]; exact hr) (fun r hr' => hx r (by simp [hr']))]
    rw [List.append_assoc, List.length_cons, show at_ + 1 + t2.length = at_ + (t2.length + 1) by omega]
    rfl
theorem needs_run {per : Int} {l : List Int} {g t : List (List Int)} (hw : l.length ≤ 12) (hf : ∀ x ∈ l, x ≤ 4) : ∀ {b2 b1 : List (List Int)} {at_ : Nat}, (∀ x ∈ b1, x.length = 4) → RiseT ((b1 ++ b2).map (·.take 3)) → (∀ r ∈ b2, EntryOk l r) →
    rdLines ⟨per, l, g, t, b1⟩ (b2.map (fun x => wNeed :: x.map num)) at_ = .ok ⟨per, l, g, t, b1 ++ b2⟩
  | [], b1, at_, _, _, _ => by rw [List.map_nil, List.append_nil]; rfl
  | x :: b2, b1, at_, h4, hr, hx => by
    obtain ⟨i, j, a, b, ei, ej, rfl, q1, q2, q3, q4, q5, q6, q7⟩ := hx x (by simp)
    rw [List.map_cons]
    have hb : ∀ d e f, last3 b1 = some (d, e, f) → Bef d e f i a j := fun d e f h => by
      unfold last3 at h
      split at h
      · rename_i a' b' c' r hl
        injection h with h
        injection h with h1 h2
        injection h2 with h2 h3'
        subst h1 h2 h3'
        rw [List.map_append] at hr
        exact lex_bef (rise_last hr _ (by rw [List.getLast?_map, hl]; rfl))
      · cases h
    show rdLines _ ([wNeed, num i, num a, num j, num b] :: _) _ = _
    rw [rdLines_cons (by simp) (need_run (r := ⟨per, l, g, t, b1⟩) hw hf q1 q2 ⟨q3, q4⟩ ⟨q5, q6⟩ q7 hb)]
    rw [needs_run hw hf (b1 := b1 ++ [[(i : Int), a, (j : Int), b]]) (fun y hy => by
      rcases List.mem_append.mp hy with q | q
      · exact h4 y q
      · rw [List.mem_singleton.mp q]; rfl) (by rw [List.append_assoc]; exact hr) (fun r hr' => hx r (by simp [hr']))]
    rw [List.append_assoc]
    rfl
theorem period_run {v : Int} (h : 1 ≤ v ∧ v ≤ 12) : rdLine rd0 [wPeriod, num v] = .ok ⟨v, [], [], [], []⟩ := by
  unfold rdLine
  rw [if_pos ⟨rfl, rfl⟩, takeE_num (v := v) rfl (by omega) (by omega) h.1 h.2]
  rfl
/-- the lines of a clock -/
def clkLines (c : Clk) : List (List Wd) := [wPeriod, num c.per] :: (c.eds.zip c.gaps).map (fun p => wWheel :: num p.1 :: p.2.map num) ++ c.tch.map (fun x => wTouch :: x.map num) ++ c.book.map (fun x => wNeed :: x.map num)
/-- T1 -/
theorem read_back {c : Clk} (ok : c.Ok) : rdLines rd0 (clkLines c) 1 = .ok ⟨c.per, c.eds, c.gaps, c.tch, c.book⟩ := by
  have hne : c.eds ≠ [] := fun z => by
    have := ok.eds.1
    rw [z] at this
    simp at this
  have hp := ok.per
  unfold clkLines
  rw [List.append_assoc, List.cons_append, rdLines_cons (by simp) (period_run hp), ← List.append_assoc]
  rw [List.append_assoc]
  rw [wheels_run (l1 := []) (g1 := []) ⟨by omega, hp.2⟩ ok.gaps.1 (by simpa using ok.eds.2.1) (by simpa using ok.eds.2.2.2) ok.eds.2.2.1 (fun g hg => ⟨(ok.gaps.2.1 g hg).1, (ok.gaps.2.1 g hg).2.1⟩) ok.gaps.2.2]
  rw [List.nil_append, List.nil_append, touches_run (t1 := []) hp.2 ok.eds.2.1 hne (fun _ h => nomatch h) (by simpa using ok.tch.2.1) ok.tch.1]
  rw [List.nil_append, needs_run (b1 := []) ok.eds.2.1 (fun x hx => (ok.eds.2.2.1 x hx).2) (fun _ h => nomatch h) (by simpa using ok.book.2.1) ok.book.1]
  rfl
/-- what is read ends in a right clock that writes the very lines -/
theorem read_good {ls : List (List Wd)} {r : Rd} (hw : ∀ ws ∈ ls, ws ≠ [] ∧ ws.length ≤ 900) (hl : ls.length ≤ 900) (h : rdLines rd0 ls 1 = .ok r) (hne : r.lasts ≠ []) : (clkOf r).Ok ∧ clkLines (clkOf r) = ls := by
  obtain ⟨g, o⟩ := rdLines_good good0 hw h
  have hp : r.per ≠ 0 := fun z => hne (g.zero z)
  have o0 : outR rd0 = [] := by decide +kernel
  rw [o0, List.nil_append] at o
  refine ⟨⟨⟨by have := g.per.1; show 1 ≤ r.per; omega, g.per.2⟩, ⟨List.length_pos_iff.mpr hne, g.lasts⟩, ⟨g.tch.1, g.tch.2.1, by show r.tch.length ≤ 1000; have := g.tch.2.2; omega⟩, g.gaps, ⟨g.book.1, g.book.2.1, by show r.book.length ≤ 1000; have := g.book.2.2; omega⟩⟩, ?_⟩
  rw [← o]
  unfold clkLines outR whl clkOf
  rw [if_neg hp]
  rfl
end CW

/-! Plain: lines and words of texts that are joined. -/
namespace CW
open PySem hiding wordsOf linesOf
open TL KM
theorem cut_hit {c : Nat} {acc r : List Nat} : cutL c acc (c :: r) = acc :: cutL c [] r := by rw [cutL, if_pos rfl]
theorem cut_miss {c x : Nat} {acc r : List Nat} (h : x ≠ c) : cutL c acc (x :: r) = cutL c (acc ++ [x]) r := by rw [cutL, if_neg h]
theorem cut_free {c : Nat} : ∀ {l acc : List Nat}, c ∉ l → cutL c acc l = [acc ++ l]
  | [], acc, _ => by rw [List.append_nil]; rfl
  | x :: r, acc, h => by
    unfold cutL
    rw [if_neg (fun e => h (by rw [e]; simp)), cut_free (fun q => h (by simp [q])), List.append_assoc]
    rfl
theorem cut_at {c : Nat} : ∀ {a acc b : List Nat}, cutL c acc (a ++ c :: b) = cutL c acc a ++ cutL c [] b
  | [], acc, b => by
    show cutL c acc (c :: b) = [acc] ++ _
    rw [cut_hit]
    rfl
  | x :: a, acc, b => by
    rw [List.cons_append]
    by_cases h : x = c
    · subst h
      rw [cut_hit, cut_hit, cut_at, List.cons_append]
    · rw [cut_miss h, cut_miss h, cut_at]
theorem cut_join {c : Nat} : ∀ {ls : List (List Nat)}, ls ≠ [] → (∀ l ∈ ls, c ∉ l) → cutL c [] (joinL [c] ls) = ls
  | [], h, _ => absurd rfl h
  | [l], _, h => cut_free (h l (by simp))
  | l :: m :: r, _, h => by
    show cutL c [] (l ++ (c :: joinL [c] (m :: r))) = _
    rw [cut_at, cut_free (h l (by simp)), cut_join (by simp) fun x hx => h x (by simp [hx])]
    rfl
theorem words_app (a b : List Nat) : wordsOf (a ++ 32 :: b) = wordsOf a ++ wordsOf b := by
  unfold wordsOf
  rw [cut_at, List.filter_append]
theorem words_nil : wordsOf [] = [] := rfl
theorem words_one {w : Wd} (h : w ≠ []) (h2 : 32 ∉ w) : wordsOf w = [w] := by
  unfold wordsOf
  rw [cut_free h2, List.filter_cons, if_pos (decide_eq_true (by simpa using h))]
  rfl
theorem words_bl (b : List Nat) : wordsOf (32 :: b) = wordsOf b := by
  have := words_app [] b
  rw [words_nil, List.nil_append, List.nil_append] at this
  exact this
theorem words_bls : ∀ (n : Nat) (b : List Nat), wordsOf (List.replicate n 32 ++ b) = wordsOf b
  | 0, b => rfl
  | n + 1, b => by
    rw [List.replicate_succ, List.cons_append, words_bl, words_bls n b]
/-- a word of a line -/
def WordOk (w : Wd) : Prop := w ≠ [] ∧ 32 ∉ w ∧ 10 ∉ w
/-- blanks between: n + 1 of them, whatever follows after a blank -/
theorem words_join (n : Nat) : ∀ {ws : List Wd}, (∀ w ∈ ws, WordOk w) → ∀ b : List Nat, ws ≠ [] → wordsOf (joinL (List.replicate (n + 1) 32) ws ++ 32 :: b) = ws ++ wordsOf b
  | [], _, _, h => absurd rfl h
  | [w], h, b, _ => by
    show wordsOf (w ++ 32 :: b) = _
    rw [words_app, words_one (h w (by simp)).1 (h w (by simp)).2.1]
  | w :: v :: r, h, b, _ => by
    show wordsOf ((w ++ (List.replicate (n + 1) 32 ++ joinL (List.replicate (n + 1) 32) (v :: r))) ++ 32 :: b) = _
    rw [List.replicate_succ, List.cons_append, List.append_assoc, List.cons_append, words_app, words_one (h w (by simp)).1 (h w (by simp)).2.1, List.append_assoc, words_bls, ← List.replicate_succ, words_join n (fun x hx => h x (by simp [hx])) b (by simp)]
    rfl
theorem words_line {ws : List Wd} (h : ∀ w ∈ ws, WordOk w) (hne : ws ≠ []) : wordsOf (joinL [32] ws) = ws := by
  unfold wordsOf
  rw [cut_join hne fun w hw => (h w hw).2.1]
  exact List.filter_eq_self.mpr fun w hw => decide_eq_true (by simpa using (h w hw).1)
theorem words_loose {ws : List Wd} (h : ∀ w ∈ ws, WordOk w) (hne : ws ≠ []) (n : Nat) : wordsOf (List.replicate n 32 ++ joinL [32, 32, 32] ws ++ [32]) = ws := by
  rw [List.append_assoc, words_bls]
  have := words_join 2 h [] hne
  rw [words_nil, List.append_nil] at this
  exact this
theorem join_free {c : Nat} {S : List Nat} (hs : c ∉ S) : ∀ {ws : List (List Nat)}, (∀ w ∈ ws, c ∉ w) → c ∉ joinL S ws
  | [], _ => fun h => nomatch h
  | [w], h => h w (by simp)
  | w :: v :: r, h => by
    intro q
    rcases List.mem_append.mp (show c ∈ w ++ (S ++ joinL S (v :: r)) from q) with q | q
    · exact h w (by simp) q
    · rcases List.mem_append.mp q with q | q
      · exact hs q
      · exact join_free hs (fun x hx => h x (by simp [hx])) q
/-- lines of words -/
def LinesOk (ls : List (List Wd)) : Prop := ∀ ws ∈ ls, ws ≠ [] ∧ ∀ w ∈ ws, WordOk w
theorem lines_text {ls : List (List Wd)} (h : LinesOk ls) (hne : ls ≠ []) : (linesOf (joinL [10] (ls.map (joinL [32])))).map wordsOf = ls := by
  unfold linesOf
  rw [cut_join (by simpa using hne) (fun l hl => by
    obtain ⟨ws, hw, rfl⟩ := List.mem_map.mp hl
    exact join_free (by decide) fun w q => ((h ws hw).2 w q).2.2), List.map_map]
  have : ls.map (wordsOf ∘ joinL [32]) = ls.map id := List.map_congr_left fun ws hw => words_line (h ws hw).2 (h ws hw).1
  rw [this, List.map_id]
theorem lines_len {ls : List (List Wd)} (h : LinesOk ls) (hne : ls ≠ []) : (linesOf (joinL [10] (ls.map (joinL [32])))).length = ls.length := by
  have := congrArg List.length (lines_text h hne)
  rw [List.length_map] at this
  exact this
/-! ### the loose text -/
theorem rdLines_at : ∀ {ls : List (List Wd)} {r r' : Rd} {m n : Nat}, rdLines r (ls.filter fun ws => decide (ws ≠ [])) m = .ok r' → rdLines r ls n = .ok r'
  | [], r, r', m, n, h => h
  | ws :: rest, r, r', m, n, h => by
    show (if ws = [] then rdLines r rest (n + 1) else match rdLine r ws with | .error j => .error (n, j) | .ok r'' => rdLines r'' rest (n + 1)) = Except.ok r'
    by_cases q : ws = []
    · rw [if_pos q]
      rw [List.filter_cons, if_neg (by simp [q])] at h
      exact rdLines_at h
    · rw [if_neg q]
      rw [List.filter_cons, if_pos (decide_eq_true q)] at h
      have h : (if ws = [] then _ else match rdLine r ws with | .error j => .error (m, j) | .ok r'' => rdLines r'' (rest.filter fun ws => decide (ws ≠ [])) (m + 1)) = Except.ok r' := h
      rw [if_neg q] at h
      cases e : rdLine r ws with
      | error j => rw [e] at h; cases h
      | ok r1 =>
        rw [e] at h
        exact rdLines_at h
theorem rdLines_ok_at {ls : List (List Wd)} {r r' : Rd} {m n : Nat} (hls : ∀ ws ∈ ls, ws ≠ []) (h : rdLines r ls m = .ok r') : rdLines r ls n = .ok r' := by
  refine rdLines_at (m := m) ?_
  rw [List.filter_eq_self.mpr fun w hw => decide_eq_true (hls w hw)]
  exact h
/-- T1, T2: any lines whose words, without the blank lines, are the clock's -/
theorem read_clk {c : Clk} {t : List Nat} (ok : c.Ok) (h : ((linesOf t).map wordsOf).filter (fun ws => decide (ws ≠ [])) = clkLines c) : rdText t = .ok ⟨c.per, c.eds, c.gaps, c.tch, c.book⟩ := by
  unfold rdText rdClock
  rw [rdLines_at (m := 1) (r' := ⟨c.per, c.eds, c.gaps, c.tch, c.book⟩) (by rw [h]; exact read_back ok)]
  dsimp only
  rw [if_neg fun z => by
    have := ok.eds.1
    rw [z] at this
    simp at this]
/-! ### the text of a clock -/
theorem numOk (i : Int) : WordOk (num i) := ⟨num_ne i, num_free (by decide), num_free (by decide)⟩
theorem numsOk {l : List Int} : ∀ w ∈ l.map num, WordOk w := fun w h => by
  obtain ⟨i, _, rfl⟩ := List.mem_map.mp h
  exact numOk i
theorem perOk : WordOk wPeriod := by unfold WordOk; decide +kernel
theorem whlOk : WordOk wWheel := by unfold WordOk; decide +kernel
theorem tchOk : WordOk wTouch := by unfold WordOk; decide +kernel
theorem nedOk : WordOk wNeed := by unfold WordOk; decide +kernel
theorem clk_linesOk (c : Clk) : LinesOk (clkLines c) := by
  intro ws hw
  unfold clkLines at hw
  rcases List.mem_append.mp hw with hw | hw
  · rcases List.mem_append.mp hw with hw | hw
    · rcases List.mem_cons.mp hw with rfl | hw
      · exact ⟨by simp, fun w q => by
          rcases List.mem_cons.mp q with rfl | q
          · exact perOk
          · rw [List.mem_singleton.mp q]; exact numOk _⟩
      · obtain ⟨p, _, rfl⟩ := List.mem_map.mp hw
        exact ⟨by simp, fun w q => by
          rcases List.mem_cons.mp q with rfl | q
          · exact whlOk
          · rcases List.mem_cons.mp q with rfl | q
            · exact numOk _
            · exact numsOk w q⟩
    · obtain ⟨p, _, rfl⟩ := List.mem_map.mp hw
      exact ⟨by simp, fun w q => by
        rcases List.mem_cons.mp q with rfl | q
        · exact tchOk
        · exact numsOk w q⟩
  · obtain ⟨p, _, rfl⟩ := List.mem_map.mp hw
    exact ⟨by simp, fun w q => by
      rcases List.mem_cons.mp q with rfl | q
      · exact nedOk
      · exact numsOk w q⟩
theorem clk_ne (c : Clk) : clkLines c ≠ [] := by unfold clkLines; simp
theorem tl_lineS {hs : List Str} {ns : List Int} (h : ∀ n ∈ ns, 0 ≤ n) : tl (lineS hs ns) = joinL [32] (hs.map tl ++ ns.map num) := by
  unfold lineS
  rw [join_eq, tl_join, tl_sp, List.map_append, List.map_map]
  congr 2
  exact List.map_congr_left fun n hn => tl_strI (h n hn)
theorem clk_rows {c : Clk} (ok : c.Ok) : (rowsOf c).map tl = (clkLines c).map (joinL [32]) := by
  unfold rowsOf clkLines
  rw [List.map_append, List.map_append, List.map_append, List.map_append, List.map_cons, List.map_cons, List.map_map, List.map_map, List.map_map, List.map_map, List.map_map, List.map_map]
  congr 1
  · congr 1
    · congr 1
      · rw [tl_append, tl_strI (by have := ok.per.1; omega)]
        show _ = wPeriod ++ ([32] ++ num c.per)
        rw [← List.append_assoc, show tl (Str.ofString "period ") = wPeriod ++ [32] by decide +kernel]
      · refine List.map_congr_left fun p hp => ?_
        obtain ⟨e, g⟩ := p
        obtain ⟨h1, h2⟩ := List.of_mem_zip hp
        have he := ok.eds.2.2.1 e h1
        have hg := ok.gaps.2.1 g h2
        show tl (lineS [Str.ofString "wheel", strI e] g) = joinL [32] (wWheel :: num e :: g.map num)
        rw [tl_lineS fun n hn => (hg.1 n hn).1]
        show joinL [32] ([tl (Str.ofString "wheel"), tl (strI e)] ++ g.map num) = _
        rw [tl_strI he.1, show tl (Str.ofString "wheel") = wWheel by decide +kernel]
        rfl
    · refine List.map_congr_left fun p hp => ?_
      obtain ⟨a, i, j, rfl, q1, q2, q3, q4, q5, q6⟩ := ok.tch.1 p hp
      show tl (lineS [Str.ofString "touch"] _) = joinL [32] (wTouch :: _)
      rw [tl_lineS fun n hn => by
        simp only [List.mem_cons, List.not_mem_nil, or_false] at hn
        omega]
      show joinL [32] ([tl (Str.ofString "touch")] ++ _) = _
      rw [show tl (Str.ofString "touch") = wTouch by decide +kernel]
      rfl
  · refine List.map_congr_left fun p hp => ?_
    obtain ⟨i, j, a, b, ei, ej, rfl, q1, q2, q3, q4, q5, q6, q7⟩ := ok.book.1 p hp
    show tl (lineS [Str.ofString "need"] _) = joinL [32] (wNeed :: _)
    rw [tl_lineS fun n hn => by
      simp only [List.mem_cons, List.not_mem_nil, or_false] at hn
      omega]
    show joinL [32] ([tl (Str.ofString "need")] ++ _) = _
    rw [show tl (Str.ofString "need") = wNeed by decide +kernel]
    rfl
theorem tl_clk {c : Clk} (ok : c.Ok) : tl (clkText c) = joinL [10] ((clkLines c).map (joinL [32])) := by
  unfold clkText
  rw [join_eq, tl_join, tl_nl, clk_rows ok]
theorem ne_lines {ls : List (List Wd)} (h : LinesOk ls) : ls.filter (fun ws => decide (ws ≠ [])) = ls := List.filter_eq_self.mpr fun w hw => decide_eq_true (h w hw).1
/-- T1 -/
theorem read_own {c : Clk} (ok : c.Ok) : rdText (tl (clkText c)) = .ok ⟨c.per, c.eds, c.gaps, c.tch, c.book⟩ := by
  refine read_clk ok ?_
  rw [tl_clk ok, lines_text (clk_linesOk c) (clk_ne c), ne_lines (clk_linesOk c)]
end CW

/-! Plain: a bent text. -/
namespace CW
open PySem hiding wordsOf linesOf
open TL KM
theorem phases_far {ws : List Wd} {hi : Int} : ∀ {n p : Nat} {least : Int} {j : Nat}, phasesE ws hi n p least = .error j → p + 1 ≤ j
  | 0, p, least, j, h => by cases h
  | n + 1, p, least, j, h => by
    unfold phasesE at h
    split at h
    · rename_i k hk
      injection h with h
      have := (takeE_err hk).1
      omega
    · split at h
      · rename_i k hk
        injection h with h
        have := phases_far hk
        omega
      · cases h
theorem phases_late {ws ws' : List Wd} {hi : Int} {place : Nat} (same : ∀ q, q < place → ws'[q]? = ws[q]?) : ∀ {n p : Nat} {least : Int} {ph : List Int} {j : Nat}, phasesE ws hi n p least = .ok ph → phasesE ws' hi n p least = .error j → place + 1 ≤ j
  | 0, p, least, ph, j, _, h => by cases h
  | n + 1, p, least, ph, j, h1, h => by
    by_cases q : place ≤ p
    · have := phases_far h
      omega
    · unfold phasesE at h1 h
      have e : takeE ws' p least hi = takeE ws p least hi := by
        unfold takeE takeO
        rw [same p (by omega)]
      rw [e] at h
      split at h1
      · cases h1
      · rename_i v hv
        rw [hv] at h
        dsimp only at h
        split at h1
        · cases h1
        · rename_i r hr
          split at h
          · rename_i k hk
            injection h with h
            subst h
            exact phases_late same hr hk
          · cases h
theorem order_late {a b c a' b' c' : Int} {l : List (List Int)} {u : Unit} {j : Nat} (h : orderE a b c l = .ok u) (h' : orderE a' b' c' l = .error j) : 2 ≤ j ∧ (a' = a → 3 ≤ j) ∧ (a' = a → b' = b → 4 ≤ j) := by
  have ho := order_ok h
  unfold orderE at h'
  cases q : last3 l with
  | none => rw [q] at h'; cases h'
  | some p =>
    obtain ⟨d, e, f⟩ := p
    have hb := ho d e f q
    rw [q] at h'
    dsimp only at h'
    split at h'
    · rename_i z
      injection h' with h'
      unfold fl3 at h'
      unfold le3 at z
      unfold Bef at hb
      by_cases h1 : a' = d
      · rw [if_pos h1] at z
        rw [if_neg (by omega)] at h'
        by_cases h2 : b' = e
        · rw [if_neg (by omega)] at h'
          omega
        · rw [if_neg h2] at z
          rw [if_pos h2] at h'
          have := of_decide_eq_true z
          refine ⟨by omega, fun _ => by omega, fun k1 k2 => ?_⟩
          subst k1 k2
          omega
      · rw [if_neg h1] at z
        rw [if_pos h1] at h'
        have := of_decide_eq_true z
        refine ⟨by omega, fun k1 => ?_, fun k1 k2 => ?_⟩
        · subst k1; omega
        · subst k1; omega
    · cases h'
/-- a word after the first is changed: nothing ahead of it is found wrong -/
theorem line_late {r r' : Rd} {ws ws' : List Wd} {place j : Nat} (hp : 0 < place) (hlt : place < ws.length) (hlen : ws'.length = ws.length) (same : ∀ q, q < place → ws'[q]? = ws[q]?) (h : rdLine r ws = .ok r') (h' : rdLine r ws' = .error j) : place + 1 ≤ j := by
  have hh : ws'.head? = ws.head? := by rw [List.head?_eq_getElem?, List.head?_eq_getElem?]; exact same 0 hp
  have te : ∀ q lo hi, q < place → takeE ws' q lo hi = takeE ws q lo hi := fun q lo hi hq => by
    unfold takeE takeO
    rw [same q hq]
  have ee : ∀ m, endE ws' m = endE ws m := fun m => by unfold endE; rw [hlen]
  have np : ∀ {a b : Wd}, ws.head? = some a → a ≠ b → ¬ ws.head? = some b := fun h1 h2 h3 => h2 (Option.some.inj (h1.symm.trans h3))
  rcases rdLine_ok h with ⟨v, u, c1, c2, h1, h2, rfl⟩ | ⟨c1, c2, c3, c4, h1⟩ | ⟨c1, c2, c3, h1⟩ | ⟨c1, c2, h1⟩
  · have hl := endE_ok h2
    unfold rdLine at h'
    rw [if_pos ⟨by rw [hh]; exact c1, c2⟩] at h'
    split at h'
    · rename_i k hk
      injection h' with h'
      have := (takeE_err hk).1
      omega
    · rw [ee, h2] at h'
      cases h'
  · obtain ⟨last, ph, h12, q1, q2, rfl⟩ := rdWheel_ok h1
    unfold rdLine at h'
    rw [if_neg (fun z => np c1 (by decide +kernel) (hh ▸ z.1)), if_pos ⟨by rw [hh]; exact c1, c2, c3, c4⟩] at h'
    unfold rdWheel at h'
    rw [if_neg h12] at h'
    by_cases q : place = 1
    · split at h'
      · rename_i k hk
        injection h' with h'
        have := (takeE_err hk).1
        omega
      · split at h'
        · rename_i k hk
          injection h' with h'
          have := phases_far hk
          omega
        · cases h'
    · rw [te 1 _ _ (by omega), q1] at h'
      dsimp only at h'
      rw [hlen] at h'
      split at h'
      · rename_i k hk
        injection h' with h'
        subst h'
        exact phases_late same q2 hk
      · cases h'
  · obtain ⟨a, b, c, u, q1, q2, q3, q4, q5, rfl⟩ := rdTouch_ok h1
    have hl := endE_ok q5
    unfold rdLine at h'
    rw [if_neg (fun z => np c1 (by decide +kernel) (hh ▸ z.1)), if_neg (fun z => np c1 (by decide +kernel) (hh ▸ z.1)), if_pos ⟨by rw [hh]; exact c1, c2, c3⟩] at h'
    unfold rdTouch at h'
    cases e1 : takeE ws' 1 0 (r.per - 1) with
    | error k =>
      rw [e1] at h'
      injection h' with h'
      have := (takeE_err e1).1
      by_cases z : place = 1
      · omega
      · rw [te 1 _ _ (by omega), q1] at e1
        cases e1
    | ok a' =>
      rw [e1] at h'
      dsimp only at h'
      have ea : 1 < place → a' = a := fun z => by
        rw [te 1 _ _ z, q1] at e1
        exact (Except.ok.inj e1).symm
      cases e2 : takeE ws' 2 0 ((r.lasts.length : Int) - 1) with
      | error k =>
        rw [e2] at h'
        injection h' with h'
        have := (takeE_err e2).1
        by_cases z : 2 < place
        · rw [te 2 _ _ z, q2] at e2
          cases e2
        · omega
      | ok b' =>
        rw [e2] at h'
        dsimp only at h'
        have eb : 2 < place → b' = b := fun z => by
          rw [te 2 _ _ z, q2] at e2
          exact (Except.ok.inj e2).symm
        cases e3 : takeE ws' 3 (b' + 1) ((r.lasts.length : Int) - 1) with
        | error k =>
          rw [e3] at h'
          injection h' with h'
          have := (takeE_err e3).1
          omega
        | ok c' =>
          rw [e3] at h'
          dsimp only at h'
          cases e4 : orderE a' b' c' r.tch with
          | error k =>
            rw [e4] at h'
            injection h' with h'
            obtain ⟨o1, o2, o3⟩ := order_late q4 e4
            rcases (by omega : place = 1 ∨ place = 2 ∨ place = 3) with z | z | z
            · omega
            · have := o2 (ea (by omega)); omega
            · have := o3 (ea (by omega)) (eb (by omega)); omega
          | ok u' =>
            rw [e4] at h'
            dsimp only at h'
            rw [ee, q5] at h'
            cases h'
  · obtain ⟨a, b, c, d, u, q1, q2, q3, q4, q5, q6, q7, rfl⟩ := rdNeed_ok h1
    have hl := endE_ok q7
    unfold rdLine at h'
    rw [if_neg (fun z => np c1 (by decide +kernel) (hh ▸ z.1)), if_neg (fun z => np c1 (by decide +kernel) (hh ▸ z.1)), if_neg (fun z => np c1 (by decide +kernel) (hh ▸ z.1)), if_pos ⟨by rw [hh]; exact c1, c2⟩] at h'
    unfold rdNeed at h'
    cases e1 : takeE ws' 1 0 ((r.lasts.length : Int) - 1) with
    | error k =>
      rw [e1] at h'
      injection h' with h'
      have := (takeE_err e1).1
      by_cases z : 1 < place
      · rw [te 1 _ _ z, q1] at e1
        cases e1
      · omega
    | ok a' =>
      rw [e1] at h'
      dsimp only at h'
      have ea : 1 < place → a' = a := fun z => by
        rw [te 1 _ _ z, q1] at e1
        exact (Except.ok.inj e1).symm
      cases e2 : takeE ws' 2 1 (lastOf r a') with
      | error k =>
        rw [e2] at h'
        injection h' with h'
        have := (takeE_err e2).1
        by_cases z : 2 < place
        · rw [te 2 _ _ z, ea (by omega), q2] at e2
          cases e2
        · omega
      | ok b' =>
        rw [e2] at h'
        dsimp only at h'
        have eb : 2 < place → b' = b := fun z => by
          rw [te 2 _ _ z, ea (by omega), q2] at e2
          exact (Except.ok.inj e2).symm
        cases e3 : takeE ws' 3 0 ((r.lasts.length : Int) - 1) with
        | error k =>
          rw [e3] at h'
          injection h' with h'
          have := (takeE_err e3).1
          by_cases z : 3 < place
          · rw [te 3 _ _ z, q3] at e3
            cases e3
          · omega
        | ok c' =>
          rw [e3] at h'
          dsimp only at h'
          have ec : 3 < place → c' = c := fun z => by
            rw [te 3 _ _ z, q3] at e3
            exact (Except.ok.inj e3).symm
          by_cases hca : c' = a'
          · rw [if_pos hca] at h'
            injection h' with h'
            by_cases z : 3 < place
            · rw [ec z, ea (by omega)] at hca
              exact absurd hca q4
            · omega
          · rw [if_neg hca] at h'
            cases e4 : orderE a' b' c' r.book with
            | error k =>
              rw [e4] at h'
              injection h' with h'
              obtain ⟨o1, o2, o3⟩ := order_late q5 e4
              rcases (by omega : place = 1 ∨ place = 2 ∨ place = 3 ∨ place = 4) with z | z | z | z
              · omega
              · have := o2 (ea (by omega)); omega
              · have := o3 (ea (by omega)) (eb (by omega)); omega
              · rw [ea (by omega), eb (by omega), ec (by omega), q5] at e4
                cases e4
            | ok u' =>
              rw [e4] at h'
              dsimp only at h'
              cases e5 : takeE ws' 4 1 (lastOf r c') with
              | error k =>
                rw [e5] at h'
                injection h' with h'
                have := (takeE_err e5).1
                omega
              | ok d' =>
                rw [e5] at h'
                dsimp only at h'
                rw [ee, q7] at h'
                cases h'
theorem rdLines_far : ∀ {ls : List (List Wd)} {r : Rd} {n l j : Nat}, rdLines r ls n = .error (l, j) → n ≤ l
  | [], r, n, l, j, h => by cases h
  | ws :: rest, r, n, l, j, h => by
    have h : (if ws = [] then rdLines r rest (n + 1) else match rdLine r ws with | .error j => .error (n, j) | .ok r'' => rdLines r'' rest (n + 1)) = Except.error (l, j) := h
    by_cases q : ws = []
    · rw [if_pos q] at h
      have := rdLines_far h
      omega
    · rw [if_neg q] at h
      cases e : rdLine r ws with
      | error k =>
        rw [e] at h
        injection h with h
        injection h with h1 h2
        omega
      | ok r1 =>
        rw [e] at h
        have := rdLines_far h
        omega
theorem rdLines_app : ∀ {A B : List (List Wd)} {r r' : Rd} {n : Nat}, (∀ ws ∈ A, ws ≠ []) → rdLines r (A ++ B) n = .ok r' → ∃ r1, (∀ C, rdLines r (A ++ C) n = rdLines r1 C (n + A.length)) ∧ rdLines r1 B (n + A.length) = .ok r'
  | [], B, r, r', n, _, h => ⟨r, fun C => rfl, h⟩
  | ws :: A, B, r, r', n, hn, h => by
    have hne := hn ws (by simp)
    have e0 : ∀ C, rdLines r (ws :: A ++ C) n = (match rdLine r ws with | .error j => .error (n, j) | .ok r'' => rdLines r'' (A ++ C) (n + 1)) := fun C => by
      show (if ws = [] then _ else _) = _
      rw [if_neg hne]
      rfl
    rw [e0] at h
    cases e : rdLine r ws with
    | error j => rw [e] at h; cases h
    | ok r0 =>
      rw [e] at h
      obtain ⟨r1, h1, h2⟩ := rdLines_app (fun x hx => hn x (by simp [hx])) h
      have en : n + 1 + A.length = n + (ws :: A).length := by rw [List.length_cons]; omega
      rw [en] at h2
      refine ⟨r1, fun C => ?_, h2⟩
      rw [e0 C, e]
      have := h1 C
      rw [en] at this
      exact this
/-- T3: what a bent text tells -/
theorem bent_late {c : Clk} (ok : c.Ok) {at_ place l j : Nat} {ws : List Wd} {w : Wd} (hat : (clkLines c)[at_]? = some ws) (hpl : place < ws.length) (h : rdClock ((clkLines c).take at_ ++ ws.set place w :: (clkLines c).drop (at_ + 1)) = .error (l, j)) :
    at_ + 1 ≤ l ∧ (l = at_ + 1 → 0 < place → place + 1 ≤ j) := by
  have hb := read_back ok
  have hlt := lt_of_get hat
  have hsp : clkLines c = (clkLines c).take at_ ++ ws :: (clkLines c).drop (at_ + 1) := by
    conv => lhs; rw [← List.take_append_drop at_ (clkLines c)]
    rw [drop_get hat]
  have hlen : ((clkLines c).take at_).length = at_ := by rw [List.length_take]; omega
  unfold rdClock at h
  split at h
  · rename_i e he
    injection h with h
    subst h
    rw [hsp] at hb
    obtain ⟨r1, h1, h2⟩ := rdLines_app (fun x hx => (clk_linesOk c x (List.mem_of_mem_take hx)).1) hb
    have he := (h1 _).symm.trans he
    rw [hlen] at he h2
    have wne : ws ≠ [] := fun z => by rw [z] at hpl; cases hpl
    have sne : ws.set place w ≠ [] := fun z => by
      have := congrArg List.length z
      rw [List.length_set] at this
      exact wne (List.length_eq_zero_iff.mp this)
    have he : (if ws.set place w = [] then _ else match rdLine r1 (ws.set place w) with | .error j => .error (1 + at_, j) | .ok r'' => rdLines r'' ((clkLines c).drop (at_ + 1)) (1 + at_ + 1)) = Except.error (l, j) := he
    rw [if_neg sne] at he
    have h2 : (if ws = [] then _ else match rdLine r1 ws with | .error j => .error (1 + at_, j) | .ok r'' => rdLines r'' ((clkLines c).drop (at_ + 1)) (1 + at_ + 1)) = Except.ok _ := h2
    rw [if_neg wne] at h2
    cases e2 : rdLine r1 ws with
    | error k => rw [e2] at h2; cases h2
    | ok r2 =>
      cases e3 : rdLine r1 (ws.set place w) with
      | error k =>
        rw [e3] at he
        injection he with he
        injection he with z1 z2
        subst z2
        refine ⟨by omega, fun _ hp => line_late hp hpl List.length_set (fun q hq => ?_) e2 e3⟩
        rw [List.getElem?_set_ne (by omega)]
      | ok r3 =>
        rw [e3] at he
        have := rdLines_far he
        exact ⟨by omega, fun z => by omega⟩
  · split at h
    · injection h with h
      injection h with z1 z2
      rw [List.length_append, List.length_cons, List.length_drop, hlen] at z1
      exact ⟨by omega, fun z => by omega⟩
    · cases h
/-- .. a bent text that is read is written so -/
theorem bent_read {ls : List (List Wd)} {r : Rd} (hok : LinesOk ls) (hw : ∀ ws ∈ ls, ws.length ≤ 900) (hl : ls.length ≤ 900) (h : rdClock ls = .ok r) : (clkOf r).Ok ∧ tl (clkText (clkOf r)) = joinL [10] (ls.map (joinL [32])) := by
  unfold rdClock at h
  split at h
  · cases h
  · rename_i r' hr
    split at h
    · cases h
    · rename_i hne
      injection h with h
      subst h
      obtain ⟨h1, h2⟩ := read_good (fun ws hws => ⟨(hok ws hws).1, hw ws hws⟩) hl hr hne
      exact ⟨h1, by rw [tl_clk h1, h2]⟩
/-! ### the fixed cases -/
def tells (t : List Nat) (a b : Nat) : Bool := match rdText t with
  | .error (l, j) => decide (l = a ∧ j = b)
  | .ok _ => false
theorem tells_err {t : List Nat} {a b : Nat} (h : tells t a b = true) : rdText t = .error (a, b) := by
  unfold tells at h
  cases e : rdText t with
  | ok r => rw [e] at h; cases h
  | error p =>
    obtain ⟨l, j⟩ := p
    rw [e] at h
    have := of_decide_eq_true h
    rw [this.1, this.2]
def casesL : List (String × Nat × Nat) := [("", 2, 1), ("period", 1, 2), ("period 13", 1, 2), ("wheel 1 0", 1, 1), ("period 2\nwheel 1", 2, 3), ("period 2\nwheel 1 1 0", 2, 4), ("period 2\nwheel 0\nwheel 0\ntouch 0 1 1", 4, 4),
  ("period 2\nperiod 2", 2, 1), ("period 2\nwheel 5", 2, 2), ("period 2 2", 1, 3), ("period 2\nwheel 1 0\nwheel 1 0\nneed 0 1 0 1", 4, 4), ("period 2\nwheel 1 0\nneed 0 2 0 1", 3, 3), ("period 1\nwheel 0\nwheel 0\ntouch 0 0 1\ntouch 0 0 1", 5, 4), ("period 1\nwheel 0\ntouch 0 0", 3, 4)]
theorem cases_tell : ∀ x ∈ casesL, rdText (tl (Str.ofString x.1)) = .error (x.2.1, x.2.2) ∧ (Str.ofString x.1).length ≤ 100 := by
  have h : casesL.all (fun x => tells (tl (Str.ofString x.1)) x.2.1 x.2.2 && decide ((Str.ofString x.1).length ≤ 100)) = true := by decide +kernel
  intro x hx
  have := List.all_eq_true.mp h x hx
  rw [Bool.and_eq_true] at this
  exact ⟨tells_err this.1, of_decide_eq_true this.2⟩
end CW

/-! Plain: plans as texts. -/
namespace CW
open PySem hiding wordsOf linesOf
open TL KM
theorem riseI_tail {v : Int} {r : List Int} (h : RiseI (v :: r)) : RiseI r := fun i x y h1 h2 => h (i + 1) x y h1 h2
theorem riseI_big {v : Int} {r : List Int} (h : RiseI (v :: r)) : ∀ x ∈ r, v < x := by
  intro x hx
  obtain ⟨i, hi, e⟩ := List.getElem_of_mem hx
  have key : ∀ (i : Nat) (x : Int), r[i]? = some x → v < x := by
    intro i
    induction i with
    | zero => intro x q; exact h 0 v x rfl q
    | succ i ih =>
      intro x q
      obtain ⟨y, hy⟩ := getq (l := r) (i := i) (by have := lt_of_get q; omega)
      have h1 := ih y hy
      have h2 : y < x := riseI_tail h i y x hy q
      omega
  exact key i x (by rw [List.getElem?_eq_getElem hi, e])
theorem takeO_num {ws : List Wd} {place : Nat} {lo hi v : Int} (hw : ws[place]? = some (num v)) (h0 : 0 ≤ v) (h6 : v < 1000000) (h1 : lo ≤ v) (h2 : v ≤ hi) : takeO ws place lo hi = some v := by
  unfold takeO
  rw [hw]
  exact numIn_int h0 h6 h1 h2
theorem loop_run {per : Int} {gap : List Int} {ws : List Wd} : ∀ {ts : List Int} {place : Nat} {least : Int}, 0 ≤ least → RiseI ts → (∀ v ∈ ts, least ≤ v ∧ v ≤ 100000 ∧ v % per ∈ gap) → (∀ i v, ts[i]? = some v → ws[place + i]? = some (num v)) → tickLoop per gap ws ts.length place least = .ok ts
  | [], _, _, _, _, _, _ => rfl
  | v :: r, place, least, h0, hr, hv, hw => by
    obtain ⟨v1, v2, v3⟩ := hv v (by simp)
    have hw0 : ws[place]? = some (num v) := hw 0 v rfl
    show tickLoop per gap ws (r.length + 1) place least = _
    unfold tickLoop
    rw [takeO_num hw0 (by omega) (by omega) v1 v2]
    dsimp only
    rw [if_pos v3, loop_run (by omega) (riseI_tail hr) (fun x hx => ⟨by have := riseI_big hr x hx; omega, (hv x (by simp [hx])).2⟩) (fun i x hx => by
      have := hw (i + 1) x hx
      rw [show place + 1 + i = place + (i + 1) by omega]
      exact this)]
/-- what a plan's row of a wheel is -/
structure RowOk (c : Clk) (i : Nat) (r : List Int) : Prop where
  ed : c.eds[i]? = some (r.length : Int)
  rise : RiseI r
  each : ∀ n ∈ r, 0 ≤ n ∧ n ≤ 100000 ∧ n % c.per ∈ c.gaps.getD i []
theorem PlanOk.row {c : Clk} {rows : List (List Int)} (h : PlanOk c rows) {i : Nat} {r : List Int} (hi : rows[i]? = some r) : RowOk c i r := by
  obtain ⟨h1, h2, _, h4⟩ := h.2 i r hi
  refine ⟨h1, h2, fun n hn => ?_⟩
  obtain ⟨q1, q2, g, hg, q3⟩ := h4 n hn
  refine ⟨q1, q2, ?_⟩
  rw [List.getD_eq_getElem?_getD, hg]
  exact q3
def pLine (r : List Int) : List Wd := wWheel :: r.map num
theorem RowOk.len {c : Clk} {i : Nat} {r : List Int} (h : RowOk c i r) : (c.eds.getD i 0).toNat = r.length := by
  rw [List.getD_eq_getElem?_getD, h.ed]
  rfl
theorem RowOk.lt {c : Clk} {i : Nat} {r : List Int} (h : RowOk c i r) : i < c.eds.length := lt_of_get h.ed
theorem row_loop {c : Clk} {i : Nat} {r : List Int} (h : RowOk c i r) (more : List Wd) : tickLoop c.per (c.gaps.getD i []) (pLine r ++ more) r.length 1 0 = .ok r :=
  loop_run (by decide) h.rise (fun v hv => h.each v hv) fun j v hj => by
    show (wWheel :: (r.map num ++ more))[1 + j]? = _
    rw [Nat.add_comm, List.getElem?_cons_succ, List.getElem?_append_left (by rw [List.length_map]; exact lt_of_get hj)]
    exact num_get hj
theorem row_run {c : Clk} {i : Nat} {r : List Int} (h : RowOk c i r) : rdTicks c.per c.eds c.gaps (pLine r) i = .ok r := by
  have hl := row_loop h []
  rw [List.append_nil] at hl
  unfold rdTicks
  rw [if_neg (by
    rintro (z | z)
    · exact z rfl
    · have := h.lt; omega), h.len, hl]
  dsimp only
  rw [if_neg (by unfold pLine; rw [List.length_cons, List.length_map]; omega)]
theorem row_more {c : Clk} {i : Nat} {r : List Int} (h : RowOk c i r) (w : Wd) : rdTicks c.per c.eds c.gaps (pLine r ++ [w]) i = .error (r.length + 2) := by
  unfold rdTicks
  rw [if_neg (by
    rintro (z | z)
    · exact z rfl
    · have := h.lt; omega), h.len, row_loop h [w]]
  dsimp only
  rw [if_pos (by unfold pLine; rw [List.length_append, List.length_cons, List.length_map, List.length_singleton]; omega)]
/-- a row of more than one tick, turned round -/
theorem row_turned {c : Clk} {i : Nat} {r : List Int} (h : RowOk c i r) (h2 : 1 < r.length) : rdTicks c.per c.eds c.gaps (pLine r.reverse) i = .error 3 := by
  have hr : r.reverse.length = r.length := List.length_reverse
  obtain ⟨a, b, t, e⟩ : ∃ a b t, r.reverse = a :: b :: t := by
    match q : r.reverse with
    | [] => rw [q] at hr; simp at hr; omega
    | [a] => rw [q] at hr; simp at hr; omega
    | a :: b :: t => exact ⟨a, b, t, rfl⟩
  have er : r = t.reverse ++ [b, a] := by
    have := congrArg List.reverse e
    rw [List.reverse_reverse] at this
    rw [this]
    simp
  have hba : b < a := by
    have hlt : r.length = t.length + 2 := by rw [er]; simp
    refine h.rise t.length b a ?_ ?_
    · rw [er, List.getElem?_append_right (by simp)]
      simp
    · rw [er, List.getElem?_append_right (by simp)]
      simp
  have ha := h.each a (by rw [er]; simp)
  have hb := h.each b (by rw [er]; simp)
  unfold rdTicks
  rw [if_neg (by
    rintro (z | z)
    · exact z rfl
    · have := h.lt; omega), h.len, e, show r.length = (t.length + 1) + 1 by rw [← hr, e]; rfl]
  have step : tickLoop c.per (c.gaps.getD i []) (pLine (a :: b :: t)) ((t.length + 1) + 1) 1 0 = .error 3 := by
    unfold tickLoop
    rw [takeO_num (v := a) rfl (by omega) (by omega) (by omega) ha.2.1]
    dsimp only
    rw [if_pos ha.2.2]
    unfold tickLoop
    have no : takeO (pLine (a :: b :: t)) (1 + 1) (a + 1) 100000 = none := by
      unfold takeO
      show numIn (num b) (a + 1) 100000 = none
      exact numIn_out (n := b.toNat) (by omega)
    rw [no]
  rw [step]
theorem row_last {c : Clk} {w : Wd} : rdTicks c.per c.eds c.gaps (wWheel :: []) c.eds.length = .error 1 := by
  unfold rdTicks
  rw [if_pos (.inr rfl)]
/-- the lines ahead -/
theorem plines_run {c : Clk} : ∀ {rows acc : List (List Int)} {rest : List (List Wd)} {n : Nat}, (∀ i r, rows[i]? = some r → RowOk c (acc.length + i) r) → rdPLines c.per c.eds c.gaps acc (rows.map pLine ++ rest) n = rdPLines c.per c.eds c.gaps (acc ++ rows) rest (n + rows.length)
  | [], acc, rest, n, _ => by simp
  | r :: rows, acc, rest, n, h => by
    show (if pLine r = [] then _ else match rdTicks c.per c.eds c.gaps (pLine r) acc.length with | .error j => Except.error (n, j) | .ok ts => rdPLines c.per c.eds c.gaps (acc ++ [ts]) (rows.map pLine ++ rest) (n + 1)) = _
    have h0 : RowOk c acc.length r := h 0 r rfl
    rw [if_neg (by unfold pLine; simp), row_run h0]
    dsimp only
    rw [plines_run (acc := acc ++ [r]) fun i x hx => by
      have := h (i + 1) x hx
      rw [List.length_append, List.length_singleton, show acc.length + 1 + i = acc.length + (i + 1) by omega]
      exact this]
    rw [List.append_assoc, List.length_cons, show n + 1 + rows.length = n + (rows.length + 1) by omega]
    rfl
theorem plines_at {c : Clk} : ∀ {ls : List (List Wd)} {acc acc' : List (List Int)} {n m : Nat}, rdPLines c.per c.eds c.gaps acc (ls.filter fun ws => decide (ws ≠ [])) m = .ok acc' → rdPLines c.per c.eds c.gaps acc ls n = .ok acc'
  | [], acc, acc', n, m, h => h
  | ws :: rest, acc, acc', n, m, h => by
    show (if ws = [] then rdPLines c.per c.eds c.gaps acc rest (n + 1) else match rdTicks c.per c.eds c.gaps ws acc.length with | .error j => .error (n, j) | .ok ts => rdPLines c.per c.eds c.gaps (acc ++ [ts]) rest (n + 1)) = Except.ok acc'
    by_cases q : ws = []
    · rw [if_pos q]
      rw [List.filter_cons, if_neg (by simp [q])] at h
      exact plines_at h
    · rw [if_neg q]
      rw [List.filter_cons, if_pos (decide_eq_true q)] at h
      have h : (if ws = [] then _ else match rdTicks c.per c.eds c.gaps ws acc.length with | .error j => .error (m, j) | .ok ts => rdPLines c.per c.eds c.gaps (acc ++ [ts]) (rest.filter fun ws => decide (ws ≠ [])) (m + 1)) = Except.ok acc' := h
      rw [if_neg q] at h
      cases e : rdTicks c.per c.eds c.gaps ws acc.length with
      | error j => rw [e] at h; cases h
      | ok r1 =>
        rw [e] at h
        exact plines_at h
theorem plines_count {c : Clk} : ∀ {ls : List (List Wd)} {acc acc' : List (List Int)} {n : Nat}, rdPLines c.per c.eds c.gaps acc ls n = .ok acc' → acc'.length ≤ acc.length + ls.length
  | [], acc, acc', n, h => by
    have h := Except.ok.inj (show Except.ok acc = Except.ok acc' from h)
    rw [h]
    exact Nat.le_add_right _ _
  | ws :: rest, acc, acc', n, h => by
    have h : (if ws = [] then rdPLines c.per c.eds c.gaps acc rest (n + 1) else match rdTicks c.per c.eds c.gaps ws acc.length with | .error j => .error (n, j) | .ok ts => rdPLines c.per c.eds c.gaps (acc ++ [ts]) rest (n + 1)) = Except.ok acc' := h
    rw [List.length_cons]
    by_cases q : ws = []
    · rw [if_pos q] at h
      have := plines_count h
      omega
    · rw [if_neg q] at h
      cases e : rdTicks c.per c.eds c.gaps ws acc.length with
      | error j => rw [e] at h; cases h
      | ok r1 =>
        rw [e] at h
        have := plines_count h
        rw [List.length_append, List.length_singleton] at this
        omega
section
variable {c : Clk} {rows : List (List Int)}
theorem plan_rowOk (h : PlanOk c rows) : ∀ i r, rows[i]? = some r → RowOk c (([] : List (List Int)).length + i) r := fun i r hi => by
  show RowOk c (0 + i) r
  rw [Nat.zero_add]
  exact h.row hi
theorem plan_linesOk (rows : List (List Int)) : LinesOk (rows.map pLine) := by
  intro ws hw
  obtain ⟨r, _, rfl⟩ := List.mem_map.mp hw
  exact ⟨by unfold pLine; simp, fun w q => by
    rcases List.mem_cons.mp q with rfl | q
    · exact whlOk
    · exact numsOk w q⟩
theorem PlanOk.pos (h : PlanOk c rows) {r : List Int} (hr : r ∈ rows) : ∀ n ∈ r, 0 ≤ n := fun n hn => by
  obtain ⟨i, hi, e⟩ := List.getElem_of_mem hr
  exact ((h.2 i r (by rw [List.getElem?_eq_getElem hi, e])).2.2.2 n hn).1
theorem tl_wheel : tl (Str.ofString "wheel") = wWheel := by decide +kernel
theorem tl_pline {r : List Int} (h : ∀ n ∈ r, 0 ≤ n) : tl (lineS [Str.ofString "wheel"] r) = joinL [32] (pLine r) := by
  rw [tl_lineS h]
  show joinL [32] ([tl (Str.ofString "wheel")] ++ _) = _
  rw [tl_wheel]
  rfl
theorem plan_rows (h : PlanOk c rows) : (rows.map (lineS [Str.ofString "wheel"])).map tl = (rows.map pLine).map (joinL [32]) := by
  rw [List.map_map, List.map_map]
  exact List.map_congr_left fun r hr => tl_pline (h.pos hr)
theorem tl_plan (h : PlanOk c rows) : tl (planText rows) = joinL [10] ((rows.map pLine).map (joinL [32])) := by
  unfold planText
  rw [join_eq, tl_join, tl_nl, plan_rows h]
/-- P1, P2 -/
theorem plan_read {t : List Nat} (h : PlanOk c rows) (ht : ((linesOf t).map KM.wordsOf).filter (fun ws => decide (ws ≠ [])) = rows.map pLine) : rdPlan c.per c.eds c.gaps t = .ok rows := by
  unfold rdPlan
  rw [plines_at (m := 1) (acc' := rows) (by
    rw [ht]
    have := plines_run (rest := []) (n := 1) (plan_rowOk h)
    rw [List.append_nil, List.nil_append] at this
    exact this)]
  dsimp only
  rw [if_neg (by rw [h.1]; omega)]
theorem plan_own (h : PlanOk c rows) (hne : rows ≠ []) : rdPlan c.per c.eds c.gaps (tl (planText rows)) = .ok rows := by
  refine plan_read h ?_
  rw [tl_plan h, lines_text (plan_linesOk rows) (by simpa using hne), ne_lines (plan_linesOk rows)]
/-- lines whose first wrong one is told -/
theorem plan_wrong {t : List Nat} {k j : Nat} {ws : List Wd} {rest : List (List Wd)} (h : PlanOk c rows) (hk : k ≤ rows.length) (ht : (linesOf t).map KM.wordsOf = (rows.take k).map pLine ++ ws :: rest) (hne : ws ≠ []) (he : rdTicks c.per c.eds c.gaps ws k = .error j) :
    rdPlan c.per c.eds c.gaps t = .error (k + 1, j) := by
  unfold rdPlan
  have hl : (rows.take k).length = k := by rw [List.length_take]; omega
  have e : rdPLines c.per c.eds c.gaps [] ((linesOf t).map KM.wordsOf) 1 = .error (k + 1, j) := by
    rw [ht, plines_run (fun i r hi => by
      have hi' := lt_of_get hi
      rw [List.getElem?_take] at hi
      split at hi
      · exact plan_rowOk h i r hi
      · cases hi), List.nil_append]
    show (if ws = [] then _ else match rdTicks c.per c.eds c.gaps ws (rows.take k).length with | .error j => Except.error (1 + (rows.take k).length, j) | .ok ts => _) = _
    rw [if_neg hne, hl, he, Nat.add_comm 1 k]
  rw [e]
/-- too few lines -/
theorem plan_few {t : List Nat} (h : PlanOk c rows) (hl : (linesOf t).length < rows.length) : ∃ l j, rdPlan c.per c.eds c.gaps t = .error (l, j) := by
  unfold rdPlan
  cases e : rdPLines c.per c.eds c.gaps [] ((linesOf t).map KM.wordsOf) 1 with
  | error p => exact ⟨p.1, p.2, rfl⟩
  | ok acc =>
    have := plines_count e
    rw [List.length_map, List.length_nil] at this
    dsimp only
    rw [if_pos (by rw [← h.1]; omega)]
    exact ⟨_, _, rfl⟩
theorem plan_few1 {t : List Nat} (h : PlanOk c rows) (h1 : (linesOf t).map KM.wordsOf = [[]]) (hl : rows.length = 1) : ∃ l j, rdPlan c.per c.eds c.gaps t = .error (l, j) := by
  unfold rdPlan
  rw [h1]
  show ∃ l j, (if ([] : List (List Int)).length < c.eds.length then _ else _) = _
  rw [if_pos (by rw [← h.1]; show 0 < _; omega)]
  exact ⟨_, _, rfl⟩
end
/-! ### doubled blanks -/
def dbl : List Nat → List Nat
  | [] => []
  | x :: r => if x = 32 then 32 :: 32 :: dbl r else x :: dbl r
theorem dbl_app : ∀ a b : List Nat, dbl (a ++ b) = dbl a ++ dbl b
  | [], b => rfl
  | x :: a, b => by
    rw [List.cons_append, dbl, dbl]
    split
    · rw [dbl_app a b]; rfl
    · rw [dbl_app a b]; rfl
theorem dbl_cut : ∀ l acc : List Nat, cutL 10 (dbl acc) (dbl l) = (cutL 10 acc l).map dbl
  | [], acc => rfl
  | x :: r, acc => by
    by_cases h : x = 10
    · subst h
      have := dbl_cut r []
      show cutL 10 (dbl acc) (10 :: dbl r) = _
      rw [cut_hit, cut_hit, List.map_cons, ← this]
      rfl
    · rw [cut_miss h, ← dbl_cut r (acc ++ [x]), dbl_app]
      by_cases h2 : x = 32
      · subst h2
        show cutL 10 (dbl acc) (32 :: 32 :: dbl r) = cutL 10 (dbl acc ++ [32, 32]) (dbl r)
        rw [cut_miss h, cut_miss h, List.append_assoc]
        rfl
      · have e1 : dbl (x :: r) = x :: dbl r := by rw [dbl, if_neg h2]
        have e2 : dbl [x] = [x] := by rw [dbl, if_neg h2]; rfl
        rw [e1, e2, cut_miss h]
theorem dbl_words : ∀ l acc : List Nat, (cutL 32 acc (dbl l)).filter (fun w => decide (w ≠ [])) = (cutL 32 acc l).filter fun w => decide (w ≠ [])
  | [], acc => rfl
  | x :: r, acc => by
    by_cases h : x = 32
    · subst h
      show (cutL 32 acc (32 :: 32 :: dbl r)).filter _ = _
      rw [cut_hit, cut_hit, cut_hit, List.filter_cons, List.filter_cons, List.filter_cons, dbl_words r []]
      rfl
    · have e1 : dbl (x :: r) = x :: dbl r := by rw [dbl, if_neg h]
      rw [e1, cut_miss h, cut_miss h, dbl_words r _]
theorem wordsOf_dbl (l : List Nat) : KM.wordsOf (dbl l) = KM.wordsOf l := dbl_words l []
theorem cut_pre {c : Nat} (a : List Nat) : ∀ l acc : List Nat, ∃ h t, cutL c acc l = h :: t ∧ cutL c (a ++ acc) l = (a ++ h) :: t
  | [], acc => ⟨acc, [], rfl, rfl⟩
  | x :: r, acc => by
    by_cases h : x = c
    · subst h
      exact ⟨acc, cutL x [] r, cut_hit, cut_hit⟩
    · obtain ⟨y, t, h1, h2⟩ := cut_pre a r (acc ++ [x])
      exact ⟨y, t, by rw [cut_miss h, h1], by rw [cut_miss h, List.append_assoc, h2]⟩
theorem lines_bl (t : List Nat) : (linesOf (32 :: t)).map KM.wordsOf = (linesOf t).map KM.wordsOf := by
  unfold linesOf
  rw [cut_miss (by decide)]
  obtain ⟨y, r, h1, h2⟩ := cut_pre (c := 10) [32] t []
  rw [List.append_nil] at h2
  show (cutL 10 [32] t).map KM.wordsOf = _
  rw [h1, h2, List.map_cons, List.map_cons]
  show KM.wordsOf (32 :: y) :: _ = _
  rw [words_bl y]
theorem lines_dbl (t : List Nat) : (linesOf (32 :: dbl t)).map KM.wordsOf = (linesOf t).map KM.wordsOf := by
  rw [lines_bl]
  unfold linesOf
  have := dbl_cut t []
  rw [show dbl [] = ([] : List Nat) from rfl] at this
  rw [this, List.map_map]
  exact List.map_congr_left fun l _ => wordsOf_dbl l
end CW

namespace CW
open PySem PySem.Spec PyProof.Rows L2 GA TL
/-! ### _law_clock -/
theorem con_i {v : V} {t : TA} {σ : L2.St} {H : Hp} {Q : List V → Hp → Prop} (h : t σ H fun xs H1 => Q (v :: xs) H1) : tCons (tC v) t σ H Q := h
theorem dpAll_ints {K : PySem.W.Frag} {H : Hp} : ∀ ns : List Int, DpAll K H (ns.map V.int) (ns.map PyData.int)
  | [] => .nil
  | n :: r => .cons (.int n) (dpAll_ints r)
theorem pair_app {α β : Type} {F : α → β → Prop} {l l' : List α} {m m' : List β} (h : Paired F l m) (h' : Paired F l' m') : Paired F (l ++ l') (m ++ m') := by
  induction h with
  | nil => exact h'
  | cons r _ ih => exact .cons r ih
/-- what stands beside the list of touches while a clock is drawn -/
structure Kp (K : PySem.W.Frag) (T : List Addr) (H0 : Hp) (rw sc : Addr) (ns : List Int) (ed gl bl : Addr) (eds : List Int) (gs bk : List (List Int)) (H : Hp) : Prop where
  ls : LS K T H0 rw sc ns H
  ed : H ed = some (.lst (eds.map V.int))
  gl : LstT H gl gs
  bl : LstT H bl bk
section
variable {K : PySem.W.Frag} {T : List Addr} {H0 H H1 : Hp} {rw sc ed gl bl p : Addr} {ns eds : List Int} {gs bk : List (List Int)}
theorem Kp.draw (k : Kp K T H0 rw sc ns ed gl bl eds gs bk H) (t : TOk T H0) (e1 : ed ≠ rw) (e2 : gl ≠ rw) (e3 : bl ≠ rw) (e : ExtS T [rw] H H1) (s : LS K T H0 rw sc ns H1) : Kp K T H0 rw sc ns ed gl bl eds gs bk H1 :=
  ⟨s, e.lst (k.ls.ok t) k.ed e1, k.gl.extS (k.ls.ok t) e k.ls.r e2, k.bl.extS (k.ls.ok t) e k.ls.r e3⟩
theorem Kp.put (k : Kp K T H0 rw sc ns ed gl bl eds gs bk H) (t : TOk T H0) (r0 : LRow K H0 rw sc ns) (h : H p = none) (u : HO) : Kp K T H0 rw sc ns ed gl bl eds gs bk (upd H p u) :=
  ⟨k.ls.put t r0 (k.ls.free t h) u, put_obj k.ed h, k.gl.put h, k.bl.put h⟩
/-- a list of the drawing itself (new to H0, none of ed, gl, bl) is changed -/
theorem Kp.own {xs : List V} (k : Kp K T H0 rw sc ns ed gl bl eds gs bk H) (t : TOk T H0) (r0 : LRow K H0 rw sc ns) (h : H0 p = none) (hx : H p = some (.lst xs)) (n1 : ed ≠ p) (n2 : gl ≠ p) (n3 : bl ≠ p) (u : HO) : Kp K T H0 rw sc ns ed gl bl eds gs bk (upd H p u) :=
  ⟨k.ls.put t r0 h u, by rw [upd_ne n1]; exact k.ed, k.gl.beside hx n2, k.bl.beside hx n3⟩
end
/-- the gaps drawn for the first i wheels -/
structure GRows (per : Int) (eds : List Int) (i : Nat) (gs : List (List Int)) : Prop where
  len : gs.length = i
  each : ∀ g ∈ gs, (∀ n ∈ g, 0 ≤ n ∧ n ≤ per - 1) ∧ RiseI g ∧ g.length ≤ 4
  some_ : ∀ (j : Nat) (g : List Int) (e : Int), gs[j]? = some g → eds[j]? = some e → 0 < e → g ≠ []
theorem GRows.more {per : Int} {eds g : List Int} {i : Nat} {gs : List (List Int)} {last : Int} (h : GRows per eds i gs) (he : eds[i]? = some last) (h1 : (∀ n ∈ g, 0 ≤ n ∧ n ≤ per - 1) ∧ RiseI g ∧ g.length ≤ 4) (h2 : 0 < last → g ≠ []) : GRows per eds (i + 1) (gs ++ [g]) := by
  refine ⟨by rw [List.length_append, h.len]; rfl, fun r hr => ?_, fun j r e hj hej hp => ?_⟩
  · rcases List.mem_append.mp hr with q | q
    · exact h.each r q
    · rw [List.mem_singleton.mp q]; exact h1
  · by_cases q : j < gs.length
    · rw [List.getElem?_append_left q] at hj
      exact h.some_ j r e hj hej hp
    · rw [List.getElem?_append_right (by omega)] at hj
      have hj0 := lt_of_get hj
      rw [List.length_singleton] at hj0
      have : j = i := by have := h.len; omega
      subst this
      rw [he] at hej
      obtain rfl := Option.some.inj hej
      rw [show j - gs.length = 0 by have := h.len; omega] at hj
      obtain rfl := Option.some.inj hj
      exact h2 hp
/-- the book drawn ahead of (one, own, other) -/
structure BRows (eds : List Int) (i : Nat) (o : Int) (k : Int) (n : Nat) (bk : List (List Int)) : Prop where
  rise : RiseT (bk.map (·.take 3))
  len : bk.length ≤ n
  each : ∀ r ∈ bk, EntryOk eds r ∧ ∃ a b c d : Int, r = [a, b, c, d] ∧ Bef a b c i o k
theorem BRows.to {eds : List Int} {i i' : Nat} {o k o' k' : Int} {n n' : Nat} {bk : List (List Int)} (h : BRows eds i o k n bk) (hn : n ≤ n') (hb : ∀ a b c, Bef a b c i o k → Bef a b c i' o' k') : BRows eds i' o' k' n' bk :=
  ⟨h.rise, Nat.le_trans h.len hn, fun r hr => by
    obtain ⟨h1, a, b, c, d, h2, h3⟩ := h.each r hr
    exact ⟨h1, a, b, c, d, h2, hb a b c h3⟩⟩
theorem BRows.more {eds : List Int} {i k : Nat} {o d : Int} {n : Nat} {bk : List (List Int)} (h : BRows eds i o k n bk) (he : EntryOk eds [(i : Int), o, (k : Int), d]) : BRows eds i o ((k : Int) + 1) (n + 1) (bk ++ [[(i : Int), o, (k : Int), d]]) := by
  refine ⟨?_, by rw [List.length_append, List.length_singleton]; have := h.len; omega, fun r hr => ?_⟩
  · rw [List.map_append]
    refine rise_app h.rise rise_one fun y hy z hz => ?_
    obtain ⟨r, hr, rfl⟩ := List.mem_map.mp hy
    obtain ⟨_, a, b, c, d', rfl, hb⟩ := h.each r hr
    rw [List.mem_singleton.mp hz]
    exact bef_lex hb
  · rcases List.mem_append.mp hr with q | q
    · obtain ⟨h1, a, b, c, d', h2, h3⟩ := h.each r q
      refine ⟨h1, a, b, c, d', h2, ?_⟩
      unfold Bef at h3 ⊢
      omega
    · exact ⟨by rw [List.mem_singleton.mp q]; exact he, _, _, _, _, List.mem_singleton.mp q, by unfold Bef; omega⟩
/-- the touches drawn ahead of (phase, one) -/
structure TRows (per : Int) (wn : Nat) (i j : Nat) (rows : List (List Int)) : Prop where
  rise : RiseT rows
  len : rows.length ≤ 9 * i + 3 * j
  each : ∀ r ∈ rows, ∃ p a b : Int, r = [p, a, b] ∧ 0 ≤ p ∧ p ≤ per - 1 ∧ 0 ≤ a ∧ a ≤ (wn : Int) - 1 ∧ a + 1 ≤ b ∧ b ≤ (wn : Int) - 1 ∧ (p < i ∨ (p = i ∧ a < j))
theorem TRows.more {per : Int} {wn i j : Nat} {rows part : List (List Int)} (h : TRows per wn i j rows) (hi : (i : Int) ≤ per - 1) (hj : (j : Int) ≤ (wn : Int) - 1) (hp : RiseT part) (hl : part.length ≤ 3) (he : ∀ r ∈ part, ∃ b : Int, r = [(i : Int), (j : Int), b] ∧ (j : Int) + 1 ≤ b ∧ b ≤ (wn : Int) - 1) :
    TRows per wn i (j + 1) (rows ++ part) := by
  refine ⟨rise_app h.rise hp fun y hy z hz => ?_, ?_, fun r hr => ?_⟩
  · obtain ⟨p, a, b, rfl, q1, q2, q3, q4, q5, q6, q7⟩ := h.each y hy
    obtain ⟨b', rfl, _⟩ := he z hz
    refine bef_lex ?_
    unfold Bef
    rcases q7 with q | ⟨q, q'⟩
    · exact .inl q
    · exact .inr ⟨q, .inl q'⟩
  · rw [List.length_append]
    have := h.len
    omega
  · rcases List.mem_append.mp hr with q | q
    · obtain ⟨p, a, b, e, q1, q2, q3, q4, q5, q6, q7⟩ := h.each r q
      refine ⟨p, a, b, e, q1, q2, q3, q4, q5, q6, ?_⟩
      rcases q7 with q | ⟨q, q'⟩
      · exact .inl q
      · exact .inr ⟨q, by omega⟩
    · obtain ⟨b, e, q1, q2⟩ := he r q
      exact ⟨i, j, b, e, by omega, hi, by omega, hj, q1, q2, .inr ⟨rfl, by omega⟩⟩
/-- a drawn clock: right and small -/
structure Drawn' (c : Clk) : Prop where
  ok : c.Ok
  per : c.per ≤ 4
  eds : c.eds.length ≤ 3
  two : ∀ e ∈ c.eds, 0 ≤ e ∧ e ≤ 2
  tch : c.tch.length ≤ 36
  gaps : ∀ g ∈ c.gaps, g.length ≤ 4
  book : c.book.length ≤ 18
def spClock (K : PySem.W.Frag) (T : List Addr) : Sp := fun vs H Q _ => ∃ (rw sc : Addr) (ns : List Int), vs = [.ref rw] ∧ LRow K H rw sc ns ∧ TOk T H ∧ ∀ (H' : Hp) (a : Addr) (c : Clk), LS K T H rw sc ns H' → ClkAt H' a c → Drawn' c → Q (.ref a) H'
abbrev nClock : List Str := ["_law_row", "_law_period", "_law_wheels", "_law_editions", "_law_left", "_law_wheel", "_law_touches", "_law_gaps", "_law_book", "_law_phase", "_law_one", "_law_other", "_law_last", "_law_phases", "_law_own"]
theorem scClock : FnScope nClock ["_law_row"] (defScope sClock) := ⟨rfl, rfl, rfl, by decide +kernel, rfl, by decide +kernel, by decide +kernel⟩
section
variable {P : Program} {w : World} {K : PySem.W.Frag} {mg : Str → Option Value} {base : Heap} {T S : List Addr} {H H0 : Hp}
theorem cal_clock (D : DefAt K mg "_law_clock" sClock) (B : Bl mg) (CT : Cal P w K mg base CX0 1 "_law_taken" ["_law_row", "_law_many"] (spTaken K T)) : Cal P w K mg base CX0 2 "_law_clock" ["_law_row"] (spClock K T) := by
  refine D.cal scClock (fun _ _ _ _ _ _ us hl => match us, hl with | [_], _ => rfl) (fun vs H Q E h => ?_) (fun f cdv A outer s H vs Q E hr h => ?_)
  · obtain ⟨rw, sc, ns, rfl, _⟩ := h
    rfl
  · obtain ⟨rw, sc, ns, rfl, hrow, hT, k⟩ := h
    refine ⟨_, pss_cons (ps_par (i := 1) (j := 2) rfl scClock.nd rfl rfl (by decide) rfl rfl (pa_cons (pe_op op_add pe_int (pe_cal CT hr rfl pass0 (pa_cons (pv 0) (pa_cons pe_int pa_nil)))) (pa_cons (pe_op op_add pe_int (pe_cal CT hr rfl pass0 (pa_cons (pv 0) (pa_cons pe_int pa_nil)))) pa_nil)) (by rfl))
      (pss_cons (ps_par (i := 3) (j := 4) rfl scClock.nd rfl rfl (by decide) rfl rfl (pa_cons (pe_lst pa_nil) (pa_cons pe_int pa_nil)) (by rfl))
      (pss_cons (ps_for PassesOwn.never rfl (pi_range1 rfl B.range (pa_cons (pv 2) pa_nil)) (pg_name (i := 5) scClock.nd rfl (Or.inl rfl))
        (pss_cons (ps_expr (pe_bm PySem.F.plainAttrs_list PySem.F.slot_list_append PySem.F.type_list_append mt_append (pv 3) (pa_cons (pe_callB (call_min2 rfl) (by rfl) B.min (by decide +kernel) (pa_cons (pv 4) (pa_cons (pe_cal CT hr rfl pass0 (pa_cons (pv 0) (pa_cons pe_int pa_nil))) pa_nil))) pa_nil)))
        (pss_one (ps_set (i := 4) scClock.nd rfl (Or.inl rfl) (pe_op op_sub (pv 4) (pe_ix ix_list (pv 3) (pe_un un_neg pe_int) (fun _ _ => rfl)))))))
      (pss_cons (ps_par3 (i := 6) (j := 7) (l := 8) rfl scClock.nd rfl rfl rfl (by decide) (by decide) (by decide) rfl rfl rfl (pa_cons (pe_lst pa_nil) (pa_cons (pe_lst pa_nil) (pa_cons (pe_lst pa_nil) pa_nil))) (by rfl))
      (pss_cons (ps_for PassesOwn.never rfl (pi_range1 rfl B.range (pa_cons (pv 1) pa_nil)) (pg_name (i := 9) scClock.nd rfl (Or.inr rfl))
        (pss_one (ps_for PassesOwn.never rfl (pi_range1 rfl B.range (pa_cons (pv 2) pa_nil)) (pg_name (i := 10) scClock.nd rfl (Or.inr rfl))
          (pss_one (ps_set (i := 6) scClock.nd rfl (Or.inl rfl) (pe_op op_cat (pv 6) (pe_lc (own := [("_law_other", 11)]) (g := gName 11) (tt := tTest (tOp rEq (fun σ H Q => tCons (tVar 0) (tCons (tC (.int 2)) tNil) σ H fun vs H1 => spTaken K T vs H1 Q E0) (tC (.int 0)))) (te := tTup (tCons (tVar 9) (tCons (tVar 10) (tCons (tVar 11) tNil)))) rfl scClock.nd
              (pi_range2 rfl B.range (pa_cons (pe_op op_add (pv 10) pe_int) (pa_cons (pv 2) pa_nil))) (blkOk_by (N := nClock) (sc := defScope sClock) (by decide +kernel))
              (fun _ _ _ _ _ => pg_name (i := 11) scClock.nd rfl (Or.inl rfl)) (fun _ _ _ _ _ => pts_one (pt_cmpR op_eq (pe_cal CT hr rfl pass0 (pa_cons (pv 0) (pa_cons pe_int pa_nil))) pe_int (nomark _))) (fun _ _ _ _ _ => pe_tup (pa_cons (pv 9) (pa_cons (pv 10) (pa_cons (pv 11) pa_nil)))))))))))
      (pss_cons (ps_for PassesOwn.never rfl (pi_list (pv 3)) (pg_name (i := 12) scClock.nd rfl (Or.inl rfl))
        (pss_cons (ps_setLc (i := 13) (own := [("_law_phase", 9)]) (g := gName 9) (tt := tTest (tOp rEq (fun σ H Q => tCons (tVar 0) (tCons (tC (.int 2)) tNil) σ H fun vs H1 => spTaken K T vs H1 Q E0) (tC (.int 0)))) (te := tVar 9) rfl scClock.nd rfl rfl (by rfl)
              (pi_range1 rfl B.range (pa_cons (pv 1) pa_nil)) (blkOk_by (N := nClock) (sc := defScope sClock) (by decide +kernel))
              (fun _ _ _ _ _ => pg_name (i := 9) scClock.nd rfl (Or.inl rfl)) (fun _ _ _ _ _ => pts_one (pt_cmpR op_eq (pe_cal CT hr rfl pass0 (pa_cons (pv 0) (pa_cons pe_int pa_nil))) pe_int (nomark _))) (fun _ _ _ _ _ => pv 9))
        (pss_one (ps_expr (pe_bm PySem.F.plainAttrs_list PySem.F.slot_list_append PySem.F.type_list_append mt_append (pv 7) (pa_cons (pe_callTy call_tuple_of (by rfl) B.tuple (by decide +kernel)
            (pa_cons (pe_ifExp (PW.pt (pw_or (pt_cmpR (op_neD hr.units) (pv 13) (pe_lst pa_nil) (nomark _)) (pw_or1 (pt_cmpR op_eq (pv 12) pe_int (nomark _))))) (pv 13) (pe_lst (pa_cons (pe_cal CT hr rfl pass0 (pa_cons (pv 0) (pa_cons (pv 1) pa_nil))) pa_nil))) pa_nil)) pa_nil))))))
      (pss_cons (ps_for PassesOwn.never rfl (pi_range1 rfl B.range (pa_cons (pv 2) pa_nil)) (pg_name (i := 10) scClock.nd rfl (Or.inr rfl))
        (pss_one (ps_for PassesOwn.never rfl (pi_range2 rfl B.range (pa_cons pe_int (pa_cons (pe_op op_add (pe_ix ix_list (pv 3) (pv 10) (fun _ _ => rfl)) pe_int) pa_nil))) (pg_name (i := 14) scClock.nd rfl (Or.inl rfl))
          (pss_one (ps_for PassesOwn.never rfl (pi_range1 rfl B.range (pa_cons (pv 2) pa_nil)) (pg_name (i := 11) scClock.nd rfl (Or.inl rfl))
            (pss_one (ps_if (PW.pt (pw_and (pt_cmpR op_ne (pv 11) (pv 10) (nomark _)) (pw_and (pt_cmpR op_gt (pe_ix ix_list (pv 3) (pv 11) (fun _ _ => rfl)) pe_int (nomark _)) (pw_and1 (pt_cmpR op_lt (pe_cal CT hr rfl pass0 (pa_cons (pv 0) (pa_cons pe_int pa_nil))) pe_int (nomark _))))))
              (pss_one (ps_expr (pe_bm PySem.F.plainAttrs_list PySem.F.slot_list_append PySem.F.type_list_append mt_append (pv 8) (pa_cons (pe_tup (pa_cons (pv 10) (pa_cons (pv 14) (pa_cons (pv 11) (pa_cons (pe_op op_add pe_int (pe_cal CT hr rfl pass0 (pa_cons (pv 0) (pa_cons (pe_ix ix_list (pv 3) (pv 11) (fun _ _ => rfl)) pa_nil)))) pa_nil))))) pa_nil)))) pss_nil)))))))
      (pss_one (ps_ret (pe_tup (pa_cons (pv 1) (pa_cons (pe_callTy call_tuple_of (by rfl) B.tuple (by decide +kernel) (pa_cons (pv 3) pa_nil)) (pa_cons (pe_callTy call_tuple_of (by rfl) B.tuple (by decide +kernel) (pa_cons (pv 6) pa_nil)) (pa_cons (pe_callTy call_tuple_of (by rfl) B.tuple (by decide +kernel) (pa_cons (pv 7) pa_nil)) (pa_cons (pe_callTy call_tuple_of (by rfl) B.tuple (by decide +kernel) (pa_cons (pv 8) pa_nil)) pa_nil)))))))))))))), ?_⟩
    have s0 : LS K T H rw sc ns H := LS.refl hrow
    refine ⟨_, rfl, con_i (nil_i (taken_close s0 hT (by decide) (by decide) fun v1 H1 a1 a2 s1 x1 => ⟨_, _, rfl, rfl, _, rfl, con_i (nil_i (taken_close s1 hT (by decide) (by decide) fun v2 H2 b1 b2 s2 x2 => ⟨_, _, rfl, rfl, nil_i ⟨_, _, rfl, ?_⟩⟩))⟩))⟩
    obtain ⟨pn, rfl⟩ : ∃ pn : Nat, v1 = (pn : Int) - 1 := ⟨v1.toNat + 1, by omega⟩
    obtain ⟨wn, rfl⟩ : ∃ wn : Nat, v2 = (wn : Int) - 1 := ⟨v2.toNat + 1, by omega⟩
    show tSeq _ _ _ [some (.ref rw), some (.int (1 + ((pn : Int) - 1))), some (.int (1 + ((wn : Int) - 1))), none, none, none, none, none, none, none, none, none, none, none, none] H2
    rw [show (1 : Int) + ((pn : Int) - 1) = pn by omega, show (1 : Int) + ((wn : Int) - 1) = wn by omega]
    refine ⟨Nat.zero_le _, fun ed hed => ⟨_, _, rfl, ?_⟩⟩
    have ed0 : H ed = none := s2.free hT hed
    have edr : ed ≠ rw := hrow.ne ed0
    have s3 : LS K T H rw sc ns (upd H2 ed (.lst (([] : List Int).map V.int))) := s2.put hT hrow ed0 _
    have g3 : (upd H2 ed (.lst (([] : List Int).map V.int))) ed = some (.lst (([] : List Int).map V.int)) := upd_same
    show tSeq _ _ _ _ (upd H2 ed (.lst (([] : List Int).map V.int)))
    generalize upd H2 ed (.lst (([] : List Int).map V.int)) = H3 at s3 g3
    refine ⟨_, rfl, _, rfl, by omega, by omega, for_range (lo := 0) (n := wn) (fun i σ H' => ∃ (eds : List Int) (left : Int) (v5 : Option V), σ = [some (.ref rw), some (.int pn), some (.int wn), some (.ref ed), some (.int left), v5, none, none, none, none, none, none, none, none, none] ∧ LS K T H rw sc ns H' ∧
      H' ed = some (.lst (eds.map V.int)) ∧ eds.length = i ∧ left = 3 - eds.sum ∧ 0 ≤ left ∧ ∀ e ∈ eds, 0 ≤ e ∧ e ≤ 2) ⟨[], 3, none, rfl, s3, g3, rfl, rfl, by decide, fun _ h => nomatch h⟩ ?_ ?_⟩
    · rintro i σ H4 hi ⟨eds, left, v5, rfl, s4, g4, hl, hleft, hl0, hall⟩
      refine ⟨_, rfl, lst_at g4, _, rfl, _, rfl, con_i (nil_i (taken_close s4 hT (by decide) (by decide) fun v H5 c1 c2 s5 x5 => nil_i ⟨_, _, rfl, nil_i ?_⟩))⟩
      have g5 := x5.lst (s4.ok hT) g4 edr
      refine ⟨ed, _, _, rfl, rfl, g5, small_line (by rw [List.length_map]; omega), ?_⟩
      have em : eds.map V.int ++ [V.int (if v < left then v else left)] = (eds ++ [if v < left then v else left]).map V.int := by rw [List.map_append]; rfl
      rw [em]
      refine ⟨_, rfl, _, rfl, _, rfl, ed, _, (-1), _, rfl, rfl, SqL.of upd_same, atI_last, _, _, rfl, rfl, _, _, _, rfl, s5.put hT hrow ed0 _, upd_same, by rw [List.length_append, hl]; rfl, ?_, ?_, fun e he => ?_⟩
      · rw [List.sum_append, List.sum_singleton]; omega
      · split <;> omega
      · rcases List.mem_append.mp he with q | q
        · exact hall e q
        · rw [List.mem_singleton.mp q]; split <;> omega
    rintro σ H4 ⟨eds, left, v5, rfl, s4, g4, hl, hleft, hl0, hall⟩
    refine ⟨Nat.zero_le _, fun tl htl => ⟨Nat.zero_le _, fun gl hgl => ⟨Nat.zero_le _, fun bl hbl => ⟨_, _, _, rfl, ?_⟩⟩⟩⟩
    have tl0 : H tl = none := s4.free hT htl
    have s5 : LS K T H rw sc ns (upd H4 tl (.lst (([] : List Addr).map V.ref))) := s4.put hT hrow tl0 _
    have ntg : tl ≠ gl := fun z => by rw [← z, upd_same] at hgl; cases hgl
    have gl0 : H gl = none := s5.free hT hgl
    have s6 : LS K T H rw sc ns (upd (upd H4 tl (.lst (([] : List Addr).map V.ref))) gl (.lst (([] : List Addr).map V.ref))) := s5.put hT hrow gl0 _
    have bl0 : H bl = none := s6.free hT hbl
    have ngb : gl ≠ bl := fun z => by rw [← z, upd_same] at hbl; cases hbl
    have ntb : tl ≠ bl := fun z => by rw [← z, upd_ne ntg, upd_same] at hbl; cases hbl
    have ned : ed ≠ tl := fun z => by rw [← z, g4] at htl; cases htl
    have neg : ed ≠ gl := fun z => by rw [← z, upd_ne ned, g4] at hgl; cases hgl
    have neb : ed ≠ bl := fun z => by rw [← z, upd_ne neg, upd_ne ned, g4] at hbl; cases hbl
    have k7 : Kp K T H rw sc ns ed gl bl eds [] [] (upd (upd (upd H4 tl (.lst (([] : List Addr).map V.ref))) gl (.lst (([] : List Addr).map V.ref))) bl (.lst (([] : List Addr).map V.ref))) :=
      ⟨s6.put hT hrow bl0 _, by rw [upd_ne neb, upd_ne neg, upd_ne ned]; exact g4, ⟨[], by rw [upd_ne ngb, upd_same], .nil⟩, ⟨[], upd_same, .nil⟩⟩
    have t7 : LstT (upd (upd (upd H4 tl (.lst (([] : List Addr).map V.ref))) gl (.lst (([] : List Addr).map V.ref))) bl (.lst (([] : List Addr).map V.ref))) tl [] := ⟨[], by rw [upd_ne ntb, upd_ne ntg, upd_same], .nil⟩
    show tSeq _ _ _ _ (upd (upd (upd H4 tl (.lst (([] : List Addr).map V.ref))) gl (.lst (([] : List Addr).map V.ref))) bl (.lst (([] : List Addr).map V.ref)))
    generalize upd (upd (upd H4 tl (.lst (([] : List Addr).map V.ref))) gl (.lst (([] : List Addr).map V.ref))) bl (.lst (([] : List Addr).map V.ref)) = H7 at k7 t7
    have glr := hrow.ne gl0
    have blr := hrow.ne bl0
    refine ⟨_, rfl, _, rfl, by omega, by omega, for_range (lo := 0) (n := pn) (fun i σ H' => ∃ (v5 v9 v10 : Option V) (tl : Addr) (rows : List (List Int)), σ = [some (.ref rw), some (.int pn), some (.int wn), some (.ref ed), some (.int left), v5, some (.ref tl), some (.ref gl), some (.ref bl), v9, v10, none, none, none, none] ∧ Kp K T H rw sc ns ed gl bl eds [] [] H' ∧
      (tl ≠ rw ∧ tl ≠ gl ∧ tl ≠ bl) ∧ LstT H' tl rows ∧ TRows pn wn i 0 rows) ⟨v5, none, none, tl, [], rfl, k7, ⟨hrow.ne tl0, ntg, ntb⟩, t7, ⟨rise_nil, Nat.zero_le _, fun _ h => nomatch h⟩⟩ ?_ ?_⟩
    · rintro i σ H8 hi ⟨v5, v9, v10, tl, rows, rfl, k8, tlr, t8, r8⟩
      rw [Int.zero_add]
      refine ⟨_, rfl, _, rfl, by omega, by omega, for_range (lo := 0) (n := wn) (fun j σ H' => ∃ (v10 : Option V) (tl : Addr) (rows : List (List Int)), σ = [some (.ref rw), some (.int pn), some (.int wn), some (.ref ed), some (.int left), v5, some (.ref tl), some (.ref gl), some (.ref bl), some (.int (i : Nat)), v10, none, none, none, none] ∧ Kp K T H rw sc ns ed gl bl eds [] [] H' ∧
        (tl ≠ rw ∧ tl ≠ gl ∧ tl ≠ bl) ∧ LstT H' tl rows ∧ TRows pn wn i j rows) ⟨v10, tl, rows, rfl, k8, tlr, t8, r8⟩ ?_ ?_⟩
      · rintro j σ H9 hj ⟨v10, tl, rows, rfl, k9, tlr, t9, r9⟩
        rw [Int.zero_add]
        refine ⟨_, rfl, _, rfl, _, _, rfl, rfl, _, rfl, _, _, rfl, ⟨by omega, by omega, by omega, by omega⟩, fun Dl hD => ?_⟩
        have D0 : H Dl = none := k9.ls.free hT hD
        have Dr := hrow.ne D0
        obtain ⟨tas, tp1, tp2⟩ := id t9
        obtain ⟨_, gp1, _⟩ := k9.gl
        obtain ⟨_, bp1, _⟩ := k9.bl
        have nD : ∀ {a xs}, H9 a = some (HO.lst xs) → a ≠ Dl := fun h z => by rw [z, hD] at h; cases h
        refine lc_range (lo := (j : Int) + 1) (n := ((wn : Int) - ((j : Int) + 1)).toNat) (fun m H' => Kp K T H rw sc ns ed gl bl eds [] [] H' ∧ LstT H' tl rows ∧ ∃ part, LstT H' Dl part ∧ RiseT part ∧ part.length ≤ m ∧ ∀ r ∈ part, ∃ b : Int, r = [(i : Int), (j : Int), b] ∧ (j : Int) + 1 ≤ b ∧ b < (j : Int) + 1 + m)
          ⟨k9.put hT hrow hD _, t9.put hD, [], ⟨[], upd_same, .nil⟩, rise_nil, Nat.le_refl _, fun _ h => nomatch h⟩ ?_ ?_
        · rintro m H10 hm ⟨k10, t10, part, p10, q1, q2, q3⟩
          refine ⟨rfl, _, rfl, con_i (nil_i (taken_close k10.ls hT (by decide) (by decide) fun v H11 c1 c2 s11 x11 => ⟨rfl, _, rfl, ite2 (fun c => ⟨_, rfl, _, rfl, _, rfl, nil_i ⟨by show 3 ≤ sizeLine; decide, fun tp htp => ?_⟩⟩) (fun c => ?_)⟩))⟩
          · have T10 := k10.ls.ok hT
            have k11 := k10.draw hT edr glr blr x11 s11
            have t11 := t10.extS T10 x11 k10.ls.r tlr.1
            have p11 := p10.extS T10 x11 k10.ls.r Dr
            have k12 := k11.put hT hrow htp (.tup ([(i : Int), (j : Int), (j : Int) + 1 + m].map V.int))
            have t12 := t11.put (u := .tup ([(i : Int), (j : Int), (j : Int) + 1 + m].map V.int)) htp
            obtain ⟨as, d1, d2⟩ := p11.put (u := .tup ([(i : Int), (j : Int), (j : Int) + 1 + m].map V.int)) htp
            have g12 : (upd H11 tp (.tup ([(i : Int), (j : Int), (j : Int) + 1 + m].map V.int))) tp = some (.tup ([(i : Int), (j : Int), (j : Int) + 1 + m].map V.int)) := upd_same
            have al := d2.length
            refine ⟨_, d1, small_line (by rw [List.length_map, al]; omega), k12.own hT hrow D0 d1 (nD k9.ed) (nD gp1) (nD bp1) _, t12.beside d1 (nD tp1), part ++ [[(i : Int), (j : Int), (j : Int) + 1 + m]], lst_snoc d1 d2 (fun z => by
              obtain ⟨_, e11, _⟩ := p11
              rw [z, e11] at htp
              cases htp) g12, rise_snoc q1 (fun y hy => ?_), by rw [List.length_append, List.length_singleton]; omega, fun r hr => ?_⟩
            · obtain ⟨b, rfl, z1, z2⟩ := q3 y hy
              exact bef_lex (.inr ⟨rfl, .inr ⟨rfl, z2⟩⟩)
            · rcases List.mem_append.mp hr with q | q
              · obtain ⟨b, z1, z2, z3⟩ := q3 r q
                exact ⟨b, z1, z2, by omega⟩
              · exact ⟨_, List.mem_singleton.mp q, by omega, by omega⟩
          · have T10 := k10.ls.ok hT
            refine ⟨k10.draw hT edr glr blr x11 s11, t10.extS T10 x11 k10.ls.r tlr.1, part, p10.extS T10 x11 k10.ls.r Dr, q1, by omega, fun r hr => ?_⟩
            obtain ⟨b, z1, z2, z3⟩ := q3 r hr
            exact ⟨b, z1, z2, by omega⟩
        · rintro H10 ⟨k10, t10, part, p10, q1, q2, q3⟩
          obtain ⟨tas, u1, u2⟩ := t10
          obtain ⟨as, d1, d2⟩ := p10
          have r10 := r9.more (by omega) (by omega) q1 (by omega) (fun r hr => by
            obtain ⟨b, z1, z2, z3⟩ := q3 r hr
            exact ⟨b, z1, z2, by omega⟩)
          refine ⟨tl, Dl, _, _, rfl, rfl, u1, d1, ?_, fun q hq => ⟨_, q, rows ++ part, rfl, k10.put hT hrow hq _, ⟨hrow.ne (k10.ls.free hT hq), (fun z => by
            obtain ⟨_, y, _⟩ := k10.gl
            rw [z, y] at hq; cases hq), (fun z => by
            obtain ⟨_, y, _⟩ := k10.bl
            rw [z, y] at hq; cases hq)⟩, ⟨tas ++ as, by rw [upd_same, List.map_append], pair_app (Paired.mapP u2 fun b r z => put_obj z hq) (Paired.mapP d2 fun b r z => put_obj z hq)⟩, r10⟩⟩
          rw [List.length_map, List.length_map, u2.length, d2.length, sizeLine_eq]
          have := r9.len
          omega
      · rintro σ H9 ⟨v10, tl, rows, rfl, k9, tlr, t9, r9⟩
        refine ⟨_, _, _, tl, rows, rfl, k9, tlr, t9, r9.rise, ?_, fun r hr => ?_⟩
        · have := r9.len
          omega
        · obtain ⟨p, a, b, e, q1, q2, q3, q4, q5, q6, q7⟩ := r9.each r hr
          exact ⟨p, a, b, e, q1, q2, q3, q4, q5, q6, .inl (by omega)⟩
    rintro σ H8 ⟨v5, v9, v10, tl, rows, rfl, k8, tlr, t8, r8⟩
    have tl0' : ∃ tas, H8 tl = some (.lst (List.map V.ref tas)) := by
      obtain ⟨tas, q, _⟩ := t8
      exact ⟨tas, q⟩
    refine ⟨_, rfl, ed, rfl, ⟨_, SqL.of k8.ed⟩, for_list (K := K) (a := ed) (xs := eds.map V.int) (fun i σ H' => ∃ (v9 v12 v13 : Option V) (gs : List (List Int)), σ = [some (.ref rw), some (.int pn), some (.int wn), some (.ref ed), some (.int left), v5, some (.ref tl), some (.ref gl), some (.ref bl), v9, v10, none, v12, v13, none] ∧
      Kp K T H rw sc ns ed gl bl eds gs [] H' ∧ LstT H' tl rows ∧ GRows pn eds i gs) ⟨v9, none, none, [], rfl, k8, t8, rfl, (fun _ h => nomatch h), fun j g e h => by simp at h⟩ (fun i σ H' _ ⟨_, _, _, _, _, q, _⟩ => SqL.of q.ed) ?_ ?_⟩
    · rintro i y σ H9 hi ⟨v9, v12, v13, gs, rfl, k9, t9, g9⟩
      obtain ⟨last, hlast, rfl⟩ := mapI hi
      have T9 := k9.ls.ok hT
      have hi3 : i < 3 := by have := lt_of_get hlast; omega
      -- the gap's list is put behind the others
      have fin : ∀ (Hx : Hp) (t : Addr) (g : List Int) (v13' : Option V), Kp K T H rw sc ns ed gl bl eds gs [] Hx → LstT Hx tl rows → Hx t = some (.tup (g.map V.int)) → ((∀ n ∈ g, 0 ≤ n ∧ n ≤ (pn : Int) - 1) ∧ RiseI g ∧ g.length ≤ 4) → (0 < last → g ≠ []) →
          ∃ xs, Hx gl = some (.lst xs) ∧ xs.length < sizeLine ∧ (∃ v9' v12' v13'' gs', ([some (.ref rw), some (.int pn), some (.int wn), some (.ref ed), some (.int left), v5, some (.ref tl), some (.ref gl), some (.ref bl), v9, v10, none, some (.int last), v13', none] : L2.St) = [some (.ref rw), some (.int pn), some (.int wn), some (.ref ed), some (.int left), v5, some (.ref tl), some (.ref gl), some (.ref bl), v9', v10, none, v12', v13'', none] ∧
            Kp K T H rw sc ns ed gl bl eds gs' [] (upd Hx gl (.lst (xs ++ [.ref t]))) ∧ LstT (upd Hx gl (.lst (xs ++ [.ref t]))) tl rows ∧ GRows pn eds (i + 1) gs') := by
        intro Hx t g v13' kx tx ht hg1 hg2
        obtain ⟨gas, u1, u2⟩ := id kx.gl
        have nt : t ≠ gl := fun z => by rw [z, u1] at ht; cases ht
        refine ⟨_, u1, small_line (by rw [List.length_map, u2.length, g9.len]; omega), _, _, _, gs ++ [g], rfl, ⟨kx.ls.put hT hrow gl0 _, by rw [upd_ne neg]; exact kx.ed, lst_snoc u1 u2 nt ht, kx.bl.beside u1 (Ne.symm ngb)⟩, tx.beside u1 tlr.2.1, g9.more hlast hg1 hg2⟩
      refine ⟨_, rfl, _, rfl, by omega, by omega, fun Dl hD => ?_⟩
      have D0 : H Dl = none := k9.ls.free hT hD
      have Dr := hrow.ne D0
      obtain ⟨_, tp1, _⟩ := id t9
      obtain ⟨_, gp1, _⟩ := id k9.gl
      obtain ⟨_, bp1, _⟩ := id k9.bl
      have nD : ∀ {a xs}, H9 a = some (HO.lst xs) → a ≠ Dl := fun h z => by rw [z, hD] at h; cases h
      refine lc_range (lo := 0) (n := pn) (fun m H' => Kp K T H rw sc ns ed gl bl eds gs [] H' ∧ LstT H' tl rows ∧ ∃ ps : List Int, H' Dl = some (.lst (ps.map V.int)) ∧ RiseI ps ∧ ps.length ≤ m ∧ ∀ n ∈ ps, 0 ≤ n ∧ n < m)
        ⟨k9.put hT hrow hD _, t9.put hD, [], upd_same, rise_nil, Nat.le_refl _, fun _ h => nomatch h⟩ ?_ ?_
      · rintro m H10 hm ⟨k10, t10, ps, d10, q1, q2, q3⟩
        rw [Int.zero_add]
        refine ⟨rfl, _, rfl, con_i (nil_i (taken_close k10.ls hT (by decide) (by decide) fun v H11 c1 c2 s11 x11 => ⟨rfl, _, rfl, ite2 (fun c => ?_) (fun c => ?_)⟩))⟩
        · have T10 := k10.ls.ok hT
          have k11 := k10.draw hT edr glr blr x11 s11
          have t11 := t10.extS T10 x11 k10.ls.r tlr.1
          have d11 := x11.lst T10 d10 Dr
          refine ⟨_, rfl, _, d11, small_line (by rw [List.length_map]; omega), k11.own hT hrow D0 d11 (nD k9.ed) (nD gp1) (nD bp1) _, t11.beside d11 (nD tp1), ps ++ [(m : Int)], by rw [upd_same, List.map_append]; rfl, rise_snoc q1 (fun y hy => (q3 y hy).2), by rw [List.length_append, List.length_singleton]; omega, fun n hn => ?_⟩
          rcases List.mem_append.mp hn with q | q
          · have := q3 n q; omega
          · rw [List.mem_singleton.mp q]; omega
        · have T10 := k10.ls.ok hT
          exact ⟨k10.draw hT edr glr blr x11 s11, t10.extS T10 x11 k10.ls.r tlr.1, ps, x11.lst T10 d10 Dr, q1, by omega, fun n hn => by have := q3 n hn; omega⟩
      · rintro H10 ⟨k10, t10, ps, d10, q1, q2, q3⟩
        obtain ⟨gas, gp10, _⟩ := id k10.gl
        have hps : (∀ n ∈ ps, 0 ≤ n ∧ n ≤ (pn : Int) - 1) ∧ RiseI ps ∧ ps.length ≤ 4 := ⟨fun n hn => by have := q3 n hn; omega, q1, by omega⟩
        refine ⟨_, rfl, lst_at gp10, _, rfl, ⟨Nat.zero_le _, fun q hq => ⟨.list (ps.map .int), .list [], .lst (SqL.of (put_obj d10 hq)) (dpAll_ints ps), .lst (SqL.of upd_same) .nil, PySem.W.ke_shaped_ints ps, rfl, _, rfl, ?_⟩⟩⟩
        have k11 := k10.put hT hrow hq (.lst [])
        have t11 := t10.put (u := .lst []) hq
        have d11 : (upd H10 q (.lst [])) Dl = some (.lst (ps.map V.int)) := put_obj d10 hq
        generalize upd H10 q (.lst []) = H11 at k11 t11 d11
        -- the drawn phases serve
        have serve : (0 < last → ps ≠ []) → tVar 13 ([some (.ref rw), some (.int pn), some (.int wn), some (.ref ed), some (.int left), v5, some (.ref tl), some (.ref gl), some (.ref bl), v9, v10, none, some (.int last), some (.ref Dl), none] : L2.St) H11 (fun x H1 => tNil ([some (.ref rw), some (.int pn), some (.int wn), some (.ref ed), some (.int left), v5, some (.ref tl), some (.ref gl), some (.ref bl), v9, v10, none, some (.int last), some (.ref Dl), none] : L2.St) H1 fun xs H2 =>
            rTupOf K (x :: xs) H2 fun y H3 => tNil ([some (.ref rw), some (.int pn), some (.int wn), some (.ref ed), some (.int left), v5, some (.ref tl), some (.ref gl), some (.ref bl), v9, v10, none, some (.int last), some (.ref Dl), none] : L2.St) H3 fun ys H4 => rAppend (.ref gl) (y :: ys) H4 fun _ H5 => ∃ v9' v12' v13'' gs', ([some (.ref rw), some (.int pn), some (.int wn), some (.ref ed), some (.int left), v5, some (.ref tl), some (.ref gl), some (.ref bl), v9, v10, none, some (.int last), some (.ref Dl), none] : L2.St) = [some (.ref rw), some (.int pn), some (.int wn), some (.ref ed), some (.int left), v5, some (.ref tl), some (.ref gl), some (.ref bl), v9', v10, none, v12', v13'', none] ∧
            Kp K T H rw sc ns ed gl bl eds gs' [] H5 ∧ LstT H5 tl rows ∧ GRows pn eds (i + 1) gs') := by
          intro h2
          refine ⟨_, rfl, Dl, _, rfl, .inl ⟨SqL.of d11, fun t ht => ?_⟩⟩
          obtain ⟨xs, u1, u2, u3⟩ := fin (upd H11 t (.tup (ps.map V.int))) t ps (some (.ref Dl)) (k11.put hT hrow ht _) (t11.put ht) upd_same hps h2
          exact ⟨gl, xs, _, rfl, rfl, u1, u2, u3⟩
        cases hps0 : ps with
        | cons p0 pr =>
          refine iteT (iteT (serve fun _ z => by rw [hps0] at z; cases z))
        | nil =>
          refine iteF ⟨_, rfl, rfl, _, rfl, ite2 (fun c => ?_) (fun c => ?_)⟩
          · have c := of_decide_eq_true c
            injection c with c
            exact serve fun z => by omega
          · refine ⟨_, rfl, _, rfl, nil_i (taken_close k11.ls hT (by omega) (by omega) fun v H12 c1 c2 s12 x12 => nil_i ⟨by show 1 ≤ sizeLine; decide, fun q2 hq2 => nil_i ⟨q2, _, rfl, .inl ⟨SqL.of upd_same, fun t ht => ?_⟩⟩⟩)⟩
            have T11 := k11.ls.ok hT
            have k12 := (k11.draw hT edr glr blr x12 s12).put hT hrow hq2 (.lst [.int v])
            have t12 := (t11.extS T11 x12 k11.ls.r tlr.1).put (u := .lst [.int v]) hq2
            obtain ⟨xs, u1, u2, u3⟩ := fin (upd (upd H12 q2 (.lst [.int v])) t (.tup (([v] : List Int).map V.int))) t [v] (some (.ref Dl)) (k12.put hT hrow ht _) (t12.put ht) upd_same ⟨fun n hn => by rw [List.mem_singleton.mp hn]; omega, rise_one, by show 1 ≤ 4; decide⟩ (fun _ z => nomatch z)
            exact nil_i ⟨gl, xs, _, rfl, rfl, u1, u2, u3⟩
    rintro σ H9 ⟨v9, v12, v13, gs, rfl, k9, t9, g9⟩
    rw [List.length_map, hl] at g9
    refine ⟨_, rfl, _, rfl, by omega, by omega, for_range (lo := 0) (n := wn) (fun i σ H' => ∃ (v10 v11 v14 : Option V) (bk : List (List Int)), σ = [some (.ref rw), some (.int pn), some (.int wn), some (.ref ed), some (.int left), v5, some (.ref tl), some (.ref gl), some (.ref bl), v9, v10, v11, v12, v13, v14] ∧
      Kp K T H rw sc ns ed gl bl eds gs bk H' ∧ LstT H' tl rows ∧ BRows eds i 1 0 (6 * i) bk) ⟨v10, none, none, [], rfl, k9, t9, rise_nil, Nat.le_refl _, fun _ h => nomatch h⟩ ?_ ?_⟩
    · rintro i σ H10 hi ⟨v10, v11, v14, bk, rfl, k10, t10, b10⟩
      rw [Int.zero_add]
      obtain ⟨e1, he1⟩ := getq (l := eds) (i := i) (by omega)
      have eb := hall e1 (List.mem_of_getElem? he1)
      refine ⟨_, rfl, _, rfl, ed, _, _, _, rfl, rfl, SqL.of k10.ed, atI_int he1, _, _, rfl, rfl, _, _, rfl, ⟨by decide, by decide, by omega, by omega⟩, for_range (lo := 1) (n := (e1 + 1 - 1).toNat) (fun m σ H' => ∃ (v11 v14 : Option V) (bk : List (List Int)), σ = [some (.ref rw), some (.int pn), some (.int wn), some (.ref ed), some (.int left), v5, some (.ref tl), some (.ref gl), some (.ref bl), v9, some (.int (i : Nat)), v11, v12, v13, v14] ∧
        Kp K T H rw sc ns ed gl bl eds gs bk H' ∧ LstT H' tl rows ∧ BRows eds i (1 + m) 0 (6 * i + 3 * m) bk) ⟨v11, v14, bk, rfl, k10, t10, b10⟩ ?_ ?_⟩
      · rintro m σ H11 hm ⟨v11, v14, bk, rfl, k11, t11, b11⟩
        refine ⟨_, rfl, _, rfl, by omega, by omega, for_range (lo := 0) (n := wn) (fun q σ H' => ∃ (v11 : Option V) (bk : List (List Int)), σ = [some (.ref rw), some (.int pn), some (.int wn), some (.ref ed), some (.int left), v5, some (.ref tl), some (.ref gl), some (.ref bl), v9, some (.int (i : Nat)), v11, v12, v13, some (.int (1 + (m : Int)))] ∧
          Kp K T H rw sc ns ed gl bl eds gs bk H' ∧ LstT H' tl rows ∧ BRows eds i (1 + m) q (6 * i + 3 * m + q) bk) ⟨v11, bk, rfl, k11, t11, b11⟩ ?_ ?_⟩
        · rintro q σ H12 hq ⟨v11, bk, rfl, k12, t12, b12⟩
          rw [Int.zero_add]
          obtain ⟨e2, he2⟩ := getq (l := eds) (i := q) (by omega)
          have eb2 := hall e2 (List.mem_of_getElem? he2)
          have T12 := k12.ls.ok hT
          have skip : BRows eds i (1 + m) ((q + 1 : Nat) : Int) (6 * i + 3 * m + (q + 1)) bk := b12.to (by omega) fun a b c h => by unfold Bef at h ⊢; omega
          refine ⟨_, rfl, _, rfl, rfl, _, rfl, ite2 (fun c1 => ⟨_, rfl, _, rfl, ed, _, _, _, rfl, rfl, SqL.of k12.ed, atI_int he2, _, _, rfl, rfl, _, rfl, ite2 (fun c2 => ⟨_, rfl, con_i (nil_i (taken_close k12.ls hT (by decide) (by decide) fun v H13 d1 d2 s13 x13 => ⟨_, _, rfl, rfl, _, rfl, ite2 (fun c3 => ?_) (fun c3 => ?_)⟩))⟩) (fun c2 => iteF ⟨_, bk, rfl, k12, t12, skip⟩)⟩) (fun c1 => iteF ⟨_, bk, rfl, k12, t12, skip⟩)⟩
          · have k13 := k12.draw hT edr glr blr x13 s13
            have t13 := t12.extS T12 x13 k12.ls.r tlr.1
            obtain ⟨bas, bp1, bp2⟩ := id k13.bl
            have c1 : (q : Int) ≠ i := fun z => by rw [z] at c1; simp at c1
            have c2 := of_decide_eq_true c2
            refine ⟨_, rfl, lst_at bp1, _, rfl, _, rfl, _, rfl, _, rfl, _, rfl, _, rfl, ed, _, _, _, rfl, rfl, SqL.of k13.ed, atI_int he2, nil_i (taken_close s13 hT (by omega) (by omega) fun v2 H14 f1 f2 s14 x14 => ⟨_, _, rfl, rfl, nil_i ⟨by show 4 ≤ sizeLine; decide, fun tp htp => nil_i ?_⟩⟩)⟩
            have T13 := s13.ok hT
            have k14 := (k13.draw hT edr glr blr x14 s14).put hT hrow htp (.tup ([(i : Int), 1 + (m : Int), (q : Int), 1 + v2].map V.int))
            have t14 := (t13.extS T13 x14 k13.ls.r tlr.1).put (u := .tup ([(i : Int), 1 + (m : Int), (q : Int), 1 + v2].map V.int)) htp
            have g14 : (upd H14 tp (.tup ([(i : Int), 1 + (m : Int), (q : Int), 1 + v2].map V.int))) tp = some (.tup ([(i : Int), 1 + (m : Int), (q : Int), 1 + v2].map V.int)) := upd_same
            show rAppend _ _ (upd H14 tp (.tup ([(i : Int), 1 + (m : Int), (q : Int), 1 + v2].map V.int))) _
            generalize upd H14 tp (.tup ([(i : Int), 1 + (m : Int), (q : Int), 1 + v2].map V.int)) = H15 at k14 t14 g14
            obtain ⟨bas, bp1, bp2⟩ := id k14.bl
            obtain ⟨gas, gp1, _⟩ := id k14.gl
            have bl2 := bp2.length
            have bl3 := b12.len
            have ntb : tp ≠ bl := fun z => by rw [z, bp1] at g14; cases g14
            refine ⟨bl, _, _, rfl, rfl, bp1, small_line (by rw [List.length_map, bl2]; omega), _, bk ++ [[(i : Int), 1 + (m : Int), (q : Int), 1 + v2]], rfl, ⟨k14.ls.put hT hrow bl0 _, by rw [upd_ne neb]; exact k14.ed, k14.gl.beside bp1 ngb, lst_snoc bp1 bp2 ntb g14⟩, t14.beside bp1 tlr.2.2, ?_⟩
            have := b12.more (d := 1 + v2) ⟨i, q, 1 + (m : Int), 1 + v2, e1, e2, rfl, he1, he2, by omega, by omega, by omega, by omega, fun z => c1 (by rw [z])⟩
            exact this
          · exact ⟨_, bk, rfl, k12.draw hT edr glr blr x13 s13, t12.extS T12 x13 k12.ls.r tlr.1, skip⟩
        · rintro σ H12 ⟨v11, bk, rfl, k12, t12, b12⟩
          refine ⟨_, _, bk, rfl, k12, t12, b12.to (by omega) fun a b c h => by unfold Bef at h ⊢; omega⟩
      · rintro σ H11 ⟨v11, v14, bk, rfl, k11, t11, b11⟩
        exact ⟨_, _, _, bk, rfl, k11, t11, b11.to (by omega) fun a b c h => by unfold Bef at h ⊢; omega⟩
    rintro σ H10 ⟨v10, v11, v14, bk, rfl, k10, t10, b10⟩
    have T10 := k10.ls.ok hT
    obtain ⟨tas, tp1, tp2⟩ := t10
    obtain ⟨gas, gp1, gp2⟩ := k10.gl
    obtain ⟨bas, bp1, bp2⟩ := k10.bl
    refine ⟨_, rfl, _, rfl, ed, _, rfl, .inl ⟨SqL.of k10.ed, fun ea hea => ?_⟩⟩
    have x1 : Ext T H10 (upd H10 ea (.tup (eds.map V.int))) := Ext.new T10 hea _
    have z1 : TupI (upd H10 ea (.tup (eds.map V.int))) ea eds := upd_same
    generalize upd H10 ea (.tup (eds.map V.int)) = Ha at x1 z1
    have Ta := x1.ok T10
    refine ⟨_, rfl, tl, _, rfl, .inl ⟨SqL.of (x1.lst T10 tp1), fun ta hta => ?_⟩⟩
    have x2 : Ext T Ha (upd Ha ta (.tup (tas.map V.ref))) := Ext.new Ta hta _
    have z2 : (upd Ha ta (.tup (tas.map V.ref))) ta = some (.tup (tas.map V.ref)) := upd_same
    generalize upd Ha ta (.tup (tas.map V.ref)) = Hb at x2 z2
    have Tb := x2.ok Ta
    have x12 := x1.trans x2
    refine ⟨_, rfl, gl, _, rfl, .inl ⟨SqL.of (x12.lst T10 gp1), fun ga hga => ?_⟩⟩
    have x3 : Ext T Hb (upd Hb ga (.tup (gas.map V.ref))) := Ext.new Tb hga _
    have z3 : (upd Hb ga (.tup (gas.map V.ref))) ga = some (.tup (gas.map V.ref)) := upd_same
    generalize upd Hb ga (.tup (gas.map V.ref)) = Hc at x3 z3
    have Tc := x3.ok Tb
    have x123 := x12.trans x3
    refine ⟨_, rfl, bl, _, rfl, .inl ⟨SqL.of (x123.lst T10 bp1), fun ba hba => ?_⟩⟩
    have x4 : Ext T Hc (upd Hc ba (.tup (bas.map V.ref))) := Ext.new Tc hba _
    have z4 : (upd Hc ba (.tup (bas.map V.ref))) ba = some (.tup (bas.map V.ref)) := upd_same
    show tNil _ (upd Hc ba (.tup (bas.map V.ref))) _
    generalize upd Hc ba (.tup (bas.map V.ref)) = Hd at x4 z4
    refine nil_i ⟨by show 5 ≤ sizeLine; decide, fun ca hca => ?_⟩
    have Td := x4.ok Tc
    have x1234 := x123.trans x4
    have x5 : Ext T Hd (upd Hd ca (.tup [.int pn, .ref ea, .ref ta, .ref ga, .ref ba])) := Ext.new Td hca _
    have x34 := x3.trans x4
    have xe := (x2.trans x34).trans x5
    have xall := x1234.trans x5
    have hel : eds.length = wn := hl
    refine k _ ca ⟨pn, eds, rows, gs, bk⟩ (k10.ls.ext hT xall) ⟨ea, ta, ga, ba, upd_same, z1.ext Ta xe, ⟨tas, (x34.trans x5).tup Tb z2, Paired.mapP tp2 fun b r q => TupI.ext q T10 xall⟩, ⟨gas, (x4.trans x5).tup Tc z3, Paired.mapP gp2 fun b r q => TupI.ext q T10 xall⟩, ⟨bas, x5.tup Td z4, Paired.mapP bp2 fun b r q => TupI.ext q T10 xall⟩⟩ ⟨⟨⟨by show (1 : Int) ≤ pn; omega, by show (pn : Int) ≤ 12; omega⟩, ⟨by show 1 ≤ eds.length; omega, by show eds.length ≤ 12; omega, fun e he => ⟨(hall e he).1, by have := (hall e he).2; omega⟩, by show eds.sum ≤ 24; omega⟩, ?_, ?_, ?_⟩, by show (pn : Int) ≤ 4; omega, by show eds.length ≤ 3; omega, hall, ?_, fun g hg => (g9.each g hg).2.2, ?_⟩
    · refine ⟨fun r hr => ?_, r8.rise, by show rows.length ≤ 1000; have := r8.len; omega⟩
      obtain ⟨p, a, b, e, q1, q2, q3, q4, q5, q6, _⟩ := r8.each r hr
      exact ⟨p, a, b, e, q1, q2, q3, by show a ≤ (eds.length : Int) - 1; omega, q5, by show b ≤ (eds.length : Int) - 1; omega⟩
    · exact ⟨by show gs.length = eds.length; rw [g9.len, hl], fun r hr => ⟨(g9.each r hr).1, (g9.each r hr).2.1, by have := (g9.each r hr).2.2; omega⟩, g9.some_⟩
    · exact ⟨fun r hr => (b10.each r hr).1, b10.rise, by show bk.length ≤ 1000; have := b10.len; omega⟩
    · show rows.length ≤ 36
      have := r8.len
      omega
    · show bk.length ≤ 18
      have := b10.len
      omega
end
end CW

namespace CW
open PySem PySem.Spec PyProof.Rows L2 GA TL
/-! ### _law_rows -/
/-- a row of i ticks that fit -/
def TkRow (per : Int) (g : List Int) (i : Nat) (r : List Int) : Prop := r.length = i ∧ RiseI r ∧ ∀ n ∈ r, 0 ≤ n ∧ n < 14 ∧ n % per ∈ g
theorem TkRow.more {per : Int} {g r : List Int} {i : Nat} {t : Int} (h : TkRow per g i r) (ht : 0 ≤ t ∧ t < 14 ∧ t % per ∈ g) (hl : ∀ x, r.getLast? = some x → x < t) : TkRow per g (i + 1) (r ++ [t]) := by
  refine ⟨by rw [List.length_append, h.1]; rfl, fun j x y h1 h2 => ?_, fun n hn => ?_⟩
  · by_cases q : j + 1 < r.length
    · rw [List.getElem?_append_left (by omega)] at h1
      rw [List.getElem?_append_left q] at h2
      exact h.2.1 j x y h1 h2
    · have h3 := lt_of_get h2
      rw [List.length_append, List.length_singleton] at h3
      have e : j + 1 = r.length := by omega
      rw [List.getElem?_append_left (by omega)] at h1
      rw [List.getElem?_append_right (by omega), show j + 1 - r.length = 0 by omega] at h2
      obtain rfl := Option.some.inj h2
      refine hl x ?_
      rw [List.getLast?_eq_getElem?, show r.length - 1 = j by omega]
      exact h1
  · rcases List.mem_append.mp hn with q | q
    · exact h.2.2 n q
    · rw [List.mem_singleton.mp q]; exact ht
def spRows (T : List Addr) : Sp := fun vs H Q _ => ∃ (a : Addr) (wheel : Nat) (c : Clk) (e : Int) (g : List Int), vs = [.ref a, .int (wheel : Nat), .int 14] ∧ ClkAt H a c ∧ 1 ≤ c.per ∧ c.eds[wheel]? = some e ∧ c.gaps[wheel]? = some g ∧ 0 ≤ e ∧ e ≤ 2 ∧ TOk T H ∧
  ∀ (H' : Hp) (q : Addr) (rows : List (List Int)), Ext T H H' → H q = none → LstT H' q rows → rows.length ≤ 300 → (∀ r ∈ rows, TkRow c.per g e.toNat r) → Q (.ref q) H'
abbrev nRows : List Str := ["_law_clock_here", "_law_wheel", "_law_before", "_law_ticks", "_law_rows_here", "_law_turn", "_law_longer", "_law_one", "_law_tick"]
theorem scRows : FnScope nRows ["_law_clock_here", "_law_wheel", "_law_before"] (defScope sRows) := ⟨rfl, rfl, rfl, by decide +kernel, rfl, by decide +kernel, by decide +kernel⟩
theorem shaped_tup (ns : List Int) : SeqAt.shaped (.tuple (ns.map PyData.int)) = true := PySem.W.ke_shaped_ints ns
theorem atI_lastT {r : List Int} {x : Int} (h : r.getLast? = some x) : atI (r.map V.int) (-1) = some (V.int x) := by
  have hne : r ≠ [] := fun z => by rw [z] at h; cases h
  have hp := List.length_pos_iff.mpr hne
  unfold atI ixN
  rw [List.length_map, if_neg (by decide), if_pos (by omega)]
  show (r.map V.int)[((r.length : Int) + (-1)).toNat]? = _
  rw [show ((r.length : Int) + (-1)).toNat = r.length - 1 by omega, List.getElem?_map, ← List.getLast?_eq_getElem?, h]
  rfl
section
variable {P : Program} {w : World} {K : PySem.W.Frag} {mg : Str → Option Value} {base : Heap} {T S : List Addr} {H H0 : Hp}
theorem cal_rows (D : DefAt K mg "_law_rows" sRows) (B : Bl mg) : Cal P w K mg base CX0 1 "_law_rows" ["_law_clock_here", "_law_wheel", "_law_before"] (spRows T) := by
  refine D.cal scRows (fun _ _ _ _ _ _ us hl => match us, hl with | [_, _, _], _ => rfl) (fun vs H Q E h => ?_) (fun f cdv A outer s H vs Q E hr h => ?_)
  · obtain ⟨a, wheel, c, e, g, rfl, _⟩ := h
    rfl
  · obtain ⟨a, wheel, c, e, g, rfl, hc, hper, he, hg, e0, e2, hT, k⟩ := h
    refine ⟨_, pss_cons (ps_par (i := 3) (j := 4) rfl scRows.nd rfl rfl (by decide) rfl rfl (pa_cons (pe_lc (own := [("_law_tick", 8)]) (g := gName 8) (tt := tTest (tOp (rIn K false) (tOp (rI (fun _ j => 0 < j) fun i j => .int (i % j)) (tVar 8) (tOp (rIxT K) (tVar 0) (tC (.int 0)))) (tOp (rIxT K) (tOp (rIxT K) (tVar 0) (tC (.int 3))) (tVar 1)))) (te := tVar 8) rfl scRows.nd
            (pi_range1 rfl B.range (pa_cons (pv 2) pa_nil)) (blkOk_by (N := nRows) (sc := defScope sRows) (by decide +kernel))
            (fun _ _ _ _ _ => pg_name (i := 8) scRows.nd rfl (Or.inl rfl)) (fun _ _ _ _ _ => pts_one (pt_cmpR op_in_seq (pe_op op_mod (pv 8) (pe_ix ix_tup (pv 0) pe_int (fun _ _ => rfl))) (pe_ix ix_tup (pe_ix ix_tup (pv 0) pe_int (fun _ _ => rfl)) (pv 1) (fun _ _ => rfl)) (by rfl))) (fun _ _ _ _ _ => pv 8))
          (pa_cons (pe_lst (pa_cons (pe_tup pa_nil) pa_nil)) pa_nil)) (by rfl))
      (pss_cons (ps_for PassesOwn.never rfl (pi_range1 rfl B.range (pa_cons (pe_ix ix_tup (pe_ix ix_tup (pv 0) pe_int (fun _ _ => rfl)) (pv 1) (fun _ _ => rfl)) pa_nil)) (pg_name (i := 5) scRows.nd rfl (Or.inl rfl))
        (pss_cons (ps_set (i := 6) scRows.nd rfl (Or.inl rfl) (pe_lst pa_nil))
        (pss_cons (ps_for PassesOwn.never rfl (pi_list (pv 4)) (pg_name (i := 7) scRows.nd rfl (Or.inr rfl))
          (pss_one (ps_set (i := 6) scRows.nd rfl (Or.inl rfl) (pe_op op_cat (pv 6) (pe_lc (own := [("_law_tick", 8)]) (g := gName 8)
              (tt := tOr (tTest (tOp (rEqD K) (tVar 7) (tTup tNil))) (tTest (tOp (rI0 fun i j => .bl (decide (j < i))) (tVar 8) (tOp (rIxT K) (tVar 7) (tUn (rU fun i => .int (-i)) (tC (.int 1))))))) (te := tOp (rCatA K) (tVar 7) (tTup (tCons (tVar 8) tNil))) rfl scRows.nd
              (pi_list (pv 3)) (blkOk_by (N := nRows) (sc := defScope sRows) (by decide +kernel)) (fun _ _ _ _ _ => pg_name (i := 8) scRows.nd rfl (Or.inl rfl))
              (fun _ _ _ _ _ => pts_one (PW.pt (pw_or (pt_cmpR (op_eqD hr.units) (pv 7) (pe_tup pa_nil) (nomark _)) (pw_or1 (pt_cmpR op_gt (pv 8) (pe_ix ix_tup (pv 7) (pe_un un_neg pe_int) (fun _ _ => rfl)) (nomark _))))))
              (fun _ _ _ _ _ => pe_op op_catA (pv 7) (pe_tup (pa_cons (pv 8) pa_nil))))))))
        (pss_one (ps_set (i := 4) scRows.nd rfl (Or.inl rfl) (pv 6))))))
      (pss_one (ps_ret (pv 4)))), ?_⟩
    obtain ⟨ea, ta, ga, ba, h0, he', ht', ⟨gas, hg1, hg2⟩, hb'⟩ := hc
    have he' : H ea = some (.tup (c.eds.map V.int)) := he'
    obtain ⟨gg, hgg, tgg⟩ := paired_get hg2 hg
    have tgg : H gg = some (.tup (g.map V.int)) := tgg
    refine ⟨_, rfl, _, rfl, by decide, by decide, fun tk htk => ?_⟩
    refine lc_range (lo := 0) (n := 14) (fun m H' => Ext T H H' ∧ ∃ ts : List Int, H' tk = some (.lst (ts.map V.int)) ∧ ts.length ≤ m ∧ ∀ t ∈ ts, 0 ≤ t ∧ t < m ∧ t % c.per ∈ g) ⟨Ext.new hT htk _, [], upd_same, Nat.le_refl _, fun _ h => nomatch h⟩ ?_ ?_
    · rintro m H' hm ⟨x1, ts, d1, q1, q2⟩
      rw [Int.zero_add]
      refine ⟨rfl, _, rfl, _, rfl, _, _, _, _, rfl, rfl, SqT.of (x1.tup hT h0), rfl, (m : Int), c.per, rfl, rfl, by omega, _, rfl, _, _, _, _, rfl, rfl, SqT.of (x1.tup hT h0), rfl, _, rfl, ga, _, _, _, rfl, rfl, SqT.of (x1.tup hT hg1), atI_ref hgg, gg, _, rfl, .inr (SqT.of (x1.tup hT tgg)), rfl, flat_int _, _, rfl, ite2 (fun cc => ⟨_, rfl, _, d1, small_line (by rw [List.length_map]; omega), x1.put hT htk _, ts ++ [(m : Int)], by rw [upd_same, List.map_append]; rfl, by rw [List.length_append, List.length_singleton]; omega, fun t ht => ?_⟩) (fun cc => ⟨x1, ts, d1, by omega, fun t ht => by have := q2 t ht; exact ⟨this.1, by omega, this.2.2⟩⟩)⟩
      have cc : inV (V.int ((m : Int) % c.per)) (g.map V.int) = true := cc
      rw [inV_int] at cc
      rcases List.mem_append.mp ht with q | q
      · have := q2 t q; exact ⟨this.1, by omega, this.2.2⟩
      · rw [List.mem_singleton.mp q]; exact ⟨by omega, by omega, of_decide_eq_true cc⟩
    · rintro H1 ⟨x1, ts, d1, q1, q2⟩
      have T1 := x1.ok hT
      refine ⟨Nat.zero_le _, fun et het => ⟨by show 1 ≤ sizeLine; decide, fun rl hrl => nil_i ⟨_, _, rfl, ?_⟩⟩⟩
      have x2 : Ext T H1 (upd H1 et (.tup [])) := Ext.new T1 het _
      have y2 : (upd H1 et (.tup [])) et = some (.tup (([] : List Int).map V.int)) := upd_same
      have d2 := x2.lst T1 d1
      generalize upd H1 et (.tup []) = H2 at x2 y2 d2 hrl
      have T2 := x2.ok T1
      have x3 : Ext T H2 (upd H2 rl (.lst (([et] : List Addr).map V.ref))) := Ext.new T2 hrl _
      have l3 : LstT (upd H2 rl (.lst (([et] : List Addr).map V.ref))) rl [[]] := ⟨[et], upd_same, .cons (x3.tup T2 y2) .nil⟩
      have d3 := x3.lst T2 d2
      show tSeq _ _ _ _ (upd H2 rl (.lst (([et] : List Addr).map V.ref)))
      generalize upd H2 rl (.lst (([et] : List Addr).map V.ref)) = H3 at x3 l3 d3
      have x13 := x1.trans (x2.trans x3)
      have rl0 : H rl = none := (x1.trans x2).free hT hrl
      refine ⟨_, rfl, _, _, _, _, rfl, rfl, SqT.of (x13.tup hT h0), rfl, _, rfl, ea, _, _, _, rfl, rfl, SqT.of (x13.tup hT he'), atI_int he, _, rfl, by omega, by omega, for_range (lo := 0) (n := e.toNat) (fun i σ H' => ∃ (v5 v6 v7 : Option V) (rl : Addr) (rows : List (List Int)), σ = [some (.ref a), some (.int (wheel : Nat)), some (.int 14), some (.ref tk), some (.ref rl), v5, v6, v7, none] ∧ Ext T H H' ∧ H' tk = some (.lst (ts.map V.int)) ∧ H rl = none ∧
        LstT H' rl rows ∧ rows.length ≤ 14 ^ i ∧ ∀ r ∈ rows, TkRow c.per g i r) ⟨none, none, none, rl, [[]], rfl, x13, d3, rl0, l3, Nat.le_refl _, fun r hr => by rw [List.mem_singleton.mp hr]; exact ⟨rfl, rise_nil, fun _ h => nomatch h⟩⟩ ?_ ?_⟩
      · rintro i σ H4 hi ⟨v5, v6, v7, rl, rows, rfl, x4, d4, rl0, l4, z4, r4⟩
        have T4 := x4.ok hT
        have hi2 : i < 2 := by omega
        have z14 : rows.length ≤ 14 := by
          rcases i with _ | _ | i
          · omega
          · omega
          · omega
        refine ⟨Nat.zero_le _, fun lo hlo => ?_⟩
        have lo0 : H lo = none := x4.free hT hlo
        have x5 : Ext T H4 (upd H4 lo (.lst (([] : List Addr).map V.ref))) := Ext.new T4 hlo _
        have l5 : LstT (upd H4 lo (.lst (([] : List Addr).map V.ref))) lo [] := ⟨[], upd_same, .nil⟩
        have l5' := l4.ext T4 x5
        show tSeq _ _ _ _ (upd H4 lo (.lst (([] : List Addr).map V.ref)))
        generalize upd H4 lo (.lst (([] : List Addr).map V.ref)) = H5 at x5 l5 l5'
        have x5 := x4.trans x5
        obtain ⟨ras, ra1, ra2⟩ := id l5'
        have d5 : H5 tk = some (.lst (ts.map V.int)) := by rename_i q; exact q.lst T4 d4
        refine ⟨_, rfl, rl, rfl, ⟨_, SqL.of ra1⟩, for_list (K := K) (a := rl) (xs := ras.map V.ref) (fun j σ H' => ∃ (v7 : Option V) (lo : Addr) (out : List (List Int)), σ = [some (.ref a), some (.int (wheel : Nat)), some (.int 14), some (.ref tk), some (.ref rl), some (.int (0 + (i : Int))), some (.ref lo), v7, none] ∧ Ext T H5 H' ∧ H lo = none ∧ LstT H' lo out ∧ out.length ≤ 14 * j ∧ ∀ r ∈ out, TkRow c.per g (i + 1) r)
          ⟨v7, lo, [], rfl, Ext.refl T H5, lo0, l5, Nat.le_refl _, fun _ h => nomatch h⟩ (fun j σ H' _ ⟨_, _, _, _, q, _⟩ => SqL.of (q.lst (x5.ok hT) ra1)) ?_ ?_⟩
        · rintro j y σ H6 hj ⟨v7, lo, out, rfl, x6, lo0, l6, z6, r6⟩
          obtain ⟨ra, hra, rfl⟩ := mapR hj
          obtain ⟨r, hr, tr⟩ := paired_get' ra2 hra
          have T5 := x5.ok hT
          have T6 := x6.ok T5
          have rok := r4 r (List.mem_of_getElem? hr)
          have hj14 : j < 14 := by have := lt_of_get hr; omega
          have tr6 : H6 ra = some (.tup (r.map V.int)) := x6.tup T5 tr
          refine ⟨_, rfl, _, rfl, tk, rfl, ⟨_, SqL.of (x6.lst T5 d5)⟩, fun Dl hD => ?_⟩
          refine lc_list (K := K) (a := tk) (xs := ts.map V.int) (fun m H' => Ext T H6 H' ∧ ∃ part, LstT H' Dl part ∧ part.length ≤ m ∧ ∀ r ∈ part, TkRow c.per g (i + 1) r) ⟨Ext.new T6 hD _, [], ⟨[], upd_same, .nil⟩, Nat.le_refl _, fun _ h => nomatch h⟩ (fun m H' _ q => SqL.of ((x6.trans q.1).lst T5 d5)) ?_ ?_
          · rintro m y H7 hm ⟨x7, part, p7, q7, r7⟩
            obtain ⟨t, ht, rfl⟩ := mapI hm
            have htt := q2 t (List.mem_of_getElem? ht)
            have T7 := x7.ok T6
            have hm14 : m < 14 := by have := lt_of_get ht; omega
            have tr7 := x7.tup T6 tr6
            -- the longer row
            have take_ : ∀ H8, Ext T H7 H8 → (∀ x, r.getLast? = some x → x < t) → tOp (rCatA K) (tVar 7) (tTup (tCons (tVar 8) tNil)) [some (.ref a), some (.int (wheel : Nat)), some (.int 14), some (.ref tk), some (.ref rl), some (.int (0 + (i : Int))), some (.ref lo), some (.ref ra), some (.int t)] H8 fun y H4 => ∃ acc, H4 Dl = some (.lst acc) ∧ acc.length < sizeLine ∧ (Ext T H6 (upd H4 Dl (.lst (acc ++ [y]))) ∧ ∃ part, LstT (upd H4 Dl (.lst (acc ++ [y]))) Dl part ∧ part.length ≤ m + 1 ∧ ∀ r ∈ part, TkRow c.per g (i + 1) r) := by
              intro H8 x8 hlast
              have T8 := x8.ok T7
              refine ⟨_, rfl, _, rfl, nil_i ⟨by show 1 ≤ sizeLine; decide, fun q hq => ?_⟩⟩
              have x9 : Ext T H8 (upd H8 q (.tup (([t] : List Int).map V.int))) := Ext.new T8 hq _
              have y9 : (upd H8 q (.tup (([t] : List Int).map V.int))) q = some (.tup (([t] : List Int).map V.int)) := upd_same
              show rCatA K _ _ (upd H8 q (.tup (([t] : List Int).map V.int))) _
              generalize upd H8 q (.tup (([t] : List Int).map V.int)) = H9 at x9 y9
              have T9 := x9.ok T8
              have more := rok.more ⟨htt.1, htt.2.1, htt.2.2⟩ hlast
              have x79 := x8.trans x9
              have p9 := p7.ext T7 x79
              have fin : ∀ (p : Addr) (H10 : Hp), Ext T H9 H10 → H10 p = some (.tup ((r ++ [t]).map V.int)) → ∃ acc, H10 Dl = some (.lst acc) ∧ acc.length < sizeLine ∧ (Ext T H6 (upd H10 Dl (.lst (acc ++ [.ref p]))) ∧ ∃ part, LstT (upd H10 Dl (.lst (acc ++ [.ref p]))) Dl part ∧ part.length ≤ m + 1 ∧ ∀ r ∈ part, TkRow c.per g (i + 1) r) := by
                intro p H10 x10 hp
                obtain ⟨as, a1, a2⟩ := p9.ext T9 x10
                refine ⟨_, a1, small_line (by rw [List.length_map, a2.length]; omega), (x7.trans (x79.trans x10)).put T6 hD _, part ++ [r ++ [t]], lst_snoc a1 a2 (fun z => by rw [z, a1] at hp; cases hp) hp, by rw [List.length_append, List.length_singleton]; omega, fun r' hr' => ?_⟩
                rcases List.mem_append.mp hr' with q | q
                · exact r7 r' q
                · rw [List.mem_singleton.mp q]; exact more
              have tr9 : H9 ra = some (.tup (r.map V.int)) := x79.tup T7 tr7
              refine ⟨ra, q, _, _, rfl, rfl, SqT.of tr9, SqT.of y9, by rw [List.length_map, rok.1, List.length_map, sizeLine_eq]; show i + 1 ≤ _; omega, fun hx => ?_, (fun _ hy => by cases hy), fun hx _ p hp => ?_⟩
              · have hx := List.map_eq_nil_iff.mp hx
                refine fin q H9 (Ext.refl T H9) ?_
                rw [hx]; exact y9
              · rw [← List.map_append]
                exact fin p _ (Ext.new T9 hp _) upd_same
            refine ⟨rfl, _, rfl, ⟨Nat.zero_le _, fun q hq => ⟨.tuple (r.map .int), .tuple [], .tup (SqT.of (put_obj tr7 hq)) (dpAll_ints r), .tup (SqT.of upd_same) .nil, shaped_tup r, rfl, _, rfl, ?_⟩⟩⟩
            have x8 : Ext T H7 (upd H7 q (.tup [])) := Ext.new T7 hq _
            have tr8 : (upd H7 q (.tup [])) ra = some (.tup (r.map V.int)) := put_obj tr7 hq
            generalize upd H7 q (.tup []) = H8 at x8 tr8
            cases hr0 : r with
            | nil => exact iteT (iteT (take_ H8 x8 (fun x z => by rw [hr0] at z; cases z)))
            | cons r0 rr =>
              obtain ⟨x, hx⟩ : ∃ x, r.getLast? = some x := by
                rw [hr0]
                exact ⟨_, List.getLast?_cons⟩
              refine iteF ⟨_, rfl, _, rfl, _, rfl, ra, _, (-1), _, rfl, rfl, SqT.of tr8, atI_lastT hx, _, _, rfl, rfl, _, rfl, ite2 (fun cc => ?_) (fun cc => ?_)⟩
              · have cc := of_decide_eq_true cc
                exact take_ H8 x8 fun x' z => by rw [hx] at z; obtain rfl := Option.some.inj z; exact cc
              · exact ⟨x7.trans x8, part, p7.ext T7 x8, by omega, r7⟩
          · rintro H7 ⟨x7, part, p7, q7, r7⟩
            rw [List.length_map] at q7
            have T7 := x7.ok T6
            obtain ⟨las, b1, b2⟩ := l6.ext T6 x7
            obtain ⟨pas, c1, c2⟩ := p7
            refine ⟨lo, Dl, _, _, rfl, rfl, b1, c1, by rw [List.length_map, List.length_map, b2.length, c2.length, sizeLine_eq]; omega, fun q hq => ⟨_, q, out ++ part, rfl, x6.trans (x7.trans (Ext.new T7 hq _)), (x5.trans (x6.trans x7)).free hT hq, ⟨las ++ pas, by rw [upd_same, List.map_append], pair_app (Paired.mapP b2 fun b r z => put_obj z hq) (Paired.mapP c2 fun b r z => put_obj z hq)⟩, by rw [List.length_append]; omega, fun r' hr' => ?_⟩⟩
            rcases List.mem_append.mp hr' with q | q
            · exact r6 r' q
            · exact r7 r' q
        · rintro σ H6 ⟨v7, lo, out, rfl, x6, lo0, l6, z6, r6⟩
          rw [List.length_map, ra2.length] at z6
          have T5 := x5.ok hT
          refine ⟨_, rfl, _, _, _, lo, out, rfl, x5.trans x6, x6.lst T5 d5, lo0, l6, ?_, r6⟩
          rw [Nat.pow_succ]
          omega
      · rintro σ H4 ⟨v5, v6, v7, rl, rows, rfl, x4, d4, rl0, l4, z4, r4⟩
        refine ⟨_, rfl, k H4 rl rows x4 rl0 l4 ?_ r4⟩
        have : (14 : Nat) ^ e.toNat ≤ 14 ^ 2 := Nat.pow_le_pow_right (by decide) (by omega)
        have h2 : (14 : Nat) ^ 2 = 196 := by decide
        omega
end
end CW

/-! text * int; t[::-1] of a tuple; a text + e.replace of written texts. -/
namespace CW
open PySem PySem.Spec PyProof.Rows L2
/-! ### text * int -/
def rMulS : R2 := fun x y H Q => ∃ (a : Str) (n : Int), x = .str a ∧ y = .int n ∧ a.length ≤ 1000 ∧ 0 ≤ n ∧ n ≤ 1000 ∧ Q (.str (Txt.mul a n)) H
theorem mulOk_small {a : Str} {n : Int} (ha : a.length ≤ 1000) (h0 : 0 ≤ n) (h1 : n ≤ 1000) : MulOk a n := by
  refine ⟨by rw [Bool.or_eq_false_iff]; exact ⟨decide_eq_false (by omega), decide_eq_false (by omega)⟩, fun h _ q => ?_, fun h _ => ?_⟩
  · have h2 : 9223372036854775 ≤ (2 ^ 63 - 1) / n := by
      refine (Int.le_ediv_iff_mul_le (by omega)).mpr ?_
      have : 9223372036854775 * n ≤ 9223372036854775 * 1000 := Int.mul_le_mul_of_nonneg_left h1 (by decide)
      omega
    omega
  · show Builtin.Str.tooLong _ = false
    unfold Builtin.Str.tooLong
    refine decide_eq_false ?_
    have h2 : a.length * n.toNat ≤ 1000 * 1000 := Nat.mul_le_mul ha (by omega)
    have h3 : 1000 * 1000 ≤ sizeLine := by decide
    omega
section
variable {X : Cx}
theorem op_mulS : OpR X (binaryOp .Mult) rMulS := by
  intro pins s σ H x y v u Q I rx ry h
  obtain ⟨a, n, rfl, rfl, h1, h2, h3, q⟩ := h
  obtain ⟨t, rfl⟩ := rx
  obtain ⟨t', rfl⟩ := ry
  exact PySem.SB.mul (mulOk_small h1 h2 h3) fun t2 k => ⟨.str (Txt.mul a n), H, I.tok _, ⟨_, rfl⟩, q⟩
/-! ### a text + e.replace -/
theorem pe_catR {a : Str} {j : Nat} {c0 pos : Pos} {op : Operator} {f : Expr} {tf : TE} {r : R2} (ho : OpR X (binaryOp op) r) (hf : L2.PET X f tf) : PE X (.BinOp (.Constant (.str a) j c0) op f pos) (tOp r (tC (.str a)) tf) := by
  refine ⟨fun pins s σ H Q I h => ?_⟩
  refine wpAny_BinOp (Calls.Constant_str ?_)
  exact thn (hf pins { s with toks := s.toks + 1 } σ H _ (by show 1 ≤ s.toks + 1; omega) (I.tok _) h) fun u s2 ⟨y, H2, I2, r2, q2⟩ => ho pins s2 σ H2 (.str a) y _ u Q I2 ⟨_, rfl⟩ r2 q2
end
/-! ### t[::-1] -/
section
variable {prog : Program} {w : World} {A : Around} {E : Value → Shared → Prop} {s : Shared}
theorem sliceApplied_rev {sl : Addr} {vl vu vs : Value} {n : Nat} {Q : Int × Int × Nat → Shared → Prop} (hs : s.heap.IsSliceOf sl vl vu vs) (pl : IsPart vl none) (pu : IsPart vu none) (ps : IsPart vs (some (-1)))
    (h : Q ((n : Int) - 1, -1, n) s) : wpAny (model prog w) A (Builtin.Slice.sliceApplied (.ref sl) (pure (n : Int))) Q E s := by
  obtain ⟨os, hos, hcs, hds⟩ := id hs
  unfold Builtin.Slice.sliceApplied Builtin.Slice.sliceFields
  refine wpAny_bind (wpAny_bind (wpAny_field hos hds (x := vl) rfl (wpAny_bind (wpAny_field hos hds (x := vu) rfl (wpAny_bind (wpAny_field hos hds (x := vs) rfl (wpAny_pure ?_)))))))
  refine wpAny_bind (HT.slicePart_ ps ?_)
  show wpAny _ _ (if ((-1 : Int) == 0) = true then _ else _) _ _ s
  rw [if_neg (by decide)]
  refine wpAny_bind (HT.slicePart_ pl (wpAny_bind (HT.slicePart_ pu (wpAny_bind (wpAny_pure ?_)))))
  show wpAny _ _ (pure ((n : Int) - 1, (-1 : Int), Builtin.Slice.slicePlaces ((n : Int) - 1) (-1) (-1))) _ _ s
  have e : Builtin.Slice.slicePlaces ((n : Int) - 1) (-1) (-1) = n := by
    unfold Builtin.Slice.slicePlaces
    rw [if_neg (by decide)]
    by_cases q : n = 0
    · subst q; rfl
    · rw [if_pos (by omega), show ((n : Int) - 1 - -1 - 1) / (- -1) + 1 = n by rw [show (- -1 : Int) = 1 by decide, Int.ediv_one]; omega, Int.toNat_natCast]
  rw [e]
  exact wpAny_pure h
theorem pick_rev (xs : Array Value) : ((List.range xs.size).filterMap fun (k : Nat) => xs[(((xs.size : Nat) : Int) - 1 + (k : Int) * -1).toNat]?).toArray = xs.toList.reverse.toArray := by
  have e : (List.range xs.size).filterMap (fun (k : Nat) => xs[(((xs.size : Nat) : Int) - 1 + (k : Int) * -1).toNat]?) = ((List.range xs.size).map fun k => xs.size - 1 - k).filterMap (xs[·]?) := by
    rw [List.filterMap_map]
    have key : ∀ l : List Nat, (∀ k ∈ l, k < xs.size) → l.filterMap (fun (k : Nat) => xs[(((xs.size : Nat) : Int) - 1 + (k : Int) * -1).toNat]?) = l.filterMap ((xs[·]?) ∘ fun k => xs.size - 1 - k) := by
      intro l
      induction l with
      | nil => intro _; rfl
      | cons k l ih =>
        intro h
        have hk := h k (by simp)
        have e0 : xs[(((xs.size : Nat) : Int) - 1 + (k : Int) * -1).toNat]? = ((xs[·]?) ∘ fun k => xs.size - 1 - k) k := by
          show xs[_]? = xs[xs.size - 1 - k]?
          congr 1
          omega
        rw [List.filterMap_cons, List.filterMap_cons, e0, ih fun x hx => h x (by simp [hx])]
    exact key _ fun k hk => List.mem_range.mp hk
  rw [e, PySem.W.krv_range, List.filterMap_reverse, PySem.W.krv_all]
theorem getItem_tuple_rev {t sl : Addr} {items : Array Value} {vl vu vs : Value} {Q : Value → Shared → Prop} (ht : IsTup s.heap t items) (hs : s.heap.IsSliceOf sl vl vu vs) (pl : IsPart vl none) (pu : IsPart vu none) (ps : IsPart vs (some (-1)))
    (h : Q (.ref s.heap.objs.size) { s with heap := s.heap.push { cls := .type "tuple", data := .seq items.toList.reverse.toArray } }) (hsz : items.size ≤ sizeLine) : wpAny (model prog w) A (getItem (.ref t) (.ref sl)) Q E s := by
  have htake : sizeOk (.seq items.toList.reverse.toArray) := by
    show items.toList.reverse.toArray.size ≤ sizeLine
    rw [List.size_toArray, List.length_reverse, Array.length_toList]
    exact hsz
  obtain ⟨os, hos, hcs, hds⟩ := id hs
  have hTs : s.TypeIs (.ref sl) "slice" := ⟨os, hos, hcs⟩
  unfold getItem
  try with_reducible refine wpAny_holding ?_
  first | refine wpAny_bind (wpAny_pure ?_) | skip
  refine wpAny_bind (wpAny_sequenceKey ht.typeIs (by decide) ?_)
  refine wpAny_bind (wpAny_callSpecial?_slot (name := Str.ofString "__getitem__") ht.typeIs PyProof.Rows.slot_tuple_getitem
    (wpAny_call_entry PyProof.Rows.slot_tuple_getitem ht.typeIs entry_tuple_getitem ?_ (args_tuple_getitem _ _)))
  show wpAny _ _ (Builtin.Tuple.tupleItemsOf (.ref t) >>= _) _ _ s
  refine wpAny_bind (tupleItemsOf_ ht ?_)
  refine wpAny_bind (wpAny_typeOf hTs ?_)
  rw [if_pos (by decide)]
  refine wpAny_bind (sliceApplied_rev hs pl pu ps ?_)
  show wpAny _ _ (if ((((items.size : Nat) : Int) - 1) == 0 && (-1 : Int) == 1 && items.size == items.size) = true then _ else _) _ _ s
  have hno : ¬ ((((items.size : Nat) : Int) - 1) == 0 && (-1 : Int) == 1 && items.size == items.size) = true := by
    rw [show ((-1 : Int) == 1) = false by decide, Bool.and_false, Bool.false_and]
    exact Bool.false_ne_true
  rw [if_neg hno, pick_rev]
  first
    | exact wpAny_bind (m := Builtin.Tuple.tupleExact _) (wpAny_newObj_type (wpAny_pure ⟨_, rfl, wpAny_pure h⟩) htake)
    | exact wpAny_bind (m := Builtin.Tuple.tupleExact _) (wpAny_newObj_type (wpAny_bind (wpAny_pure (wpAny_pure ⟨_, rfl, wpAny_pure h⟩))) htake)
end
section
variable {X : Cx}
def tRevT (K : PySem.W.Frag) (te : TE) : TE := fun σ H Q => te σ H fun x H1 => ∃ a xs, x = .ref a ∧ SqT K H1 a xs ∧ ∀ p, H1 p = none → Q (.ref p) (upd H1 p (.tup xs.reverse))
theorem pe_revT {e : Expr} {te : TE} {k : Nat} {p1 p2 p3 pos : Pos} (he : PE X e te) : PE X (.Subscript e (.Slice none none (some (.UnaryOp .USub (.Constant (.int 1) k p1) p2)) p3) pos) (tRevT X.K te) := by
  refine ⟨fun pins s σ H Q I h => ?_⟩
  refine Subscript_ (thn (he.run pins s σ H _ I h) fun v s1 ⟨x, H1, I1, r1, q1⟩ => ?_)
  obtain ⟨a, xs, ex, hx, q⟩ := q1
  subst ex
  cases r1
  have hst : PO X (some (.UnaryOp .USub (.Constant (.int 1) k p1) p2)) (tPart (tUn (rU fun i => .int (-i)) (tC (.int 1)))) := po_some (pe_un un_neg pe_int)
  refine wpAny_Slice (thn (po_none.run pins s1 σ H1 (fun o H2 => o = none ∧ H2 = H1) I1 ⟨rfl, rfl⟩) fun vl s2 ⟨l, H2, I2, pl, el, e2⟩ => ?_)
  subst el e2
  refine thn (po_none.run pins s2 σ H2 (fun o H3 => o = none ∧ H3 = H2) I2 ⟨rfl, rfl⟩) fun vu s3 ⟨u, H3, I3, pu, eu, e3⟩ => ?_
  subst eu e3
  refine thn (hst.run pins s3 σ H3 (fun o H4 => o = some (-1) ∧ H4 = H3) I3 ⟨1, rfl, -1, rfl, rfl, rfl⟩) fun vs s4 ⟨o, H4, I4, ps, eo, e4⟩ => ?_
  subst eo e4
  have I5 : Inv X pins σ H4 { s4 with heap := s4.heap.push { cls := .type "slice", data := .fields #[vl, vu, vs] } } := I4.kept (t' := s4.toks) fun b ob q => Heap.get?_push_of_some _ q
  obtain ⟨its, r, ht, hz⟩ := I5.tuple hx
  have hlen := r.length
  show wpAny (model X.prog X.w) X.A (subscriptTail e (.Slice none none (some (.UnaryOp .USub (.Constant (.int 1) k p1) p2)) p3) (.ref a) (.ref s4.heap.objs.size)) (EP X pins σ Q) X.xe { s4 with heap := s4.heap.push { cls := .type "slice", data := .fields #[vl, vu, vs] } }
  refine tail_any (ops := [.ref a, .ref s4.heap.objs.size]) ht.typeIs PyProof.Rows.slot_tuple_getitem.lookup ?_ (by with_unfolding_all rfl)
  refine getItem_tuple_rev ht (Heap.IsSliceOf.new _ vl vu vs) pl pu ps ?_ (by rw [List.size_toArray, ← hlen]; exact hz)
  refine ⟨.ref _, _, I5.laid (t' := s4.toks) (o := .tup xs.reverse) (fun b ob q => Heap.get?_push_of_some _ q) (Nat.le_refl _) ?_, rfl, q _ (I5.hok.fresh (Nat.le_refl _))⟩
  exact ⟨by rw [List.length_reverse]; exact hz, _, r.reverse, IsTup.new _ _⟩
end
end CW

/-! The law itself: what stands at each place of it. -/
namespace CW
open PySem PySem.Spec PyProof.Rows L2 GA TL LamX
/-- what the law keeps: the tables, its row, the table of its lambdas -/
structure LB (K : PySem.W.Frag) (T : List Addr) (Pl : Addr) (ql : Str) (rw sc : Addr) (ns : List Int) (H : Hp) : Prop where
  t : TOk T H
  r : LRow K H rw sc ns
  tb : Tabs [(Pl, ql)] H
structure LW (K : PySem.W.Frag) (T : List Addr) (Pl : Addr) (ql : Str) (rw sc : Addr) (ns : List Int) (H0 H : Hp) : Prop where
  e : ExtS T [rw, Pl] H0 H
  b : LB K T Pl ql rw sc ns H
section
variable {K : PySem.W.Frag} {T : List Addr} {Pl rw sc p a : Addr} {ql : Str} {ns : List Int} {H H0 H1 : Hp} {o u : HO}
theorem LB.pl (b : LB K T Pl ql rw sc ns H) : ∃ ps, H Pl = some (.tbl ps) := by
  obtain ⟨ps, h, _⟩ := b.tb (Pl, ql) (by simp)
  exact ⟨ps, h⟩
theorem LB.neP (b : LB K T Pl ql rw sc ns H) (h : H p = some o) (n : ∀ ps, o ≠ .tbl ps) : p ≠ Pl := fun z => by
  obtain ⟨ps, q⟩ := b.pl
  rw [← z, h] at q
  exact n ps (Option.some.inj q)
theorem LB.tbl (b : LB K T Pl ql rw sc ns H) (hs : ∀ c o, H c = some o → (∀ ps, o ≠ .tbl ps) → H1 c = some o) (hp : H1 Pl = H Pl) : Tabs [(Pl, ql)] H1 := by
  intro q hq
  rw [List.mem_singleton.mp hq]
  obtain ⟨ps, h1, h2, h3⟩ := b.tb (Pl, ql) (by simp)
  refine ⟨ps, by rw [hp]; exact h1, h2, fun pos cv hc => ?_⟩
  obtain ⟨c, e1, e2⟩ := h3 pos cv hc
  exact ⟨c, e1, hs _ _ e2 codeO_ne⟩
theorem codeO_lst {c : Addr} {q : Str} {xs : List V} (z : CodeO c q = .lst xs) : False := by
  unfold CodeO at z
  cases z
theorem LW.refl (b : LB K T Pl ql rw sc ns H) : LW K T Pl ql rw sc ns H H := ⟨⟨fun _ _ h _ _ => h, fun _ _ h => h⟩, b⟩
theorem LW.free (w : LW K T Pl ql rw sc ns H0 H) (t : TOk T H0) (h : H p = none) : H0 p = none := by
  by_cases hp : p ∈ T
  · obtain ⟨ps, z, _⟩ := w.e.tab p hp (t p hp)
    rw [h] at z; cases z
  · by_cases hr : p = rw
    · obtain ⟨xs, z⟩ := w.b.r.at_
      rw [← hr, h] at z; cases z
    · by_cases hl : p = Pl
      · obtain ⟨ps, z⟩ := w.b.pl
        rw [← hl, h] at z; cases z
      · cases q : H0 p with
        | none => rfl
        | some o =>
          rw [w.e.keep p o q hp (by simp [hr, hl])] at h
          cases h
theorem LW.trans {H2 : Hp} (w : LW K T Pl ql rw sc ns H0 H) (v : LW K T Pl ql rw sc ns H H2) : LW K T Pl ql rw sc ns H0 H2 := ⟨w.e.trans v.e, v.b⟩
/-- a call that keeps all but the tables -/
theorem LW.ext (w : LW K T Pl ql rw sc ns H0 H) (nP : Pl ∉ T) (e : Ext T H H1) : LW K T Pl ql rw sc ns H0 H1 := by
  refine ⟨w.e.trans (e.toS _), e.ok w.b.t, ?_, w.b.tbl (fun c o h n => e.keep c o h (w.b.t.out h n)) ?_⟩
  · obtain ⟨i, m, z, hr, h1, h2, h3, hs, h5⟩ := w.b.r
    exact ⟨i, m, z, e.lst w.b.t hr, h1, h2, h3, SqL.extO hs w.b.t (e.toS [rw]) h5, h5⟩
  · obtain ⟨ps, q⟩ := w.b.pl
    rw [q, e.keep Pl _ q nP]
/-- a draw -/
theorem LW.draw (w : LW K T Pl ql rw sc ns H0 H) (nP : Pl ∉ T) (e : ExtS T [rw] H H1) (r : LRow K H1 rw sc ns) : LW K T Pl ql rw sc ns H0 H1 := by
  have nrP : Pl ≠ rw := fun z => by
    obtain ⟨xs, q⟩ := w.b.r.at_
    obtain ⟨ps, q2⟩ := w.b.pl
    rw [z, q] at q2; cases q2
  refine ⟨w.e.trans ⟨fun b o h n m => e.keep b o h n (by simp at m; simpa using m.1), e.tab⟩, e.ok w.b.t, r, ?_⟩
  intro q hq
  rw [List.mem_singleton.mp hq]
  obtain ⟨ps, h1, h2, h3⟩ := w.b.tb (Pl, ql) (by simp)
  refine ⟨ps, e.keep Pl _ h1 nP (by simpa using nrP), h2, fun pos cv hc => ?_⟩
  obtain ⟨c, e1, e2⟩ := h3 pos cv hc
  refine ⟨c, e1, e.keep _ _ e2 (w.b.t.out e2 codeO_ne) ?_⟩
  rw [List.mem_singleton]
  intro z
  obtain ⟨xs, q⟩ := w.b.r.at_
  rw [← z, e2] at q
  exact codeO_lst (Option.some.inj q)
theorem LW.drawS (w : LW K T Pl ql rw sc ns H0 H) (nP : Pl ∉ T) (s : LS K T H rw sc ns H1) : LW K T Pl ql rw sc ns H0 H1 := w.draw nP s.e s.r
/-- a lambda is made -/
theorem LW.lam (w : LW K T Pl ql rw sc ns H0 H) (nP : Pl ∉ T) (nS : Off K [Pl] sc (ns.map V.int)) (e : LD.ExtP Pl H H1) (tb : Tabs [(Pl, ql)] H1) : LW K T Pl ql rw sc ns H0 H1 := by
  have es : ExtS T [rw, Pl] H H1 := ⟨fun b o h _ m => e b o h (by simp at m; exact m.2), fun P hP q => by
    obtain ⟨ps, z1, z2⟩ := q
    exact ⟨ps, e P _ z1 (fun z => nP (by rw [← z]; exact hP)), z2⟩⟩
  refine ⟨w.e.trans es, es.ok w.b.t, ?_, tb⟩
  obtain ⟨i, m, z, hr, h1, h2, h3, hs, h5⟩ := w.b.r
  refine ⟨i, m, z, e rw _ hr (w.b.neP hr fun _ z => nomatch z), h1, h2, h3, SqL.extO hs w.b.t es (h5.app nS), h5⟩
/-- an object new to H0 is laid or changed -/
theorem LW.put (w : LW K T Pl ql rw sc ns H0 H) (b0 : LB K T Pl ql rw sc ns H0) (nS : Off K [Pl] sc (ns.map V.int)) (h : H0 p = none) (hc : ∀ c q, H p ≠ some (CodeO c q)) (u : HO) : LW K T Pl ql rw sc ns H0 (upd H p u) := by
  have e := w.e.put b0.t h u
  have np : Pl ≠ p := fun z => by
    obtain ⟨ps, q⟩ := b0.pl
    rw [z, h] at q; cases q
  refine ⟨e, e.ok b0.t, ?_, ?_⟩
  · obtain ⟨i, m, z, hr, h1, h2, h3, _, h5⟩ := w.b.r
    obtain ⟨_, _, _, _, _, _, _, hs, _⟩ := id b0.r
    exact ⟨i, m, z, by rw [upd_ne (b0.r.ne h).symm]; exact hr, h1, h2, h3, SqL.extO hs b0.t e (h5.app nS), h5⟩
  · intro q hq
    rw [List.mem_singleton.mp hq]
    obtain ⟨ps, h1, h2, h3⟩ := w.b.tb (Pl, ql) (by simp)
    refine ⟨ps, by rw [upd_ne np]; exact h1, h2, fun pos cv hcv => ?_⟩
    obtain ⟨c, e1, e2⟩ := h3 pos cv hcv
    exact ⟨c, e1, by rw [upd_ne (fun z => hc c ql (by rw [← z]; exact e2))]; exact e2⟩
theorem LW.new (w : LW K T Pl ql rw sc ns H0 H) (b0 : LB K T Pl ql rw sc ns H0) (nS : Off K [Pl] sc (ns.map V.int)) (h : H p = none) (u : HO) : LW K T Pl ql rw sc ns H0 (upd H p u) :=
  w.put b0 nS (w.free b0.t h) (fun c q z => by rw [h] at z; cases z) u
theorem LW.putL {xs : List V} (w : LW K T Pl ql rw sc ns H0 H) (b0 : LB K T Pl ql rw sc ns H0) (nS : Off K [Pl] sc (ns.map V.int)) (h : H0 p = none) (hx : H p = some (.lst xs)) (u : HO) : LW K T Pl ql rw sc ns H0 (upd H p u) :=
  w.put b0 nS h (fun c q z => by rw [hx] at z; exact codeO_lst (Option.some.inj z).symm) u
theorem LW.obj (w : LW K T Pl ql rw sc ns H0 H) (b0 : LB K T Pl ql rw sc ns H0) (h : H0 a = some o) (n : ∀ ps, o ≠ .tbl ps) (ne : a ≠ rw) : H a = some o := w.e.keep a o h (b0.t.out h n) (by
  have := b0.neP h n
  simp [ne, this])
theorem LW.tup {xs : List V} (w : LW K T Pl ql rw sc ns H0 H) (b0 : LB K T Pl ql rw sc ns H0) (h : H0 a = some (.tup xs)) : H a = some (.tup xs) := w.obj b0 h (fun _ z => nomatch z) (fun z => by
  obtain ⟨ys, q⟩ := b0.r.at_
  rw [← z, h] at q; cases q)
theorem LW.lst {xs : List V} (w : LW K T Pl ql rw sc ns H0 H) (b0 : LB K T Pl ql rw sc ns H0) (h : H0 a = some (.lst xs)) (ne : a ≠ rw) : H a = some (.lst xs) := w.obj b0 h (fun _ z => nomatch z) ne
theorem LW.tupI {r : List Int} (w : LW K T Pl ql rw sc ns H0 H) (b0 : LB K T Pl ql rw sc ns H0) (h : TupI H0 a r) : TupI H a r := w.tup b0 h
theorem LW.tupT {rows : List (List Int)} (w : LW K T Pl ql rw sc ns H0 H) (b0 : LB K T Pl ql rw sc ns H0) (h : TupT H0 a rows) : TupT H a rows := by
  obtain ⟨as, h1, h2⟩ := h
  exact ⟨as, w.tup b0 h1, Paired.mapP h2 fun b r z => w.tupI b0 z⟩
theorem LW.lstT {rows : List (List Int)} (w : LW K T Pl ql rw sc ns H0 H) (b0 : LB K T Pl ql rw sc ns H0) (h : LstT H0 a rows) (ne : a ≠ rw) : LstT H a rows := by
  obtain ⟨as, h1, h2⟩ := h
  exact ⟨as, w.lst b0 h1 ne, Paired.mapP h2 fun b r z => w.tupI b0 z⟩
theorem LW.clk {c : Clk} (w : LW K T Pl ql rw sc ns H0 H) (b0 : LB K T Pl ql rw sc ns H0) (h : ClkAt H0 a c) : ClkAt H a c := by
  obtain ⟨e, tt, g, b, h1, h2, h3, h4, h5⟩ := h
  exact ⟨e, tt, g, b, w.tup b0 h1, w.tupI b0 h2, w.tupT b0 h3, w.tupT b0 h4, w.tupT b0 h5⟩
end
/-! ### parts of a body -/
/-- a part of a body: what holds behind it; ret: what holds where it returns -/
def Seg (X : Cx) (seg : List Stmt) (Pre Post : L2.St → Hp → Prop) (R : VK) : Prop :=
  ∃ F : TS → TS, (∀ rest u, PSs X rest u → PSs X (seg ++ rest) (F u)) ∧ ∀ u D σ H, Pre σ H → (∀ σ' H', Post σ' H' → u D σ' H') → (∀ v H', R v H' → D.rt v H') → F u D σ H
theorem Seg.trans {X : Cx} {a b : List Stmt} {P M Q : L2.St → Hp → Prop} {R : VK} (h : Seg X a P M R) (g : Seg X b M Q R) : Seg X (a ++ b) P Q R := by
  obtain ⟨F, f1, f2⟩ := h
  obtain ⟨G, g1, g2⟩ := g
  refine ⟨fun u => F (G u), fun rest u hu => ?_, fun u D σ H hp hq hr => f2 (G u) D σ H hp (fun σ' H' m => g2 u D σ' H' m hq hr) hr⟩
  rw [List.append_assoc]
  exact f1 _ _ (g1 _ _ hu)
theorem Seg.end_ {X : Cx} {a : List Stmt} {P Q : L2.St → Hp → Prop} {R : VK} (h : Seg X a P Q R) (hq : ∀ σ H, ¬ Q σ H) : ∃ t, PSs X a t ∧ ∀ D σ H, P σ H → (∀ v H', R v H' → D.rt v H') → t D σ H := by
  obtain ⟨F, f1, f2⟩ := h
  have := f1 [] tNext pss_nil
  rw [List.append_nil] at this
  exact ⟨F tNext, this, fun D σ H hp hr => f2 tNext D σ H hp (fun σ' H' q => absurd q (hq σ' H')) hr⟩
theorem Seg.pre {X : Cx} {a : List Stmt} {P P' Q : L2.St → Hp → Prop} {R : VK} (h : Seg X a P Q R) (hp : ∀ σ H, P' σ H → P σ H) : Seg X a P' Q R := by
  obtain ⟨F, f1, f2⟩ := h
  exact ⟨F, f1, fun u D σ H p q r => f2 u D σ H (hp σ H p) q r⟩
abbrev nLaw : List Str := ["_law_script", "_law_row", "_law_clock_here", "_law_text", "_law_loose", "_law_rows_here", "_law_line", "_law_at", "_law_words", "_law_place", "_law_bent", "_law_told", "_law_cases", "_law_case", "_law_due", "_law_some", "_law_plan", "_law_wheel", "_law_ticks", "_law_lines", "_law_one", "_law_tick"]
theorem scLaw : FnScope nLaw ["_law_script"] (defScope sLaw) := ⟨rfl, rfl, rfl, by decide +kernel, rfl, by decide +kernel, by decide +kernel⟩
def lawPart (i n : Nat) : List Stmt := ((defBody sLaw).drop i).take n
end CW

namespace CW
open PySem PySem.Spec PyProof.Rows L2 GA TL LamX
/-- what the law calls -/
structure LF (P : Program) (w : World) (K : PySem.W.Frag) (mg : Str → Option Value) (base : Heap) (T : List Addr) (CL CS : Addr) : Prop where
  B : Bl mg
  CC : Cal P w K mg base CX0 2 "_law_clock" ["_law_row"] (spClock K T)
  CT : Cal P w K mg base CX0 1 "_law_taken" ["_law_row", "_law_many"] (spTaken K T)
  CP : Cal P w K mg base CX0 2 "_law_pick" ["_law_row", "_law_things"] (spPick K T)
  CA : ∀ n, Cal P w K mg base CX0 n "_law_alike" ["_law_found", "_law_due"] (spAlike T n)
  CR : Cal P w K mg base CX0 1 "_law_rows" ["_law_clock_here", "_law_wheel", "_law_before"] (spRows T)
  WC : Cal P w K mg base CX0 6 "write_clock" ["clock"] (spWriteC T)
  WP : Cal P w K mg base CX0 6 "write_plan" ["clock", "plan"] (spWriteP T)
  RC : Cal P w K mg base (L2.CX P w) 6 "read_clock" ["text"] (spReadC T CL CS)
  RP : Cal P w K mg base (L2.CX P w) 6 "read_plan" ["clock", "text"] (spReadP T CL)
abbrev lawX (P : Program) (w : World) (K : PySem.W.Frag) (mg : Str → Option Value) (base : Heap) (f c : Addr) (A : Around) (outer : List Env) (s : Shared) (H : Hp) (E : XK) : Cx := cxOf (L2.CX P w) P w K mg base nLaw "law" (defScope sLaw) f (.ref c) A outer s H E
/-- the law's slots -/
def lawSt (vs : List V) : L2.St := vs.map some ++ List.replicate (22 - vs.length) none
def lawRet : VK := fun v _ => v = .bl true
section
variable {P : Program} {w : World} {K : PySem.W.Frag} {mg : Str → Option Value} {base : Heap} {T : List Addr} {CL CS Pl sc f c : Addr} {ql : Str} {ns : List Int} {A : Around} {outer : List Env} {s : Shared} {H0 : Hp} {E : XK}
def S2 (K : PySem.W.Frag) (T : List Addr) (Pl : Addr) (ql : Str) (sc : Addr) (ns : List Int) : L2.St → Hp → Prop := fun σ H => ∃ (rw cl : Addr) (c : Clk), σ = lawSt [.ref sc, .ref rw, .ref cl] ∧ LB K T Pl ql rw sc ns H ∧ ClkAt H cl c ∧ Drawn' c
theorem seg0 (L : LF P w K mg base T CL CS) (hr : Room 8 (lawX P w K mg base f c A outer s H0 E).A) (nP : Pl ∉ T) (nS : Off K [Pl] sc (ns.map V.int)) :
    Seg (lawX P w K mg base f c A outer s H0 E) (lawPart 0 2) (fun σ H => σ = lawSt [.ref sc] ∧ SqL K H sc (ns.map V.int) ∧ TOk T H ∧ Tabs [(Pl, ql)] H) (S2 K T Pl ql sc ns) lawRet := by
  refine ⟨_, fun rest u hu => pss_cons (ps_set (i := 1) scLaw.nd rfl (Or.inr rfl) (pe_lst (pa_cons (pv 0) (pa_cons pe_int (pa_cons pe_int (pa_cons pe_int pa_nil))))))
    (pss_cons (ps_set (i := 2) scLaw.nd rfl (Or.inr rfl) (pe_cal L.CC (hr.mono (by decide)) rfl pass0 (pa_cons (pv 1) pa_nil))) hu), ?_⟩
  rintro u D σ H ⟨rfl, hs, hT, hB⟩ hn _
  refine ⟨_, rfl, ⟨by show 4 ≤ sizeLine; decide, fun p hp => ?_⟩⟩
  have e1 : Ext T H (upd H p (.lst [.ref sc, .int 0, .int 7365, .int 0])) := Ext.new hT hp _
  have hr1 : LRow K (upd H p (.lst [.ref sc, .int 0, .int 7365, .int 0])) p sc ns := ⟨0, 7365, 0, upd_same, by decide, by decide, by decide, SqL.extO hs hT (e1.toS [p]) (Off.new hs hp), Off.new hs hp⟩
  have b1 : Tabs [(Pl, ql)] (upd H p (.lst [.ref sc, .int 0, .int 7365, .int 0])) := hB.ext fun b o e => by rw [upd_ne (ne_of_none e hp)]; exact e
  have lb : LB K T Pl ql p sc ns (upd H p (.lst [.ref sc, .int 0, .int 7365, .int 0])) := ⟨e1.ok hT, hr1, b1⟩
  generalize upd H p (.lst [.ref sc, .int 0, .int 7365, .int 0]) = H1 at lb
  refine ⟨_, rfl, p, sc, ns, rfl, lb.r, lb.t, fun H2 a c hs2 ck dr => ?_⟩
  exact hn _ _ ⟨p, a, c, rfl, ((LW.refl lb).drawS nP hs2).b, ck, dr⟩
theorem lawPass : Passes (L2.CX P w) (lawX P w K mg base f c A outer s H0 E) E := passes_call (takes_of rfl rfl rfl rfl) (fun _ _ _ _ h => h)
def S5 (K : PySem.W.Frag) (T : List Addr) (Pl : Addr) (ql : Str) (sc : Addr) (ns : List Int) : L2.St → Hp → Prop := fun σ H => ∃ (rw cl lo ro : Addr) (c : Clk), σ = lawSt [.ref sc, .ref rw, .ref cl, .str (clkText c), .ref lo, .ref ro] ∧ LB K T Pl ql rw sc ns H ∧ ClkAt H cl c ∧ Drawn' c ∧
  H lo = some (.lst []) ∧ H ro = some (.lst ((rowsOf c).map V.str)) ∧ lo ≠ rw ∧ ro ≠ rw ∧ lo ≠ ro
theorem clk_alike {H : Hp} {a b : Addr} {c : Clk} (d : Drawn' c) (h1 : ClkAt H a c) (h2 : ClkAt H b c) : Alk H 4 (.ref a) (.ref b) := by
  have ok := d.ok
  refine alk_clk h1 h2 (by have := d.eds; omega) (by have := d.tch; omega) (by have := ok.gaps.1; have := d.eds; omega) (by have := d.book; omega) (fun r hr => ?_) (fun r hr => by have := d.gaps r hr; omega) (fun r hr => ?_)
  · obtain ⟨p, i, j, rfl, _⟩ := ok.tch.1 r hr
    show 3 ≤ 10000; decide
  · obtain ⟨i, j, a, b, _, _, rfl, _⟩ := ok.book.1 r hr
    show 4 ≤ 10000; decide
theorem rows_len (c : Clk) (hg : c.gaps.length = c.eds.length) : (rowsOf c).length = 1 + c.eds.length + c.tch.length + c.book.length := by
  unfold rowsOf
  rw [List.length_append, List.length_append, List.length_cons, List.length_map, List.length_map, List.length_map, List.length_zip, hg, Nat.min_self]
  omega
theorem rows_small {c : Clk} (d : Drawn' c) : (rowsOf c).length ≤ 58 := by
  rw [rows_len c d.ok.gaps.1]
  have := d.eds
  have := d.tch
  have := d.book
  omega
theorem row_len {c : Clk} (d : Drawn' c) : ∀ r ∈ rowsOf c, r.length ≤ 50 := by
  have ok := d.ok
  intro r hr
  unfold rowsOf at hr
  rcases List.mem_append.mp hr with hr | hr
  · rcases List.mem_append.mp hr with hr | hr
    · rcases List.mem_cons.mp hr with rfl | hr
      · rw [len_tl, tl_append, List.length_append, ← len_tl, ← len_tl, show (Str.ofString "period ").length = 7 by decide +kernel]
        have := strI_len (i := c.per) (by have := ok.per.1; omega) (by have := ok.per.2; omega)
        omega
      · obtain ⟨⟨e, g⟩, hp, rfl⟩ := List.mem_map.mp hr
        obtain ⟨h1, h2⟩ := List.of_mem_zip hp
        have he := ok.eds.2.2.1 e h1
        have hl := line_len (hs := [Str.ofString "wheel", strI e]) (small_gap ok.per.2 (ok.gaps.2.1 g h2)) (by show 2 ≤ 2; decide) (fun x hx => by
          rcases List.mem_cons.mp hx with rfl | hx
          · show (Str.ofString "wheel").length ≤ 6; decide +kernel
          · rw [List.mem_singleton.mp hx]; exact strI_len he.1 (by omega))
        have := d.gaps g h2
        show (lineS [Str.ofString "wheel", strI e] g).length ≤ 50
        simp only [List.length_cons, List.length_nil] at hl
        omega
    · obtain ⟨r, hp, rfl⟩ := List.mem_map.mp hr
      have hl := line_len (hs := [Str.ofString "touch"]) (small_tch ok.per.2 ok.eds.2.1 (ok.tch.1 r hp)) (by show 1 ≤ 2; decide) (fun x hx => by rw [List.mem_singleton.mp hx]; decide +kernel)
      obtain ⟨p, i, j, rfl, _⟩ := ok.tch.1 r hp
      simp only [List.length_cons, List.length_nil] at hl
      omega
  · obtain ⟨r, hp, rfl⟩ := List.mem_map.mp hr
    obtain ⟨i, j, a, b, ei, ej, rfl, q1, q2, q3, q4, q5, q6, q7⟩ := ok.book.1 r hp
    have li := lt_of_get q1
    have lj := lt_of_get q2
    have fi := (ok.eds.2.2.1 ei (List.mem_of_getElem? q1)).2
    have fj := (ok.eds.2.2.1 ej (List.mem_of_getElem? q2)).2
    have := ok.eds.2.1
    have hl := line_len (hs := [Str.ofString "need"]) (ns := [(i : Int), a, (j : Int), b]) ⟨by show 4 ≤ 2000; decide, fun n hn => by
      simp only [List.mem_cons, List.not_mem_nil, or_false] at hn
      omega⟩ (by show 1 ≤ 2; decide) (fun x hx => by rw [List.mem_singleton.mp hx]; decide +kernel)
    simp only [List.length_cons, List.length_nil] at hl
    omega
theorem joined_len {ls : List Str} {n m : Nat} (h1 : ls.length ≤ n) (h2 : ∀ l ∈ ls, l.length ≤ m) : (Txt.join (Str.ofString "\n") ls).length ≤ n * (m + 1) := by
  have h3 := join_len (Str.ofString "\n") ls
  have h4 := sum_len h2
  rw [show (Str.ofString "\n").length = 1 by decide +kernel] at h3
  have : ls.length * (m + 1) ≤ n * (m + 1) := Nat.mul_le_mul_right _ h1
  rw [Nat.mul_add] at this
  omega
theorem clkText_len {c : Clk} (d : Drawn' c) : (clkText c).length ≤ 3000 := by
  have := joined_len (rows_small d) (row_len d)
  unfold clkText
  omega
theorem clk_split {c : Clk} (ok : c.Ok) : Txt.split (clkText c) (Str.ofString "\n") = rowsOf c := by
  refine map_tl_inj ?_
  rw [KM.split_nl tl_nl (by decide +kernel), tl_clk ok, cut_join (by simpa using clk_ne c) (fun l hl => by
    obtain ⟨ws, hw, rfl⟩ := List.mem_map.mp hl
    exact join_free (by decide) fun w q => ((clk_linesOk c ws hw).2 w q).2.2), clk_rows ok]
theorem seg1 (L : LF P w K mg base T CL CS) (hr : Room 8 (lawX P w K mg base f c A outer s H0 E).A) (nP : Pl ∉ T) (nS : Off K [Pl] sc (ns.map V.int)) :
    Seg (lawX P w K mg base f c A outer s H0 E) (lawPart 2 3) (S2 K T Pl ql sc ns) (S5 K T Pl ql sc ns) lawRet := by
  refine ⟨_, fun rest u hu => pss_cons (ps_asg (pe_tup (pa_cons (pe_cal L.WC (hr.mono (by decide)) rfl pass0 (pa_cons (pv 2) pa_nil)) (pa_cons (pe_lst pa_nil) pa_nil))) (pg_tup rfl (pgs_cons (pg_name (i := 3) scLaw.nd rfl (Or.inr rfl)) (pgs_cons (pg_name (i := 4) scLaw.nd rfl (Or.inl rfl)) pgs_nil))))
    (pss_cons (ps_set (i := 5) scLaw.nd rfl (Or.inl rfl) (pe_m1 PySem.F.slot_str_split PySem.F.type_str_split mt_split (pv 3) pe_str))
    (pss_cons (ps_if (PW.pt (pw_or (pt_not (pt_val (pe_cal (L.CA 4) (hr.mono (by decide)) rfl pass0 (pa_cons (pe_cal L.RC (hr.mono (by decide)) rfl lawPass (pa_cons (pv 3) pa_nil)) (pa_cons (pv 2) pa_nil)))))
        (pw_or1 (pt_cmpR op_ne (pe_callB call_len (by rfl) L.B.len PySem.boot_len (pa_cons (pv 5) pa_nil)) (pe_op op_add (pe_op op_add (pe_op op_add pe_int (pe_callB call_len (by rfl) L.B.len PySem.boot_len (pa_cons (pe_ix ix_tup (pv 2) pe_int (fun _ _ => rfl)) pa_nil))) (pe_callB call_len (by rfl) L.B.len PySem.boot_len (pa_cons (pe_ix ix_tup (pv 2) pe_int (fun _ _ => rfl)) pa_nil))) (pe_callB call_len (by rfl) L.B.len PySem.boot_len (pa_cons (pe_ix ix_tup (pv 2) pe_int (fun _ _ => rfl)) pa_nil))) (nomark _)))))
      (pss_one (ps_ret pe_bl)) pss_nil) hu)), ?_⟩
  rintro u D σ H ⟨rw, cl, c, rfl, lb, ck, dr⟩ hn _
  have w0 := LW.refl lb
  refine ⟨_, rfl, cl, c, rfl, ck, dr.ok, lb.t, fun H1 e1 => ?_⟩
  have w1 := w0.ext nP e1
  refine ⟨by show 0 ≤ sizeLine; decide, fun lo hlo => ?_⟩
  have w2 := w1.new lb nS hlo (.lst [])
  have lo2 : (upd H1 lo (.lst [])) lo = some (.lst []) := upd_same
  generalize upd H1 lo (.lst []) = H2 at w2 lo2
  refine ⟨by show 2 ≤ sizeLine; decide, fun q hq => ?_⟩
  have w3 := w2.new lb nS hq (.tup [.str (clkText c), .ref lo])
  have q3 : (upd H2 q (.tup [.str (clkText c), .ref lo])) q = some (.tup [.str (clkText c), .ref lo]) := upd_same
  have lo3 : (upd H2 q (.tup [.str (clkText c), .ref lo])) lo = some (.lst []) := put_obj lo2 hq
  generalize upd H2 q (.tup [.str (clkText c), .ref lo]) = H3 at w3 q3 lo3
  refine ⟨q, _, rfl, SqT.of q3, rfl, _, _, rfl, _, _, rfl, rfl, ?_⟩
  have z := clkText_len dr
  have sp := clk_split dr.ok
  refine ⟨_, rfl, ⟨_, rfl⟩, _, _, rfl, rfl, by decide +kernel, (by rw [sizeLine_eq]; omega), fun ro hro => ?_⟩
  rw [show Txt.split (clkText c) "\n" = rowsOf c from sp]
  have w4 := w3.new lb nS hro (.lst ((rowsOf c).map V.str))
  have ro4 : (upd H3 ro (.lst ((rowsOf c).map V.str))) ro = some (.lst ((rowsOf c).map V.str)) := upd_same
  have lo4 : (upd H3 ro (.lst ((rowsOf c).map V.str))) lo = some (.lst []) := put_obj lo3 hro
  have nlr : lo ≠ ro := ne_of_none lo3 hro
  have lo0 := w1.free lb.t hlo
  have ro0 := w3.free lb.t hro
  generalize upd H3 ro (.lst ((rowsOf c).map V.str)) = H4 at w4 ro4 lo4
  have ck4 := w4.clk lb ck
  show tSeq _ _ _ _ H4
  have alike : ∀ H5, Ext T H4 H5 → ∀ a, ClkAt H5 a (clkOf ⟨c.per, c.eds, c.gaps, c.tch, c.book⟩) → Alk H5 4 (.ref a) (.ref cl) := fun H5 e5 a h => clk_alike dr h (ck4.ext w4.b.t e5)
  refine ⟨_, rfl, w4.b.t, .inl ⟨_, rfl, by omega, fun r hrd H5 a e5 ca => ?_, fun l j h => ?_⟩⟩
  · rw [read_own dr.ok] at hrd
    obtain rfl := Except.ok.inj hrd
    refine ⟨_, rfl, _, _, rfl, alike H5 e5 a ca, e5.ok w4.b.t, fun H6 e6 => ?_⟩
    have w6 := (w4.ext nP e5).ext nP e6
    obtain ⟨e, tt, g, b, h1, h2, h3, h4, h5⟩ := w6.clk lb ck
    obtain ⟨as3, h3, p3⟩ := h3
    obtain ⟨as5, h5, p5⟩ := h5
    have v4 := LW.refl w4.b
    have v6 := (v4.ext nP e5).ext nP e6
    have nro : ro ≠ rw := lb.r.ne ro0
    have nlo : lo ≠ rw := lb.r.ne lo0
    have ro6 := v6.lst w4.b ro4 nro
    have lo6 := v6.lst w4.b lo4 nlo
    have hrl := rows_len c dr.ok.gaps.1
    refine ⟨true, rfl, ?_⟩
    refine ⟨_, rfl, _, _, rfl, .inl ⟨_, SqL.of ro6, by rw [List.length_map]⟩, _, rfl, _, _, _, _, rfl, rfl, SqT.of h1, rfl, _, c.eds.length, rfl, .inr ⟨_, SqT.of h2, by rw [List.length_map]⟩, _, _, rfl, rfl, ?_⟩
    refine ⟨_, rfl, _, _, _, _, rfl, rfl, SqT.of h1, rfl, _, c.tch.length, rfl, .inr ⟨_, SqT.of h3, by rw [List.length_map, p3.length]⟩, _, _, rfl, rfl, ?_⟩
    refine ⟨_, rfl, _, _, _, _, rfl, rfl, SqT.of h1, rfl, _, c.book.length, rfl, .inr ⟨_, SqT.of h5, by rw [List.length_map, p5.length]⟩, _, _, rfl, rfl, rfl, _, rfl, ?_⟩
    refine iteNS (by rw [hrl]; congr 1) ?_
    exact hn _ _ ⟨rw, cl, lo, ro, c, rfl, w6.b, w6.clk lb ck, dr, lo6, ro6, nlo, nro, nlr⟩
  · rw [read_own dr.ok] at h
    cases h
end
end CW

namespace CW
open PySem hiding wordsOf linesOf
open PySem.Spec PyProof.Rows L2 GA TL LamX
/-! ### the loose text -/
theorem tl_dup : tl (Str.ofString "  ") = [32, 32] := by decide +kernel
theorem mul_dup {v : Int} (h0 : 0 ≤ v) (h1 : v < 2) : ∃ n, tl (Txt.mul (Str.ofString "  ") v) = List.replicate n 32 ∧ n ≤ 2 := by
  rcases (by omega : v = 0 ∨ v = 1) with rfl | rfl
  · exact ⟨0, by decide +kernel, by decide⟩
  · exact ⟨2, by decide +kernel, by decide⟩
theorem sp_is : Str.ofString " " = ⟨#[32]⟩ := by decide +kernel
theorem mul_sp (v : Int) : tl (Txt.mul (Str.ofString " ") v) = List.replicate v.toNat 32 := by
  rw [sp_is]
  exact PyProof.Rows.mul_one_list 32 v
theorem line_split {r : Str} {ws : List KM.Wd} (h : tl r = joinL [32] ws) (hne : ws ≠ []) (hw : ∀ w ∈ ws, WordOk w) : (Txt.split r (Str.ofString " ")).map tl = ws := by
  rw [KM.split_nl tl_sp (by decide +kernel), h, cut_join hne fun w q => (hw w q).2.1]
/-- the lines of the loose text behind i lines -/
structure Loose (c : Clk) (i : Nat) (L : List Str) : Prop where
  len : L.length = 2 * i
  words : (L.map fun l => KM.wordsOf (tl l)).filter (fun ws => decide (ws ≠ [])) = (clkLines c).take i
  each : ∀ l ∈ L, 10 ∉ tl l ∧ l.length ≤ 300
theorem tl3 : tl (Str.ofString "   ") = [32, 32, 32] := by decide +kernel
theorem joined_part {r : Str} {ws : List KM.Wd} {ps : List Str} (hr : r.length ≤ 50) (h : tl r = joinL [32] ws) (hp : ps.map tl = ws) (hne : ws ≠ []) : (Txt.join (Str.ofString "   ") ps).length ≤ 250 ∧ tl (Txt.join (Str.ofString "   ") ps) = joinL [32, 32, 32] ws := by
  have e : tl (Txt.join (Str.ofString "   ") ps) = joinL [32, 32, 32] ws := by rw [join_eq, tl_join, tl3, hp]
  refine ⟨?_, e⟩
  have key : ∀ ws : List (List Nat), ws ≠ [] → (joinL [32, 32, 32] ws).length + 3 ≤ ((joinL [32] ws).length + 1) * 4 := by
    intro ws
    induction ws with
    | nil => intro h; exact absurd rfl h
    | cons w r ih =>
      intro _
      cases r with
      | nil => show w.length + 3 ≤ (w.length + 1) * 4; omega
      | cons v t =>
        have := ih (by simp)
        show (w ++ ([32, 32, 32] ++ joinL [32, 32, 32] (v :: t))).length + 3 ≤ ((w ++ ([32] ++ joinL [32] (v :: t))).length + 1) * 4
        simp only [List.length_append, List.length_cons, List.length_nil]
        omega
  have k := key ws hne
  rw [len_tl, e]
  rw [len_tl, h] at hr
  omega
theorem Loose.more {c : Clk} {i : Nat} {L : List Str} {r : Str} {ws : List KM.Wd} {ps : List Str} {v2 v3 : Int} (h : Loose c i L) (hi : (clkLines c)[i]? = some ws) (hl : r.length ≤ 50) (hr : tl r = joinL [32] ws) (hp : ps.map tl = ws) (a0 : 0 ≤ v2) (a1 : v2 < 2) (b0 : 0 ≤ v3) (b1 : v3 < 3) :
    Loose c (i + 1) (L ++ [Txt.mul (Str.ofString "  ") v2, Txt.mul (Str.ofString " ") v3 ++ Txt.join (Str.ofString "   ") ps ++ Str.ofString " "]) := by
  obtain ⟨hne, hw⟩ := clk_linesOk c ws (List.mem_of_getElem? hi)
  obtain ⟨n, e1, hn⟩ := mul_dup a0 a1
  obtain ⟨j1, j2⟩ := joined_part hl hr hp hne
  have e2 : tl (Txt.mul (Str.ofString " ") v3 ++ Txt.join (Str.ofString "   ") ps ++ Str.ofString " ") = List.replicate v3.toNat 32 ++ joinL [32, 32, 32] ws ++ [32] := by
    rw [tl_append, tl_append, mul_sp, j2, tl_sp]
  have w1 : KM.wordsOf (tl (Txt.mul (Str.ofString "  ") v2)) = [] := by
    rw [e1]
    have := words_bls n []
    rw [List.append_nil] at this
    rw [this, words_nil]
  have w2 : KM.wordsOf (tl (Txt.mul (Str.ofString " ") v3 ++ Txt.join (Str.ofString "   ") ps ++ Str.ofString " ")) = ws := by rw [e2, words_loose hw hne]
  refine ⟨by rw [List.length_append, h.len]; show 2 * i + 2 = 2 * (i + 1); omega, ?_, fun l hl => ?_⟩
  · rw [List.map_append, List.filter_append, h.words, take_more hi]
    show _ ++ List.filter _ [KM.wordsOf _, KM.wordsOf _] = _
    rw [w1, w2, List.filter_cons, if_neg (by simp), List.filter_cons, if_pos (decide_eq_true hne)]
    rfl
  · rcases List.mem_append.mp hl with q | q
    · exact h.each l q
    · rcases List.mem_cons.mp q with rfl | q
      · refine ⟨by rw [e1]; intro z; have := List.eq_of_mem_replicate z; omega, by rw [len_tl, e1, List.length_replicate]; omega⟩
      · rw [List.mem_singleton.mp q]
        refine ⟨?_, ?_⟩
        · rw [e2]
          intro z
          rcases List.mem_append.mp z with z | z
          · rcases List.mem_append.mp z with z | z
            · have := List.eq_of_mem_replicate z; omega
            · exact join_free (by decide) (fun w q => (hw w q).2.2) z
          · simp at z
        · rw [len_tl, e2, List.length_append, List.length_append, List.length_replicate, ← j2, ← len_tl]
          simp only [List.length_cons, List.length_nil]
          omega
theorem Loose.read {c : Clk} {L : List Str} (ok : c.Ok) (h : Loose c (clkLines c).length L) : KM.rdText (tl (Txt.join (Str.ofString "\n") L)) = .ok ⟨c.per, c.eds, c.gaps, c.tch, c.book⟩ := by
  have hne : L ≠ [] := fun z => by
    have := h.len
    rw [z] at this
    have := List.length_pos_iff.mpr (clk_ne c)
    simp at *
    omega
  refine read_clk ok ?_
  rw [join_eq, tl_join, tl_nl]
  unfold KM.linesOf
  rw [cut_join (by simpa using hne) (fun l hl => by
    obtain ⟨x, hx, rfl⟩ := List.mem_map.mp hl
    exact (h.each x hx).1), List.map_map]
  have := h.words
  rw [List.take_of_length_le (Nat.le_refl _)] at this
  exact this
theorem rows_lines {c : Clk} (ok : c.Ok) : (rowsOf c).length = (clkLines c).length := by
  have := congrArg List.length (clk_rows ok)
  rw [List.length_map, List.length_map] at this
  exact this
theorem row_words {c : Clk} (ok : c.Ok) {i : Nat} {r : Str} (h : (rowsOf c)[i]? = some r) : ∃ ws, (clkLines c)[i]? = some ws ∧ tl r = joinL [32] ws := by
  have e : ((rowsOf c).map tl)[i]? = some (tl r) := by rw [List.getElem?_map, h]; rfl
  rw [clk_rows ok, List.getElem?_map] at e
  cases q : (clkLines c)[i]? with
  | none => rw [q] at e; cases e
  | some ws => rw [q] at e; exact ⟨ws, rfl, (Option.some.inj e).symm⟩
end CW

namespace CW
open PySem hiding wordsOf linesOf
open PySem.Spec PyProof.Rows L2 GA TL LamX
section
variable {P : Program} {w : World} {K : PySem.W.Frag} {mg : Str → Option Value} {base : Heap} {T : List Addr} {CL CS Pl sc f c : Addr} {ql : Str} {ns : List Int} {A : Around} {outer : List Env} {s : Shared} {H0 : Hp} {E : XK}
def S7 (K : PySem.W.Frag) (T : List Addr) (Pl : Addr) (ql : Str) (sc : Addr) (ns : List Int) : L2.St → Hp → Prop := fun σ H => ∃ (rw cl ro : Addr) (x4 : V) (x6 : Option V) (c : Clk), σ = [some (.ref sc), some (.ref rw), some (.ref cl), some (.str (clkText c)), some x4, some (.ref ro), x6] ++ List.replicate 15 none ∧ LB K T Pl ql rw sc ns H ∧ ClkAt H cl c ∧ Drawn' c ∧
  H ro = some (.lst ((rowsOf c).map V.str)) ∧ ro ≠ rw
theorem seg2 (L : LF P w K mg base T CL CS) (hr : Room 8 (lawX P w K mg base f c A outer s H0 E).A) (nP : Pl ∉ T) (nS : Off K [Pl] sc (ns.map V.int)) :
    Seg (lawX P w K mg base f c A outer s H0 E) (lawPart 5 2) (S5 K T Pl ql sc ns) (S7 K T Pl ql sc ns) lawRet := by
  refine ⟨_, fun rest u hu => pss_cons (ps_for (passes_of rfl) rfl (pi_list (pv 5)) (pg_name (i := 6) scLaw.nd rfl (Or.inl rfl))
      (pss_one (ps_set (i := 4) scLaw.nd rfl (Or.inl rfl) (pe_op op_cat (pv 4) (pe_lst (pa_cons (pe_op op_mulS pe_str (pe_cal L.CT (hr.mono (by decide)) rfl pass0 (pa_cons (pv 1) (pa_cons pe_int pa_nil))))
        (pa_cons (pe_op op_add_str (pe_op op_add_str (pe_op op_mulS pe_str (pe_cal L.CT (hr.mono (by decide)) rfl pass0 (pa_cons (pv 1) (pa_cons pe_int pa_nil)))) (pe_m1 PySem.F.slot_str_join PySem.F.type_str_join mt_join pe_str (pe_m1 PySem.F.slot_str_split PySem.F.type_str_split mt_split (pv 6) pe_str))) pe_str) pa_nil)))))))
    (pss_cons (ps_if (pt_not (pt_val (pe_cal (L.CA 4) (hr.mono (by decide)) rfl pass0 (pa_cons (pe_cal L.RC (hr.mono (by decide)) rfl lawPass (pa_cons (pe_m1 PySem.F.slot_str_join PySem.F.type_str_join mt_join pe_str (pv 4)) pa_nil)) (pa_cons (pv 2) pa_nil)))))
      (pss_one (ps_ret pe_bl)) pss_nil) hu), ?_⟩
  rintro u D σ H ⟨rw, cl, lo, ro, c, rfl, lb, ck, dr, hlo, hro, nlo, nro, nlr⟩ hn _
  have w0 := LW.refl lb
  refine ⟨_, rfl, ro, rfl, ⟨_, SqL.of hro⟩, for_list (K := K) (a := ro) (xs := (rowsOf c).map V.str)
    (fun i σ H' => ∃ (lo : Addr) (x6 : Option V) (L : List Str), σ = [some (.ref sc), some (.ref rw), some (.ref cl), some (.str (clkText c)), some (.ref lo), some (.ref ro), x6] ++ List.replicate 15 none ∧ LW K T Pl ql rw sc ns H H' ∧ lo ≠ rw ∧ H' lo = some (.lst (L.map V.str)) ∧ Loose c i L)
    ⟨lo, none, [], rfl, w0, nlo, hlo, ⟨rfl, rfl, fun _ h => nomatch h⟩⟩ (fun i σ H' _ q => by
      obtain ⟨_, _, _, _, q, _⟩ := q
      exact SqL.of (q.lst lb hro nro)) ?_ ?_⟩
  · rintro i x σ H1 hx ⟨l1, x6, L1, rfl, w1, nl1, h1, ls⟩
    obtain ⟨r, hri, rfl⟩ := str_at hx
    obtain ⟨ws, hws, er⟩ := row_words dr.ok hri
    obtain ⟨wne, wok⟩ := clk_linesOk c ws (List.mem_of_getElem? hws)
    have rl := row_len dr r (List.mem_of_getElem? hri)
    have il := lt_of_get hri
    have rs := rows_small dr
    have Lsm : L1.length ≤ 116 := by rw [ls.len]; omega
    refine ⟨_, rfl, _, rfl, rw, sc, ns, 2, rfl, by decide, by decide, w1.b.r, w1.b.t, fun v2 H2 a0 a1 e2 r2 => ?_⟩
    have w2 := w1.draw nP e2 r2
    refine ⟨_, _, rfl, rfl, by rw [len_tl]; decide +kernel, a0, by omega, ?_⟩
    refine ⟨_, rfl, rw, sc, ns, 3, rfl, by decide, by decide, w2.b.r, w2.b.t, fun v3 H3 b0 b1 e3 r3 => ?_⟩
    have w3 := w2.draw nP e3 r3
    refine ⟨_, _, rfl, rfl, by rw [len_tl]; decide +kernel, b0, by omega, ?_⟩
    refine ⟨⟨_, rfl⟩, _, rfl, ⟨_, rfl⟩, _, _, rfl, rfl, by decide +kernel, (by rw [sizeLine_eq]; omega), fun sp hsp => ?_⟩
    have psw : (Txt.split r (Str.ofString " ")).map tl = ws := line_split er wne wok
    have h13 : H3 l1 = some (.lst (L1.map V.str)) := e3.lst w2.b.t (e2.lst w1.b.t h1 nl1) nl1
    obtain ⟨j1, j2⟩ := joined_part rl er psw wne
    have w4 := w3.new lb nS hsp (.lst ((Txt.split r (Str.ofString " ")).map V.str))
    have s4 : (upd H3 sp (.lst ((Txt.split r (Str.ofString " ")).map V.str))) sp = some (.lst ((Txt.split r (Str.ofString " ")).map V.str)) := upd_same
    have h4 : (upd H3 sp (.lst ((Txt.split r (Str.ofString " ")).map V.str))) l1 = some (.lst (L1.map V.str)) := put_obj h13 hsp
    refine ⟨_, sp, Txt.split r (Str.ofString " "), rfl, rfl, .inl (SqL.of upd_same), ?_, ?_⟩
    · have k := congrArg List.length psw
      rw [List.length_map] at k
      have k2 : ∀ x ∈ Txt.split r (Str.ofString " "), x.length ≤ 50 := fun x hx => by
        have hm : tl x ∈ KM.cutL 32 [] (tl r) := by rw [← KM.split_nl tl_sp (by decide +kernel)]; exact List.mem_map_of_mem hx
        have := KM.cut_each 32 (tl r) [] _ hm
        rw [len_tl] at rl ⊢
        simp only [List.length_nil] at this
        omega
      have k3 := sum_len k2
      have k4 : (Txt.split r (Str.ofString " ")).length ≤ 51 := by
        have := KM.cut_len 32 (tl r) []
        rw [← KM.split_nl tl_sp (by decide +kernel), List.length_map, ← len_tl] at this
        omega
      rw [show (Str.ofString "   ").length = 3 by decide +kernel]
      omega
    · generalize Txt.split r (Str.ofString " ") = ps at psw j1 j2 w4 s4 h4
      have m3 : (Txt.mul (Str.ofString " ") v3).length ≤ 3 := by rw [len_tl, mul_sp, List.length_replicate]; omega
      refine ⟨_, _, rfl, rfl, by rw [sizeLine_eq]; omega, ?_⟩
      refine ⟨_, _, rfl, rfl, by rw [sizeLine_eq, show (Str.ofString " ").length = 1 by decide +kernel, len_tl, tl_append, List.length_append, ← len_tl, ← len_tl]; omega, ?_⟩
      refine ⟨by show 2 ≤ sizeLine; decide, fun q hq => ?_⟩
      have w5 := w4.new lb nS hq (.lst [.str (Txt.mul (Str.ofString "  ") v2), .str (Txt.mul (Str.ofString " ") v3 ++ Txt.join (Str.ofString "   ") ps ++ Str.ofString " ")])
      refine ⟨l1, q, _, _, rfl, rfl, put_obj h4 hq, upd_same, by rw [List.length_map, sizeLine_eq]; show L1.length + 2 ≤ _; omega, fun l2 hl2 => ?_⟩
      have w6 := w5.new lb nS hl2 (.lst (L1.map V.str ++ [.str (Txt.mul (Str.ofString "  ") v2), .str (Txt.mul (Str.ofString " ") v3 ++ Txt.join (Str.ofString "   ") ps ++ Str.ofString " ")]))
      exact ⟨l2, _, _, rfl, w6, lb.r.ne (w5.free lb.t hl2), by rw [upd_same, List.map_append]; rfl, ls.more hws rl er psw a0 a1 b0 b1⟩
  · rintro σ H1 ⟨l1, x6, L1, rfl, w1, nl1, h1, ls⟩
    rw [List.length_map, rows_lines dr.ok] at ls
    have rd := ls.read dr.ok
    have Lsm : L1.length ≤ 116 := by
      have := rows_small dr
      rw [ls.len, ← rows_lines dr.ok]; omega
    have sm := sum_len (m := 300) fun l hl => (ls.each l hl).2
    have ck1 := w1.clk lb ck
    refine ⟨⟨_, rfl⟩, _, rfl, _, l1, L1, rfl, rfl, .inl (SqL.of h1), by rw [show (Str.ofString "\n").length = 1 by decide +kernel]; omega, ?_⟩
    have jl := joined_len (n := 116) Lsm fun l hl => (ls.each l hl).2
    refine ⟨w1.b.t, .inl ⟨_, rfl, by omega, fun r hrd H5 a e5 ca => ?_, fun l j h => ?_⟩⟩
    · rw [rd] at hrd
      obtain rfl := Except.ok.inj hrd
      refine ⟨_, rfl, _, _, rfl, clk_alike dr ca (ck1.ext w1.b.t e5), e5.ok w1.b.t, fun H6 e6 => ⟨true, rfl, iteF ?_⟩⟩
      have w6 := (w1.ext nP e5).ext nP e6
      exact hn _ _ ⟨rw, cl, ro, _, _, c, rfl, w6.b, w6.clk lb ck, dr, w6.lst lb hro nro, nro⟩
    · rw [rd] at h
      cases h
end
end CW

namespace CW
open PySem hiding wordsOf linesOf
open PySem.Spec PyProof.Rows L2 GA TL LamX
theorem joinL_cons (S p : List Nat) : ∀ l : List (List Nat), l ≠ [] → joinL S (p :: l) = p ++ (S ++ joinL S l)
  | [], h => absurd rfl h
  | q :: r, _ => rfl
theorem joinL_set (S w : List Nat) : ∀ (ws : List (List Nat)) (j : Nat), (joinL S (ws.set j w)).length ≤ (joinL S ws).length + w.length
  | [], j => by simp [joinL]
  | p :: l, j => by
    by_cases hl : l = []
    · subst hl
      cases j with
      | zero => show w.length ≤ p.length + w.length; omega
      | succ j => show p.length ≤ p.length + w.length; omega
    · rw [joinL_cons S p l hl]
      cases j with
      | zero =>
        show (joinL S (w :: l)).length ≤ _
        rw [joinL_cons S w l hl]
        simp only [List.length_append]
        omega
      | succ j =>
        show (joinL S (p :: l.set j w)).length ≤ _
        have := joinL_set S w l j
        rw [joinL_cons S p _ (by intro z; have := congrArg List.length z; rw [List.length_set] at this; exact hl (List.length_eq_zero_iff.mp this))]
        simp only [List.length_append]
        omega
def tenL : List Str := ["0", "1", "2", "5", "13", "x", "wheel", "touch", "01", "-1"]
theorem tenOk : ∀ x ∈ tenL, WordOk (tl x) ∧ x.length ≤ 5 := by
  have h : tenL.all (fun x => decide (tl x ≠ []) && decide (32 ∉ tl x) && decide (10 ∉ tl x) && decide (x.length ≤ 5)) = true := by decide +kernel
  intro x hx
  have := List.all_eq_true.mp h x hx
  simp only [Bool.and_eq_true, decide_eq_true_eq] at this
  exact ⟨⟨this.1.1.1, this.1.1.2, this.1.2⟩, this.2⟩
/-- a bent text -/
structure Bent (c : Clk) (at_ place : Nat) (t : Str) : Prop where
  ex : ∃ (ws : List KM.Wd) (w : KM.Wd), (clkLines c)[at_]? = some ws ∧ place < ws.length ∧ WordOk w ∧ tl t = joinL [10] (((clkLines c).take at_ ++ ws.set place w :: (clkLines c).drop (at_ + 1)).map (joinL [32]))
  len : t.length ≤ 4000
theorem bent_linesOk {c : Clk} {at_ place : Nat} {ws : List KM.Wd} {w : KM.Wd} (h : (clkLines c)[at_]? = some ws) (hp : place < ws.length) (hw : WordOk w) : LinesOk ((clkLines c).take at_ ++ ws.set place w :: (clkLines c).drop (at_ + 1)) := by
  intro xs hx
  rcases List.mem_append.mp hx with q | q
  · exact clk_linesOk c xs (List.mem_of_mem_take q)
  · rcases List.mem_cons.mp q with rfl | q
    · obtain ⟨h1, h2⟩ := clk_linesOk c ws (List.mem_of_getElem? h)
      refine ⟨fun z => ?_, fun v hv => ?_⟩
      · have := congrArg List.length z
        rw [List.length_set] at this
        exact h1 (List.length_eq_zero_iff.mp this)
      · rcases List.mem_or_eq_of_mem_set hv with q | q
        · exact h2 v q
        · rw [q]; exact hw
    · exact clk_linesOk c xs (List.mem_of_mem_drop q)
theorem bent_make {c : Clk} (d : Drawn' c) {at_ place : Nat} {r w : Str} {ps : List Str} {ws : List KM.Wd} (h : (rowsOf c)[at_]? = some r) (hws : (clkLines c)[at_]? = some ws) (er : tl r = joinL [32] ws) (hp : ps.map tl = ws) (hpl : place < ps.length) (hw : WordOk (tl w) ∧ w.length ≤ 5) :
    Bent c at_ place (Txt.join (Str.ofString "\n") ((rowsOf c).take at_ ++ [Txt.join (Str.ofString " ") (ps.set place w)] ++ (rowsOf c).drop (at_ + 1))) := by
  have hpw : place < ws.length := by rw [← hp, List.length_map]; exact hpl
  have e1 : tl (Txt.join (Str.ofString " ") (ps.set place w)) = joinL [32] (ws.set place (tl w)) := by rw [join_eq, tl_join, tl_sp, List.map_set, hp]
  have hlt := lt_of_get h
  refine ⟨⟨ws, tl w, hws, hpw, hw.1, ?_⟩, ?_⟩
  · rw [join_eq, tl_join, tl_nl]
    congr 1
    rw [List.map_append, List.map_append, List.map_append, List.map_cons, List.map_cons, List.map_nil, List.map_take, List.map_drop, List.map_take, List.map_drop, clk_rows d.ok, List.append_assoc, e1]
    rfl
  · have rl := row_len d
    have := joined_len (n := 59) (m := 60) (ls := (rowsOf c).take at_ ++ [Txt.join (Str.ofString " ") (ps.set place w)] ++ (rowsOf c).drop (at_ + 1)) (by
      have := rows_small d
      simp only [List.length_append, List.length_take, List.length_drop, List.length_cons, List.length_nil]
      omega) (fun l hl => by
      rcases List.mem_append.mp hl with hl | hl
      · rcases List.mem_append.mp hl with hl | hl
        · have := rl l (List.mem_of_mem_take hl); omega
        · rw [List.mem_singleton.mp hl, len_tl, e1]
          have k := joinL_set [32] (tl w) ws place
          have k2 := rl r (List.mem_of_getElem? h)
          rw [len_tl, er] at k2
          have k3 := hw.2
          rw [len_tl] at k3
          omega
      · have := rl l (List.mem_of_mem_drop hl); omega)
    omega
theorem cut_to (xs : List V) (n : Nat) (h : n ≤ xs.length) : cutV xs none (some (n : Int)) = xs.take n := by
  unfold cutV
  rw [HT.sIx_none, HT.sIx_nat, List.drop_zero, Nat.min_eq_left h, Nat.sub_zero]
theorem cut_from (xs : List V) (n : Nat) : cutV xs (some (n : Int)) none = xs.drop n := by
  unfold cutV
  rw [HT.sIx_none, HT.sIx_nat]
  by_cases h : n ≤ xs.length
  · rw [Nat.min_eq_left h]
    exact List.take_of_length_le (by rw [List.length_drop]; omega)
  · rw [Nat.min_eq_right (by omega), Nat.sub_self, List.take_zero, List.drop_eq_nil_of_le (by omega)]
section
variable {P : Program} {w : World} {K : PySem.W.Frag} {mg : Str → Option Value} {base : Heap} {T : List Addr} {CL CS Pl sc f c : Addr} {ql : Str} {ns : List Int} {A : Around} {outer : List Env} {s : Shared} {H0 : Hp} {E : XK}
def S12 (K : PySem.W.Frag) (T : List Addr) (Pl : Addr) (ql : Str) (sc : Addr) (ns : List Int) : L2.St → Hp → Prop := fun σ H => ∃ (rw cl : Addr) (at_ place : Nat) (bent : Str) (x4 x5 x8 : V) (x6 : Option V) (c : Clk), σ = [some (.ref sc), some (.ref rw), some (.ref cl), some (.str (clkText c)), some x4, some x5, x6, some (.int at_), some x8, some (.int place), some (.str bent)] ++ List.replicate 11 none ∧
  LB K T Pl ql rw sc ns H ∧ ClkAt H cl c ∧ Drawn' c ∧ Bent c at_ place bent
theorem seg3 (L : LF P w K mg base T CL CS) (hr : Room 8 (lawX P w K mg base f c A outer s H0 E).A) (nP : Pl ∉ T) (nS : Off K [Pl] sc (ns.map V.int)) :
    Seg (lawX P w K mg base f c A outer s H0 E) (lawPart 7 5) (S7 K T Pl ql sc ns) (S12 K T Pl ql sc ns) lawRet := by
  refine ⟨_, fun rest u hu => pss_cons (ps_set (i := 7) scLaw.nd rfl (Or.inl rfl) (pe_cal L.CT (hr.mono (by decide)) rfl pass0 (pa_cons (pv 1) (pa_cons (pe_callB call_len (by rfl) L.B.len PySem.boot_len (pa_cons (pv 5) pa_nil)) pa_nil))))
    (pss_cons (ps_set (i := 8) scLaw.nd rfl (Or.inl rfl) (pe_m1 PySem.F.slot_str_split PySem.F.type_str_split mt_split (pe_ix ix_list (pv 5) (pv 7) (fun _ _ => rfl)) pe_str))
    (pss_cons (ps_set (i := 9) scLaw.nd rfl (Or.inl rfl) (pe_cal L.CT (hr.mono (by decide)) rfl pass0 (pa_cons (pv 1) (pa_cons (pe_callB call_len (by rfl) L.B.len PySem.boot_len (pa_cons (pv 8) pa_nil)) pa_nil))))
    (pss_cons (ps_asg (pe_cal L.CP (hr.mono (by decide)) rfl pass0 (pa_cons (pv 1) (pa_cons (pe_lst (pa_cons pe_str (pa_cons pe_str (pa_cons pe_str (pa_cons pe_str (pa_cons pe_str (pa_cons pe_str (pa_cons pe_str (pa_cons pe_str (pa_cons pe_str (pa_cons pe_str pa_nil))))))))))) pa_nil))) (pg_sub (pv 8) (pv 9) set_list))
    (pss_cons (ps_set (i := 10) scLaw.nd rfl (Or.inr rfl) (pe_m1 PySem.F.slot_str_join PySem.F.type_str_join mt_join pe_str (pe_op op_cat (pe_op op_cat (pe_slice sl_list (pv 5) po_none (po_some (pv 7))) (pe_lst (pa_cons (pe_m1 PySem.F.slot_str_join PySem.F.type_str_join mt_join pe_str (pv 8)) pa_nil))) (pe_slice sl_list (pv 5) (po_some (pe_op op_add (pv 7) pe_int)) po_none)))) hu)))), ?_⟩
  rintro u D σ H ⟨rw, cl, ro, x4, x6, c, rfl, lb, ck, dr, hro, nro⟩ hn _
  have w0 := LW.refl lb
  have rs := rows_small dr
  have rp : 1 ≤ (rowsOf c).length := by rw [rows_lines dr.ok]; exact List.length_pos_iff.mpr (clk_ne c)
  refine ⟨_, rfl, _, rfl, _, (rowsOf c).length, rfl, .inl ⟨_, SqL.of hro, by rw [List.length_map]⟩, rw, sc, ns, (rowsOf c).length, rfl, by omega, by omega, lb.r, lb.t, fun v H1 v0 v1 e1 r1 => ?_⟩
  obtain ⟨at_, rfl⟩ : ∃ n : Nat, v = n := ⟨v.toNat, by omega⟩
  have w1 := w0.draw nP e1 r1
  have ro1 := w1.lst lb hro nro
  obtain ⟨r, hri⟩ := getq (l := rowsOf c) (i := at_) (by omega)
  obtain ⟨ws, hws, er⟩ := row_words dr.ok hri
  obtain ⟨wne, wok⟩ := clk_linesOk c ws (List.mem_of_getElem? hws)
  have rl := row_len dr r (List.mem_of_getElem? hri)
  refine ⟨_, rfl, _, rfl, ro, _, _, _, rfl, rfl, SqL.of ro1, atI_str hri, ⟨_, rfl⟩, _, _, rfl, rfl, by decide +kernel, (by rw [sizeLine_eq]; omega), fun wd hwd => ?_⟩
  have psw : (Txt.split r (Str.ofString " ")).map tl = ws := line_split er wne wok
  have psn : (Txt.split r (Str.ofString " ")).length ≤ 51 := by
    have := KM.cut_len 32 (tl r) []
    rw [← KM.split_nl tl_sp (by decide +kernel), List.length_map, ← len_tl] at this
    omega
  have psl : ∀ x ∈ Txt.split r (Str.ofString " "), x.length ≤ 50 := fun x hx => by
    have hm : tl x ∈ KM.cutL 32 [] (tl r) := by rw [← KM.split_nl tl_sp (by decide +kernel)]; exact List.mem_map_of_mem hx
    have := KM.cut_each 32 (tl r) [] _ hm
    rw [len_tl] at rl ⊢
    simp only [List.length_nil] at this
    omega
  show tSeq _ _ _ _ (upd H1 wd (.lst ((Txt.split r (Str.ofString " ")).map V.str)))
  generalize Txt.split r (Str.ofString " ") = ps at psw psn psl
  have w2 := w1.new lb nS hwd (.lst (ps.map V.str))
  have wd0 := w1.free lb.t hwd
  have nwd : wd ≠ rw := lb.r.ne wd0
  have wd2 : (upd H1 wd (.lst (ps.map V.str))) wd = some (.lst (ps.map V.str)) := upd_same
  generalize upd H1 wd (.lst (ps.map V.str)) = H2 at w2 wd2
  have ppos : 1 ≤ ps.length := by
    have := congrArg List.length psw
    rw [List.length_map] at this
    have := List.length_pos_iff.mpr wne
    omega
  refine ⟨_, rfl, _, rfl, _, ps.length, rfl, .inl ⟨_, SqL.of wd2, by rw [List.length_map]⟩, rw, sc, ns, ps.length, rfl, by omega, by omega, w2.b.r, w2.b.t, fun v H3 v2 v3 e3 r3 => ?_⟩
  obtain ⟨place, rfl⟩ : ∃ n : Nat, v = n := ⟨v.toNat, by omega⟩
  have w3 := w2.draw nP e3 r3
  have wd3 := e3.lst w2.b.t wd2 nwd
  show tSeq _ _ _ _ H3
  refine ⟨_, rfl, by show 10 ≤ sizeLine; decide, fun te hte => ?_⟩
  have w4 := w3.new lb nS hte (.lst (tenL.map V.str))
  have te4 : (upd H3 te (.lst (tenL.map V.str))) te = some (.lst (tenL.map V.str)) := upd_same
  have wd4 : (upd H3 te (.lst (tenL.map V.str))) wd = some (.lst (ps.map V.str)) := put_obj wd3 hte
  have nte : te ≠ rw := lb.r.ne (w3.free lb.t hte)
  show spPick K T [.ref rw, .ref te] (upd H3 te (.lst (tenL.map V.str))) _ C8.E0
  generalize upd H3 te (.lst (tenL.map V.str)) = H4 at w4 te4 wd4
  refine ⟨rw, sc, te, ns, _, rfl, te4, by unfold tenL; simp, by rw [List.length_map]; decide, nte, w4.b.r, w4.b.t, fun i x H5 hx e5 r5 => ?_⟩
  obtain ⟨wn, hwn, rfl⟩ := str_at hx
  have wok2 := tenOk wn (List.mem_of_getElem? hwn)
  have w5 := w4.draw nP e5 r5
  have wd5 := e5.lst w4.b.t wd4 nwd
  refine ⟨_, rfl, _, rfl, wd, ps.map V.str, (place : Int), place, rfl, rfl, wd5, ?_, ?_⟩
  · unfold ixN
    rw [if_pos (by omega), if_pos (by rw [List.length_map]; exact v3)]
    rfl
  have w6 := w5.putL lb nS wd0 wd5 (.lst ((ps.map V.str).set place (.str wn)))
  have wd6 : (upd H5 wd (.lst ((ps.map V.str).set place (.str wn)))) wd = some (.lst ((ps.set place wn).map V.str)) := by rw [upd_same, List.map_set]
  show tSeq _ _ _ _ (upd H5 wd (.lst ((ps.map V.str).set place (.str wn))))
  generalize upd H5 wd (.lst ((ps.map V.str).set place (.str wn))) = H6 at w6 wd6
  have ro6 := w6.lst lb hro nro
  have R1 : (rowsOf c).length ≤ 100 := by omega
  have bm := bent_make dr hri hws er psw (by omega : place < ps.length) wok2
  refine ⟨⟨_, rfl⟩, _, rfl, _, rfl, _, rfl, ro, _, rfl, SqL.of ro6, fun p1 hp1 => ?_⟩
  rw [cut_to _ at_ (by rw [List.length_map]; omega), ← List.map_take]
  have w7 := w6.new lb nS hp1 (.lst (((rowsOf c).take at_).map V.str))
  have x7 : (upd H6 p1 (.lst (((rowsOf c).take at_).map V.str))) p1 = some (.lst (((rowsOf c).take at_).map V.str)) := upd_same
  have wd7 : (upd H6 p1 (.lst (((rowsOf c).take at_).map V.str))) wd = some (.lst ((ps.set place wn).map V.str)) := put_obj wd6 hp1
  generalize upd H6 p1 (.lst (((rowsOf c).take at_).map V.str)) = H7 at w7 x7 wd7
  refine ⟨⟨_, rfl⟩, _, rfl, _, wd, ps.set place wn, rfl, rfl, .inl (SqL.of wd7), ?_, ?_⟩
  · have := sum_len (l := ps.set place wn) (m := 50) fun x hx => by
      rcases List.mem_or_eq_of_mem_set hx with q | q
      · exact psl x q
      · rw [q]; have := wok2.2; omega
    rw [List.length_set] at this ⊢
    rw [show (Str.ofString " ").length = 1 by decide +kernel]
    omega
  refine ⟨by show 1 ≤ sizeLine; decide, fun p2 hp2 => ?_⟩
  have jb : (Txt.join (Str.ofString " ") (ps.set place wn)).length ≤ 4000 := by
    have e1 : tl (Txt.join (Str.ofString " ") (ps.set place wn)) = joinL [32] (ws.set place (tl wn)) := by rw [join_eq, tl_join, tl_sp, List.map_set, psw]
    have k := joinL_set [32] (tl wn) ws place
    have k2 := rl
    have k3 := wok2.2
    rw [len_tl, er] at k2
    rw [len_tl] at k3
    rw [len_tl, e1]
    omega
  generalize Txt.join (Str.ofString " ") (ps.set place wn) = jn at bm jb
  have w8 := w7.new lb nS hp2 (.lst [.str jn])
  have x8 : (upd H7 p2 (.lst [.str jn])) p2 = some (.lst [.str jn]) := upd_same
  have x8b := put_obj (u := .lst [.str jn]) x7 hp2
  refine ⟨p1, p2, _, _, rfl, rfl, x8b, x8, ?_, fun p3 hp3 => ?_⟩
  · rw [List.length_map, List.length_take, sizeLine_eq]
    show _ + 1 ≤ _
    omega
  have w9 := w8.new lb nS hp3 (.lst (((rowsOf c).take at_).map V.str ++ [.str jn]))
  have x9 : (upd (upd H7 p2 (.lst [.str jn])) p3 (.lst (((rowsOf c).take at_).map V.str ++ [.str jn]))) p3 = some (.lst (((rowsOf c).take at_).map V.str ++ [.str jn])) := upd_same
  generalize upd (upd H7 p2 (.lst [.str jn])) p3 (.lst (((rowsOf c).take at_).map V.str ++ [.str jn])) = H9 at w9 x9
  have ro9 := w9.lst lb hro nro
  refine ⟨_, rfl, _, rfl, _, _, rfl, rfl, _, rfl, ro, _, rfl, SqL.of ro9, fun p4 hp4 => ?_⟩
  rw [show ((at_ : Int) + 1) = ((at_ + 1 : Nat) : Int) from rfl, cut_from, ← List.map_drop]
  have w10 := w9.new lb nS hp4 (.lst (((rowsOf c).drop (at_ + 1)).map V.str))
  have x10 : (upd H9 p4 (.lst (((rowsOf c).drop (at_ + 1)).map V.str))) p4 = some (.lst (((rowsOf c).drop (at_ + 1)).map V.str)) := upd_same
  have x10b := put_obj (u := .lst (((rowsOf c).drop (at_ + 1)).map V.str)) x9 hp4
  refine ⟨p3, p4, _, _, rfl, rfl, x10b, x10, ?_, fun p5 hp5 => ?_⟩
  · rw [List.length_append, List.length_map, List.length_map, List.length_take, List.length_drop, sizeLine_eq]
    show _ + 1 + _ ≤ _
    omega
  have w11 := w10.new lb nS hp5 (.lst ((((rowsOf c).take at_).map V.str ++ [.str jn]) ++ ((rowsOf c).drop (at_ + 1)).map V.str))
  refine ⟨_, p5, (rowsOf c).take at_ ++ [jn] ++ (rowsOf c).drop (at_ + 1), rfl, rfl, .inl (SqL.of (by rw [upd_same, List.map_append, List.map_append]; rfl)), ?_, ?_⟩
  · have k := sum_len (l := (rowsOf c).take at_ ++ [jn] ++ (rowsOf c).drop (at_ + 1)) (m := 4000) fun x hx => by
      have rr := row_len dr
      rcases List.mem_append.mp hx with hx | hx
      · rcases List.mem_append.mp hx with hx | hx
        · have := rr x (List.mem_of_mem_take hx); omega
        · rw [List.mem_singleton.mp hx]; exact jb
      · have := rr x (List.mem_of_mem_drop hx); omega
    have k2 : ((rowsOf c).take at_ ++ [jn] ++ (rowsOf c).drop (at_ + 1)).length ≤ 100 := by
      simp only [List.length_append, List.length_take, List.length_drop, List.length_cons, List.length_nil]
      omega
    rw [show (Str.ofString "\n").length = 1 by decide +kernel]
    omega
  exact hn _ _ ⟨rw, cl, at_, place, _, x4, _, _, x6, c, rfl, w11.b, w11.clk lb ck, dr, bm⟩
end
end CW

namespace CW
open PySem hiding wordsOf linesOf
open PySem.Spec PyProof.Rows L2 GA TL LamX
/-- what stands behind _law_said -/
structure SF (P : Program) (w : World) (K : PySem.W.Frag) (mg : Str → Option Value) (base : Heap) (CL CS c Pl : Addr) : Prop where
  D : DefAt K mg "_law_said" sSaid
  BL : BLAt K mg CL
  BS : ∃ bmB Bx newId initId, BSAt K mg CS bmB Bx newId initId
  M : Exm K CL CS
  TB : LamX.TabB base mg c Pl
section
variable {P : Program} {w : World} {K : PySem.W.Frag} {mg : Str → Option Value} {base : Heap} {T : List Addr} {CL CS Pl sc f c : Addr} {ql : Str} {ns : List Int} {A : Around} {outer : List Env} {s : Shared} {H0 : Hp} {E : XK}
theorem pe_said0 (F : SF P w K mg base CL CS c Pl) (hq : (lawX P w K mg base f c A outer s H0 E).env.qual ++ "<lambda>" = ql) (hr : Room 8 (lawX P w K mg base f c A outer s H0 E).A) {params : Arguments} {body : Expr} {scope : Scope} {p lpos pos : Pos} {t : XK → TE}
    (Ls : LamS (defScope sLaw) scope) (hdef : defaultsOf params (lawX P w K mg base f c A outer s H0 E).env = ([], [])) (hbind : ∀ (q : Str) (cl : List (Str × Addr)) (pm cv ctv : Value), bindArgs (PySem.W.kla_fn "<lambda>" q params body scope cl pm cv ctv) ⟨[], []⟩ = pure [])
    (hbody : ∀ (A1 : Around) (outer1 : List Env) (s1 : Shared) (H1 : Hp) (E1 : XK) (f1 c1 : Addr), Room 6 (A1.deeper (lamEnv (lawX P w K mg base f c A outer s H0 E) scope s1.heap.objs.size f1 c1)) → PE (lamCx (lawX P w K mg base f c A outer s H0 E) A1 outer1 s1 H1 E1 scope f1 c1) body (t E1)) :
    PE (lawX P w K mg base f c A outer s H0 E) (.Call (.Name "_law_said" p) [.Lambda params body scope lpos] [] pos) (LD.tLamP [(Pl, ql)] Pl (TTsaid CL CS) t) := by
  obtain ⟨g, oc, od, kV, doc, pm, an, cdv, ct, osl, m, lk, hcd, kp⟩ := F.D.ex
  obtain ⟨bmB, Bx, newId, initId, BS⟩ := F.BS
  subst hq
  exact LD.pe_lamcall0 (Ng := ["_law_work", "e"]) (a := "_law_work") (c := c) rfl m kp lk hcd (.all fun us hl => match us, hl with | [_], _ => rfl) scSaid rfl (.inl rfl) (said_gives F.BL BS F.M _) F.TB rfl (by simp) (fun q hq _ => by rw [List.mem_singleton.mp hq]) hr Ls hdef hbind hbody
theorem pe_said1 (F : SF P w K mg base CL CS c Pl) (hq : (lawX P w K mg base f c A outer s H0 E).env.qual ++ "<lambda>" = ql) (hr : Room 8 (lawX P w K mg base f c A outer s H0 E).A) {params : Arguments} {body : Expr} {scope : Scope} {p lpos pos : Pos} {t : XK → TE} {d : Str} {di : Int}
    (Ls : LD.LdS nLaw (defScope sLaw) scope d) (hdef : LD.Dfl params di) (hbind : LD.LdBind params body scope d)
    (hbody : ∀ (A1 : Around) (outer1 : List Env) (s1 : Shared) (H1 : Hp) (E1 : XK) (f1 c1 : Addr), Room 6 (A1.deeper (lamEnv (lawX P w K mg base f c A outer s H0 E) scope s1.heap.objs.size f1 c1)) → PE (lamCx (lawX P w K mg base f c A outer s H0 E) A1 outer1 s1 H1 E1 scope f1 c1) body (t E1)) :
    PE (lawX P w K mg base f c A outer s H0 E) (.Call (.Name "_law_said" p) [.Lambda params body scope lpos] [] pos) (LD.tLamP [(Pl, ql)] Pl (TTsaid CL CS) t) := by
  obtain ⟨g, oc, od, kV, doc, pm, an, cdv, ct, osl, m, lk, hcd, kp⟩ := F.D.ex
  obtain ⟨bmB, Bx, newId, initId, BS⟩ := F.BS
  subst hq
  exact LD.pe_lamcallD (Ng := ["_law_work", "e"]) (a := "_law_work") (c := c) rfl m kp lk hcd (.all fun us hl => match us, hl with | [_], _ => rfl) scSaid rfl (.inl rfl) (said_gives F.BL BS F.M _) (fun φ tl H Q h q => ⟨h, q⟩) F.TB rfl (by simp) (fun q hq _ => by rw [List.mem_singleton.mp hq]) hr Ls hdef hbind hbody
theorem lamPass {A1 : Around} {outer1 : List Env} {s1 : Shared} {H1 : Hp} {E1 : XK} {f1 c1 : Addr} {scope : Scope} : Passes (L2.CX P w) (lamCx (lawX P w K mg base f c A outer s H0 E) A1 outer1 s1 H1 E1 scope f1 c1) E1 := passes_call (takes_of rfl rfl rfl rfl) (fun _ _ _ _ h => h)
/-- said of a clock's text -/
theorem said_clk {H1 : Hp} {Q : VK} {x : Str} (hx : x.length ≤ 90000) (t : TOk T H1) (k0 : ∀ r, KM.rdText (tl x) = .ok r → ∀ H', Ext T H1 H' → Q .non H')
    (k1 : ∀ (l j : Nat), KM.rdText (tl x) = .error (l, j) → ∀ H' p, Ext T H1 H' → H' p = none → Q (.ref p) (upd H' p (.tup [.int l, .int j]))) :
    TTsaid CL CS (fun E H' Q' => spReadC T CL CS [.str x] H' Q' E) H1 Q :=
  ⟨t, .inl ⟨x, rfl, hx, fun r h H' a e _ => k0 r h H' e, fun l j h H' d e q => .inl ⟨rfl, d, _, _, rfl, q, fun p hp => k1 l j h H' p e hp⟩⟩⟩
theorem said_plan {H1 : Hp} {Q : VK} {x : Str} {cl : Addr} {c : Clk} (hc : ClkAt H1 cl c) (ok : c.Ok) (hx : x.length ≤ 90000) (t : TOk T H1) (k0 : ∀ rows, KM.rdPlan c.per c.eds c.gaps (tl x) = .ok rows → ∀ H', Ext T H1 H' → Q .non H')
    (k1 : ∀ (l j : Nat), KM.rdPlan c.per c.eds c.gaps (tl x) = .error (l, j) → ∀ H' p, Ext T H1 H' → H' p = none → Q (.ref p) (upd H' p (.tup [.int l, .int j]))) :
    TTsaid CL CS (fun E H' Q' => spReadP T CL [.ref cl, .str x] H' Q' E) H1 Q :=
  ⟨cl, c, x, rfl, hc, ok, hx, t, fun rows h H' q e _ => k0 rows h H' e, fun l j h H' d e q => .inl ⟨rfl, d, _, _, rfl, q, fun p hp => k1 l j h H' p e hp⟩⟩
end
end CW

namespace CW
open PySem hiding wordsOf linesOf
open PySem.Spec PyProof.Rows L2 GA TL LamX
theorem iteP {c A B : Prop} [Decidable c] (hc : c) (h : A) : if c then A else B := by rw [if_pos hc]; exact h
theorem iteN {c A B : Prop} [Decidable c] (hc : ¬ c) (h : B) : if c then A else B := by rw [if_neg hc]; exact h
section
variable {P : Program} {w : World} {K : PySem.W.Frag} {mg : Str → Option Value} {base : Heap} {T : List Addr} {CL CS Pl sc f c : Addr} {ql : Str} {ns : List Int} {A : Around} {outer : List Env} {s : Shared} {H0 : Hp} {E : XK}
def S15 (K : PySem.W.Frag) (T : List Addr) (Pl : Addr) (ql : Str) (sc : Addr) (ns : List Int) : L2.St → Hp → Prop := fun σ H => ∃ (rw cl : Addr) (x3 x4 x5 x7 x8 x9 x10 x11 : V) (x6 : Option V) (c : Clk), σ = [some (.ref sc), some (.ref rw), some (.ref cl), some x3, some x4, some x5, x6, some x7, some x8, some x9, some x10, some x11] ++ List.replicate 10 none ∧
  LB K T Pl ql rw sc ns H ∧ ClkAt H cl c ∧ Drawn' c
/-- what is told of a bent text -/
def Told (c : Clk) (at_ place : Nat) (bent : Str) (H : Hp) (x : V) : Prop := (x = .non ∧ ∃ r, KM.rdText (tl bent) = .ok r) ∨ ∃ (p : Addr) (l j : Nat), x = .ref p ∧ H p = some (.tup [.int l, .int j]) ∧ at_ + 1 ≤ l ∧ (l = at_ + 1 → 0 < place → place + 1 ≤ j)
theorem Bent.lines {c : Clk} {at_ place : Nat} {t : Str} (h : Bent c at_ place t) : ∃ (ws : List KM.Wd) (w : KM.Wd), (clkLines c)[at_]? = some ws ∧ place < ws.length ∧ WordOk w ∧ LinesOk ((clkLines c).take at_ ++ ws.set place w :: (clkLines c).drop (at_ + 1)) ∧ KM.rdText (tl t) = KM.rdClock ((clkLines c).take at_ ++ ws.set place w :: (clkLines c).drop (at_ + 1)) ∧
    tl t = joinL [10] (((clkLines c).take at_ ++ ws.set place w :: (clkLines c).drop (at_ + 1)).map (joinL [32])) := by
  obtain ⟨ws, w, h1, h2, h3, h4⟩ := h.ex
  have lo := bent_linesOk h1 h2 h3
  refine ⟨ws, w, h1, h2, h3, lo, ?_, h4⟩
  unfold KM.rdText
  rw [h4, lines_text lo (by simp)]
theorem words_few {c : Clk} (d : Drawn' c) : ∀ ws ∈ clkLines c, ws.length ≤ 100 := by
  intro ws hw
  obtain ⟨i, hi, e⟩ := List.getElem_of_mem hw
  have hg : (clkLines c)[i]? = some ws := by rw [List.getElem?_eq_getElem hi, e]
  obtain ⟨r, hr⟩ := getq (l := rowsOf c) (i := i) (by rw [rows_lines d.ok]; exact hi)
  obtain ⟨ws', h1, h2⟩ := row_words d.ok hr
  rw [hg] at h1
  obtain rfl := Option.some.inj h1
  obtain ⟨h3, h4⟩ := clk_linesOk c ws hw
  have rl := row_len d r (List.mem_of_getElem? hr)
  have := KM.cut_len 32 (tl r) []
  rw [h2, cut_join h3 fun w q => (h4 w q).2.1, ← h2, ← len_tl] at this
  omega
theorem Bent.ok {c : Clk} {at_ place : Nat} {t : Str} (d : Drawn' c) (h : Bent c at_ place t) {r : KM.Rd} (hr : KM.rdText (tl t) = .ok r) : (clkOf r).Ok ∧ clkText (clkOf r) = t := by
  obtain ⟨ws, w, h1, h2, h3, h4, h5, h6⟩ := h.lines
  rw [h5] at hr
  have lc : (clkLines c).length ≤ 58 := by rw [← rows_lines d.ok]; exact rows_small d
  have wf := words_few d
  obtain ⟨k1, k2⟩ := bent_read h4 (fun xs hx => by
    rcases List.mem_append.mp hx with q | q
    · have := wf xs (List.mem_of_mem_take q); omega
    · rcases List.mem_cons.mp q with rfl | q
      · rw [List.length_set]; have := wf ws (List.mem_of_getElem? h1); omega
      · have := wf xs (List.mem_of_mem_drop q); omega) (by
    simp only [List.length_append, List.length_take, List.length_drop, List.length_cons]
    omega) hr
  exact ⟨k1, ext_tl (by rw [k2, h6])⟩
theorem Bent.err {c : Clk} {at_ place l j : Nat} {t : Str} (d : Drawn' c) (h : Bent c at_ place t) (hr : KM.rdText (tl t) = .error (l, j)) : at_ + 1 ≤ l ∧ (l = at_ + 1 → 0 < place → place + 1 ≤ j) := by
  obtain ⟨ws, w, h1, h2, h3, h4, h5, h6⟩ := h.lines
  rw [h5] at hr
  exact bent_late d.ok h1 h2 hr
theorem said_bent {rw : Addr} {at_ place : Nat} {bent : Str} {c : Clk} {H H1 : Hp} {Q : VK} {tl_ : XK → Hp → VK → Prop} (ht : ∀ E1 H' Q', spReadC T CL CS [.str bent] H' Q' E1 → tl_ E1 H' Q') (dr : Drawn' c) (bt : Bent c at_ place bent) (lb : LB K T Pl ql rw sc ns H) (w1 : LW K T Pl ql rw sc ns H H1) (nP : Pl ∉ T) (nS : Off K [Pl] sc (ns.map V.int))
    (k : ∀ (x : V) (H2 : Hp), LW K T Pl ql rw sc ns H H2 → Told c at_ place bent H2 x → Q x H2) : TTsaid CL CS tl_ H1 Q := by
  have bl := bt.len
  refine ht _ _ _ ?_
  exact said_clk (by omega) w1.b.t (fun r h H2 e2 => k .non H2 (w1.ext nP e2) (.inl ⟨rfl, r, h⟩)) (fun l j h H2 p e2 hp => k (.ref p) _ ((w1.ext nP e2).new lb nS hp _) (.inr ⟨p, l, j, rfl, upd_same, bt.err dr h⟩))
theorem seg4 (L : LF P w K mg base T CL CS) (F : SF P w K mg base CL CS c Pl) (hq : (lawX P w K mg base f c A outer s H0 E).env.qual ++ "<lambda>" = ql) (hr : Room 8 (lawX P w K mg base f c A outer s H0 E).A) (nP : Pl ∉ T) (nS : Off K [Pl] sc (ns.map V.int)) :
    Seg (lawX P w K mg base f c A outer s H0 E) (lawPart 12 3) (S12 K T Pl ql sc ns) (S15 K T Pl ql sc ns) lawRet := by
  refine ⟨_, fun rest u hu => pss_cons (ps_set (i := 11) scLaw.nd rfl (Or.inl rfl) (pe_said0 F hq hr (lamS_by (by decide +kernel)) rfl (fun _ _ _ _ _ => rfl) (fun _ _ _ _ _ _ _ hr2 => pe_cal L.RC hr2 rfl lamPass (pa_cons (pv 10) pa_nil))))
    (pss_cons (ps_if (PW.pt (pw_and (pt_cmpR op_isN (pv 11) pe_non (nomark _)) (pw_and1 (pt_cmpR op_ne (pe_cal L.WC (hr.mono (by decide)) rfl pass0 (pa_cons (pe_cal L.RC (hr.mono (by decide)) rfl lawPass (pa_cons (pv 10) pa_nil)) pa_nil)) (pv 10) (nomark _))))) (pss_one (ps_ret pe_bl)) pss_nil)
    (pss_cons (ps_if (PW.pt (pw_and (pt_cmpR op_notN (pv 11) pe_non (nomark _)) (pw_and1 (PW.pt (pw_or (pt_cmpR op_lt (pe_ix ix_tup (pv 11) pe_int (fun _ _ => rfl)) (pe_op op_add (pv 7) pe_int) (nomark _)) (pw_or1 (PW.pt (pw_and (pt_cmpR op_eq (pe_ix ix_tup (pv 11) pe_int (fun _ _ => rfl)) (pe_op op_add (pv 7) pe_int) (nomark _)) (pw_and (pt_cmpR op_lt (pe_ix ix_tup (pv 11) pe_int (fun _ _ => rfl)) (pe_op op_add (pv 9) pe_int) (nomark _)) (pw_and1 (pt_cmpR op_gt (pv 9) pe_int (nomark _)))))))))))) (pss_one (ps_ret pe_bl)) pss_nil) hu)), ?_⟩
  rintro u D σ H ⟨rw, cl, at_, place, bent, x4, x5, x8, x6, c, rfl, lb, ck, dr, bt⟩ hn _
  have w0 := LW.refl lb
  have bl := bt.len
  refine ⟨lb.tb, fun H1 e1 tb1 => ?_⟩
  have w1 := w0.lam nP nS e1 tb1
  refine said_bent (fun E1 H' Q' h => ⟨_, rfl, nil_i h⟩) dr bt lb w1 nP nS fun x H2 w2 td => ?_
  show tSeq _ _ _ _ H2
  have fin : ∀ H3, LW K T Pl ql rw sc ns H H3 → S15 K T Pl ql sc ns ([some (.ref sc), some (.ref rw), some (.ref cl), some (.str (clkText c)), some x4, some x5, x6, some (.int at_), some x8, some (.int place), some (.str bent), some x] ++ List.replicate 10 none) H3 := fun H3 w3 =>
    ⟨rw, cl, _, _, _, _, _, _, _, _, x6, c, rfl, w3.b, w3.clk lb ck, dr⟩
  have x5' := hn
  rcases td with ⟨rfl, r, hrd⟩ | ⟨p, l, j, rfl, hp, q1, q2⟩
  · obtain ⟨ko, kt⟩ := bt.ok dr hrd
    have bl := bt.len
    refine ⟨_, rfl, rfl, _, rfl, iteP (decide_eq_true rfl) ?_⟩
    refine ⟨_, rfl, w2.b.t, .inl ⟨_, rfl, by omega, fun r' hr' H3 a e3 ca => ?_, fun l j h => ?_⟩⟩
    · rw [hrd] at hr'
      obtain rfl := Except.ok.inj hr'
      refine ⟨a, _, rfl, ca, ko, e3.ok w2.b.t, fun H4 e4 => ⟨_, rfl, rfl, _, rfl, iteNS (by rw [kt]) ?_⟩⟩
      refine ⟨_, rfl, rfl, _, rfl, iteN (by simp) (iteF ?_)⟩
      exact hn _ _ (fin _ ((w2.ext nP e3).ext nP e4))
    · rw [hrd] at h
      cases h
  · refine ⟨_, rfl, rfl, _, rfl, iteN (by simp) (iteF ?_)⟩
    refine ⟨_, rfl, rfl, _, rfl, iteP (by simp) ?_⟩
    refine ⟨_, rfl, p, _, _, _, rfl, rfl, SqT.of hp, rfl, _, rfl, _, _, rfl, rfl, _, _, rfl, rfl, _, rfl, iteN (by simp; omega) ?_⟩
    refine ⟨_, rfl, p, _, _, _, rfl, rfl, SqT.of hp, rfl, _, rfl, _, _, rfl, rfl, rfl, _, rfl, ite2 (fun ce => ?_) (fun ce => iteF ?_)⟩
    · have ce : (l : Int) = (at_ : Int) + 1 := by simpa using ce
      refine ⟨_, rfl, p, _, _, _, rfl, rfl, SqT.of hp, rfl, _, rfl, _, _, rfl, rfl, _, _, rfl, rfl, _, rfl, ite2 (fun cj => ?_) (fun cj => iteF ?_)⟩
      · have cj : (j : Int) < (place : Int) + 1 := by simpa using cj
        refine ⟨_, rfl, _, _, rfl, rfl, _, rfl, iteN ?_ ?_⟩
        · have := q2 (by omega)
          simp
          omega
        · exact hn _ _ (fin _ w2)
      · exact hn _ _ (fin _ w2)
    · exact hn _ _ (fin _ w2)
end
end CW

namespace CW
open PySem hiding wordsOf linesOf
open PySem.Spec PyProof.Rows L2 GA TL LamX
/-! ### the list of the fixed cases -/
abbrev CaseK := Str × Nat × Nat
/-- a case: the pair of a text and the pair that is due -/
def CaseV (H : Hp) (x : V) (k : CaseK) : Prop := ∃ a b : Addr, x = .ref a ∧ H a = some (.tup [.str k.1, .ref b]) ∧ H b = some (.tup [.int k.2.1, .int k.2.2])
def TK (H H' : Hp) : Prop := ∀ b xs, H b = some (.tup xs) → H' b = some (.tup xs)
theorem CaseV.tk {H H' : Hp} {x : V} {k : CaseK} (h : CaseV H x k) (g : TK H H') : CaseV H' x k := by
  obtain ⟨a, b, e, h1, h2⟩ := h
  exact ⟨a, b, e, g _ _ h1, g _ _ h2⟩
theorem TK.tupT {H H' : Hp} {a : Addr} {rows : List (List Int)} (g : TK H H') (h : TupT H a rows) : TupT H' a rows := by
  obtain ⟨as, h1, h2⟩ := h
  exact ⟨as, g _ _ h1, Paired.mapP h2 fun b r z => g _ _ z⟩
theorem TK.clk {H H' : Hp} {a : Addr} {c : Clk} (g : TK H H') (h : ClkAt H a c) : ClkAt H' a c := by
  obtain ⟨e, tt, g1, b, h1, h2, h3, h4, h5⟩ := h
  exact ⟨e, tt, g1, b, g _ _ h1, g _ _ h2, g.tupT h3, g.tupT h4, g.tupT h5⟩
theorem TK.list {H : Hp} {a : Addr} {xs : List V} {u : HO} (h : H a = some (.lst xs)) : TK H (upd H a u) := fun b ys q => by
  rw [upd_ne (fun z => by rw [z, h] at q; cases q)]
  exact q
theorem TK.trans {H H1 H2 : Hp} (g : TK H H1) (h : TK H1 H2) : TK H H2 := fun b xs q => h _ _ (g _ _ q)
section
variable {K : PySem.W.Frag} {T : List Addr} {Pl rw sc p a : Addr} {ql : Str} {ns : List Int} {H H0 H1 : Hp} {o u : HO}
theorem LW.tk (w : LW K T Pl ql rw sc ns H0 H) (b : LB K T Pl ql rw sc ns H0) : TK H0 H := fun _ _ h => w.tup b h
/-- a list of the law's own is changed -/
theorem LB.put {xs : List V} (b : LB K T Pl ql rw sc ns H) (hx : H p = some (.lst xs)) (ne : p ≠ rw) (nS : Off K [p] sc (ns.map V.int)) (u : HO) : LB K T Pl ql rw sc ns (upd H p u) := by
  have e : ExtS T [p] H (upd H p u) := ExtS.own b.t (by simp) hx (fun _ q => nomatch q) _
  refine ⟨e.ok b.t, ?_, ?_⟩
  · obtain ⟨i, m, z, hr, h1, h2, h3, hs, h5⟩ := b.r
    exact ⟨i, m, z, by rw [upd_ne ne.symm]; exact hr, h1, h2, h3, SqL.extO hs b.t e nS, h5⟩
  · have np : Pl ≠ p := fun z => by
      obtain ⟨ps, q⟩ := b.pl
      rw [z, hx] at q; cases q
    intro q hq
    rw [List.mem_singleton.mp hq]
    obtain ⟨ps, h1, h2, h3⟩ := b.tb (Pl, ql) (by simp)
    refine ⟨ps, by rw [upd_ne np]; exact h1, h2, fun pos cv hcv => ?_⟩
    obtain ⟨c, e1, e2⟩ := h3 pos cv hcv
    exact ⟨c, e1, by rw [upd_ne (fun z => by rw [z, hx] at e2; exact codeO_lst (Option.some.inj e2).symm)]; exact e2⟩
def tCase (x : Str) (l j : Int) : TE := tTup (tCons (tC (.str x)) (tCons (tTup (tCons (tC (.int l)) (tCons (tC (.int j)) tNil))) tNil))
theorem case_mk {σ : L2.St} {x : Str} {l j : Nat} {Q : VK} (lb : LB K T Pl ql rw sc ns H) (nS : Off K [Pl] sc (ns.map V.int)) (k : ∀ v H1, LW K T Pl ql rw sc ns H H1 → CaseV H1 v (x, l, j) → Q v H1) : tCase x l j σ H Q := by
  refine ⟨by show 2 ≤ sizeLine; decide, fun b hb => ?_⟩
  have w1 := (LW.refl lb).new lb nS hb (.tup [.int l, .int j])
  have hb1 : (upd H b (.tup [.int l, .int j])) b = some (.tup [.int l, .int j]) := upd_same
  refine ⟨by show 2 ≤ sizeLine; decide, fun a ha => k _ _ (w1.new lb nS ha _) ⟨a, b, rfl, upd_same, put_obj hb1 ha⟩⟩
theorem lst_i {t : TA} {σ : L2.St} {Q : VK} (h : t σ H fun xs H1 => xs.length ≤ sizeLine ∧ ∀ p, H1 p = none → Q (.ref p) (upd H1 p (.lst xs))) : tLst t σ H Q := h
theorem cons_i {te : TE} {t : TA} {σ : L2.St} {Q : List V → Hp → Prop} (h : te σ H fun x H1 => t σ H1 fun xs H2 => Q (x :: xs) H2) : tCons te t σ H Q := h
end
section
variable {P : Program} {w : World} {K : PySem.W.Frag} {mg : Str → Option Value} {base : Heap} {T : List Addr} {CL CS Pl sc f c : Addr} {ql : Str} {ns : List Int} {A : Around} {outer : List Env} {s : Shared} {H0 : Hp} {E : XK} {X : Cx} {R : VK}
theorem paired_app {α β : Type} {F : α → β → Prop} : ∀ {a : List α} {b : List β} {c : List α} {d : List β}, Paired F a b → Paired F c d → Paired F (a ++ c) (b ++ d)
  | _, _, _, _, .nil, h => h
  | _, _, _, _, .cons x t, h => .cons x (paired_app t h)
def SC (K : PySem.W.Frag) (T : List Addr) (Pl : Addr) (ql : Str) (sc : Addr) (ns : List Int) (ks : List CaseK) : L2.St → Hp → Prop := fun σ H => ∃ (rw cl cs : Addr) (x3 x4 x5 x7 x8 x9 x10 x11 : V) (x6 : Option V) (c : Clk) (xs : List V), σ = [some (.ref sc), some (.ref rw), some (.ref cl), some x3, some x4, some x5, x6, some x7, some x8, some x9, some x10, some x11, some (.ref cs)] ++ List.replicate 9 none ∧
  LB K T Pl ql rw sc ns H ∧ ClkAt H cl c ∧ Drawn' c ∧ cs ≠ rw ∧ Off K [cs] sc (ns.map V.int) ∧ H cs = some (.lst xs) ∧ Paired (CaseV H) xs ks
theorem off_new {rw : Addr} {H : Hp} {p : Addr} (b : LB K T Pl ql rw sc ns H) (h : H p = none) : Off K [p] sc (ns.map V.int) := by
  obtain ⟨_, _, _, _, _, _, _, hs, _⟩ := b.r
  exact Off.new hs h
theorem paired_tk {H H' : Hp} (g : TK H H') {xs : List V} {ks : List CaseK} (h : Paired (CaseV H) xs ks) : Paired (CaseV H') xs ks := Paired.mapP h fun _ _ z => z.tk g
theorem app_seg {seg : List Stmt} {ks : List CaseK} {x : Str} {l j : Nat} (hz : ks.length ≤ 100) (nS : Off K [Pl] sc (ns.map V.int)) (h : ∀ rest u, PSs X rest u → PSs X (seg ++ rest) (tSeq (tDrop (tBM K "list" rAppend (tVar 12) (tCons (tCase x l j) tNil))) u)) :
    Seg X seg (SC K T Pl ql sc ns ks) (SC K T Pl ql sc ns (ks ++ ([(x, l, j)] : List CaseK))) R := by
  refine ⟨_, h, ?_⟩
  rintro u D σ H ⟨rw, cl, cs, x3, x4, x5, x7, x8, x9, x10, x11, x6, c, xs, rfl, lb, ck, dr, ncs, off, hcs, pr⟩ hn _
  refine seq_i ⟨_, rfl, lst_at hcs, cons_i (case_mk lb nS fun v H1 w1 c1 => ?_)⟩
  have h1 := w1.lst lb hcs ncs
  refine ⟨cs, xs, v, rfl, rfl, h1, small_line (by rw [pr.length]; omega), ?_⟩
  have g := (w1.tk lb).trans (TK.list (u := .lst (xs ++ [v])) h1)
  exact hn _ _ ⟨rw, cl, cs, x3, x4, x5, x7, x8, x9, x10, x11, x6, c, _, rfl, w1.b.put h1 ncs off _, g.clk ck, dr, ncs, off, upd_same, paired_app (paired_tk g pr) (.cons (c1.tk (TK.list h1)) .nil)⟩
theorem cat2_seg {seg : List Stmt} {ks : List CaseK} {x y : Str} {l j l2 j2 : Nat} (hz : ks.length ≤ 100) (nS : Off K [Pl] sc (ns.map V.int)) (h : ∀ rest u, PSs X rest u → PSs X (seg ++ rest) (tSeq (tAsg (tOp rCat (tVar 12) (tLst (tCons (tCase x l j) (tCons (tCase y l2 j2) tNil)))) (gName 12)) u)) :
    Seg X seg (SC K T Pl ql sc ns ks) (SC K T Pl ql sc ns (ks ++ ([(x, l, j), (y, l2, j2)] : List CaseK))) R := by
  refine ⟨_, h, ?_⟩
  rintro u D σ H ⟨rw, cl, cs, x3, x4, x5, x7, x8, x9, x10, x11, x6, c, xs, rfl, lb, ck, dr, ncs, off, hcs, pr⟩ hn _
  refine seq_i (asg_i ⟨_, rfl, lst_i (cons_i (case_mk lb nS fun v1 H1 w1 c1 => cons_i (case_mk w1.b nS fun v2 H2 w2 c2 => ?_)))⟩)
  have w := w1.trans w2
  have h2 := w.lst lb hcs ncs
  refine ⟨by show 2 ≤ sizeLine; decide, fun p hp => ?_⟩
  have w3 := w.new lb nS hp (.lst [v1, v2])
  have h3 : (upd H2 p (.lst [v1, v2])) cs = some (.lst xs) := put_obj h2 hp
  have k1 := (c1.tk (w2.tk w1.b)).tk (((LW.refl w.b).new w.b nS hp (.lst [v1, v2])).tk w.b)
  have k2 := c2.tk (((LW.refl w.b).new w.b nS hp (.lst [v1, v2])).tk w.b)
  refine ⟨cs, p, xs, [v1, v2], rfl, rfl, h3, upd_same, ?_, fun q hq => ?_⟩
  · have := pr.length
    rw [sizeLine_eq]
    show xs.length + 2 ≤ _
    omega
  have w4 := (LW.refl w3.b).new w3.b nS hq (.lst (xs ++ [v1, v2]))
  have g := (w3.trans w4).tk lb
  exact hn _ _ ⟨rw, cl, q, x3, x4, x5, x7, x8, x9, x10, x11, x6, c, _, rfl, w4.b, g.clk ck, dr, w3.b.r.ne hq, off_new w3.b hq, upd_same, paired_app (paired_tk g pr) (.cons (k1.tk (w4.tk w3.b)) (.cons (k2.tk (w4.tk w3.b)) .nil))⟩
theorem cat3_seg {seg : List Stmt} {ks : List CaseK} {x y z : Str} {l j l2 j2 l3 j3 : Nat} (hz : ks.length ≤ 100) (nS : Off K [Pl] sc (ns.map V.int)) (h : ∀ rest u, PSs X rest u → PSs X (seg ++ rest) (tSeq (tAsg (tOp rCat (tVar 12) (tLst (tCons (tCase x l j) (tCons (tCase y l2 j2) (tCons (tCase z l3 j3) tNil))))) (gName 12)) u)) :
    Seg X seg (SC K T Pl ql sc ns ks) (SC K T Pl ql sc ns (ks ++ ([(x, l, j), (y, l2, j2), (z, l3, j3)] : List CaseK))) R := by
  refine ⟨_, h, ?_⟩
  rintro u D σ H ⟨rw, cl, cs, x3, x4, x5, x7, x8, x9, x10, x11, x6, c, xs, rfl, lb, ck, dr, ncs, off, hcs, pr⟩ hn _
  refine seq_i (asg_i ⟨_, rfl, lst_i (cons_i (case_mk lb nS fun v1 H1 w1 c1 => cons_i (case_mk w1.b nS fun v2 H2 w2 c2 => cons_i (case_mk w2.b nS fun v3 H3 w3 c3 => ?_))))⟩)
  have w := (w1.trans w2).trans w3
  have h2 := w.lst lb hcs ncs
  refine ⟨by show 3 ≤ sizeLine; decide, fun p hp => ?_⟩
  have wp := (LW.refl w.b).new w.b nS hp (.lst [v1, v2, v3])
  have h3 : (upd H3 p (.lst [v1, v2, v3])) cs = some (.lst xs) := put_obj h2 hp
  have k1 := ((c1.tk (w2.tk w1.b)).tk (w3.tk w2.b)).tk (wp.tk w.b)
  have k2 := (c2.tk (w3.tk w2.b)).tk (wp.tk w.b)
  have k3 := c3.tk (wp.tk w.b)
  refine ⟨cs, p, xs, [v1, v2, v3], rfl, rfl, h3, upd_same, ?_, fun q hq => ?_⟩
  · have := pr.length
    rw [sizeLine_eq]
    show xs.length + 3 ≤ _
    omega
  have w4 := (LW.refl wp.b).new wp.b nS hq (.lst (xs ++ [v1, v2, v3]))
  have g := ((w.trans wp).trans w4).tk lb
  exact hn _ _ ⟨rw, cl, q, x3, x4, x5, x7, x8, x9, x10, x11, x6, c, _, rfl, w4.b, g.clk ck, dr, wp.b.r.ne hq, off_new wp.b hq, upd_same, paired_app (paired_tk g pr) (.cons (k1.tk (w4.tk wp.b)) (.cons (k2.tk (w4.tk wp.b)) (.cons (k3.tk (w4.tk wp.b)) .nil)))⟩
theorem lst4_seg {seg : List Stmt} {x y z v : Str} {l j l2 j2 l3 j3 l4 j4 : Nat} (nS : Off K [Pl] sc (ns.map V.int)) (h : ∀ rest u, PSs X rest u → PSs X (seg ++ rest) (tSeq (tAsg (tLst (tCons (tCase x l j) (tCons (tCase y l2 j2) (tCons (tCase z l3 j3) (tCons (tCase v l4 j4) tNil))))) (gName 12)) u)) :
    Seg X seg (S15 K T Pl ql sc ns) (SC K T Pl ql sc ns [(x, l, j), (y, l2, j2), (z, l3, j3), (v, l4, j4)]) R := by
  refine ⟨_, h, ?_⟩
  rintro u D σ H ⟨rw, cl, x3, x4, x5, x7, x8, x9, x10, x11, x6, c, rfl, lb, ck, dr⟩ hn _
  refine seq_i (asg_i (lst_i (cons_i (case_mk lb nS fun v1 H1 w1 c1 => cons_i (case_mk w1.b nS fun v2 H2 w2 c2 => cons_i (case_mk w2.b nS fun v3 H3 w3 c3 => cons_i (case_mk w3.b nS fun v4 H4 w4 c4 => ?_)))))))
  have w := ((w1.trans w2).trans w3).trans w4
  refine ⟨by show 4 ≤ sizeLine; decide, fun p hp => ?_⟩
  have wp := (LW.refl w.b).new w.b nS hp (.lst [v1, v2, v3, v4])
  have k1 := (((c1.tk (w2.tk w1.b)).tk (w3.tk w2.b)).tk (w4.tk w3.b)).tk (wp.tk w.b)
  have k2 := ((c2.tk (w3.tk w2.b)).tk (w4.tk w3.b)).tk (wp.tk w.b)
  have k3 := (c3.tk (w4.tk w3.b)).tk (wp.tk w.b)
  have k4 := c4.tk (wp.tk w.b)
  exact hn _ _ ⟨rw, cl, p, x3, x4, x5, x7, x8, x9, x10, x11, x6, c, _, rfl, wp.b, ((w.trans wp).tk lb).clk ck, dr, w.b.r.ne hp, off_new w.b hp, upd_same, .cons k1 (.cons k2 (.cons k3 (.cons k4 .nil)))⟩
end
theorem pe_case {X : Cx} {x : Str} {l j : Int} {k1 k2 k3 k4 k5 : Nat} {p1 p2 p3 p4 p5 : Pos} : PE X (.Tuple [.Constant (.str x) k1 p1, .Tuple [.Constant (.int l) k2 p2, .Constant (.int j) k3 p3] k4 p4] k5 p5) (tCase x l j) :=
  pe_tup (pa_cons pe_str (pa_cons (pe_tup (pa_cons pe_int (pa_cons pe_int pa_nil))) pa_nil))
def casesK : List CaseK := casesL.map fun x => (Str.ofString x.1, x.2)
section
variable {P : Program} {w : World} {K : PySem.W.Frag} {mg : Str → Option Value} {base : Heap} {T : List Addr} {CL CS Pl sc f c : Addr} {ql : Str} {ns : List Int} {A : Around} {outer : List Env} {s : Shared} {H0 : Hp} {E : XK} {R : VK}
theorem seg5 (nS : Off K [Pl] sc (ns.map V.int)) : Seg (lawX P w K mg base f c A outer s H0 E) (lawPart 15 8) (S15 K T Pl ql sc ns) (SC K T Pl ql sc ns casesK) R := by
  have a15 : Seg (lawX P w K mg base f c A outer s H0 E) (lawPart 15 1) (S15 K T Pl ql sc ns) (SC K T Pl ql sc ns [("", 2, 1), ("period", 1, 2), ("period 13", 1, 2), ("wheel 1 0", 1, 1)]) R :=
    lst4_seg nS fun rest u hu => pss_cons (ps_set (i := 12) scLaw.nd rfl (Or.inl rfl) (pe_lst (pa_cons pe_case (pa_cons pe_case (pa_cons pe_case (pa_cons pe_case pa_nil)))))) hu
  have a16 : ∀ {ks : List CaseK}, ks.length ≤ 100 → Seg (lawX P w K mg base f c A outer s H0 E) (lawPart 16 1) (SC K T Pl ql sc ns ks) (SC K T Pl ql sc ns (ks ++ ([("period 2\nwheel 1", 2, 3)] : List CaseK))) R := fun hk =>
    app_seg hk nS fun rest u hu => pss_cons (ps_expr (pe_bm PySem.F.plainAttrs_list PySem.F.slot_list_append PySem.F.type_list_append mt_append (pv 12) (pa_cons pe_case pa_nil))) hu
  have a17 : ∀ {ks : List CaseK}, ks.length ≤ 100 → Seg (lawX P w K mg base f c A outer s H0 E) (lawPart 17 1) (SC K T Pl ql sc ns ks) (SC K T Pl ql sc ns (ks ++ ([("period 2\nwheel 1 1 0", 2, 4), ("period 2\nwheel 0\nwheel 0\ntouch 0 1 1", 4, 4)] : List CaseK))) R := fun hk =>
    cat2_seg hk nS fun rest u hu => pss_cons (ps_set (i := 12) scLaw.nd rfl (Or.inl rfl) (pe_op op_cat (pv 12) (pe_lst (pa_cons pe_case (pa_cons pe_case pa_nil))))) hu
  have a18 : ∀ {ks : List CaseK}, ks.length ≤ 100 → Seg (lawX P w K mg base f c A outer s H0 E) (lawPart 18 1) (SC K T Pl ql sc ns ks) (SC K T Pl ql sc ns (ks ++ ([("period 2\nperiod 2", 2, 1), ("period 2\nwheel 5", 2, 2), ("period 2 2", 1, 3)] : List CaseK))) R := fun hk =>
    cat3_seg hk nS fun rest u hu => pss_cons (ps_set (i := 12) scLaw.nd rfl (Or.inl rfl) (pe_op op_cat (pv 12) (pe_lst (pa_cons pe_case (pa_cons pe_case (pa_cons pe_case pa_nil)))))) hu
  have a19 : ∀ {ks : List CaseK}, ks.length ≤ 100 → Seg (lawX P w K mg base f c A outer s H0 E) (lawPart 19 1) (SC K T Pl ql sc ns ks) (SC K T Pl ql sc ns (ks ++ ([("period 2\nwheel 1 0\nwheel 1 0\nneed 0 1 0 1", 4, 4)] : List CaseK))) R := fun hk =>
    app_seg hk nS fun rest u hu => pss_cons (ps_expr (pe_bm PySem.F.plainAttrs_list PySem.F.slot_list_append PySem.F.type_list_append mt_append (pv 12) (pa_cons pe_case pa_nil))) hu
  have a20 : ∀ {ks : List CaseK}, ks.length ≤ 100 → Seg (lawX P w K mg base f c A outer s H0 E) (lawPart 20 1) (SC K T Pl ql sc ns ks) (SC K T Pl ql sc ns (ks ++ ([("period 2\nwheel 1 0\nneed 0 2 0 1", 3, 3)] : List CaseK))) R := fun hk =>
    app_seg hk nS fun rest u hu => pss_cons (ps_expr (pe_bm PySem.F.plainAttrs_list PySem.F.slot_list_append PySem.F.type_list_append mt_append (pv 12) (pa_cons pe_case pa_nil))) hu
  have a21 : ∀ {ks : List CaseK}, ks.length ≤ 100 → Seg (lawX P w K mg base f c A outer s H0 E) (lawPart 21 1) (SC K T Pl ql sc ns ks) (SC K T Pl ql sc ns (ks ++ ([("period 1\nwheel 0\nwheel 0\ntouch 0 0 1\ntouch 0 0 1", 5, 4)] : List CaseK))) R := fun hk =>
    app_seg hk nS fun rest u hu => pss_cons (ps_expr (pe_bm PySem.F.plainAttrs_list PySem.F.slot_list_append PySem.F.type_list_append mt_append (pv 12) (pa_cons pe_case pa_nil))) hu
  have a22 : ∀ {ks : List CaseK}, ks.length ≤ 100 → Seg (lawX P w K mg base f c A outer s H0 E) (lawPart 22 1) (SC K T Pl ql sc ns ks) (SC K T Pl ql sc ns (ks ++ ([("period 1\nwheel 0\ntouch 0 0", 3, 4)] : List CaseK))) R := fun hk =>
    app_seg hk nS fun rest u hu => pss_cons (ps_expr (pe_bm PySem.F.plainAttrs_list PySem.F.slot_list_append PySem.F.type_list_append mt_append (pv 12) (pa_cons pe_case pa_nil))) hu
  exact a15.trans ((a16 (by decide)).trans ((a17 (by decide)).trans ((a18 (by decide)).trans ((a19 (by decide)).trans ((a20 (by decide)).trans ((a21 (by decide)).trans (a22 (by decide))))))))
end
end CW

namespace CW
open PySem hiding wordsOf linesOf
open PySem.Spec PyProof.Rows L2 GA TL LamX
section
variable {P : Program} {w : World} {K : PySem.W.Frag} {mg : Str → Option Value} {base : Heap} {T : List Addr} {CL CS Pl sc f c : Addr} {ql : Str} {ns : List Int} {A : Around} {outer : List Env} {s : Shared} {H0 : Hp} {E : XK}
def S25 (K : PySem.W.Frag) (T : List Addr) (Pl : Addr) (ql : Str) (sc : Addr) (ns : List Int) : L2.St → Hp → Prop := fun σ H => ∃ (rw cl : Addr) (x3 x4 x5 x7 x8 x9 x10 x11 x12 x13 x14 : V) (x6 : Option V) (c : Clk), σ = [some (.ref sc), some (.ref rw), some (.ref cl), some x3, some x4, some x5, x6, some x7, some x8, some x9, some x10, some x11, some x12, some x13, some x14] ++ List.replicate 7 none ∧
  LB K T Pl ql rw sc ns H ∧ ClkAt H cl c ∧ Drawn' c
theorem casesK_tell : ∀ k ∈ casesK, KM.rdText (tl k.1) = .error (k.2.1, k.2.2) ∧ k.1.length ≤ 100 := by
  intro k hk
  obtain ⟨x, hx, rfl⟩ := List.mem_map.mp hk
  exact cases_tell x hx
theorem said_case {rw : Addr} {x : Str} {l j : Nat} {H H1 : Hp} {Q : VK} {tl_ : XK → Hp → VK → Prop} (ht : ∀ E1 H' Q', spReadC T CL CS [.str x] H' Q' E1 → tl_ E1 H' Q') (hx : x.length ≤ 90000) (he : KM.rdText (tl x) = .error (l, j)) (lb : LB K T Pl ql rw sc ns H) (w1 : LW K T Pl ql rw sc ns H H1) (nP : Pl ∉ T) (nS : Off K [Pl] sc (ns.map V.int))
    (k : ∀ (p : Addr) (H2 : Hp), LW K T Pl ql rw sc ns H H2 → H2 p = some (.tup [.int l, .int j]) → Q (.ref p) H2) : TTsaid CL CS tl_ H1 Q := by
  refine ht _ _ _ ?_
  refine said_clk hx w1.b.t (fun r h => ?_) (fun l' j' h H2 p e2 hp => ?_)
  · rw [he] at h; cases h
  · rw [he] at h
    injection h with h
    injection h with z1 z2
    subst z1 z2
    exact k p _ ((w1.ext nP e2).new lb nS hp _) upd_same
theorem said_seven {rw : Addr} {i : Int} {H H1 : Hp} {Q : VK} {tl_ : XK → Hp → VK → Prop} (ht : ∀ E1 H' Q', spReadC T CL CS [.int i] H' Q' E1 → tl_ E1 H' Q') (lb : LB K T Pl ql rw sc ns H) (w1 : LW K T Pl ql rw sc ns H H1) (k : Q (.str "string") H1) : TTsaid CL CS tl_ H1 Q :=
  ht _ _ _ ⟨w1.b.t, .inr ⟨i, rfl, .inr ⟨rfl, k⟩⟩⟩
theorem ints_eq (ns : List Int) : PyData.eqv (.tuple (ns.map PyData.int)) (.tuple (ns.map PyData.int)) = true := SeqAt.eqv_refl_plain _ (by
  show PyData.plainAll (ns.map PyData.int) = true
  induction ns with
  | nil => rfl
  | cons n r ih => exact ih)
/-- two pairs of ints are alike -/
theorem dp_pair {H : Hp} {a : Addr} {l j : Int} (h : H a = some (.tup [.int l, .int j])) : Dp K H (.ref a) (.tuple ([l, j].map .int)) := .tup (SqT.of h) (dpAll_ints [l, j])
theorem seg6 (L : LF P w K mg base T CL CS) (F : SF P w K mg base CL CS c Pl) (hq : (lawX P w K mg base f c A outer s H0 E).env.qual ++ "<lambda>" = ql) (hr : Room 8 (lawX P w K mg base f c A outer s H0 E).A) (nP : Pl ∉ T) (nS : Off K [Pl] sc (ns.map V.int)) :
    Seg (lawX P w K mg base f c A outer s H0 E) (lawPart 23 2) (SC K T Pl ql sc ns casesK) (S25 K T Pl ql sc ns) lawRet := by
  refine ⟨_, fun rest u hu => pss_cons (ps_asg (pe_cal L.CP (hr.mono (by decide)) rfl pass0 (pa_cons (pv 1) (pa_cons (pv 12) pa_nil))) (pg_tup rfl (pgs_cons (pg_name (i := 13) scLaw.nd rfl (Or.inr rfl)) (pgs_cons (pg_name (i := 14) scLaw.nd rfl (Or.inl rfl)) pgs_nil))))
    (pss_cons (ps_if (PW.pt (pw_or (pt_cmpR (op_neD hr.units) (pe_said1 F hq hr (LD.ldS_by (by decide +kernel)) ⟨rfl, fun env => ⟨_, _, rfl⟩⟩ (fun _ _ _ _ _ _ _ => ⟨_, rfl, rfl⟩) (fun _ _ _ _ _ _ _ hr2 => pe_cal L.RC hr2 rfl lamPass (pa_cons (pv 13) pa_nil))) (pv 14) (nomark _))
        (pw_or1 (pt_cmpR op_ne (pe_said1 F hq hr (LD.ldS_by (by decide +kernel)) ⟨rfl, fun env => ⟨_, _, rfl⟩⟩ (fun _ _ _ _ _ _ _ => ⟨_, rfl, rfl⟩) (fun _ _ _ _ _ _ _ hr2 => pe_cal L.RC hr2 rfl lamPass (pa_cons pe_int pa_nil))) pe_str (nomark _)))))
      (pss_one (ps_ret pe_bl)) pss_nil) hu), ?_⟩
  rintro u D σ H ⟨rw, cl, cs, x3, x4, x5, x7, x8, x9, x10, x11, x6, c, xs, rfl, lb, ck, dr, ncs, off, hcs, pr⟩ hn _
  have w0 := LW.refl lb
  have hlen : xs.length = 14 := pr.length.trans rfl
  refine ⟨_, rfl, _, rfl, rw, sc, cs, ns, xs, rfl, hcs, (fun z => by rw [z] at hlen; cases hlen), by omega, ncs, lb.r, lb.t, fun i x H1 hx e1 r1 => ?_⟩
  obtain ⟨k, hk, a, b, rfl, ha, hb⟩ := paired_get' pr hx
  obtain ⟨x, l, j⟩ := k
  obtain ⟨ht1, ht2⟩ := casesK_tell _ (List.mem_of_getElem? hk)
  have w1 := w0.draw nP e1 r1
  have ha1 := w1.tup lb ha
  have hb1 := w1.tup lb hb
  refine ⟨a, _, rfl, SqT.of ha1, rfl, _, _, rfl, _, _, rfl, rfl, ?_⟩
  show tSeq _ _ _ _ H1
  refine ⟨w1.b.tb, fun H2 e2 tb2 => ?_⟩
  have w2 := w1.lam nP nS e2 tb2
  refine said_case (fun E1 H' Q' h => ⟨_, rfl, nil_i h⟩) (by have : x.length ≤ 100 := ht2; omega) ht1 lb w2 nP nS fun p H3 w3 hp => ?_
  refine ⟨_, rfl, _, _, dp_pair hp, dp_pair (w3.tup lb hb), shaped_tup [(l : Int), (j : Int)], shaped_tup [(l : Int), (j : Int)], _, rfl, ?_⟩
  rw [ints_eq [(l : Int), (j : Int)]]
  refine iteF ?_
  refine ⟨w3.b.tb, fun H4 e4 tb4 => ?_⟩
  have w4 := w3.lam nP nS e4 tb4
  refine said_seven (i := 7) (fun E1 H' Q' h => con_i (nil_i h)) lb w4 ?_
  refine ⟨rfl, _, rfl, iteNS rfl (hn _ _ ⟨rw, cl, x3, x4, x5, x7, x8, x9, x10, x11, _, _, _, x6, c, rfl, w4.b, w4.clk lb ck, dr⟩)⟩
end
end CW

namespace CW
open PySem hiding wordsOf linesOf
open PySem.Spec PyProof.Rows L2 GA TL LamX
/-! ### the rows that are drawn of: data -/
theorem lay_rows : ∀ rows : List (List Int), PyData.canLayAll0 (rows.map fun r => PyData.tuple (r.map PyData.int)) = true
  | [] => rfl
  | r :: t => by
    have := lay_rows t
    simp [PyData.canLayAll0, PyData.canLay0, PySem.W.ke_canLayAll0, this]
theorem deep_rows : ∀ rows : List (List Int), PyData.depthAll (rows.map fun r => PyData.tuple (r.map PyData.int)) ≤ 1
  | [] => Nat.zero_le _
  | r :: t => by
    have := deep_rows t
    simp [PyData.depthAll, PyData.depth, PySem.W.ke_depthAll]
    omega
theorem shaped_rows (rows : List (List Int)) : SeqAt.shaped (.list (rows.map fun r => PyData.tuple (r.map PyData.int))) = true := by
  have := deep_rows rows
  simp [SeqAt.shaped, PyData.canLay0, PyData.depth, lay_rows]
  omega
theorem dpAll_rows {K : PySem.W.Frag} {H : Hp} : ∀ {as : List Addr} {rows : List (List Int)}, Paired (fun b r => TupI H b r) as rows → DpAll K H (as.map V.ref) (rows.map fun r => PyData.tuple (r.map PyData.int))
  | _, _, .nil => .nil
  | _, _, .cons h t => .cons (.tup (SqT.of h) (dpAll_ints _)) (dpAll_rows t)
theorem shaped_nils : ∀ m : Nat, SeqAt.shaped (.list (List.replicate m (PyData.list []))) = true := by
  intro m
  have h1 : PyData.canLayAll0 (List.replicate m (PyData.list [])) = true := by
    induction m with
    | zero => rfl
    | succ m ih => simp [List.replicate_succ, PyData.canLayAll0, PyData.canLay0, ih]
  have h2 : PyData.depthAll (List.replicate m (PyData.list [])) ≤ 1 := by
    clear h1
    induction m with
    | zero => exact Nat.zero_le _
    | succ m ih =>
      simp [List.replicate_succ, PyData.depthAll, PyData.depth]
      omega
  simp [SeqAt.shaped, PyData.canLay0, PyData.depth, h1]
  omega
theorem dpAll_nils {K : PySem.W.Frag} {H : Hp} : ∀ {as : List Addr}, (∀ b ∈ as, H b = some (.lst [])) → DpAll K H (as.map V.ref) (List.replicate as.length (PyData.list []))
  | [], _ => .nil
  | b :: t, h => .cons (.lst (SqL.of (h b (by simp))) .nil) (dpAll_nils fun x hx => h x (by simp [hx]))
theorem snocq {α : Type} {l : List α} {x y : α} {j : Nat} (h : (l ++ [x])[j]? = some y) : l[j]? = some y ∨ (j = l.length ∧ y = x) := by
  rcases Nat.lt_trichotomy j l.length with q | q | q
  · rw [List.getElem?_append_left q] at h
    exact .inl h
  · subst q
    rw [List.getElem?_append_right (Nat.le_refl _), Nat.sub_self] at h
    exact .inr ⟨rfl, (Option.some.inj h).symm⟩
  · have := lt_of_get h
    rw [List.length_append, List.length_singleton] at this
    omega
/-- rows of ticks of a wheel -/
def RowsOf (c : Clk) (j : Nat) (rows : List (List Int)) : Prop := ∃ e g, c.eds[j]? = some e ∧ c.gaps[j]? = some g ∧ rows.length ≤ 300 ∧ ∀ r ∈ rows, TkRow c.per g e.toNat r
def RowOf (c : Clk) (j : Nat) (r : List Int) : Prop := ∃ e g, c.eds[j]? = some e ∧ c.gaps[j]? = some g ∧ TkRow c.per g e.toNat r
theorem plan_from {c : Clk} {rows : List (List Int)} (d : Drawn' c) (hl : rows.length = c.eds.length) (h : ∀ j r, rows[j]? = some r → RowOf c j r) : PlanOk c rows := by
  refine ⟨hl, fun i r hi => ?_⟩
  obtain ⟨e, g, he, hg, q1, q2, q3⟩ := h i r hi
  have he2 := d.two e (List.mem_of_getElem? he)
  refine ⟨by rw [he, q1]; congr 1; omega, q2, by omega, fun n hn => ?_⟩
  obtain ⟨k1, k2, k3⟩ := q3 n hn
  exact ⟨k1, by omega, g, hg, k3⟩
def tCal (sp : Sp) (t : TA) (E : XK) : TE := fun σ H Q => t σ H fun vs H1 => sp vs H1 Q E
def RL (H : Hp) (rw D b : Addr) (rows : List (List Int)) : Prop := LstT H b rows ∧ b ≠ rw ∧ b ≠ D
section
variable {P : Program} {w : World} {K : PySem.W.Frag} {mg : Str → Option Value} {base : Heap} {T : List Addr} {CL CS Pl sc f c : Addr} {ql : Str} {ns : List Int} {A : Around} {outer : List Env} {s : Shared} {H0 : Hp} {E : XK}
def S26 (K : PySem.W.Frag) (T : List Addr) (Pl : Addr) (ql : Str) (sc : Addr) (ns : List Int) : L2.St → Hp → Prop := fun σ H => ∃ (rw cl so : Addr) (x3 x4 x5 x7 x8 x9 x10 x11 x12 x13 x14 : V) (x6 : Option V) (c : Clk) (bs : List Addr) (rss : List (List (List Int))), σ = [some (.ref sc), some (.ref rw), some (.ref cl), some x3, some x4, some x5, x6, some x7, some x8, some x9, some x10, some x11, some x12, some x13, some x14, some (.ref so)] ++ List.replicate 6 none ∧
  LB K T Pl ql rw sc ns H ∧ ClkAt H cl c ∧ Drawn' c ∧ so ≠ rw ∧ H so = some (.lst (bs.map V.ref)) ∧ Paired (RL H rw so) bs rss ∧ rss.length = c.eds.length ∧ ∀ j rows, rss[j]? = some rows → RowsOf c j rows
theorem seg7a (L : LF P w K mg base T CL CS) (hr : Room 8 (lawX P w K mg base f c A outer s H0 E).A) (nP : Pl ∉ T) (nS : Off K [Pl] sc (ns.map V.int)) :
    Seg (lawX P w K mg base f c A outer s H0 E) (lawPart 25 1) (S25 K T Pl ql sc ns) (S26 K T Pl ql sc ns) lawRet := by
  refine ⟨_, fun rest u hu => pss_cons (ps_setLc (i := 15) (own := [("_law_wheel", 17)]) (g := gName 17) (tt := tYes) (te := tCal (spRows T) (tCons (tVar 2) (tCons (tVar 17) (tCons (tC (.int 14)) tNil))) E0) rfl scLaw.nd rfl rfl (by rfl)
      (pi_range1 rfl L.B.range (pa_cons (pe_callB call_len (by rfl) L.B.len PySem.boot_len (pa_cons (pe_ix ix_tup (pv 2) pe_int (fun _ _ => rfl)) pa_nil)) pa_nil)) (blkOk_by (N := nLaw) (sc := defScope sLaw) (by decide +kernel))
      (fun _ _ _ _ _ => pg_name (i := 17) scLaw.nd rfl (Or.inl rfl)) (fun _ _ _ _ _ => pts_nil) (fun _ _ _ _ _ => pe_cal L.CR (hr.mono (by decide)) rfl pass0 (pa_cons (pv 2) (pa_cons (pv 17) (pa_cons pe_int pa_nil))))) hu, ?_⟩
  rintro u D σ H ⟨rw, cl, x3, x4, x5, x7, x8, x9, x10, x11, x12, x13, x14, x6, c, rfl, lb, ck, dr⟩ hn _
  have w0 := LW.refl lb
  obtain ⟨e1, tt1, g1, b1, h1, h2, h3, h4, h5⟩ := id ck
  have edl := dr.eds
  refine ⟨_, rfl, _, _, _, _, rfl, rfl, SqT.of h1, rfl, _, c.eds.length, rfl, .inr ⟨_, SqT.of h2, by rw [List.length_map]⟩, _, rfl, by omega, by omega, fun Dl hD => ?_⟩
  have nDr : Dl ≠ rw := lb.r.ne hD
  refine lc_range (lo := 0) (n := c.eds.length) (fun i H' => LW K T Pl ql rw sc ns H H' ∧ ∃ (bs : List Addr) (rss : List (List (List Int))), H' Dl = some (.lst (bs.map V.ref)) ∧ Paired (RL H' rw Dl) bs rss ∧ rss.length = i ∧ ∀ j rows, rss[j]? = some rows → RowsOf c j rows)
    ⟨w0.new lb nS hD _, [], [], upd_same, .nil, rfl, fun j rows h => by simp at h⟩ ?_ ?_
  · rintro i H1 hi ⟨w1, bs, rss, d1, pr, hl, hall⟩
    rw [Int.zero_add]
    obtain ⟨e, he⟩ := getq (l := c.eds) (i := i) hi
    obtain ⟨g, hg⟩ := getq (l := c.gaps) (i := i) (by rw [dr.ok.gaps.1]; exact hi)
    have he2 := dr.two e (List.mem_of_getElem? he)
    refine ⟨rfl, _, rfl, _, rfl, cl, i, c, e, g, rfl, w1.clk lb ck, dr.ok.per.1, he, hg, he2.1, he2.2, w1.b.t, fun H2 q rows x2 hq l2 z2 r2 => ?_⟩
    have d2 := x2.lst w1.b.t d1
    have w2 := w1.ext nP x2
    have nq : q ≠ Dl := fun z => by rw [z, d1] at hq; cases hq
    refine ⟨_, d2, small_line (by rw [List.length_map, pr.length]; omega), w2.putL lb nS hD d2 _, bs ++ [q], rss ++ [rows], by rw [upd_same, List.map_append]; rfl, paired_app (Paired.mapP pr fun b r z => ⟨(z.1.ext w1.b.t x2).beside d2 z.2.2, z.2⟩) (.cons ⟨l2.beside d2 nq, w1.b.r.ne hq, nq⟩ .nil), by rw [List.length_append, hl]; rfl, fun j rows' hj => ?_⟩
    rcases snocq hj with q | ⟨rfl, rfl⟩
    · exact hall j rows' q
    · rw [hl]
      exact ⟨e, g, he, hg, z2, r2⟩
  · rintro H1 ⟨w1, bs, rss, d1, pr, hl, hall⟩
    exact hn _ _ ⟨rw, cl, Dl, x3, x4, x5, x7, x8, x9, x10, x11, x12, x13, x14, x6, c, bs, rss, rfl, w1.b, w1.clk lb ck, dr, nDr, d1, pr, hl, hall⟩
end
end CW

namespace CW
open PySem hiding wordsOf linesOf
open PySem.Spec PyProof.Rows L2 GA TL LamX
section
variable {P : Program} {w : World} {K : PySem.W.Frag} {mg : Str → Option Value} {base : Heap} {T : List Addr} {CL CS Pl sc f c : Addr} {ql : Str} {ns : List Int} {A : Around} {outer : List Env} {s : Shared} {H0 : Hp} {E : XK}
def S27 (K : PySem.W.Frag) (T : List Addr) (Pl : Addr) (ql : Str) (sc : Addr) (ns : List Int) : L2.St → Hp → Prop := fun σ H => ∃ (rw cl so : Addr) (x3 x4 x5 x7 x8 x9 x10 x11 x12 x13 x14 : V) (x6 : Option V) (c : Clk) (bs : List Addr) (rss : List (List (List Int))), σ = [some (.ref sc), some (.ref rw), some (.ref cl), some x3, some x4, some x5, x6, some x7, some x8, some x9, some x10, some x11, some x12, some x13, some x14, some (.ref so)] ++ List.replicate 6 none ∧
  LB K T Pl ql rw sc ns H ∧ ClkAt H cl c ∧ Drawn' c ∧ so ≠ rw ∧ H so = some (.lst (bs.map V.ref)) ∧ Paired (RL H rw so) bs rss ∧ rss.length = c.eds.length ∧ (∀ (j : Nat) (rows : List (List Int)), rss[j]? = some rows → RowsOf c j rows) ∧ ∀ (j : Nat) (rows : List (List Int)), rss[j]? = some rows → rows ≠ []
theorem rl_lw {rw D b : Addr} {H H1 : Hp} {rows : List (List Int)} (w : LW K T Pl ql rw sc ns H H1) (lb : LB K T Pl ql rw sc ns H) (h : RL H rw D b rows) : RL H1 rw D b rows := ⟨w.lstT lb h.1 h.2.1, h.2⟩
theorem seg7b (L : LF P w K mg base T CL CS) (hr : Room 8 (lawX P w K mg base f c A outer s H0 E).A) (nP : Pl ∉ T) (nS : Off K [Pl] sc (ns.map V.int)) :
    Seg (lawX P w K mg base f c A outer s H0 E) (lawPart 26 1) (S26 K T Pl ql sc ns) (S27 K T Pl ql sc ns) lawRet := by
  refine ⟨_, fun rest u hu => pss_cons (ps_if (pt_cmpR (op_neD hr.units) (pe_lc (own := [("_law_one", 20)]) (g := gName 20) (tt := tTest (tOp (rEqD K) (tVar 20) (tLst tNil))) (te := tVar 20) rfl scLaw.nd (pi_list (pv 15)) (blkOk_by (N := nLaw) (sc := defScope sLaw) (by decide +kernel))
      (fun _ _ _ _ _ => pg_name (i := 20) scLaw.nd rfl (Or.inl rfl)) (fun _ _ _ _ _ => pts_one (pt_cmpR (op_eqD hr.units) (pv 20) (pe_lst pa_nil) (nomark _))) (fun _ _ _ _ _ => pv 20)) (pe_lst pa_nil) (nomark _)) (pss_one (ps_ret pe_bl)) pss_nil) hu, ?_⟩
  rintro u D σ H ⟨rw, cl, so, x3, x4, x5, x7, x8, x9, x10, x11, x12, x13, x14, x6, c, bs, rss, rfl, lb, ck, dr, nso, hso, pr, hl, hall⟩ hn hret
  have w0 := LW.refl lb
  have edl := dr.eds
  refine ⟨_, rfl, so, rfl, ⟨_, SqL.of hso⟩, fun Dl hD => ?_⟩
  have nDr : Dl ≠ rw := lb.r.ne hD
  refine lc_list (K := K) (a := so) (xs := bs.map V.ref) (fun i H' => LW K T Pl ql rw sc ns H H' ∧ ∃ (acc : List Addr), H' Dl = some (.lst (acc.map V.ref)) ∧ acc.length ≤ i ∧ (∀ b ∈ acc, H b = some (.lst []) ∧ b ≠ rw) ∧ (acc = [] → ∀ j rows, j < i → rss[j]? = some rows → rows ≠ []))
    ⟨w0.new lb nS hD _, [], upd_same, Nat.le_refl _, (fun _ h => nomatch h), fun _ j rows h => by omega⟩ (fun i H' _ q => SqL.of (q.1.lst lb hso nso)) ?_ ?_
  · rintro i x H1 hx ⟨w1, acc, d1, q1, q2, q3⟩
    obtain ⟨b, hb, rfl⟩ := mapR hx
    obtain ⟨rows, hrows, rl⟩ := paired_get' pr hb
    have rl1 := rl_lw w1 lb rl
    obtain ⟨as, a1, a2⟩ := rl1.1
    refine ⟨rfl, _, rfl, ⟨Nat.zero_le _, fun q hq => ⟨.list (rows.map fun r => PyData.tuple (r.map .int)), .list [], .lst (SqL.of (put_obj a1 hq)) (dpAll_rows (Paired.mapP a2 fun _ _ z => put_obj z hq)), .lst (SqL.of upd_same) .nil, shaped_rows rows, rfl, _, rfl, ?_⟩⟩⟩
    have w2 := w1.new lb nS hq (.lst [])
    have d2 : (upd H1 q (.lst [])) Dl = some (.lst (acc.map V.ref)) := put_obj d1 hq
    have il := lt_of_get hb
    have bl := pr.length
    cases hrw : rows with
    | nil =>
      refine iteT ⟨_, rfl, _, d2, small_line (by rw [List.length_map]; omega), w2.putL lb nS hD d2 _, acc ++ [b], by rw [upd_same, List.map_append]; rfl, by rw [List.length_append, List.length_singleton]; omega, fun b' hb' => ?_, fun z => by simp at z⟩
      rcases List.mem_append.mp hb' with z | z
      · exact q2 b' z
      · rw [List.mem_singleton.mp z]
        obtain ⟨as0, z1, z2⟩ := rl.1
        rw [hrw] at z2
        cases z2
        exact ⟨z1, rl.2.1⟩
    | cons r t =>
      refine iteF ⟨w2, acc, d2, by omega, q2, fun z j rows' hj hr' => ?_⟩
      by_cases e : j = i
      · subst e
        rw [hrows] at hr'
        obtain rfl := Option.some.inj hr'
        rw [hrw]
        simp
      · exact q3 z j rows' (by omega) hr'
  · rintro H1 ⟨w1, acc, d1, q1, q2, q3⟩
    rw [List.length_map] at q1 q3
    refine ⟨Nat.zero_le _, fun q hq => ?_⟩
    have w2 := w1.new lb nS hq (.lst [])
    have d2 : (upd H1 q (.lst [])) Dl = some (.lst (acc.map V.ref)) := put_obj d1 hq
    refine ⟨.list (List.replicate acc.length (PyData.list [])), .list [], .lst (SqL.of d2) (dpAll_nils fun b hb => w2.lst lb (q2 b hb).1 (q2 b hb).2), .lst (SqL.of upd_same) .nil, shaped_nils _, rfl, _, rfl, ?_⟩
    cases hacc : acc with
    | nil =>
      refine iteF (hn _ _ ⟨rw, cl, so, x3, x4, x5, x7, x8, x9, x10, x11, x12, x13, x14, x6, c, bs, rss, rfl, w2.b, w2.clk lb ck, dr, nso, w2.lst lb hso nso, Paired.mapP pr fun b r z => rl_lw w2 lb z, hl, hall, fun j rows hj => ?_⟩)
      exact q3 hacc j rows (by have := lt_of_get hj; have := pr.length; omega) hj
    | cons b t => exact iteT (hret _ _ rfl)
def S28 (K : PySem.W.Frag) (T : List Addr) (Pl : Addr) (ql : Str) (sc : Addr) (ns : List Int) : L2.St → Hp → Prop := fun σ H => ∃ (rw cl pl : Addr) (x3 x4 x5 x7 x8 x9 x10 x11 x12 x13 x14 x15 : V) (x6 : Option V) (c : Clk) (rows : List (List Int)), σ = [some (.ref sc), some (.ref rw), some (.ref cl), some x3, some x4, some x5, x6, some x7, some x8, some x9, some x10, some x11, some x12, some x13, some x14, some x15, some (.ref pl)] ++ List.replicate 5 none ∧
  LB K T Pl ql rw sc ns H ∧ ClkAt H cl c ∧ Drawn' c ∧ TupT H pl rows ∧ PlanOk c rows ∧ 1 ≤ rows.length
theorem seg7c (L : LF P w K mg base T CL CS) (hr : Room 8 (lawX P w K mg base f c A outer s H0 E).A) (nP : Pl ∉ T) (nS : Off K [Pl] sc (ns.map V.int)) :
    Seg (lawX P w K mg base f c A outer s H0 E) (lawPart 27 1) (S27 K T Pl ql sc ns) (S28 K T Pl ql sc ns) lawRet := by
  refine ⟨_, fun rest u hu => pss_cons (ps_set (i := 16) scLaw.nd rfl (Or.inl rfl) (pe_callTy call_tuple_of (by rfl) L.B.tuple (by decide +kernel) (pa_cons (pe_lc (own := [("_law_one", 20)]) (g := gName 20) (tt := tYes) (te := tCal (spPick K T) (tCons (tVar 1) (tCons (tVar 20) tNil)) E0) rfl scLaw.nd (pi_list (pv 15)) (blkOk_by (N := nLaw) (sc := defScope sLaw) (by decide +kernel))
      (fun _ _ _ _ _ => pg_name (i := 20) scLaw.nd rfl (Or.inl rfl)) (fun _ _ _ _ _ => pts_nil) (fun _ _ _ _ _ => pe_cal L.CP (hr.mono (by decide)) rfl pass0 (pa_cons (pv 1) (pa_cons (pv 20) pa_nil)))) pa_nil))) hu, ?_⟩
  rintro u D σ H ⟨rw, cl, so, x3, x4, x5, x7, x8, x9, x10, x11, x12, x13, x14, x6, c, bs, rss, rfl, lb, ck, dr, nso, hso, pr, hl, hall, hne⟩ hn _
  have w0 := LW.refl lb
  have edl := dr.eds
  have edp := dr.ok.eds.1
  refine ⟨_, rfl, so, rfl, ⟨_, SqL.of hso⟩, fun Dl hD => ?_⟩
  have nDr : Dl ≠ rw := lb.r.ne hD
  refine lc_list (K := K) (a := so) (xs := bs.map V.ref) (fun i H' => LW K T Pl ql rw sc ns H H' ∧ ∃ (as : List Addr) (rows : List (List Int)), H' Dl = some (.lst (as.map V.ref)) ∧ Paired (fun b r => TupI H' b r) as rows ∧ rows.length = i ∧ ∀ j r, rows[j]? = some r → RowOf c j r)
    ⟨w0.new lb nS hD _, [], [], upd_same, .nil, rfl, fun j r h => by simp at h⟩ (fun i H' _ q => SqL.of (q.1.lst lb hso nso)) ?_ ?_
  · rintro i x H1 hx ⟨w1, as, rows, d1, pr1, q1, q2⟩
    obtain ⟨b, hb, rfl⟩ := mapR hx
    obtain ⟨lrows, hrows, rl⟩ := paired_get' pr hb
    have rl1 := rl_lw w1 lb rl
    obtain ⟨las, a1, a2⟩ := rl1.1
    obtain ⟨e, g, he, hg, z300, htk⟩ := hall i lrows hrows
    have nel := hne i lrows hrows
    have al := a2.length
    have il := lt_of_get hb
    have bl := pr.length
    refine ⟨rfl, _, rfl, _, rfl, rw, sc, b, ns, _, rfl, a1, (fun z => nel (List.length_eq_zero_iff.mp (by rw [← al, ← List.length_map (f := V.ref) (as := las), z]; rfl))), by rw [List.length_map]; omega, rl.2.1, w1.b.r, w1.b.t, fun m y H2 hy e2 r2 => ?_⟩
    obtain ⟨ra, hra, rfl⟩ := mapR hy
    obtain ⟨r, hrm, tr⟩ := paired_get' a2 hra
    have v2 := (LW.refl w1.b).draw nP e2 r2
    have w2 := w1.trans v2
    have d2 := v2.lst w1.b d1 nDr
    have tr2 := v2.tupI w1.b tr
    have w3 := w2.putL lb nS hD d2 (.lst (as.map V.ref ++ [.ref ra]))
    have g := TK.list (u := .lst (as.map V.ref ++ [.ref ra])) d2
    refine ⟨_, d2, small_line (by rw [List.length_map, pr1.length]; omega), w3, as ++ [ra], rows ++ [r], by rw [upd_same, List.map_append]; rfl, paired_app (Paired.mapP pr1 fun b r z => g _ _ (v2.tupI w1.b z)) (.cons (g _ _ tr2) .nil), by rw [List.length_append, q1]; rfl, fun j r' hj => ?_⟩
    rcases snocq hj with q | ⟨rfl, rfl⟩
    · exact q2 j r' q
    · rw [q1]
      exact ⟨e, _, he, hg, htk _ (List.mem_of_getElem? hrm)⟩
  · rintro H1 ⟨w1, as, rows, d1, pr1, q1, q2⟩
    rw [List.length_map, pr.length, hl] at q1
    refine nil_i ⟨Dl, _, rfl, .inl ⟨SqL.of d1, fun t ht => ?_⟩⟩
    have w2 := w1.new lb nS ht (.tup (as.map V.ref))
    exact hn _ _ ⟨rw, cl, t, x3, x4, x5, x7, x8, x9, x10, x11, x12, x13, x14, _, x6, c, rows, rfl, w2.b, w2.clk lb ck, dr, ⟨as, upd_same, Paired.mapP pr1 fun b r z => put_obj z ht⟩, plan_from dr q1 q2, by omega⟩
end
end CW

/-! Plain: the texts of plans that the law bends. -/
namespace CW
open PySem hiding wordsOf linesOf
open TL KM
theorem joinL_snoc (S x : List Nat) : ∀ {l : List (List Nat)}, l ≠ [] → joinL S (l ++ [x]) = joinL S l ++ (S ++ x)
  | [], h => absurd rfl h
  | [p], _ => by
    show p ++ (S ++ x) = _
    rfl
  | p :: q :: r, _ => by
    have := joinL_snoc S x (l := q :: r) (by simp)
    show p ++ (S ++ joinL S ((q :: r) ++ [x])) = _
    rw [this]
    show _ = (p ++ (S ++ joinL S (q :: r))) ++ (S ++ x)
    simp only [List.append_assoc]
section
variable {c : Clk} {rows : List (List Int)}
theorem plan_split (h : PlanOk c rows) (hne : rows ≠ []) : Txt.split (planText rows) (Str.ofString "\n") = rows.map (lineS [Str.ofString "wheel"]) := by
  refine map_tl_inj ?_
  rw [KM.split_nl tl_nl (by decide +kernel), tl_plan h, cut_join (by simpa using hne) (fun l hl => by
    obtain ⟨ws, hw, rfl⟩ := List.mem_map.mp hl
    exact join_free (by decide) fun w q => ((plan_linesOk rows ws hw).2 w q).2.2), plan_rows h]
theorem one_linesOk {ws : List Wd} {ls : List (List Wd)} (h : LinesOk ls) (hw : ws ≠ [] ∧ ∀ w ∈ ws, WordOk w) : LinesOk (ls ++ [ws]) := by
  intro x hx
  rcases List.mem_append.mp hx with q | q
  · exact h x q
  · rw [List.mem_singleton.mp q]; exact hw
/-- one more line -/
theorem plan_more (h : PlanOk c rows) (hne : rows ≠ []) : rdPlan c.per c.eds c.gaps (tl (planText rows ++ Str.ofString "\nwheel")) = .error (rows.length + 1, 1) := by
  have e : tl (planText rows ++ Str.ofString "\nwheel") = joinL [10] ((rows.map pLine ++ [[wWheel]]).map (joinL [32])) := by
    rw [tl_append, tl_plan h, List.map_append]
    show _ = joinL [10] ((rows.map pLine).map (joinL [32]) ++ [joinL [32] [wWheel]])
    rw [joinL_snoc _ _ (by simpa using hne)]
    congr 1
  have lo := one_linesOk (plan_linesOk rows) (ws := [wWheel]) ⟨by simp, fun w q => by rw [List.mem_singleton.mp q]; exact whlOk⟩
  refine plan_wrong h (Nat.le_refl _) (ws := [wWheel]) (rest := []) (by rw [e, lines_text lo (by simp), List.take_length]) (by simp) ?_
  rw [h.1]
  exact row_last (w := [])
/-- doubled blanks -/
theorem dbl_is : ∀ l : List Nat, StrLaws.dbl 32 l = dbl l
  | [] => rfl
  | k :: r => by
    have ed : StrLaws.dbl 32 (k :: r) = if k = 32 then k :: k :: StrLaws.dbl 32 r else k :: StrLaws.dbl 32 r := rfl
    rw [ed, dbl, dbl_is r]
    by_cases q : k = 32
    · rw [if_pos q, if_pos q, q]
    · rw [if_neg q, if_neg q]
theorem plan_dbl (h : PlanOk c rows) (hne : rows ≠ []) : rdPlan c.per c.eds c.gaps (tl (Str.ofString " " ++ Txt.replace (planText rows) (Str.ofString " ") (Str.ofString "  "))) = .ok rows := by
  have e : tl (Str.ofString " " ++ Txt.replace (planText rows) (Str.ofString " ") (Str.ofString "  ")) = 32 :: dbl (tl (planText rows)) := by
    rw [tl_append, tl_sp, PyProof.Rows.replace_dbl (planText rows) (Str.ofString " ") (Str.ofString "  ") 32 sp_is (by decide +kernel), dbl_is]
    rfl
  refine plan_read h ?_
  rw [e, lines_dbl, tl_plan h, lines_text (plan_linesOk rows) (by simpa using hne), ne_lines (plan_linesOk rows)]
/-- a row turned round -/
theorem plan_turned (h : PlanOk c rows) {i : Nat} {r : List Int} (hi : rows[i]? = some r) (h2 : 1 < r.length) :
    rdPlan c.per c.eds c.gaps (tl (Txt.join (Str.ofString "\n") ((rows.map (lineS [Str.ofString "wheel"])).set i (lineS [Str.ofString "wheel"] r.reverse)))) = .error (i + 1, 3) := by
  have il := lt_of_get hi
  have el : (rows.map pLine).set i (pLine r.reverse) = (rows.map pLine).take i ++ pLine r.reverse :: (rows.map pLine).drop (i + 1) := by
    rw [List.set_eq_take_append_cons_drop, if_pos (by rw [List.length_map]; exact il)]
  have e : tl (Txt.join (Str.ofString "\n") ((rows.map (lineS [Str.ofString "wheel"])).set i (lineS [Str.ofString "wheel"] r.reverse))) = joinL [10] (((rows.map pLine).set i (pLine r.reverse)).map (joinL [32])) := by
    rw [join_eq, tl_join, tl_nl, List.map_set, plan_rows h, List.map_set, tl_pline (fun n hn => h.pos (List.mem_of_getElem? hi) n (List.mem_reverse.mp hn))]
  have lo : LinesOk ((rows.map pLine).set i (pLine r.reverse)) := fun x hx => by
    rcases List.mem_or_eq_of_mem_set hx with q | q
    · exact plan_linesOk rows x q
    · rw [q]
      exact plan_linesOk [r.reverse] _ (by simp)
  refine plan_wrong h (k := i) (by omega) (ws := pLine r.reverse) (rest := (rows.map pLine).drop (i + 1)) ?_ (by unfold pLine; simp) (row_turned (h.row hi) h2)
  rw [e, lines_text lo (fun z => by
    have := congrArg List.length z
    rw [List.length_set, List.length_map, List.length_nil] at this
    omega), el, List.map_take]
/-- the first line dropped -/
theorem plan_drop (h : PlanOk c rows) (hne : rows ≠ []) : ∃ l j, rdPlan c.per c.eds c.gaps (tl (Txt.join (Str.ofString "\n") ((rows.map (lineS [Str.ofString "wheel"])).drop 1))) = .error (l, j) := by
  have e : tl (Txt.join (Str.ofString "\n") ((rows.map (lineS [Str.ofString "wheel"])).drop 1)) = joinL [10] (((rows.drop 1).map pLine).map (joinL [32])) := by
    rw [join_eq, tl_join, tl_nl, List.map_drop, plan_rows h, List.map_drop, List.map_drop]
  have hp := List.length_pos_iff.mpr hne
  by_cases q : rows.length = 1
  · refine plan_few1 h ?_ q
    rw [e, List.drop_eq_nil_of_le (by omega)]
    rfl
  · have hd : (rows.drop 1).map pLine ≠ [] := fun z => by
      have := congrArg List.length z
      rw [List.length_map, List.length_drop, List.length_nil] at this
      omega
    refine plan_few h ?_
    have k := congrArg List.length (lines_text (plan_linesOk (rows.drop 1)) hd)
    rw [List.length_map, List.length_map, List.length_drop] at k
    rw [e, k]
    omega
/-- the first line with one more word -/
theorem plan_tail (h : PlanOk c rows) {r : List Int} (h0 : rows[0]? = some r) : rdPlan c.per c.eds c.gaps (tl (lineS [Str.ofString "wheel"] r ++ Str.ofString " 7x")) = .error (1, r.length + 2) := by
  have e : tl (lineS [Str.ofString "wheel"] r ++ Str.ofString " 7x") = joinL [10] ([pLine r ++ [[55, 120]]].map (joinL [32])) := by
    rw [tl_append, tl_pline (h.pos (List.mem_of_getElem? h0))]
    show _ = joinL [32] (pLine r ++ [[55, 120]])
    rw [joinL_snoc _ _ (by unfold pLine; simp)]
    congr 1
  have lo : LinesOk [pLine r ++ [[55, 120]]] := fun x hx => by
    rw [List.mem_singleton.mp hx]
    refine ⟨by simp, fun w q => ?_⟩
    rcases List.mem_append.mp q with q | q
    · exact (plan_linesOk [r] (pLine r) (by simp)).2 w q
    · rw [List.mem_singleton.mp q]
      unfold WordOk
      decide
  exact plan_wrong h (k := 0) (Nat.zero_le _) (ws := pLine r ++ [[55, 120]]) (rest := []) (by rw [e, lines_text lo (by simp)]; rfl) (by simp) (row_more (h.row h0) _)
end
end CW

namespace CW
open PySem hiding wordsOf linesOf
open PySem.Spec PyProof.Rows L2 GA TL LamX
theorem iteEq {A B : Prop} {d e : PyData} (h : PyData.eqv d e = true) (b : B) : if (!PyData.eqv d e) = true then A else B := by
  rw [h]
  exact iteF b
theorem ints_eq2 {ns ms : List Int} (h : ns = ms) : PyData.eqv (.tuple (ns.map PyData.int)) (.tuple (ms.map PyData.int)) = true := by rw [h]; exact ints_eq ms
theorem dbl_len : ∀ l : List Nat, (dbl l).length ≤ 2 * l.length
  | [] => Nat.le_refl _
  | x :: r => by
    have := dbl_len r
    unfold dbl
    split
    · simp only [List.length_cons]; omega
    · simp only [List.length_cons]; omega
theorem repl_len (t : Str) : (Txt.replace t (Str.ofString " ") (Str.ofString "  ")).length ≤ 2 * t.length := by
  rw [len_tl, len_tl, PyProof.Rows.replace_dbl t (Str.ofString " ") (Str.ofString "  ") 32 sp_is (by decide +kernel), dbl_is]
  exact dbl_len (tl t)
theorem planText_len {c : Clk} {rows : List (List Int)} (ok : c.Ok) (po : PlanOk c rows) : (planText rows).length ≤ 500 := by
  obtain ⟨h1, h2⟩ := plan_small ok po
  have := joined_len (ls := rows.map (lineS [Str.ofString "wheel"])) (n := 12) (m := 35) (by rw [List.length_map]; exact h1) (fun l hl => by
    obtain ⟨r, hr, rfl⟩ := List.mem_map.mp hl
    have := line_len (hs := [Str.ofString "wheel"]) (h2 r hr).1 (by show 1 ≤ 2; decide) (fun x hx => by rw [List.mem_singleton.mp hx]; decide +kernel)
    have := (h2 r hr).2
    simp only [List.length_cons, List.length_nil] at *
    omega)
  unfold planText
  omega
theorem app_len (a b : Str) : (a ++ b).length = a.length + b.length := by rw [len_tl, tl_append, List.length_append, ← len_tl, ← len_tl]
theorem alk_plan {H : Hp} {a b : Addr} {c : Clk} {rows : List (List Int)} (ok : c.Ok) (po : PlanOk c rows) (h1 : TupT H a rows) (h2 : TupT H b rows) : Alk H 3 (.ref a) (.ref b) := by
  obtain ⟨k1, k2⟩ := plan_small ok po
  exact alk_tupT (n := 0) h1 h2 (by omega) (fun r hr => by have := (k2 r hr).2; omega)
section
variable {P : Program} {w : World} {K : PySem.W.Frag} {mg : Str → Option Value} {base : Heap} {T : List Addr} {CL CS Pl sc f c : Addr} {ql : Str} {ns : List Int} {A : Around} {outer : List Env} {s : Shared} {H0 : Hp} {E : XK}
theorem said_pl {rw cl : Addr} {c : Clk} {x : Str} {l j : Nat} {H H1 : Hp} {Q : VK} {tl_ : XK → Hp → VK → Prop} (ht : ∀ E1 Q', spReadP T CL [.ref cl, .str x] H1 Q' E1 → tl_ E1 H1 Q') (hx : x.length ≤ 90000) (he : KM.rdPlan c.per c.eds c.gaps (tl x) = .error (l, j)) (hc : ClkAt H cl c) (ok : c.Ok) (lb : LB K T Pl ql rw sc ns H) (w1 : LW K T Pl ql rw sc ns H H1) (nP : Pl ∉ T) (nS : Off K [Pl] sc (ns.map V.int))
    (k : ∀ (p : Addr) (H2 : Hp), LW K T Pl ql rw sc ns H H2 → H2 p = some (.tup [.int l, .int j]) → Q (.ref p) H2) : TTsaid CL CS tl_ H1 Q := by
  refine ht _ _ ?_
  refine said_plan (w1.clk lb hc) ok hx w1.b.t (fun r h => ?_) (fun l' j' h H2 p e2 hp => ?_)
  · rw [he] at h; cases h
  · rw [he] at h
    injection h with h
    injection h with z1 z2
    subst z1 z2
    exact k p _ ((w1.ext nP e2).new lb nS hp _) upd_same
def S32 (K : PySem.W.Frag) (T : List Addr) (Pl : Addr) (ql : Str) (sc : Addr) (ns : List Int) : L2.St → Hp → Prop := fun σ H => ∃ (rw cl pl : Addr) (x4 x5 x7 x8 x9 x10 x11 x12 x13 x14 x15 : V) (x6 : Option V) (c : Clk) (rows : List (List Int)), σ = [some (.ref sc), some (.ref rw), some (.ref cl), some (.str (planText rows)), some x4, some x5, x6, some x7, some x8, some x9, some x10, some x11, some x12, some x13, some x14, some x15, some (.ref pl)] ++ List.replicate 5 none ∧
  LB K T Pl ql rw sc ns H ∧ ClkAt H cl c ∧ Drawn' c ∧ TupT H pl rows ∧ PlanOk c rows ∧ 1 ≤ rows.length
theorem seg8 (L : LF P w K mg base T CL CS) (F : SF P w K mg base CL CS c Pl) (hq : (lawX P w K mg base f c A outer s H0 E).env.qual ++ "<lambda>" = ql) (hr : Room 8 (lawX P w K mg base f c A outer s H0 E).A) (nP : Pl ∉ T) (nS : Off K [Pl] sc (ns.map V.int)) :
    Seg (lawX P w K mg base f c A outer s H0 E) (lawPart 28 4) (S28 K T Pl ql sc ns) (S32 K T Pl ql sc ns) lawRet := by
  refine ⟨_, fun rest u hu => pss_cons (ps_set (i := 3) scLaw.nd rfl (Or.inr rfl) (pe_cal L.WP (hr.mono (by decide)) rfl pass0 (pa_cons (pv 2) (pa_cons (pv 16) pa_nil))))
    (pss_cons (ps_if (pt_not (pt_val (pe_cal (L.CA 3) (hr.mono (by decide)) rfl pass0 (pa_cons (pe_cal L.RP (hr.mono (by decide)) rfl lawPass (pa_cons (pv 2) (pa_cons (pv 3) pa_nil))) (pa_cons (pv 16) pa_nil))))) (pss_one (ps_ret pe_bl)) pss_nil)
    (pss_cons (ps_if (pt_not (pt_val (pe_cal (L.CA 3) (hr.mono (by decide)) rfl pass0 (pa_cons (pe_cal L.RP (hr.mono (by decide)) rfl lawPass (pa_cons (pv 2) (pa_cons (pe_catR op_add_str (CwR.pet_replC (pv 3))) pa_nil))) (pa_cons (pv 16) pa_nil))))) (pss_one (ps_ret pe_bl)) pss_nil)
    (pss_cons (ps_if (pt_cmpR (op_neD hr.units) (pe_said1 F hq hr (LD.ldS_by (by decide +kernel)) ⟨rfl, fun env => ⟨_, _, rfl⟩⟩ (fun _ _ _ _ _ _ _ => ⟨_, rfl, rfl⟩) (fun _ _ _ _ _ _ _ hr2 => pe_cal L.RP hr2 rfl lamPass (pa_cons (pv 2) (pa_cons (pe_op op_add_str (pv 3) pe_str) pa_nil))))
        (pe_tup (pa_cons (pe_op op_add (pe_callB call_len (by rfl) L.B.len PySem.boot_len (pa_cons (pv 16) pa_nil)) pe_int) (pa_cons pe_int pa_nil))) (nomark _)) (pss_one (ps_ret pe_bl)) pss_nil) hu))), ?_⟩
  rintro u D σ H ⟨rw, cl, pl, x3, x4, x5, x7, x8, x9, x10, x11, x12, x13, x14, x15, x6, c, rows, rfl, lb, ck, dr, tp, po, rl⟩ hn _
  have w0 := LW.refl lb
  have ok := dr.ok
  have rne : rows ≠ [] := fun z => by rw [z] at rl; cases rl
  have pln := planText_len ok po
  have cmp : ∀ {H1}, LW K T Pl ql rw sc ns H H1 → ClkAt H1 cl c ∧ TupT H1 pl rows := fun w => ⟨w.clk lb ck, w.tupT lb tp⟩
  refine ⟨_, rfl, _, rfl, cl, pl, c, rows, rfl, ck, ok, tp, po, lb.t, fun H1 e1 => ?_⟩
  have w1 := w0.ext nP e1
  show tSeq _ _ _ _ H1
  refine ⟨_, rfl, _, rfl, cl, c, _, rfl, (cmp w1).1, ok, by omega, w1.b.t, fun rows' hrd H2 q e2 tq => ?_, fun l j h => ?_⟩
  case refine_2 => rw [plan_own po rne] at h; cases h
  rw [plan_own po rne] at hrd
  obtain rfl := Except.ok.inj hrd
  have w2 := w1.ext nP e2
  refine ⟨_, rfl, _, _, rfl, alk_plan ok po tq (cmp w2).2, w2.b.t, fun H3 e3 => ⟨true, rfl, iteF ?_⟩⟩
  have w3 := w2.ext nP e3
  have rln := repl_len (planText rows)
  refine ⟨_, rfl, _, rfl, _, rfl, ?_, _, _, rfl, rfl, ?_, cl, c, _, rfl, (cmp w3).1, ok, ?_, w3.b.t, fun rows' hrd H4 q4 e4 tq4 => ?_, fun l j h => ?_⟩
  case refine_1 =>
    rw [show (Str.ofString "  ").length = 2 by decide +kernel]
    omega
  case refine_2 =>
    rw [show (Str.ofString " ").length = 1 by decide +kernel, sizeLine_eq]
    omega
  case refine_3 =>
    rw [app_len, show (Str.ofString " ").length = 1 by decide +kernel]
    omega
  case refine_5 => rw [plan_dbl po rne] at h; cases h
  rw [plan_dbl po rne] at hrd
  obtain rfl := Except.ok.inj hrd
  have w4 := w3.ext nP e4
  refine ⟨_, rfl, _, _, rfl, alk_plan ok po tq4 (cmp w4).2, w4.b.t, fun H5 e5 => ⟨true, rfl, iteF ?_⟩⟩
  have w5 := w4.ext nP e5
  refine ⟨w5.b.tb, fun H6 e6 tb6 => ?_⟩
  have w6 := w5.lam nP nS e6 tb6
  have z7 : (Str.ofString "\nwheel").length = 6 := by decide +kernel
  refine said_pl (fun E1 Q' h => ⟨_, rfl, _, rfl, _, _, rfl, rfl, ?_, nil_i h⟩) ?_ (plan_more po rne) ck ok lb w6 nP nS fun p H7 w7 hp => ?_
  case refine_1 => rw [z7, sizeLine_eq]; omega
  case refine_2 => rw [app_len, z7]; omega
  obtain ⟨as, a1, a2⟩ := (cmp w7).2
  refine ⟨_, rfl, _, rows.length, rfl, .inr ⟨_, SqT.of a1, by rw [List.length_map, a2.length]⟩, _, _, rfl, rfl, ⟨by show 2 ≤ sizeLine; decide, fun q8 hq8 => ?_⟩⟩
  have w8 := w7.new lb nS hq8 (.tup [.int ((rows.length : Int) + 1), .int 1])
  refine ⟨_, _, dp_pair (put_obj hp hq8), dp_pair upd_same, shaped_tup _, shaped_tup _, _, rfl, iteEq (ints_eq2 (by simp)) ?_⟩
  exact hn _ _ ⟨rw, cl, pl, x4, x5, x7, x8, x9, x10, x11, x12, x13, x14, x15, x6, c, rows, rfl, w8.b, (cmp w8).1, dr, (cmp w8).2, po, rl⟩
end
end CW

namespace CW
open PySem hiding wordsOf linesOf
open PySem.Spec PyProof.Rows L2 GA TL LamX
section
variable {P : Program} {w : World} {K : PySem.W.Frag} {mg : Str → Option Value} {base : Heap} {T : List Addr} {CL CS Pl sc f c : Addr} {ql : Str} {ns : List Int} {A : Around} {outer : List Env} {s : Shared} {H0 : Hp} {E : XK}
def S33 (K : PySem.W.Frag) (T : List Addr) (Pl : Addr) (ql : Str) (sc : Addr) (ns : List Int) : L2.St → Hp → Prop := fun σ H => ∃ (rw cl pl : Addr) (x4 x5 x7 x8 x9 x10 x11 x12 x13 x14 x15 : V) (x6 v17 v18 v19 : Option V) (c : Clk) (rows : List (List Int)), σ = [some (.ref sc), some (.ref rw), some (.ref cl), some (.str (planText rows)), some x4, some x5, x6, some x7, some x8, some x9, some x10, some x11, some x12, some x13, some x14, some x15, some (.ref pl), v17, v18, v19, none, none] ∧
  LB K T Pl ql rw sc ns H ∧ ClkAt H cl c ∧ Drawn' c ∧ TupT H pl rows ∧ PlanOk c rows ∧ 1 ≤ rows.length
def rJoinS (K : PySem.W.Frag) : V → List V → Hp → VK → Prop := fun x xs H Q => ∃ a p ys, x = V.str a ∧ xs = [V.ref p] ∧ (SqL K H p (List.map V.str ys) ∨ SqT K H p (List.map V.str ys)) ∧ (List.map (fun x : Str => x.length) ys).sum + ys.length * a.length ≤ 16777216 ∧ Q (V.str (Txt.join a ys)) H
theorem small_rev {r : List Int} (h : Small r) : Small r.reverse := ⟨by rw [List.length_reverse]; exact h.1, fun n hn => h.2 n (List.mem_reverse.mp hn)⟩
theorem seg9 (L : LF P w K mg base T CL CS) (F : SF P w K mg base CL CS c Pl) (hq : (lawX P w K mg base f c A outer s H0 E).env.qual ++ "<lambda>" = ql) (hr : Room 8 (lawX P w K mg base f c A outer s H0 E).A) (nP : Pl ∉ T) (nS : Off K [Pl] sc (ns.map V.int)) :
    Seg (lawX P w K mg base f c A outer s H0 E) (lawPart 32 1) (S32 K T Pl ql sc ns) (S33 K T Pl ql sc ns) lawRet := by
  refine ⟨_, fun rest u hu => pss_cons (ps_for (passes_of rfl) rfl (GB.pi_enumT rfl L.B.enum (pa_cons (pv 16) pa_nil)) (pg_tup rfl (pgs_cons (pg_name (i := 17) scLaw.nd rfl (Or.inl rfl)) (pgs_cons (pg_name (i := 18) scLaw.nd rfl (Or.inl rfl)) pgs_nil)))
      (pss_cons (ps_set (i := 19) scLaw.nd rfl (Or.inr rfl) (pe_m1 PySem.F.slot_str_split PySem.F.type_str_split mt_split (pv 3) pe_str))
      (pss_cons (ps_asg (pe_m1 PySem.F.slot_str_join PySem.F.type_str_join mt_join pe_str (pe_op op_cat (pe_lst (pa_cons pe_str pa_nil)) (pe_lc (own := [("_law_tick", 21)]) (g := gName 21) (tt := tYes) (te := tCB rStrI (tCons (tVar 21) tNil)) rfl scLaw.nd (pi_tup (pe_revT (pv 18))) (blkOk_by (N := nLaw) (sc := defScope sLaw) (by decide +kernel))
          (fun _ _ _ _ _ => pg_name (i := 21) scLaw.nd rfl (Or.inl rfl)) (fun _ _ _ _ _ => pts_nil) (fun _ _ _ _ _ => pe_callTy call_str_int (by rfl) L.B.str (by decide +kernel) (pa_cons (pv 21) pa_nil))))) (pg_sub (pv 19) (pv 17) set_list))
      (pss_one (ps_if (PW.pt (pw_and (pt_cmpR op_gt (pe_callB call_len (by rfl) L.B.len PySem.boot_len (pa_cons (pv 18) pa_nil)) pe_int (nomark _)) (pw_and1 (pt_cmpR (op_neD hr.units) (pe_said1 (t := fun E1 => tCal (spReadP T CL) (tCons (tVar 2) (tCons (tM1 (rJoinS K) (tC (.str "\n")) (tVar 19)) tNil)) E1) F hq hr (LD.ldS_by (by decide +kernel)) ⟨rfl, fun env => ⟨_, _, rfl⟩⟩ (fun _ _ _ _ _ _ _ => ⟨_, rfl, rfl⟩) (fun _ _ _ _ _ _ _ hr2 => pe_cal L.RP hr2 rfl lamPass (pa_cons (pv 2) (pa_cons (pe_m1 PySem.F.slot_str_join PySem.F.type_str_join mt_join pe_str (pv 19)) pa_nil))))
          (pe_tup (pa_cons (pe_op op_add (pv 17) pe_int) (pa_cons pe_int pa_nil))) (nomark _))))) (pss_one (ps_ret pe_bl)) pss_nil))))) hu, ?_⟩
  rintro u D σ H ⟨rw, cl, pl, x4, x5, x7, x8, x9, x10, x11, x12, x13, x14, x15, x6, c, rows, rfl, lb, ck, dr, tp, po, rl⟩ hn _
  have w0 := LW.refl lb
  have ok := dr.ok
  have rne : rows ≠ [] := fun z => by rw [z] at rl; cases rl
  have pln := planText_len ok po
  have sp := plan_split po rne
  obtain ⟨psm1, psm2⟩ := plan_small ok po
  have cmp : ∀ {H1}, LW K T Pl ql rw sc ns H H1 → ClkAt H1 cl c ∧ TupT H1 pl rows := fun w => ⟨w.clk lb ck, w.tupT lb tp⟩
  have lsl : ∀ r, Small r → r.length ≤ 4 → (lineS [Str.ofString "wheel"] r).length ≤ 35 := fun r h1 h2 => by
    have := line_len (hs := [Str.ofString "wheel"]) h1 (by show 1 ≤ 2; decide) (fun x hx => by rw [List.mem_singleton.mp hx]; decide +kernel)
    simp only [List.length_cons, List.length_nil] at this
    omega
  obtain ⟨pas, hpl, ppl⟩ := id tp
  refine ⟨_, rfl, pl, _, rfl, SqT.of hpl, GB.for_enumT (K := K) (a := pl) (xs := pas.map V.ref)
    (fun i σ H' => (∃ v17 v18 v19 : Option V, σ = [some (.ref sc), some (.ref rw), some (.ref cl), some (.str (planText rows)), some x4, some x5, x6, some x7, some x8, some x9, some x10, some x11, some x12, some x13, some x14, some x15, some (.ref pl), v17, v18, v19, none, none]) ∧ LW K T Pl ql rw sc ns H H')
    ⟨⟨none, none, none, rfl⟩, w0⟩ (fun i σ H' q => SqT.of (q.2.tup lb hpl)) ?_ ?_⟩
  · rintro i x Tq σ H1 hx ⟨⟨v17, v18, v19, rfl⟩, w1⟩ hTq
    obtain ⟨ra, hra, rfl⟩ := mapR hx
    obtain ⟨r, hri, tr⟩ := paired_get' ppl hra
    obtain ⟨rs1, rs2⟩ := psm2 r (List.mem_of_getElem? hri)
    have il := lt_of_get hri
    have w2 := w1.new lb nS hTq (.tup [.int (i : Nat), .ref ra])
    refine ⟨Tq, _, rfl, SqT.of upd_same, rfl, _, _, rfl, _, _, rfl, rfl, ?_⟩
    generalize upd H1 Tq (.tup [.int (i : Nat), .ref ra]) = H2 at w2
    -- the lines
    refine ⟨_, rfl, ⟨_, rfl⟩, _, _, rfl, rfl, by decide +kernel, (by rw [sizeLine_eq]; omega), fun ro hro => ?_⟩
    rw [show Txt.split (planText rows) "\n" = rows.map (lineS [Str.ofString "wheel"]) from sp]
    have w3 := w2.new lb nS hro (.lst ((rows.map (lineS [Str.ofString "wheel"])).map V.str))
    have ro3 : (upd H2 ro (.lst ((rows.map (lineS [Str.ofString "wheel"])).map V.str))) ro = some (.lst ((rows.map (lineS [Str.ofString "wheel"])).map V.str)) := upd_same
    have ro0 := w2.free lb.t hro
    have nro : ro ≠ rw := lb.r.ne ro0
    show tSeq _ _ _ _ (upd H2 ro (.lst ((rows.map (lineS [Str.ofString "wheel"])).map V.str)))
    generalize upd H2 ro (.lst ((rows.map (lineS [Str.ofString "wheel"])).map V.str)) = H3 at w3 ro3
    -- the turned line
    refine ⟨⟨_, rfl⟩, ⟨by show 1 ≤ sizeLine; decide, fun p hp => ?_⟩⟩
    have v4 := (LW.refl w3.b).new w3.b nS hp (.lst [.str "wheel"])
    have p4 : (upd H3 p (.lst [.str "wheel"])) p = some (.lst [.str "wheel"]) := upd_same
    have np : p ≠ rw := w3.b.r.ne hp
    generalize upd H3 p (.lst [.str "wheel"]) = H4 at v4 p4
    have tr4 : H4 ra = some (.tup (r.map V.int)) := (w3.trans v4).tupI lb tr
    refine ⟨_, rfl, ra, _, rfl, SqT.of tr4, fun t ht => ?_⟩
    have v5 := v4.new w3.b nS ht (.tup (r.map V.int).reverse)
    have p5 : (upd H4 t (.tup (r.map V.int).reverse)) p = some (.lst [.str "wheel"]) := put_obj p4 ht
    have t5 : (upd H4 t (.tup (r.map V.int).reverse)) t = some (.tup (r.reverse.map V.int)) := by rw [upd_same, List.map_reverse]
    generalize upd H4 t (.tup (r.map V.int).reverse) = H5 at v5 p5 t5
    refine ⟨t, rfl, ⟨_, SqT.of t5⟩, fun Dl hD => ?_⟩
    have sr := small_rev rs1
    have rrl : r.reverse.length = r.length := List.length_reverse
    refine lc_tup (K := K) (a := t) (xs := r.reverse.map V.int) (fun m H' => LW K T Pl ql rw sc ns H5 H' ∧ H' Dl = some (.lst (((r.reverse.take m).map strI).map V.str))) ⟨(LW.refl v5.b).new v5.b nS hD _, upd_same⟩ (fun m H' _ q => SqT.of (q.1.tup v5.b t5)) ?_ ?_
    · rintro m y H6 hm ⟨v6, d6⟩
      obtain ⟨n, hn', rfl⟩ := mapI hm
      obtain ⟨b1, b2⟩ := sr.2 n (List.mem_of_getElem? hn')
      refine ⟨rfl, _, rfl, n, rfl, log_small b1 b2, _, d6, small_line ?_, v6.putL v5.b nS hD d6 _, ?_⟩
      · rw [List.length_map, List.length_map, List.length_take]
        omega
      · rw [upd_same, take_more hn', List.map_append, List.map_append]
        rfl
    · rintro H6 ⟨v6, d6⟩
      rw [List.length_map, List.take_of_length_le (Nat.le_refl _)] at d6
      have p6 : H6 p = some (.lst [.str "wheel"]) := v6.lst v5.b p5 np
      have v36 := v5.trans v6
      refine ⟨p, Dl, _, _, rfl, rfl, p6, d6, by rw [List.length_map, List.length_map, sizeLine_eq]; show 1 + _ ≤ _; omega, fun q hq => ?_⟩
      have v7 := v36.new w3.b nS hq (.lst ([V.str "wheel"] ++ (r.reverse.map strI).map V.str))
      have q7 : (upd H6 q (.lst ([V.str "wheel"] ++ (r.reverse.map strI).map V.str))) q = some (.lst ([V.str "wheel"] ++ (r.reverse.map strI).map V.str)) := upd_same
      generalize upd H6 q (.lst ([V.str "wheel"] ++ (r.reverse.map strI).map V.str)) = H7 at v7 q7
      have ro7 := v7.lst w3.b ro3 nro
      have w7 := w3.trans v7
      refine ⟨_, q, [Str.ofString "wheel"] ++ r.reverse.map strI, rfl, rfl, .inl (SqL.of (by rw [q7, List.map_append]; rfl)), ?_, ?_⟩
      · have h3 := sum_len (l := [Str.ofString "wheel"] ++ r.reverse.map strI) (m := 6) fun x hx => by
          rcases List.mem_append.mp hx with h | h
          · rw [List.mem_singleton.mp h]; decide +kernel
          · obtain ⟨n, hn, rfl⟩ := List.mem_map.mp h
            exact strI_len (sr.2 n hn).1 (sr.2 n hn).2
        rw [show (Str.ofString " ").length = 1 by decide +kernel]
        rw [List.length_append, List.length_map] at h3 ⊢
        simp only [List.length_cons, List.length_nil] at *
        omega
      refine ⟨_, rfl, _, rfl, ro, (rows.map (lineS [Str.ofString "wheel"])).map V.str, (i : Int), i, rfl, rfl, ro7, ?_, ?_⟩
      · unfold ixN
        rw [if_pos (by omega), if_pos (by rw [List.length_map, List.length_map]; omega)]
        rfl
      have w8 := w7.putL lb nS ro0 ro7 (.lst (((rows.map (lineS [Str.ofString "wheel"])).map V.str).set i (.str (lineS [Str.ofString "wheel"] r.reverse))))
      have ro8 : (upd H7 ro (.lst (((rows.map (lineS [Str.ofString "wheel"])).map V.str).set i (.str (lineS [Str.ofString "wheel"] r.reverse))))) ro = some (.lst (((rows.map (lineS [Str.ofString "wheel"])).set i (lineS [Str.ofString "wheel"] r.reverse)).map V.str)) := by rw [upd_same, List.map_set]
      rw [show Txt.join (Str.ofString " ") ([Str.ofString "wheel"] ++ r.reverse.map strI) = lineS [Str.ofString "wheel"] r.reverse from rfl]
      generalize upd H7 ro (.lst (((rows.map (lineS [Str.ofString "wheel"])).map V.str).set i (.str (lineS [Str.ofString "wheel"] r.reverse)))) = H8 at w8 ro8
      have tr8 : H8 ra = some (.tup (r.map V.int)) := w8.tupI lb tr
      have nxt : ∀ {H9}, LW K T Pl ql rw sc ns H H9 → (∃ v17 v18 v19 : Option V, ([some (.ref sc), some (.ref rw), some (.ref cl), some (.str (planText rows)), some x4, some x5, x6, some x7, some x8, some x9, some x10, some x11, some x12, some x13, some x14, some x15, some (.ref pl), some (.int (i : Nat)), some (.ref ra), some (.ref ro), none, none] : L2.St) = [some (.ref sc), some (.ref rw), some (.ref cl), some (.str (planText rows)), some x4, some x5, x6, some x7, some x8, some x9, some x10, some x11, some x12, some x13, some x14, some x15, some (.ref pl), v17, v18, v19, none, none]) ∧ LW K T Pl ql rw sc ns H H9 := fun w => ⟨⟨_, _, _, rfl⟩, w⟩
      refine ⟨_, rfl, _, r.length, rfl, .inr ⟨_, SqT.of tr8, by rw [List.length_map]⟩, _, _, rfl, rfl, _, rfl, ite2 (fun cc => ?_) (fun cc => iteF (nxt w8))⟩
      have cc : 1 < r.length := by
        have := of_decide_eq_true cc
        omega
      refine ⟨w8.b.tb, fun H9 e9 tb9 => ?_⟩
      have w9 := w8.lam nP nS e9 tb9
      have v9 := (LW.refl w8.b).lam nP nS e9 tb9
      have ro9 := v9.lst w8.b ro8 nro
      have bl := joined_len (ls := (rows.map (lineS [Str.ofString "wheel"])).set i (lineS [Str.ofString "wheel"] r.reverse)) (n := 12) (m := 35) (by rw [List.length_set, List.length_map]; exact psm1) (fun l hl => by
        rcases List.mem_or_eq_of_mem_set hl with q | q
        · obtain ⟨r', hr', rfl⟩ := List.mem_map.mp q
          exact lsl r' (psm2 r' hr').1 (psm2 r' hr').2
        · rw [q]
          exact lsl _ sr (by omega))
      refine said_pl (fun E1 Q' h => ⟨_, rfl, ⟨_, rfl⟩, _, rfl, _, ro, _, rfl, rfl, .inl (SqL.of ro9), ?_, nil_i h⟩) (by omega) (plan_turned po hri cc) ck ok lb w9 nP nS fun p10 H10 w10 hp10 => ?_
      · have h3 := sum_len (l := (rows.map (lineS [Str.ofString "wheel"])).set i (lineS [Str.ofString "wheel"] r.reverse)) (m := 35) (fun l hl => by
          rcases List.mem_or_eq_of_mem_set hl with q | q
          · obtain ⟨r', hr', rfl⟩ := List.mem_map.mp q
            exact lsl r' (psm2 r' hr').1 (psm2 r' hr').2
          · rw [q]
            exact lsl _ sr (by omega))
        rw [List.length_set, List.length_map] at h3 ⊢
        rw [show (Str.ofString "\n").length = 1 by decide +kernel]
        omega
      refine ⟨_, rfl, _, _, rfl, rfl, ⟨by show 2 ≤ sizeLine; decide, fun q11 hq11 => ?_⟩⟩
      have w11 := w10.new lb nS hq11 (.tup [.int ((i : Int) + 1), .int 3])
      exact ⟨_, _, dp_pair (put_obj hp10 hq11), dp_pair upd_same, shaped_tup _, shaped_tup _, _, rfl, iteEq (ints_eq2 (by simp)) (nxt w11)⟩
  · rintro σ H1 ⟨⟨v17, v18, v19, rfl⟩, w1⟩
    exact hn _ _ ⟨rw, cl, pl, x4, x5, x7, x8, x9, x10, x11, x12, x13, x14, x15, x6, v17, v18, v19, c, rows, rfl, w1.b, (cmp w1).1, dr, (cmp w1).2, po, rl⟩
end
end CW

namespace CW
open PySem hiding wordsOf linesOf
open PySem.Spec PyProof.Rows L2 GA TL LamX
section
variable {P : Program} {w : World} {K : PySem.W.Frag} {mg : Str → Option Value} {base : Heap} {T : List Addr} {CL CS Pl sc f c : Addr} {ql : Str} {ns : List Int} {A : Around} {outer : List Env} {s : Shared} {H0 : Hp} {E : XK}
theorem said_pl2 {rw cl : Addr} {c : Clk} {x : Str} {l j : Nat} {H H1 : Hp} {Q : VK} {tl_ : XK → Hp → VK → Prop} (ht : ∀ E1 Q', (∀ H2, LW K T Pl ql rw sc ns H H2 → spReadP T CL [.ref cl, .str x] H2 Q' E1) → tl_ E1 H1 Q') (hx : x.length ≤ 90000) (he : KM.rdPlan c.per c.eds c.gaps (tl x) = .error (l, j)) (hc : ClkAt H cl c) (ok : c.Ok) (lb : LB K T Pl ql rw sc ns H) (nP : Pl ∉ T) (nS : Off K [Pl] sc (ns.map V.int))
    (k : ∀ (p : Addr) (H2 : Hp), LW K T Pl ql rw sc ns H H2 → H2 p = some (.tup [.int l, .int j]) → Q (.ref p) H2) : TTsaid CL CS tl_ H1 Q := by
  refine ht _ _ fun H2 w2 => ?_
  refine said_plan (H1 := H2) (w2.clk lb hc) ok hx w2.b.t (fun r h => ?_) (fun l' j' h H3 p e2 hp => ?_)
  · rw [he] at h; cases h
  · rw [he] at h
    injection h with h
    injection h with z1 z2
    subst z1 z2
    exact k p _ ((w2.ext nP e2).new lb nS hp _) upd_same
theorem seg10 (L : LF P w K mg base T CL CS) (F : SF P w K mg base CL CS c Pl) (hq : (lawX P w K mg base f c A outer s H0 E).env.qual ++ "<lambda>" = ql) (hr : Room 8 (lawX P w K mg base f c A outer s H0 E).A) (nP : Pl ∉ T) (nS : Off K [Pl] sc (ns.map V.int)) :
    Seg (lawX P w K mg base f c A outer s H0 E) (lawPart 33 2) (S33 K T Pl ql sc ns) (fun _ _ => False) lawRet := by
  refine ⟨_, fun rest u hu => pss_cons (ps_if (pt_cmpR op_isN (pe_said1 (t := fun E1 => tCal (spReadP T CL) (tCons (tVar 2) (tCons (tM1 (rJoinS K) (tC (.str "\n")) (tSl (rSlL K) (tM1 _ (tVar 3) (tC (.str "\n"))) (tPart (tC (.int 1))) tNoPart)) tNil)) E1) F hq hr (LD.ldS_by (by decide +kernel)) ⟨rfl, fun env => ⟨_, _, rfl⟩⟩ (fun _ _ _ _ _ _ _ => ⟨_, rfl, rfl⟩)
        (fun _ _ _ _ _ _ _ hr2 => pe_cal L.RP hr2 rfl lamPass (pa_cons (pv 2) (pa_cons (pe_m1 PySem.F.slot_str_join PySem.F.type_str_join mt_join pe_str (pe_slice sl_list (pe_m1 PySem.F.slot_str_split PySem.F.type_str_split mt_split (pv 3) pe_str) (po_some pe_int) po_none)) pa_nil)))) pe_non (nomark _))
      (pss_one (ps_ret (pe_and (pe_cmpR op_eq (pe_callB call_len (by rfl) L.B.len PySem.boot_len (pa_cons (pv 16) pa_nil)) pe_int (nomark _)) (pe_one pe_bl)))) pss_nil)
    (pss_cons (ps_ret (pe_cmpR (op_eqD hr.units) (pe_said1 (t := fun E1 => tCal (spReadP T CL) (tCons (tVar 2) (tCons (tOp _ (tOp (rIxL K) (tM1 _ (tVar 3) (tC (.str "\n"))) (tC (.int 0))) (tC (.str " 7x"))) tNil)) E1) F hq hr (LD.ldS_by (by decide +kernel)) ⟨rfl, fun env => ⟨_, _, rfl⟩⟩ (fun _ _ _ _ _ _ _ => ⟨_, rfl, rfl⟩)
        (fun _ _ _ _ _ _ _ hr2 => pe_cal L.RP hr2 rfl lamPass (pa_cons (pv 2) (pa_cons (pe_op op_add_str (pe_ix ix_list (pe_m1 PySem.F.slot_str_split PySem.F.type_str_split mt_split (pv 3) pe_str) pe_int (fun _ _ => rfl)) pe_str) pa_nil))))
        (pe_tup (pa_cons pe_int (pa_cons (pe_op op_add (pe_callB call_len (by rfl) L.B.len PySem.boot_len (pa_cons (pe_ix ix_tup (pv 16) pe_int (fun _ _ => rfl)) pa_nil)) pe_int) pa_nil))) (nomark _))) hu), ?_⟩
  rintro u D σ H ⟨rw, cl, pl, x4, x5, x7, x8, x9, x10, x11, x12, x13, x14, x15, x6, v17, v18, v19, c, rows, rfl, lb, ck, dr, tp, po, rl⟩ _ hret
  have w0 := LW.refl lb
  have ok := dr.ok
  have rne : rows ≠ [] := fun z => by rw [z] at rl; cases rl
  have pln := planText_len ok po
  have sp := plan_split po rne
  obtain ⟨psm1, psm2⟩ := plan_small ok po
  have lsl : ∀ l ∈ rows.map (lineS [Str.ofString "wheel"]), l.length ≤ 35 := fun l hl => by
    obtain ⟨r, hr, rfl⟩ := List.mem_map.mp hl
    have := line_len (hs := [Str.ofString "wheel"]) (psm2 r hr).1 (by show 1 ≤ 2; decide) (fun x hx => by rw [List.mem_singleton.mp hx]; decide +kernel)
    have := (psm2 r hr).2
    simp only [List.length_cons, List.length_nil] at *
    omega
  obtain ⟨l1, j1, hdrop⟩ := plan_drop po rne
  refine ⟨lb.tb, fun H1 e1 tb1 => ?_⟩
  have w1 := w0.lam nP nS e1 tb1
  have bl := joined_len (ls := (rows.map (lineS [Str.ofString "wheel"])).drop 1) (n := 12) (m := 35) (by rw [List.length_drop, List.length_map]; omega) (fun l hl => lsl l (List.mem_of_mem_drop hl))
  refine said_pl2 (fun E1 Q' h => ⟨_, rfl, ⟨_, rfl⟩, _, rfl, ⟨_, rfl⟩, _, _, rfl, rfl, by decide +kernel, (by rw [sizeLine_eq]; omega), fun ro hro => ?_⟩) (by omega) hdrop ck ok lb nP nS fun p2 H2 w2 hp2 => ?_
  · rw [show Txt.split (planText rows) "\n" = rows.map (lineS [Str.ofString "wheel"]) from sp]
    have w2 := w1.new lb nS hro (.lst ((rows.map (lineS [Str.ofString "wheel"])).map V.str))
    refine ⟨1, rfl, ro, _, rfl, SqL.of upd_same, fun p hp => ?_⟩
    rw [show (1 : Int) = ((1 : Nat) : Int) from rfl, cut_from, ← List.map_drop]
    have w3 := w2.new lb nS hp (.lst (((rows.map (lineS [Str.ofString "wheel"])).drop 1).map V.str))
    refine ⟨_, p, _, rfl, rfl, .inl (SqL.of upd_same), ?_, nil_i (h _ w3)⟩
    have h3 := sum_len (l := (rows.map (lineS [Str.ofString "wheel"])).drop 1) (m := 35) (fun l hl => lsl l (List.mem_of_mem_drop hl))
    rw [List.length_drop, List.length_map] at h3 ⊢
    rw [show (Str.ofString "\n").length = 1 by decide +kernel]
    omega
  refine ⟨rfl, _, rfl, iteN (by simp) ?_⟩
  obtain ⟨r0, hr0⟩ := getq (l := rows) (i := 0) (by omega)
  have l0 := lsl (lineS [Str.ofString "wheel"] r0) (List.mem_map_of_mem (List.mem_of_getElem? hr0))
  have z3 : (Str.ofString " 7x").length = 3 := by decide +kernel
  refine ⟨w2.b.tb, fun H3 e3 tb3 => ?_⟩
  have w3 := w2.lam nP nS e3 tb3
  refine said_pl2 (fun E1 Q' h => ⟨_, rfl, _, rfl, ⟨_, rfl⟩, _, _, rfl, rfl, by decide +kernel, (by rw [sizeLine_eq]; omega), fun ro hro => ?_⟩) (by rw [app_len, z3]; omega) (plan_tail po hr0) ck ok lb nP nS fun p4 H4 w4 hp4 => ?_
  · rw [show Txt.split (planText rows) "\n" = rows.map (lineS [Str.ofString "wheel"]) from sp]
    have w4 := w3.new lb nS hro (.lst ((rows.map (lineS [Str.ofString "wheel"])).map V.str))
    have hat : ((rows.map (lineS [Str.ofString "wheel"])))[0]? = some (lineS [Str.ofString "wheel"] r0) := by rw [List.getElem?_map, hr0]; rfl
    refine ⟨ro, _, _, _, rfl, rfl, SqL.of upd_same, atI_str (i := 0) hat, _, _, rfl, rfl, ?_, nil_i (h _ w4)⟩
    rw [z3, sizeLine_eq]
    omega
  obtain ⟨as, a1, a2⟩ := w4.tupT lb tp
  obtain ⟨ra, hra, tra⟩ := paired_get a2 hr0
  have tra : H4 ra = some (.tup (r0.map V.int)) := tra
  refine ⟨_, rfl, _, _, _, _, rfl, rfl, SqT.of a1, atI_ref (i := 0) hra, _, r0.length, rfl, .inr ⟨_, SqT.of tra, by rw [List.length_map]⟩, _, _, rfl, rfl, ⟨by show 2 ≤ sizeLine; decide, fun q5 hq5 => ?_⟩⟩
  refine ⟨_, _, dp_pair (put_obj hp4 hq5), dp_pair upd_same, shaped_tup _, shaped_tup _, hret _ _ (congrArg V.bl (ints_eq2 (by simp)))⟩
end
end CW

namespace CW
open PySem hiding wordsOf linesOf
open PySem.Spec PyProof.Rows L2 GA TL LamX
/-! ### the law's whole body -/
abbrev qLaw : Str := "law.<locals>.<lambda>"
def spLaw (K : PySem.W.Frag) (T : List Addr) (Pl : Addr) : Sp := fun vs H Q _ => ∃ (sc : Addr) (ns : List Int), vs = [.ref sc] ∧ SqL K H sc (ns.map V.int) ∧ TOk T H ∧ Tabs [(Pl, qLaw)] H ∧ Off K [Pl] sc (ns.map V.int) ∧ ∀ H', Q (.bl true) H'
/-- a def that stands behind the top, its code object at c -/
structure DefCode (K : PySem.W.Frag) (mg : Str → Option Value) (x : Str) (st : Stmt) (c : Addr) : Prop where
  ex : ∃ (f : Addr) (oc : Value) (od : Option Addr) (kV doc pm : Value) (an : Option Addr) (ct : Value) (osl : Array (Option Value)),
    mg x = some (.ref f) ∧ K.lookup f = some ⟨oc, od, .func (PySem.W.fnOf x x (defArgs st) (defBody st) (defScope st) .none kV doc pm an (.ref c) ct), osl⟩ ∧ PySem.W.codeIn K (.ref c) x = true ∧ PySem.W.keepIn K (.ref f) = true
theorem tb_gx {base : Heap} {mg : Str → Option Value} {c P : Addr} (t : LamX.TabB base mg c P) : GxR.TabB base mg c P := ⟨t.code, t.bm, t.gP⟩
theorem DefCode.tab {K : PySem.W.Frag} {mg : Str → Option Value} {base : Heap} {x : Str} {st : Stmt} {c P : Addr} (D : DefCode K mg x st c) (t : LamX.TabB base mg c P) : DefTab K mg base x st c P := ⟨D.ex, tb_gx t⟩
/-- what the top has left -/
structure Left (K : PySem.W.Frag) (mg : Str → Option Value) (CL CS C c1 c2 c3 c4 c5 c6 : Addr) : Prop where
  B : Bl mg
  BL : BLAt K mg CL
  BS : ∃ bmB Bx newId initId, BSAt K mg CS bmB Bx newId initId
  M : Exm K CL CS
  R : RCl K C
  RM : RMk K mg C
  isnum : DefAt K mg "is_number" sIsNum
  rising : DefCode K mg "are_rising" sRising c1
  eds : DefCode K mg "are_editions" sEds c2
  touches : DefAt K mg "are_touches" sTouches
  gaps : DefCode K mg "are_gaps" sGaps c3
  entry : DefAt K mg "is_entry" sEntry
  book : DefCode K mg "is_book" sBook c4
  needc : DefAt K mg "need_clock" sNeedC
  needp : DefCode K mg "need_plan" sNeedP c5
  numin : DefCode K mg "number_in" sNumIn c6
  init : MethAt K C "__init__" "ClockReader.__init__" sInit
  take : MethAt K C "take" "ClockReader.take" sTake
  end_ : MethAt K C "need_end" "ClockReader.need_end" sEnd
  read : MethAt K C "read" "ClockReader.read" sRead
  rwheel : MethAt K C "read_wheel" "ClockReader.read_wheel" sRWheel
  rtouch : MethAt K C "read_touch" "ClockReader.read_touch" sRTouch
  rneed : MethAt K C "read_need" "ClockReader.read_need" sRNeed
  first : DefAt K mg "first_less" sFirst
  readc : DefAt K mg "read_clock" sReadC
  writec : DefAt K mg "write_clock" sWriteC
  writep : DefAt K mg "write_plan" sWriteP
  readp : DefAt K mg "read_plan" sReadP
  ticks : DefAt K mg "ticks_in" sTicks
  taken : DefAt K mg "_law_taken" sTaken
  pick : DefAt K mg "_law_pick" sPick
  alike : DefAt K mg "_law_alike" sAlike
  clock : DefAt K mg "_law_clock" sClock
  rows : DefAt K mg "_law_rows" sRows
  said : DefAt K mg "_law_said" sSaid
section
variable {P : Program} {w : World} {K : PySem.W.Frag} {mg : Str → Option Value} {base : Heap} {T : List Addr} {CL CS C Pl sc f c c1 c2 c3 c4 c5 c6 P1 P2 P3 P4 P5 P6 : Addr} {ns : List Int} {A : Around} {outer : List Env} {s : Shared} {H0 : Hp} {E : XK}
theorem Left.law (L : Left K mg CL CS C c1 c2 c3 c4 c5 c6) (t1 : LamX.TabB base mg c1 P1) (t2 : LamX.TabB base mg c2 P2) (t3 : LamX.TabB base mg c3 P3) (t4 : LamX.TabB base mg c4 P4) (t5 : LamX.TabB base mg c5 P5) (t6 : LamX.TabB base mg c6 P6) : LF P w K mg base [P1, P2, P3, P4, P5, P6] CL CS := by
  obtain ⟨bmB, Bx, newId, initId, BS⟩ := L.BS
  have B := L.B
  have CN := cal_isnum (P := P) (w := w) (base := base) L.isnum B
  have CR := cal_rising (P := P) (w := w) (T := [P1, P2, P3, P4, P5, P6]) (L.rising.tab t1) (by simp) B
  have C1 := cal_eds (P := P) (w := w) (T := [P1, P2, P3, P4, P5, P6]) (L.eds.tab t2) (by simp) B CN
  have C2 := cal_touches L.touches B CN CR
  have C3 := cal_gaps (L.gaps.tab t3) (by simp) B CN CR
  have CE := cal_entry L.entry B CN
  have C4 := cal_book (L.book.tab t4) (by simp) B CE CR
  have NC := cal_needc L.needc B CN C1 C2 C3 C4
  have NP := cal_needp (L.needp.tab t5) (by simp) B CN CR
  have NI := cal_numin (P := P) (w := w) (T := [P1, P2, P3, P4, P5, P6]) (L.numin.tab t6) (by simp) B
  have TK := cal_take L.take B L.BL NI
  have EN := cal_end (P := P) (w := w) (base := base) (T := [P1, P2, P3, P4, P5, P6]) L.end_ B L.BL
  have CF := cal_first (P := P) (w := w) (base := base) (T := [P1, P2, P3, P4, P5, P6]) L.first B
  have RW := cal_rwheel L.rwheel L.R B L.BL TK
  have RT := cal_rtouch L.rtouch L.R B L.BL TK EN CF
  have RN := cal_rneed L.rneed L.R B L.BL TK EN CF
  have RD := cal_read L.read L.R B L.BL TK EN RW RT RN
  have CI := cal_initR (P := P) (w := w) (mg := mg) (base := base) L.init L.R
  have CT := cal_taken (P := P) (w := w) (base := base) (T := [P1, P2, P3, P4, P5, P6]) L.taken B
  exact ⟨B, cal_clock L.clock B CT, CT, cal_pick L.pick B CT, cal_alike L.alike B, cal_rows L.rows B, cal_writec L.writec B NC, cal_writep L.writep B NC NP, cal_readc L.readc L.R L.RM B L.BL BS CI RD, cal_readp L.readp B L.BL BS NC (cal_ticks L.ticks B L.BL NI)⟩
theorem law_seg (L : LF P w K mg base T CL CS) (F : SF P w K mg base CL CS c Pl) (hr : Room 8 (lawX P w K mg base f c A outer s H0 E).A) (nP : Pl ∉ T) (nS : Off K [Pl] sc (ns.map V.int)) :
    Seg (lawX P w K mg base f c A outer s H0 E) (defBody sLaw) (fun σ H => σ = lawSt [.ref sc] ∧ SqL K H sc (ns.map V.int) ∧ TOk T H ∧ Tabs [(Pl, qLaw)] H) (fun _ _ => False) lawRet := by
  have hq : (lawX P w K mg base f c A outer s H0 E).env.qual ++ "<lambda>" = qLaw := by rfl
  have h := (seg0 (f := f) (c := c) (outer := outer) (s := s) (H0 := H0) (E := E) (A := A) (ql := qLaw) L hr nP nS).trans ((seg1 L hr nP nS).trans ((seg2 L hr nP nS).trans ((seg3 L hr nP nS).trans ((seg4 L F hq hr nP nS).trans ((seg5 nS).trans ((seg6 L F hq hr nP nS).trans
    ((seg7a L hr nP nS).trans ((seg7b L hr nP nS).trans ((seg7c L hr nP nS).trans ((seg8 L F hq hr nP nS).trans ((seg9 L F hq hr nP nS).trans (seg10 L F hq hr nP nS))))))))))))
  exact h
theorem ok_law {oc kV doc pm ct : Value} {od an : Option Addr} {osl : Array (Option Value)} (L : LF P w K mg base T CL CS) (F : SF P w K mg base CL CS c Pl) (nP : Pl ∉ T) (lk : K.lookup f = some ⟨oc, od, .func (PySem.W.fnOf "law" "law" (defArgs sLaw) (defBody sLaw) (defScope sLaw) .none kV doc pm an (.ref c) ct), osl⟩) (hcd : PySem.W.codeIn K (.ref c) "law" = true) :
    FnOk P w K mg base (L2.CX P w) 9 f (PySem.W.fnOf "law" "law" (defArgs sLaw) (defBody sLaw) (defScope sLaw) .none kV doc pm an (.ref c) ct) ["_law_script"] (spLaw K T Pl) := by
  refine fn_of (k := 8) lk hcd scLaw (fun vs H Q E h => ?_) fun A outer s H vs Q E hr h => ?_
  · obtain ⟨sc, ns, rfl, _⟩ := h
    rfl
  · obtain ⟨sc, ns, rfl, hS, hT, hB, hO, k⟩ := h
    obtain ⟨t, h1, h2⟩ := (law_seg (f := f) (outer := outer) (s := s) (H0 := H) (E := E) (A := A) L F hr nP hO).end_ fun _ _ z => z
    exact ⟨t, h1, h2 _ _ _ ⟨rfl, hS, hT, hB⟩ fun v H' e => by
      have e : v = .bl true := e
      rw [e]
      exact k H'⟩
end
end CW

namespace CW
open PySem hiding wordsOf linesOf
open PySem.Spec PyProof.Rows L2 GA TL LamX
/-- the code object of the def y and its table, which is empty -/
def TabOf (mg : Str → Option Value) (h : Heap) (y : Str) : Prop := ∃ (a : Addr) (o : Obj) (fd : FuncData) (c P : Addr), mg y = some (.ref a) ∧ h.get? a = some o ∧ o.data = .func fd ∧ fd.code = .ref c ∧ h.IsCode c P #[] ∧ h.TableAt c P #[]
theorem walk_mine {l : PySem.W.OpenLaw} {n k : Nat} {q : Program} {loose : List Str} {XP : (Str → Option Value) → Heap → Prop} {YP : World → Heap → Prop} {d : DefRec} {K : Params → PySem.W.Frag} {CX : World → CXT} {x : Str} (names : List Str)
    (hn : l.most = some n) (hn2 : n ≤ sizeLine) (hdf : d.params.defaults = []) (hr : Room k callerA) (hrec : (names.all fun y => (recsOf q).any fun e => e.name == y) = true) (hY : ∀ (w : World) (h : Heap), YP w h → (K w.params).In h)
    (F : ∀ (w : World) (mg : Str → Option Value) (fa : Addr) (h : Heap), YP w h → (K w.params).In h → h.Ns mainGlobals mg → mg d.name = some (.ref fa) → (∀ y ∈ names, TabOf mg h y) → LawAtS l w (K w.params) (CX w) k n x mg fa h)
    (hCX : ∀ (w : World) (H : Hp) (s : Shared) (e : Value) (s' : Shared), CX w [] H s (fun _ _ _ => False) e s' → False) :
    PySem.W.WalkO q loose XP YP l.row.toRowW d [] (fun f vs => PySem.call f vs) := by
  refine Att.attach_callB hn hdf fun w s₀ s₁ mg mb fa o pm cd doc a vs ns G Y ho hd hcd hmg hobj hints hlen hbits hg => ?_
  have KX := hY w _ Y
  have tabs : ∀ y ∈ names, TabOf mg s₁.heap y := fun y hy => by
    have h1 := List.all_eq_true.mp hrec y hy
    obtain ⟨dL, hm, hn1⟩ := List.any_eq_true.mp h1
    have hn2 : dL.name = y := beq_iff_eq.mp hn1
    rw [← hn2]
    exact G.T.tab dL hm
  obtain ⟨fd, cs, sp, hT, nT, C, hb, hsp, hF⟩ := F w mg fa _ Y KX G.T.g hmg tabs
  exact law_callTs KX G.T.g G.T.b G.T.builtins G.T.nolimit hg hT nT C G.T.bmain hobj hints (Nat.le_trans hlen hn2) hr hF hb (fun H hH hS => hsp H a ns hlen hbits hH hS) fun H e s' => hCX w H s₁ e s'
section
variable {K : PySem.W.Frag} {mg : Str → Option Value} {h : Heap}
theorem TabOf.code {y : Str} {st : Stmt} {c P : Addr} {e : Value} {dd : Option Addr} {vs : Array Value} {sl : Array (Option Value)} (t : TabOf mg h y) (X : K.In h) (D : DefCode K mg y st c) (lc : K.lookup c = some ⟨e, dd, .fields vs, sl⟩) (lv : vs[11]? = some (.ref P)) :
    PySem.W.CodeHd h c P ∧ h.get? P = some { cls := .none, data := .fields #[] } := by
  obtain ⟨a, o, fd, c', P', h1, h2, h3, h4, h5, h6⟩ := t
  obtain ⟨f, oc, od, kV, doc, pm, an, ct, osl, m, lk, _, _⟩ := D.ex
  rw [h1] at m
  cases m
  have g1 := X _ _ lk
  rw [g1] at h2
  cases h2
  cases h3
  have h4 : Value.ref c = Value.ref c' := h4
  cases h4
  have hP : P = P' := by
    obtain ⟨oo, vv, e1, e2, e3, e4⟩ := h6.1
    have g2 := X _ _ lc
    rw [g2] at e1
    cases e1
    cases e3
    rw [lv] at e4
    cases e4
    rfl
  subst hP
  exact ⟨PySem.W.CodeHd.of h5 h6, h6.2⟩
/-! ### facts -/
theorem dat {x : Str} {st : Stmt} {f : Addr} {oc : Value} {od : Option Addr} {kV doc pm : Value} {an : Option Addr} {cdv ct : Value} {osl : Array (Option Value)} (X : K.In h) (G : h.Ns mainGlobals mg) (a : PySem.W.nsIn K mainGlobals x = some (some (.ref f)))
    (l : K.lookup f = some ⟨oc, od, .func (PySem.W.fnOf x x (defArgs st) (defBody st) (defScope st) .none kV doc pm an cdv ct), osl⟩) (c : PySem.W.codeIn K cdv x = true) (k : PySem.W.keepIn K (.ref f) = true) : DefAt K mg x st :=
  ⟨f, oc, od, kV, doc, pm, an, cdv, ct, osl, PySem.W.mg_of X G a, l, c, k⟩
theorem dcd {x : Str} {st : Stmt} {f c : Addr} {oc : Value} {od : Option Addr} {kV doc pm : Value} {an : Option Addr} {ct : Value} {osl : Array (Option Value)} (X : K.In h) (G : h.Ns mainGlobals mg) (a : PySem.W.nsIn K mainGlobals x = some (some (.ref f)))
    (l : K.lookup f = some ⟨oc, od, .func (PySem.W.fnOf x x (defArgs st) (defBody st) (defScope st) .none kV doc pm an (.ref c) ct), osl⟩) (cc : PySem.W.codeIn K (.ref c) x = true) (k : PySem.W.keepIn K (.ref f) = true) : DefCode K mg x st c :=
  ⟨f, oc, od, kV, doc, pm, an, ct, osl, PySem.W.mg_of X G a, l, cc, k⟩
theorem mat {C : Addr} {m q : Str} {st : Stmt} {f : Addr} {oc : Value} {od : Option Addr} {kV doc pm : Value} {an : Option Addr} {cdv ct : Value} {osl : Array (Option Value)} (a : PySem.W.findIn K (.ref C) m = some (some (.ref f))) (i : PySem.W.isFn K (.ref f) = true) (k : PySem.W.keepIn K (.ref f) = true)
    (l : K.lookup f = some ⟨oc, od, .func (PySem.W.fnOf m q (defArgs st) (defBody st) (defScope st) .none kV doc pm an cdv ct), osl⟩) (c : PySem.W.codeIn K cdv q = true) : MethAt K C m q st :=
  ⟨f, oc, od, kV, doc, pm, an, cdv, ct, osl, ⟨a, i, k⟩, l, c⟩
theorem exm_at {S C : Addr} {b : Bool} (h1 : PySem.W.subIn K (.ref C) (.type "BaseException") = some true) (h2 : PySem.W.isClsIn K C = true) (h3 : PySem.W.typeIn K (.ref C) = some (.type "type")) (h4 : PySem.W.subIn K (.ref S) (.ref C) = some b) :
    PySem.W.exmOne K (.ref S) (.ref C) = some b := by
  have e1 : (PySem.W.subIn K (.ref C) (.type "BaseException") == some true) = true := by rw [h1] <;> rfl
  have e2 : ((PySem.W.clsIn K C).isSome && PySem.W.typeIn K (.ref C) == some (.type "type")) = true := by
    have h2' : (PySem.W.clsIn K C).isSome = true := h2
    rw [h2', h3] <;> rfl
  show (if (PySem.W.subIn K (.ref C) (.type "BaseException") == some true) = true then (if ((PySem.W.clsIn K C).isSome && PySem.W.typeIn K (.ref C) == some (.type "type")) = true then PySem.W.subIn K (.ref S) (.ref C) else none) else none) = some b
  rw [if_pos e1, if_pos e2]
  exact h4
theorem bl_at {CL fI N : Addr} {nm q : Str} {bs bm : List Value} {sn : List Str} {sub : List Value} {ab : Bool} {col : Option Bool} {dd : Option Addr} {m0 m1 m2 m3 m5 : Option Value} (X : K.In h) (G : h.Ns mainGlobals mg)
    (a : PySem.W.nsIn K mainGlobals "BadLine" = some (some (.ref CL))) (x : K.lookup CL = some (excClassObj nm q CL N bs bm true sn sub ab col dd m0 m1 m2 m3 m5 "ValueError.__new__")) (rv : PySem.HandSPX.refsVE bm = true)
    (sa : PySem.W.findIn K (.ref CL) "__setattr__" = some (some (.builtin "object.__setattr__"))) (ex : PySem.W.subIn K (.ref CL) (.type "BaseException") = some true) (ty : PySem.W.typeIn K (.ref CL) = some (.type "type")) (kC : PySem.W.keepIn K (.ref CL) = true)
    (ga : PySem.W.findIn K (.ref CL) "__getattribute__" = some (some (.builtin "BaseException.__getattribute__"))) (gg : PySem.W.findIn K (.ref CL) "__getattr__" = some none) (hd : PySem.W.hasDictIn K CL = true)
    (nl : PySem.W.findIn K (.ref CL) "line" = some none) (nw : PySem.W.findIn K (.ref CL) "word" = some none) (i1 : PySem.W.findIn K (.ref CL) "__init__" = some (some (.ref fI))) (i2 : PySem.W.typeIn K (.ref fI) = some (.type "function"))
    (D : MethAt K CL "__init__" "BadLine.__init__" sBLInit) : BLAt K mg CL :=
  ⟨PySem.W.mg_of X G a, ⟨⟨nm, q, N, bs, bm, sn, sub, ab, col, dd, m0, m1, m2, m3, m5, x, rv⟩, sa, ex, ty, kC⟩, ⟨ga, gg, ex, hd⟩, nl, nw, ⟨fI, i1, i2⟩, D⟩
theorem bl_mk {t0 t1 t2 t3 t4 t5 : Tok} (X : K.In h) (G : h.Ns mainGlobals mg) (z0 : PySem.W.nsIn K mainGlobals "isinstance" = some none) (z1 : PySem.W.nsIn K mainGlobals "int" = some none) (z2 : PySem.W.nsIn K mainGlobals "bool" = some none) (z3 : PySem.W.nsIn K mainGlobals "tuple" = some none) (z4 : PySem.W.nsIn K mainGlobals "list" = some none) (z5 : PySem.W.nsIn K mainGlobals "str" = some none) (z6 : PySem.W.nsIn K mainGlobals "len" = some none) (z7 : PySem.W.nsIn K mainGlobals "all" = some none) (z8 : PySem.W.nsIn K mainGlobals "zip" = some none) (z9 : PySem.W.nsIn K mainGlobals "sum" = some none) (z10 : PySem.W.nsIn K mainGlobals "min" = some none) (z11 : PySem.W.nsIn K mainGlobals "max" = some none) (z12 : PySem.W.nsIn K mainGlobals "range" = some none) (z13 : PySem.W.nsIn K mainGlobals "enumerate" = some none) (k0 : PySem.W.nsIn K mainGlobals "MOST_PERIOD" = some (some (.int 12 t0))) (k1 : PySem.W.nsIn K mainGlobals "MOST_WHEELS" = some (some (.int 12 t1))) (k2 : PySem.W.nsIn K mainGlobals "MOST_EDITIONS" = some (some (.int 4 t2))) (k3 : PySem.W.nsIn K mainGlobals "MOST_EXCHANGES" = some (some (.int 24 t3))) (k4 : PySem.W.nsIn K mainGlobals "MOST_PLANNED" = some (some (.int 100000 t4))) (k5 : PySem.W.nsIn K mainGlobals "FIGURES" = some (some (.str "0123456789" t5))) : Bl mg :=
  ⟨fun x hx => by
    simp only [List.mem_cons, List.not_mem_nil, or_false] at hx
    rcases hx with rfl | rfl | rfl | rfl | rfl | rfl | rfl | rfl | rfl | rfl | rfl | rfl | rfl | rfl
    · exact PySem.W.mg_none_of X G z0
    · exact PySem.W.mg_none_of X G z1
    · exact PySem.W.mg_none_of X G z2
    · exact PySem.W.mg_none_of X G z3
    · exact PySem.W.mg_none_of X G z4
    · exact PySem.W.mg_none_of X G z5
    · exact PySem.W.mg_none_of X G z6
    · exact PySem.W.mg_none_of X G z7
    · exact PySem.W.mg_none_of X G z8
    · exact PySem.W.mg_none_of X G z9
    · exact PySem.W.mg_none_of X G z10
    · exact PySem.W.mg_none_of X G z11
    · exact PySem.W.mg_none_of X G z12
    · exact PySem.W.mg_none_of X G z13, ⟨t0, PySem.W.mg_of X G k0⟩, ⟨t1, PySem.W.mg_of X G k1⟩, ⟨t2, PySem.W.mg_of X G k2⟩, ⟨t3, PySem.W.mg_of X G k3⟩, ⟨t4, PySem.W.mg_of X G k4⟩, ⟨t5, PySem.W.mg_of X G k5⟩⟩
theorem rcl_mk {C : Addr} (pg : PySem.W.plainGet K C Str.empty = true) (hd : PySem.W.hasDictIn K C = true) (po : PySem.W.plainOver K C = true) (sa : PySem.W.findIn K (.ref C) "__setattr__" = some (some (.builtin "object.__setattr__"))) (n1 : PySem.W.findIn K (.ref C) "period" = some none) (n2 : PySem.W.findIn K (.ref C) "lasts" = some none) (n3 : PySem.W.findIn K (.ref C) "gaps" = some none) (n4 : PySem.W.findIn K (.ref C) "touches" = some none) (n5 : PySem.W.findIn K (.ref C) "book" = some none) : RCl K C :=
  ⟨⟨pg, hd, po, sa⟩, fun f hf => by
    simp only [List.mem_cons, List.not_mem_nil, or_false] at hf
    rcases hf with rfl | rfl | rfl | rfl | rfl <;> assumption⟩
end
section
variable {l : PySem.W.OpenLaw} {w : World} {K : PySem.W.Frag} {mg : Str → Option Value} {h : Heap} {fa : Addr} {CL CS C c c1 c2 c3 c4 c5 c6 Pl P1 P2 P3 P4 P5 P6 : Addr}
/-- the table of a code object -/
structure Tbl (K : PySem.W.Frag) (c P : Addr) : Prop where
  ex : ∃ (e : Value) (dd : Option Addr) (vs : Array Value) (sl : Array (Option Value)), K.lookup c = some ⟨e, dd, .fields vs, sl⟩ ∧ vs[11]? = some (.ref P)
  no : K.lookup P = none
theorem tbl_mk {e : Value} {dd : Option Addr} {vs : Array Value} {sl : Array (Option Value)} (a : K.lookup c = some ⟨e, dd, .fields vs, sl⟩) (b : vs[11]? = some (.ref Pl)) (n : K.lookup Pl = none) : Tbl K c Pl := ⟨⟨e, dd, vs, sl, a, b⟩, n⟩
theorem law_at (X : K.In h) (G : h.Ns mainGlobals mg) (L : Left K mg CL CS C c1 c2 c3 c4 c5 c6) (DL : DefCode K mg "law" sLaw c) (hfa : mg "law" = some (.ref fa)) (tabs : ∀ y ∈ (["are_rising", "are_editions", "are_gaps", "is_book", "need_plan", "number_in", "law"] : List Str), TabOf mg h y)
    (t1 : Tbl K c1 P1) (t2 : Tbl K c2 P2) (t3 : Tbl K c3 P3) (t4 : Tbl K c4 P4) (t5 : Tbl K c5 P5) (t6 : Tbl K c6 P6) (t7 : Tbl K c Pl) (nP : Pl ∉ [P1, P2, P3, P4, P5, P6]) :
    LawAtS l w K (L2.CX l.prog w) 9 63 "_law_script" mg fa h := by
  obtain ⟨f, oc, od, kV, doc, pm, an, ct, osl, m, lk, hcd, hkp⟩ := id DL.ex
  rw [hfa] at m
  cases m
  have g : ∀ {y : Str} {st : Stmt} {c P : Addr}, y ∈ (["are_rising", "are_editions", "are_gaps", "is_book", "need_plan", "number_in", "law"] : List Str) → DefCode K mg y st c → Tbl K c P → PySem.W.CodeHd h c P ∧ h.get? P = some { cls := .none, data := .fields #[] } := fun hy D t => by
    obtain ⟨e, dd, vs, sl, h1, h2⟩ := t.ex
    exact (tabs _ hy).code X D h1 h2
  have g1 := g (by simp) L.rising t1
  have g2 := g (by simp) L.eds t2
  have g3 := g (by simp) L.gaps t3
  have g4 := g (by simp) L.book t4
  have g5 := g (by simp) L.needp t5
  have g6 := g (by simp) L.numin t6
  have g7 := g (by simp) DL t7
  have all7 : ∀ {F : Addr × Addr → Prop}, F (c1, P1) → F (c2, P2) → F (c3, P3) → F (c4, P4) → F (c5, P5) → F (c6, P6) → F (c, Pl) → ∀ p ∈ [(c1, P1), (c2, P2), (c3, P3), (c4, P4), (c5, P5), (c6, P6), (c, Pl)], F p := fun a1 a2 a3 a4 a5 a6 a7 p hp => by
    simp only [List.mem_cons, List.not_mem_nil, or_false] at hp
    rcases hp with rfl | rfl | rfl | rfl | rfl | rfl | rfl <;> assumption
  refine ⟨PySem.W.fnOf "law" "law" (defArgs sLaw) (defBody sLaw) (defScope sLaw) .none kV doc pm an (.ref c) ct, [(c1, P1), (c2, P2), (c3, P3), (c4, P4), (c5, P5), (c6, P6), (c, Pl)], spLaw K [P1, P2, P3, P4, P5, P6] Pl, all7 g1.2 g2.2 g3.2 g4.2 g5.2 g6.2 g7.2, all7 t1.no t2.no t3.no t4.no t5.no t6.no t7.no, all7 g1.1 g2.1 g3.1 g4.1 g5.1 g6.1 g7.1, fun s u => .of_eq rfl, ?_, ?_⟩
  · intro H a ns _ _ hH hS
    have hPl : H Pl = some (.tbl #[]) := hH (c, Pl) (by simp)
    refine ⟨a, ns, rfl, hS, ?_, ?_, .inl ?_, fun _ => rfl⟩
    · intro P hP
      have hp : H P = some (.tbl #[]) := by
        simp only [List.mem_cons, List.not_mem_nil, or_false] at hP
        rcases hP with rfl | rfl | rfl | rfl | rfl | rfl
        · exact hH (c1, P) (by simp)
        · exact hH (c2, P) (by simp)
        · exact hH (c3, P) (by simp)
        · exact hH (c4, P) (by simp)
        · exact hH (c5, P) (by simp)
        · exact hH (c6, P) (by simp)
      exact ⟨#[], hp, trivial⟩
    · intro p hp
      rw [List.mem_singleton.mp hp]
      exact ⟨#[], hPl, trivial, fun pos cv hc => by cases hc⟩
    · intro z
      have z := List.mem_singleton.mp z
      subst z
      rcases hS with (e | ⟨o, e⟩) | ⟨o, its, n, e, _⟩
      · rw [hPl] at e; cases e
      · rw [hPl] at e; cases e
      · rw [t7.no] at e; cases e
  · intro base hKb hGb hTB
    have tb := fun {x P} hp => hTB (x, P) hp
    have LFx := L.law (P := l.prog) (w := w) (base := base) (P1 := P1) (P2 := P2) (P3 := P3) (P4 := P4) (P5 := P5) (P6 := P6) (tb (by simp)) (tb (by simp)) (tb (by simp)) (tb (by simp)) (tb (by simp)) (tb (by simp))
    exact ok_law LFx ⟨L.said, L.BL, L.BS, L.M, tb (by simp)⟩ nP lk hcd
end
end CW

open PySem PySem.W PyProof.Rows in
set_option maxRecDepth 100000 in
set_option maxHeartbeats 0 in
theorem PySem.Challenge.cw_livingclock_k65_whole_texts_holds : PySem.Challenge.rw_livingclock_k65_whole_texts.Holds := by
  w_on; o_law; k_head; (case hw => w_witness2)
  k_fill
  refine CW.walk_mine (l := PySem.Challenge.rw_livingclock_k65_whole_texts) (n := 63) (k := 9) (x := "_law_script") (CX := fun w => L2.CX (PySem.Challenge.rw_livingclock_k65_whole_texts).prog w) ["are_rising", "are_editions", "are_gaps", "is_book", "need_plan", "number_in", "law"] rfl (by decide) rfl ⟨rfl, by decide, by decide⟩ (by decide +kernel) (fun w h Y => PySem.W.km_in_of Y) ?F (fun _ _ _ _ _ ⟨_, _, _, _, _, _, _, _, _, _, _, _, z⟩ => z)
  case F =>
    intro w mg fa h Y KX G hmg tabs
    refine' CW.law_at KX G ⟨(CW.bl_mk KX G ?z0 ?z1 ?z2 ?z3 ?z4 ?z5 ?z6 ?z7 ?z8 ?z9 ?z10 ?z11 ?z12 ?z13 ?k0 ?k1 ?k2 ?k3 ?k4 ?k5), (CW.bl_at KX G ?bl_a ?bl_x ?bl_rv ?bl_sa ?bl_ex ?bl_ty ?bl_kC ?bl_ga ?bl_gg ?bl_hd ?bl_nl ?bl_nw ?bl_i1 ?bl_i2 (CW.mat ?bli_a ?bli_i ?bli_k ?bli_l ?bli_c)), ⟨_, _, _, _, ⟨PySem.W.mg_of KX G ?bs_a, PySem.F.excBase_ValueError, ?bs_q, ?bs_k, ?bs_s, ?bs_t⟩⟩, ⟨CW.exm_at ?m0 ?m1 ?m2 ?m3, CW.exm_at ?m4 ?m5 ?m6 ?m7, CW.exm_at ?m8 ?m9 ?m10 ?m11⟩, (CW.rcl_mk ?r_pg ?r_hd ?r_po ?r_sa ?r_n1 ?r_n2 ?r_n3 ?r_n4 ?r_n5), ⟨?rm_m, ?rm_k, PySem.W.mg_of KX G ?rm_a⟩, (CW.dat KX G ?isnum_a ?isnum_l ?isnum_c ?isnum_k), (CW.dcd KX G ?rising_a ?rising_l ?rising_c ?rising_k), (CW.dcd KX G ?eds_a ?eds_l ?eds_c ?eds_k), (CW.dat KX G ?touches_a ?touches_l ?touches_c ?touches_k), (CW.dcd KX G ?gaps_a ?gaps_l ?gaps_c ?gaps_k), (CW.dat KX G ?entry_a ?entry_l ?entry_c ?entry_k), (CW.dcd KX G ?book_a ?book_l ?book_c ?book_k), (CW.dat KX G ?needc_a ?needc_l ?needc_c ?needc_k), (CW.dcd KX G ?needp_a ?needp_l ?needp_c ?needp_k), (CW.dcd KX G ?numin_a ?numin_l ?numin_c ?numin_k), (CW.mat ?init_a ?init_i ?init_k ?init_l ?init_c), (CW.mat ?take_a ?take_i ?take_k ?take_l ?take_c), (CW.mat ?end_a ?end_i ?end_k ?end_l ?end_c), (CW.mat ?read_a ?read_i ?read_k ?read_l ?read_c), (CW.mat ?rwheel_a ?rwheel_i ?rwheel_k ?rwheel_l ?rwheel_c), (CW.mat ?rtouch_a ?rtouch_i ?rtouch_k ?rtouch_l ?rtouch_c), (CW.mat ?rneed_a ?rneed_i ?rneed_k ?rneed_l ?rneed_c), (CW.dat KX G ?first_a ?first_l ?first_c ?first_k), (CW.dat KX G ?readc_a ?readc_l ?readc_c ?readc_k), (CW.dat KX G ?writec_a ?writec_l ?writec_c ?writec_k), (CW.dat KX G ?writep_a ?writep_l ?writep_c ?writep_k), (CW.dat KX G ?readp_a ?readp_l ?readp_c ?readp_k), (CW.dat KX G ?ticks_a ?ticks_l ?ticks_c ?ticks_k), (CW.dat KX G ?taken_a ?taken_l ?taken_c ?taken_k), (CW.dat KX G ?pick_a ?pick_l ?pick_c ?pick_k), (CW.dat KX G ?alike_a ?alike_l ?alike_c ?alike_k), (CW.dat KX G ?clock_a ?clock_l ?clock_c ?clock_k), (CW.dat KX G ?rows_a ?rows_l ?rows_c ?rows_k), (CW.dat KX G ?said_a ?said_l ?said_c ?said_k)⟩ (CW.dcd KX G ?law_a ?law_l ?law_c ?law_k) hmg tabs (CW.tbl_mk ?t1a ?t1b ?t1n) (CW.tbl_mk ?t2a ?t2b ?t2n) (CW.tbl_mk ?t3a ?t3b ?t3n) (CW.tbl_mk ?t4a ?t4b ?t4n) (CW.tbl_mk ?t5a ?t5b ?t5n) (CW.tbl_mk ?t6a ?t6b ?t6n) (CW.tbl_mk ?t7a ?t7b ?t7n) ?nP
    (case bl_a => k_is)
    (case bs_a => k_is)
    (case rm_a => k_is)
    (case z0 => k_is)
    (case z1 => k_is)
    (case z2 => k_is)
    (case z3 => k_is)
    (case z4 => k_is)
    (case z5 => k_is)
    (case z6 => k_is)
    (case z7 => k_is)
    (case z8 => k_is)
    (case z9 => k_is)
    (case z10 => k_is)
    (case z11 => k_is)
    (case z12 => k_is)
    (case z13 => k_is)
    (case k0 => k_is)
    (case k1 => k_is)
    (case k2 => k_is)
    (case k3 => k_is)
    (case k4 => k_is)
    (case k5 => k_is)
    (case bl_x => k_is)
    (case bl_rv => decide +kernel)
    (case bl_sa => k_is)
    (case bl_ex => k_is)
    (case bl_ty => k_is)
    (case bl_kC => k_is)
    (case bl_ga => k_is)
    (case bl_gg => k_is)
    (case bl_hd => k_is)
    (case bl_nl => k_is)
    (case bl_nw => k_is)
    (case bl_i1 => k_is)
    (case bl_i2 => k_is)
    (case bli_a => k_is)
    (case bli_i => k_is)
    (case bli_k => k_is)
    (case bli_l => k_is)
    (case bli_c => k_is)
    (case bs_q => k_exc)
    (case bs_k => k_is)
    (case bs_s => k_is)
    (case bs_t => k_is)
    (case m0 => k_is)
    (case m1 => k_is)
    (case m2 => k_is)
    (case m3 => k_is)
    (case m4 => k_is)
    (case m5 => k_is)
    (case m6 => k_is)
    (case m7 => k_is)
    (case m8 => k_is)
    (case m9 => k_is)
    (case m10 => k_is)
    (case m11 => k_is)
    (case r_pg => k_is)
    (case r_hd => k_is)
    (case r_po => k_is)
    (case r_sa => k_is)
    (case r_n1 => k_is)
    (case r_n2 => k_is)
    (case r_n3 => k_is)
    (case r_n4 => k_is)
    (case r_n5 => k_is)
    (case rm_m => k_is)
    (case rm_k => k_is)
    (case isnum_a => k_is)
    (case isnum_l => k_is)
    (case isnum_c => k_is)
    (case isnum_k => k_is)
    (case rising_a => k_is)
    (case rising_l => k_is)
    (case rising_c => k_is)
    (case rising_k => k_is)
    (case eds_a => k_is)
    (case eds_l => k_is)
    (case eds_c => k_is)
    (case eds_k => k_is)
    (case touches_a => k_is)
    (case touches_l => k_is)
    (case touches_c => k_is)
    (case touches_k => k_is)
    (case gaps_a => k_is)
    (case gaps_l => k_is)
    (case gaps_c => k_is)
    (case gaps_k => k_is)
    (case entry_a => k_is)
    (case entry_l => k_is)
    (case entry_c => k_is)
    (case entry_k => k_is)
    (case book_a => k_is)
    (case book_l => k_is)
    (case book_c => k_is)
    (case book_k => k_is)
    (case needc_a => k_is)
    (case needc_l => k_is)
    (case needc_c => k_is)
    (case needc_k => k_is)
    (case needp_a => k_is)
    (case needp_l => k_is)
    (case needp_c => k_is)
    (case needp_k => k_is)
    (case numin_a => k_is)
    (case numin_l => k_is)
    (case numin_c => k_is)
    (case numin_k => k_is)
    (case init_a => k_is)
    (case init_i => k_is)
    (case init_k => k_is)
    (case init_l => k_is)
    (case init_c => k_is)
    (case take_a => k_is)
    (case take_i => k_is)
    (case take_k => k_is)
    (case take_l => k_is)
    (case take_c => k_is)
    (case end_a => k_is)
    (case end_i => k_is)
    (case end_k => k_is)
    (case end_l => k_is)
    (case end_c => k_is)
    (case read_a => k_is)
    (case read_i => k_is)
    (case read_k => k_is)
    (case read_l => k_is)
    (case read_c => k_is)
    (case rwheel_a => k_is)
    (case rwheel_i => k_is)
    (case rwheel_k => k_is)
    (case rwheel_l => k_is)
    (case rwheel_c => k_is)
    (case rtouch_a => k_is)
    (case rtouch_i => k_is)
    (case rtouch_k => k_is)
    (case rtouch_l => k_is)
    (case rtouch_c => k_is)
    (case rneed_a => k_is)
    (case rneed_i => k_is)
    (case rneed_k => k_is)
    (case rneed_l => k_is)
    (case rneed_c => k_is)
    (case first_a => k_is)
    (case first_l => k_is)
    (case first_c => k_is)
    (case first_k => k_is)
    (case readc_a => k_is)
    (case readc_l => k_is)
    (case readc_c => k_is)
    (case readc_k => k_is)
    (case writec_a => k_is)
    (case writec_l => k_is)
    (case writec_c => k_is)
    (case writec_k => k_is)
    (case writep_a => k_is)
    (case writep_l => k_is)
    (case writep_c => k_is)
    (case writep_k => k_is)
    (case readp_a => k_is)
    (case readp_l => k_is)
    (case readp_c => k_is)
    (case readp_k => k_is)
    (case ticks_a => k_is)
    (case ticks_l => k_is)
    (case ticks_c => k_is)
    (case ticks_k => k_is)
    (case taken_a => k_is)
    (case taken_l => k_is)
    (case taken_c => k_is)
    (case taken_k => k_is)
    (case pick_a => k_is)
    (case pick_l => k_is)
    (case pick_c => k_is)
    (case pick_k => k_is)
    (case alike_a => k_is)
    (case alike_l => k_is)
    (case alike_c => k_is)
    (case alike_k => k_is)
    (case clock_a => k_is)
    (case clock_l => k_is)
    (case clock_c => k_is)
    (case clock_k => k_is)
    (case rows_a => k_is)
    (case rows_l => k_is)
    (case rows_c => k_is)
    (case rows_k => k_is)
    (case said_a => k_is)
    (case said_l => k_is)
    (case said_c => k_is)
    (case said_k => k_is)
    (case law_a => k_is)
    (case law_l => k_is)
    (case law_c => k_is)
    (case law_k => k_is)
    (case t1a => k_is)
    (case t1b => rfl)
    (case t1n => first | rfl | kernel_rfl)
    (case t2a => k_is)
    (case t2b => rfl)
    (case t2n => first | rfl | kernel_rfl)
    (case t3a => k_is)
    (case t3b => rfl)
    (case t3n => first | rfl | kernel_rfl)
    (case t4a => k_is)
    (case t4b => rfl)
    (case t4n => first | rfl | kernel_rfl)
    (case t5a => k_is)
    (case t5b => rfl)
    (case t5n => first | rfl | kernel_rfl)
    (case t6a => k_is)
    (case t6b => rfl)
    (case t6n => first | rfl | kernel_rfl)
    (case t7a => k_is)
    (case t7b => rfl)
    (case t7n => first | rfl | kernel_rfl)
    (case nP => decide)
#print axioms PySem.Challenge.cw_livingclock_k65_whole_texts_holds
