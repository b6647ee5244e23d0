import PyProof.Rows.All
import Wide.All
import OpenK.AllK
import Wide.FinOn
import HandS.ForMost
import HandS.AnyAll
import HandS.GenList
import HandS.Nested
import HandS.SortRule
import HandS.SortKw
import HandS.Conv
import HandS.DictTup
import PyProof.Rows.SortKeyStr
import HandS.Keys
import HandS.IsInst
import HandS.TupAny
import HandS.More
import HandS.Star
import HandS.DictComp
import HandS.Deep
import HandS.Walk
import KE.KRevSl
import HandS.Style
import HandS.NoneIn
import KE.KDictPairs
import HandS.Iter
import PyProof.DictMoreH
import HandS.TupLen
import KE.DataCmp
import PyProof.StrOps2
import HandS.Rev
import HandS.RevTup
import PyProof.ListNew
import PyProof.DictRoadsH
import PyProof.DictFindH
import KE.KeyNested
import HandS.EndTab
import HandS.EndOwn
import KE.KNestM
import PySem.Challenge.RW_editsagree_k80_whole_edits_at_once_by_se
set_option Elab.async false
set_option linter.all false
set_option maxRecDepth 100000
set_option maxHeartbeats 4000000
/-! any, all of a generator expression with one clause, whatever is walked, whatever the element is (a truth value; calls in it may change what is tracked). -/
namespace Gx
open PySem PySem.Spec PyProof.Rows L2 GenW GxR NdefX
/-- the scope of a generator expression: its variable, what it captures -/
structure GxS (x : Str) (fr : List Str) (scope : Scope) : Prop where
  kind : scope.kind = .function
  co : scope.isCoroutine = false
  nd : (x :: fr).Nodup
  nocell : ∀ y ∈ scope.names, y.2 ≠ .cell
  dot : scope.names.lookup (".0" : Str) = some NameKind.local
  loc : scope.names.lookup x = some .local
  free : ∀ y ∈ scope.names, y.2 = .free → y.1 ∈ fr
  mem : ∀ y ∈ fr, (y, NameKind.free) ∈ scope.names
  frk : ∀ y ∈ fr, scope.names.lookup y = some .free
def gxsB (x : Str) (fr : List Str) (sc : Scope) : Bool :=
  decide (sc.kind = .function) && !sc.isCoroutine && decide (x :: fr).Nodup && sc.names.all (fun y => !decide (y.2 = .cell)) && decide (sc.names.lookup (".0" : Str) = some NameKind.local) && decide (sc.names.lookup x = some .local) &&
    sc.names.all (fun y => !decide (y.2 = .free) || decide (y.1 ∈ fr)) && fr.all (fun x => decide ((x, NameKind.free) ∈ sc.names)) && fr.all (fun x => decide (sc.names.lookup x = some .free))
theorem gxs_by {x : Str} {fr : List Str} {sc : Scope} (h : gxsB x fr sc = true) : GxS x fr sc := by
  unfold gxsB at h
  simp only [Bool.and_eq_true, Bool.not_eq_true', decide_eq_true_eq, List.all_eq_true, Bool.or_eq_true, decide_eq_false_iff_not] at h
  obtain ⟨⟨⟨⟨⟨⟨⟨⟨h1, h2⟩, h3⟩, h4⟩, h5⟩, h6⟩, h7⟩, h8⟩, h9⟩ := h
  exact ⟨h1, h2, h3, h4, h5, h6, fun y hy e => (h7 y hy).elim (fun z => absurd e z) id, h8, h9⟩
/-- what is only known when it runs -/
structure GxRun where
  code : Value
  s0 : Shared
  H0 : Hp
  fp : List Addr
  A : Around
/-- the generator's environment, its context -/
abbrev gxEnv (X : Cx) (scope : Scope) (r : GxRun) : Env := genEnv scope (cloFrom X.env.cells scope.names []) r.s0.heap.objs.size r.code builtinsNs X.env
abbrev gxcx (X : Cx) (x : Str) (fr : List Str) (scope : Scope) (r : GxRun) : Cx where
  prog := X.prog
  w := X.w
  K := X.K
  mg := X.mg
  base := X.base
  A := r.A.deeper (gxEnv X scope r)
  N := x :: fr
  s_0 := r.s0
  H_0 := r.H0
  env := gxEnv X scope r
  outer := X.stack
  stack := gxEnv X scope r :: X.stack
  ex := r.fp
  fn := fun _ => false
  calm := true
  pn := []
  xe := fun _ _ => False
section
variable {X : Cx} {pins : List (Addr × Obj)} {σ : L2.St} {H : Hp}
theorem caps_of {x : Str} {fr : List Str} {scope : Scope} {js : List Nat} (S : GxS x fr scope) (ok : X.Ok) (hf : ∀ y ∈ fr, X.env.scope.names.lookup y = some .cell ∨ X.env.scope.names.lookup y = some .free) (hjs : js.map (fun j => X.N[j]?) = fr.map some) :
    Caps X (cloFrom X.env.cells scope.names []) fr js := Caps.made ok (fun y hy e => hf y.1 (S.free y hy e)) S.mem hjs
/-- the generator stands, ready to begin -/
theorem gx_start {r : GxRun} {x : Str} {fr : List Str} {scope : Scope} {js : List Nat} {h5 : Heap} {tk : Nat} {g5 : Array GenState} {m : Str → Option Value} (hA : r.A.handled = none) (hAf : r.A.frames = some X.stack) (S : GxS x fr scope)
    (cp : Caps X (cloFrom X.env.cells scope.names []) fr js) (I : Inv X pins σ H r.s0) (hH : r.H0 = H) (hfp : ∀ b ∈ r.fp, FpOk X pins H b ∧ b < r.s0.heap.objs.size) (hns : h5.Ns r.s0.heap.objs.size m)
    (kp : ∀ b o, r.s0.heap.get? b = some o → h5.get? b = some o) (hg : AllBare g5) :
    Inv (gxcx X x fr scope r) [] (none :: js.map (slotAt σ)) H { r.s0 with heap := h5, toks := tk, gens := g5 } := by
  have C := cells_of I cp
  have noP : ∀ p : Addr × Obj, p ∉ (gxcx X x fr scope r).pn ++ [] := fun p z => by simp [gxcx] at z
  have cellK : ∀ {c : Addr} {v : Option Value}, r.s0.heap.IsCell c v → h5.IsCell c v := fun {c v} ⟨o, ho, hd⟩ => ⟨o, kp _ _ ho, hd⟩
  refine ⟨⟨I.ok.mod, S.kind, I.ok.glob, rfl, Nat.le_refl _, C.inj, fun y hy => ?_, fun y c z _ => ?_, fun _ => hA, Around.frames_deeper hAf, .inr ⟨rfl, rfl⟩, fun b hb => ⟨?_, fun y c e z => ?_⟩, fun b o e => ?_, Nat.le_trans I.ok.bsz I.sz, fun b o e hb => ?_, fun b hb z => ?_, I.stack, fun b hb => ?_⟩,
    rfl, hg, ?_, ⟨m, hns, fun i y v e1 e2 e3 => ?_⟩, fun y c e => ?_, I.hok.fresh (Nat.le_refl _), fun y c e => (C.all y c e).1, fun p hp => absurd hp (noP p), I.hok.kept kp, ?_⟩
  · have hy : scope.names.lookup y = some .cell ∨ scope.names.lookup y = some .free := hy
    rcases hy with hy | hy
    · exact absurd rfl (S.nocell _ (PySem.mem_of_lookup hy))
    · obtain ⟨i, hi⟩ := List.mem_iff_getElem?.mp (S.free _ (PySem.mem_of_lookup hy) rfl)
      obtain ⟨c, hc, _⟩ := C.has i y hi
      exact ⟨c, hc⟩
  · have z : false = true := z
    cases z
  · exact Nat.ne_of_lt (hfp b hb).2
  · exact (hfp b hb).1.2.2.2.2.1 y c (cp.sub y c e) z
  · show r.s0.heap.get? b = some o ∧ r.H0 b = none
    rw [hH]
    exact I.bs b o e
  · rcases (hfp b hb).1.2.2.2.1 with z | z
    · exact I.ok.noex b o e z
    · exact absurd (Nat.lt_of_lt_of_le (Heap.lt_size e) (Nat.le_trans I.ok.bsz z)) (Nat.lt_irrefl _)
  · rcases List.mem_cons.mp (I.stkSub b z) with q | q
    · exact (hfp b hb).1.2.1 q
    · exact (hfp b hb).1.2.2.1 q
  · show r.H0 b = none
    rw [hH]
    exact I.stkFree b hb
  · show Un _ _ r.H0 H _ _
    rw [hH]
    exact Un.kept kp
  · have e1 : (x :: fr)[i]? = some y := e1
    cases i with
    | zero => simp at e2
    | succ i =>
      have e1 : fr[i]? = some y := by simpa using e1
      have e2 : (js.map (slotAt σ))[i]? = some (some v) := by simpa using e2
      obtain ⟨c, hc, hv⟩ := C.has i y e1
      obtain ⟨u, ru, hu⟩ := hv v e2
      exact ⟨u, ru, .inr ⟨.inr (S.frk y (List.mem_of_getElem? e1)), c, hc, cellK hu⟩⟩
  · obtain ⟨v, z⟩ := (C.all y c e).2
    exact ⟨v, cellK z⟩
  · have clen := C.len
    show (none :: js.map (slotAt σ)).length = (x :: fr).length
    rw [List.length_cons, List.length_cons, clen]
/-- back in the outer frame -/
theorem gx_back {r : GxRun} {x : Str} {fr : List Str} {scope : Scope} {pins' : List (Addr × Obj)} {σ' : L2.St} {H' : Hp} {s' : Shared} (I : Inv X pins σ H r.s0) (hH : r.H0 = H) (hfp : ∀ b ∈ r.fp, FpOk X pins H b ∧ b < r.s0.heap.objs.size)
    (J : Inv (gxcx X x fr scope r) pins' σ' H' s') : Inv X pins σ H' s' := by
  have u : Un (frs X.stack) r.fp H H' r.s0.heap s'.heap := by
    rw [← hH]
    exact J.base
  exact I.call' (ch := r.fp) J.os u J.hok J.bare fun b hb => ⟨(hfp b hb).1.2.2.2.1, (hfp b hb).1.2.1, (hfp b hb).1.2.2.2.2.1, (hfp b hb).1.2.2.2.2.2⟩
end
end Gx
namespace Gx
open PySem PySem.Spec PyProof.Rows L2 GenW GxR NdefX
/-- while the generator sleeps all is kept -/
structure SleptG (s s' : Shared) : Prop where
  os : s'.os = s.os
  bare : AllBare s'.gens
  keep : ∀ b o, s.heap.get? b = some o → s'.heap.get? b = some o
def YG (X : Cx) (ip : List (Addr × Obj)) (stop : Bool) (Qs : Hp → Prop) : Protocol := fun n s₀ v s kap =>
  ∃ b σ H, v = Value.bool b ∧ Inv X ip σ H s ∧ (b = stop → Qs H) ∧ (b ≠ stop → ∀ s', SleptG s s' → kap (.send .none) s')
def FQ (X : Cx) (ip : List (Addr × Obj)) (Qn : Hp → Prop) (s : Shared) : Prop := ∃ σ H, Inv X ip σ H s ∧ Qn H
def RG (X : Cx) (ip : List (Addr × Obj)) (Qn : Hp → Prop) : GenEnd := fun n s₀ r s => ((r = .ok (.ret .none) ∨ r = .ok .next) ∧ FQ X ip Qn s) ∨ ∃ e, r = .error e ∧ False
/-- what is asked of a walk over J: from the place on to which it has come -/
def GxStep (J : It) (stop : Bool) (Qs Qn : Hp → Prop) (te : TE) (ws : List (Option V)) (W : Nat → Nat → Hp → Prop) : Prop :=
  ∀ i m H, W i m H → (J.stop i H ∧ Qn H) ∨ (J.go i H ∧ ∀ y H', J.yld i H y H' → te (some y :: ws) H' fun v H2 => ∃ b, v = .bl b ∧ if b = stop then Qs H2 else ∃ m', m' < m ∧ W (i + 1) m' H2)
section
variable {X : Cx}
theorem over_gx {A : Around} {elt iter : Expr} {x : Str} {px gpos : Pos} {scope : Scope} {it acc : Value} {env : Env} :
    A.over (.compLoop (.GeneratorExp elt [⟨.Name x px, iter, [], 0⟩] scope gpos) 0 it acc env) [] = A.deeper env := by
  first
    | rfl
    | (obtain ⟨hd, d, fr, gs, u⟩ := A; simp [Around.over, Around.deeper, marksOver, frameCount, unitsOf, envsOf, guardsOf, pushEnvs, pushGuards, Code.envs, Code.env?, Code.isFrame, Code.guards, Code.isGuard, Code.weight, Code.frames, Code.isCreation, Code.isCaller, Code.cUnits])
theorem over_gxs {A : Around} {elt iter : Expr} {x : Str} {px gpos : Pos} {scope : Scope} {it acc : Value} {env : Env} :
    A.over (.compStart (.GeneratorExp elt [⟨.Name x px, iter, [], 0⟩] scope gpos) 0 it acc env) [] = A.deeper env := by
  first
    | rfl
    | (obtain ⟨hd, d, fr, gs, u⟩ := A; simp [Around.over, Around.deeper, marksOver, frameCount, unitsOf, envsOf, guardsOf, pushEnvs, pushGuards, Code.envs, Code.env?, Code.isFrame, Code.guards, Code.isGuard, Code.weight, Code.frames, Code.isCreation, Code.isCaller, Code.cUnits])
theorem slept_inv {X : Cx} {ip : List (Addr × Obj)} {σ : L2.St} {H : Hp} {s s' : Shared} (I : Inv X ip σ H s) (z : SleptG s s') : Inv X ip σ H s' :=
  I.call' (ch := []) z.os (Un.kept z.keep) (I.hok.kept z.keep) z.bare fun b hb => by simp at hb
theorem gx_loop {r : GxRun} {x : Str} {fr : List Str} {scope : Scope} {elt iter : Expr} {px gpos : Pos} {te : TE} {J : It} {it a : Addr} {go : Obj} {tn : Nat → Heap → Prop} {W : Nat → Nat → Hp → Prop} {ws : List (Option V)} {stop : Bool} {Qs Qn : Hp → Prop}
    (T : Turn X.prog X.w X.K (.Name x px) J r.fp it tn) (he : PE (gxcx X x fr scope r) elt te) (S : GxS x fr scope) (hap : ∀ b ∈ r.fp, b ≠ a) (turn : GxStep J stop Qs Qn te ws W) :
    ∀ (n i m : Nat) (s₀ s : Shared) (v0 : Option V) (H : Hp), m < n → W i m H → Inv (gxcx X x fr scope r) [(a, go)] (v0 :: ws) H s → tn i s.heap → (∀ b ∈ r.fp, H b = none) →
      Seg (model X.prog X.w) r.A (RG (gxcx X x fr scope r) [(a, go)] Qn) (YG (gxcx X x fr scope r) [(a, go)] stop Qs) n s₀ (.compLoop (.GeneratorExp elt [⟨.Name x px, iter, [], 0⟩] scope gpos) 0 (.ref it) .none (gxEnv X scope r))
        ((model X.prog X.w).den (.compLoop (.GeneratorExp elt [⟨.Name x px, iter, [], 0⟩] scope gpos) 0 (.ref it) .none (gxEnv X scope r))) [] s := by
  have stat : ∀ {σ' : L2.St} {H' : Hp} {s' : Shared}, Inv (gxcx X x fr scope r) [(a, go)] σ' H' s' → (∀ b ∈ r.fp, H' b = none) → ∀ b ∈ r.fp, FpOk (gxcx X x fr scope r) [(a, go)] H' b := fun {σ' H' s'} I' hn b hb =>
    ⟨hn b hb, (I'.ok.exf b hb).1, I'.ok.exfs b hb, .inl hb, fun x c e => (I'.ok.exf b hb).2 x c e, fun p hp => by
      have hp : p ∈ [(a, go)] := hp
      rw [List.mem_singleton.mp hp]
      exact (hap b hb).symm⟩
  intro n
  induction n with
  | zero => intro i m s₀ s v0 H hm; omega
  | succ n ih =>
    intro i m s₀ s v0 H hm hW I ht hn
    show Seg _ r.A _ _ _ s₀ _ ((compTurn (.GeneratorExp elt [⟨.Name x px, iter, [], 0⟩] scope gpos) 0 (.ref it) .none (gxEnv X scope r)).onRaise (leaving (gxEnv X scope r))) [] s
    rw [compTurn_gen, Sem.onRaise_eq_wrap]
    refine seg_bind_wrap (wpAny_standAt ?_)
    rcases turn i m H hW with ⟨hst, hq⟩ | ⟨hgo, step⟩
    · refine seg_bind_wrap ?_
      rw [over_gx]
      refine wpAny_mono (T.done (gxcx X x fr scope r) rfl rfl rfl rfl i _ s _ H (fun _ _ => False) I (stat I hn) ht hst) (fun u s1 h1 => ?_) fun _ _ e => e.elim
      obtain ⟨rfl, I1⟩ := h1
      exact seg_end (.ok .next) (.inl ⟨.inr rfl, _, _, I1, hq⟩)
    · refine seg_bind_wrap ?_
      rw [over_gx]
      refine wpAny_mono (T.item (gxcx X x fr scope r) rfl rfl rfl rfl i _ s _ H (fun _ _ => False) I (stat I hn) ht hgo) (fun u s1 h1 => ?_) fun _ _ e => e.elim
      obtain ⟨u, rfl, h1⟩ := h1
      refine seg_bind_wrap ?_
      rw [over_gx]
      refine wpAny_mono h1 (fun _ s2 h2 => ?_) fun _ _ e => e.elim
      obtain ⟨y, H2, I2, ry, hy, ht2, hn2⟩ := h2
      refine seg_bind_wrap ?_
      rw [over_gx]
      refine wpAny_assign_Name (store_ok2 (X := gxcx X x fr scope r) (i := 0) (E := fun _ _ => False) I2 S.nd rfl (.inl S.loc) ry (fun s3 I3 hs3 => ?_) (.inr S.loc)) |> fun h => wpAny_mono h (fun _ _ e => e) fun _ _ e => e.elim
      obtain ⟨aa, sb, hat⟩ := hs3
      have I3 : Inv (gxcx X x fr scope r) [(a, go)] (some y :: ws) H2 s3 := I3
      have nfp : ∀ b ∈ r.fp, b ≠ aa := fun b hb e => by
        rcases hat with z | z
        · exact (I2.ok.exf b hb).1 (e.trans z)
        · exact (I2.ok.exf b hb).2 x aa z e.symm
      have ht3 : tn (i + 1) s3.heap := T.keep _ _ _ ht2 fun b hb o e => (sb.2 b (nfp b hb)).trans e
      refine seg_bind_wrap (wpAny_pure ?_)
      simp only [if_true]
      have hy' : ∀ v, yieldOut (gxEnv X scope r) v = yieldValue v := fun v => by
        have e : (gxEnv X scope r).scope.isCoroutine = false := S.co
        simp only [yieldOut, e, Bool.false_eq_true, if_false]
      simp only [hy']
      have I3' := I3.pinned (stat I3 hn2) (T.obj _ _ ht3)
      rw [Sem.bind_eq_wrap', Sem.bind_eq_wrap', Sem.wrap_wrap, Sem.wrap_wrap]
      refine seg_wrap ?_
      rw [over_gx]
      refine wpAny_mono (he.run _ s3 _ H2 _ I3' (step y H2 hy)) (fun uv s4 h4 => ?_) fun _ _ e => (show False from e).elim
      obtain ⟨v, H4, I4, rv, b, rfl, q4⟩ := h4
      have e4 : uv = Value.bool b := rv
      subst e4
      have pin4 : ∀ b ∈ r.fp, ∀ o, s3.heap.get? b = some o → s4.heap.get? b = some o ∧ H4 b = none := fun b hb o e =>
        let z := I4.pin (b, o) (List.mem_append_right _ (List.mem_append_right _ (mem_pinsAt hb e)))
        ⟨z.1, z.2.1⟩
      have I4' := I4.unpinned
      have ht4 : tn (i + 1) s4.heap := T.keep _ _ _ ht3 fun b hb o e => (pin4 b hb o e).1
      have hn4 : ∀ b ∈ r.fp, H4 b = none := fun b hb => by
        obtain ⟨o, e, _⟩ := T.obj _ _ ht3 b hb
        exact (pin4 b hb o e).2
      refine seg_at (seg_yield rfl rfl rfl ⟨b, _, H4, rfl, I4', fun e => ?_, fun ne s'' z => ?_⟩)
      · rw [if_pos e] at q4
        exact q4
      · rw [if_neg ne] at q4
        obtain ⟨m', hm', w'⟩ := q4
        exact seg_again rfl (ih (i + 1) m' s'' s'' (some y) H4 (by omega) w' (slept_inv I4' z) (T.keep _ _ _ ht4 fun b _ o e => z.keep b o e) hn4)
end
end Gx
namespace Gx
open PySem PySem.Spec PyProof.Rows L2 GenW GxR NdefX
section
variable {X : Cx}
theorem gx_begin {r : GxRun} {x : Str} {fr : List Str} {scope : Scope} {elt iter : Expr} {px gpos : Pos} {te : TE} {J : It} {it a : Addr} {go : Obj} {tn : Nat → Heap → Prop} {W : Nat → Nat → Hp → Prop} {ws : List (Option V)} {stop : Bool} {Qs Qn : Hp → Prop}
    (T : Turn X.prog X.w X.K (.Name x px) J r.fp it tn) (he : PE (gxcx X x fr scope r) elt te) (S : GxS x fr scope) (hap : ∀ b ∈ r.fp, b ≠ a) (turn : GxStep J stop Qs Qn te ws W)
    (n m : Nat) (s₀ s : Shared) (H : Hp) (hm : m < n) (hW : W 0 m H) (I : Inv (gxcx X x fr scope r) [(a, go)] (none :: ws) H s) (ht : tn 0 s.heap) (hn : ∀ b ∈ r.fp, H b = none) :
    Seg (model X.prog X.w) r.A (RG (gxcx X x fr scope r) [(a, go)] Qn) (YG (gxcx X x fr scope r) [(a, go)] stop Qs) n s₀ (.compStart (.GeneratorExp elt [⟨.Name x px, iter, [], 0⟩] scope gpos) 0 (.ref it) .none (gxEnv X scope r))
      ((model X.prog X.w).den (.compStart (.GeneratorExp elt [⟨.Name x px, iter, [], 0⟩] scope gpos) 0 (.ref it) .none (gxEnv X scope r))) [] s := by
  have loop := gx_loop (px := px) (gpos := gpos) (iter := iter) (go := go) T he S hap turn n 0 m s₀ s none H hm hW I ht hn
  show Seg _ r.A _ _ _ s₀ _ ((compStart (.GeneratorExp elt [⟨.Name x px, iter, [], 0⟩] scope gpos) 0 (.ref it) .none (gxEnv X scope r)).onRaise (leaving (gxEnv X scope r))) [] s
  unfold compStart
  rw [Sem.onRaise_eq_wrap]
  show Seg _ r.A _ _ _ s₀ _ ((ask >>= _).wrap _ _ _ _) [] s
  refine seg_bind_wrap (wpAny_askSetting ?_)
  split
  · exact seg_again rfl loop
  · first
      | exact seg_bind_wrap (wpAny_rule (seg_bind_wrap (wpAny_standAt (seg_bind_wrap (T.self _ 0 s _ _ ht (seg_again rfl loop))))))
      | (refine seg_bind_wrap (wpAny_rule ?_); show Seg _ r.A _ _ _ s₀ _ ((standAt iter.pos >>= _).wrap _ _ _ _) [] s; exact seg_bind_wrap (wpAny_standAt (seg_bind_wrap (T.self _ 0 s _ _ ht (seg_again rfl loop)))))
section
variable {Y : Cx} {a : Addr} {g : Nat} {go : Obj} {Qs Qn : Hp → Prop} {A : Around} {R : Result → Shared → Prop}
theorem gx_any_loop (hh : A.handled = none) (hd : A.depth < recursionLimit) (hgo : ∀ h : Heap, h.get? a = some go → h.IsGen a g)
    (hR : ∀ (b : Bool) σ H s, Inv Y [(a, go)] σ H s → (b = true → Qs H) → (b = false → Qn H) → R (.ok (.ret (.bool b))) s) :
    ∀ (n : Nat) (s : Shared) (gs : GenState), s.heap.get? a = some go → s.heap.NoLimit → s.gens[g]? = some gs → gs.Goes (model Y.prog Y.w) A.in1.in1 (RG Y [(a, go)] Qn) (YG Y [(a, go)] true Qs) n (.send .none) (s.setGen g .running) →
      codeAny (model Y.prog Y.w) A (.builtin "any.loop" ⟨[.ref a], []⟩) R s := by
  intro n
  induction n with
  | zero =>
    intro s gs ha hl hgs hgoes
    have hgl : g < s.gens.size := (Array.getElem?_eq_some_iff.mp hgs).1
    refine codeAny_builtin F.entry_any_loop ?_
    rw [Around.under_plainId F.plain_any_loop _]
    show wpAny _ A.in1 (pyNext (.ref a) >>= _) _ _ s
    refine wpAny_bind (wpAny_gsz (n := g + 1) hgl (next_genG (A := A.in1) (F := fun _ _ s₁ => FQ Y [(a, go)] Qn s₁) (Er := fun _ _ => False) hh hl hd (hgo _ ha) hgs hgoes (fun v s₁ gs' hbare hv => ?_) (fun s₁ hp h' hk => ?_) fun e s₁ he => he.elim))
    · intro hsz
      obtain ⟨b, σ, H, rfl, I, h1, h2⟩ := hv
      refine wpAny_bind (wpAny_holding (wpAny_truthy_bool ?_))
      refine wpAny_bind (wpAny_letGo ?_)
      cases b with
      | true =>
        simp only [if_true]
        refine wpAny_bind (wpAny_rule (wpAny_pure ?_))
        exact hR true σ H _ (slept_inv I ⟨rfl, allBare_setGen I.bare hbare, fun _ _ e => e⟩) (fun _ => h1 rfl) fun e => by cases e
      | false => exact False.elim (h2 (by decide) s₁ ⟨rfl, I.bare, fun _ _ e => e⟩)
    · intro hsz
      obtain ⟨σ, H, I, q⟩ := hp
      refine wpAny_bind (wpAny_rule (wpAny_pure ?_))
      exact hR false σ H _ (slept_inv I ⟨rfl, allBare_setGen I.bare rfl, hk⟩) (fun e => by cases e) fun _ => q
  | succ n ih =>
    intro s gs ha hl hgs hgoes
    have hgl : g < s.gens.size := (Array.getElem?_eq_some_iff.mp hgs).1
    refine codeAny_builtin F.entry_any_loop ?_
    rw [Around.under_plainId F.plain_any_loop _]
    show wpAny _ A.in1 (pyNext (.ref a) >>= _) _ _ s
    refine wpAny_bind (wpAny_gsz (n := g + 1) hgl (next_genG (A := A.in1) (F := fun _ _ s₁ => FQ Y [(a, go)] Qn s₁) (Er := fun _ _ => False) hh hl hd (hgo _ ha) hgs hgoes (fun v s₁ gs' hbare hv => ?_) (fun s₁ hp h' hk => ?_) fun e s₁ he => he.elim))
    · intro hsz
      obtain ⟨b, σ, H, rfl, I, h1, h2⟩ := hv
      refine wpAny_bind (wpAny_holding (wpAny_truthy_bool ?_))
      refine wpAny_bind (wpAny_letGo ?_)
      have I' : Inv Y [(a, go)] σ H (s₁.setGen g gs') := slept_inv I ⟨rfl, allBare_setGen I.bare hbare, fun _ _ e => e⟩
      cases b with
      | true =>
        simp only [if_true]
        refine wpAny_bind (wpAny_rule (wpAny_pure ?_))
        exact hR true σ H _ I' (fun _ => h1 rfl) fun e => by cases e
      | false =>
        simp only [Bool.false_eq_true, if_false]
        have hsz' : g < s₁.gens.size := by
          have q : (s₁.setGen g gs').gens.size = s₁.gens.size := setGen_size s₁ g gs'
          omega
        have k2 := h2 (by decide) ((s₁.setGen g gs').setGen g .running) ⟨rfl, allBare_setGen (allBare_setGen I.bare hbare) rfl, fun _ _ e => e⟩
        exact wpAny_pure ⟨plainId_quiet F.plain_any_loop _, ih _ gs' (I'.pin (a, go) (List.mem_append_right _ (List.mem_singleton.mpr rfl))).1 I'.nolimit (setGen_at hsz') k2⟩
    · intro hsz
      obtain ⟨σ, H, I, q⟩ := hp
      refine wpAny_bind (wpAny_rule (wpAny_pure ?_))
      exact hR false σ H _ (slept_inv I ⟨rfl, allBare_setGen I.bare rfl, hk⟩) (fun e => by cases e) fun _ => q
theorem gx_all_loop (hh : A.handled = none) (hd : A.depth < recursionLimit) (hgo : ∀ h : Heap, h.get? a = some go → h.IsGen a g)
    (hR : ∀ (b : Bool) σ H s, Inv Y [(a, go)] σ H s → (b = false → Qs H) → (b = true → Qn H) → R (.ok (.ret (.bool b))) s) :
    ∀ (n : Nat) (s : Shared) (gs : GenState), s.heap.get? a = some go → s.heap.NoLimit → s.gens[g]? = some gs → gs.Goes (model Y.prog Y.w) A.in1.in1 (RG Y [(a, go)] Qn) (YG Y [(a, go)] false Qs) n (.send .none) (s.setGen g .running) →
      codeAny (model Y.prog Y.w) A (.builtin "all.loop" ⟨[.ref a], []⟩) R s := by
  intro n
  induction n with
  | zero =>
    intro s gs ha hl hgs hgoes
    have hgl : g < s.gens.size := (Array.getElem?_eq_some_iff.mp hgs).1
    refine codeAny_builtin F.entry_all_loop ?_
    rw [Around.under_plainId F.plain_all_loop _]
    show wpAny _ A.in1 (pyNext (.ref a) >>= _) _ _ s
    refine wpAny_bind (wpAny_gsz (n := g + 1) hgl (next_genG (A := A.in1) (F := fun _ _ s₁ => FQ Y [(a, go)] Qn s₁) (Er := fun _ _ => False) hh hl hd (hgo _ ha) hgs hgoes (fun v s₁ gs' hbare hv => ?_) (fun s₁ hp h' hk => ?_) fun e s₁ he => he.elim))
    · intro hsz
      obtain ⟨b, σ, H, rfl, I, h1, h2⟩ := hv
      refine wpAny_bind (wpAny_holding (wpAny_truthy_bool ?_))
      refine wpAny_bind (wpAny_letGo ?_)
      cases b with
      | false =>
        simp only [Bool.false_eq_true, if_false]
        refine wpAny_bind (wpAny_rule (wpAny_pure ?_))
        exact hR false σ H _ (slept_inv I ⟨rfl, allBare_setGen I.bare hbare, fun _ _ e => e⟩) (fun _ => h1 rfl) fun e => by cases e
      | true => exact False.elim (h2 (by decide) s₁ ⟨rfl, I.bare, fun _ _ e => e⟩)
    · intro hsz
      obtain ⟨σ, H, I, q⟩ := hp
      refine wpAny_bind (wpAny_rule (wpAny_pure ?_))
      exact hR true σ H _ (slept_inv I ⟨rfl, allBare_setGen I.bare rfl, hk⟩) (fun e => by cases e) fun _ => q
  | succ n ih =>
    intro s gs ha hl hgs hgoes
    have hgl : g < s.gens.size := (Array.getElem?_eq_some_iff.mp hgs).1
    refine codeAny_builtin F.entry_all_loop ?_
    rw [Around.under_plainId F.plain_all_loop _]
    show wpAny _ A.in1 (pyNext (.ref a) >>= _) _ _ s
    refine wpAny_bind (wpAny_gsz (n := g + 1) hgl (next_genG (A := A.in1) (F := fun _ _ s₁ => FQ Y [(a, go)] Qn s₁) (Er := fun _ _ => False) hh hl hd (hgo _ ha) hgs hgoes (fun v s₁ gs' hbare hv => ?_) (fun s₁ hp h' hk => ?_) fun e s₁ he => he.elim))
    · intro hsz
      obtain ⟨b, σ, H, rfl, I, h1, h2⟩ := hv
      refine wpAny_bind (wpAny_holding (wpAny_truthy_bool ?_))
      refine wpAny_bind (wpAny_letGo ?_)
      have I' : Inv Y [(a, go)] σ H (s₁.setGen g gs') := slept_inv I ⟨rfl, allBare_setGen I.bare hbare, fun _ _ e => e⟩
      cases b with
      | false =>
        simp only [Bool.false_eq_true, if_false]
        refine wpAny_bind (wpAny_rule (wpAny_pure ?_))
        exact hR false σ H _ I' (fun _ => h1 rfl) fun e => by cases e
      | true =>
        simp only [if_true]
        have hsz' : g < s₁.gens.size := by
          have q : (s₁.setGen g gs').gens.size = s₁.gens.size := setGen_size s₁ g gs'
          omega
        have k2 := h2 (by decide) ((s₁.setGen g gs').setGen g .running) ⟨rfl, allBare_setGen (allBare_setGen I.bare hbare) rfl, fun _ _ e => e⟩
        exact wpAny_pure ⟨plainId_quiet F.plain_all_loop _, ih _ gs' (I'.pin (a, go) (List.mem_append_right _ (List.mem_singleton.mpr rfl))).1 I'.nolimit (setGen_at hsz') k2⟩
    · intro hsz
      obtain ⟨σ, H, I, q⟩ := hp
      refine wpAny_bind (wpAny_rule (wpAny_pure ?_))
      exact hR true σ H _ (slept_inv I ⟨rfl, allBare_setGen I.bare rfl, hk⟩) (fun e => by cases e) fun _ => q
end
end
end Gx
namespace Gx
open PySem PySem.Spec PyProof.Rows L2 GenW GxR NdefX
/-- any(elt for x in iter) (stop true), all(..) (stop false): P the table of the def's code object, js the slots of what the element captures -/
def tGx (stop : Bool) (P : Addr) (wi : TI) (te : TE) (js : List Nat) : TE := fun σ H Q => wi σ H fun J H1 => TabG H1 P ∧ ∀ H2, Tabbed P H1 H2 →
  ∃ W : Nat → Nat → Hp → Prop, (∃ m, W 0 m H2) ∧ GxStep J stop (fun H' => Q (.bl stop) H') (fun H' => Q (.bl (!stop)) H') te (js.map (slotAt σ)) W
section
variable {X : Cx}
/-- the generator is made -/
def GxMade (X : Cx) (pins : List (Addr × Obj)) (σ : L2.St) (x : Str) (fr : List Str) (scope : Scope) (stop : Bool) (Q : VK) (a : Addr) (s5 : Shared) : Prop :=
  ∃ (r : GxRun) (go : Obj) (g : Nat) (gs : GenState) (n : Nat), (∀ h : Heap, h.get? a = some go → h.IsGen a g) ∧ s5.heap.get? a = some go ∧ s5.heap.NoLimit ∧ s5.gens[g]? = some gs ∧
    gs.Goes (model X.prog X.w) X.A.in1.in1 (RG (gxcx X x fr scope r) [(a, go)] (fun H' => Q (.bl (!stop)) H')) (YG (gxcx X x fr scope r) [(a, go)] stop (fun H' => Q (.bl stop) H')) n (.send .none) (s5.setGen g .running) ∧
    ∀ σ' H' s', Inv (gxcx X x fr scope r) [(a, go)] σ' H' s' → Inv X pins σ H' s'
theorem gx_made {c P : Addr} {elt iter : Expr} {x : Str} {px gpos : Pos} {scope : Scope} {fr : List Str} {js : List Nat} {wi : TI} {te : TE} {k : Nat} {Q' : Value → Shared → Prop} {stop : Bool} {pins : List (Addr × Obj)} {σ : L2.St} {H : Hp} {s : Shared} {Q : VK}
    (hr : Room k X.A) (TB : TabB X.base X.mg c P) (hcode : X.env.code = .ref c) (S : GxS x fr scope) (cp : X.Ok → Caps X (cloFrom X.env.cells scope.names []) fr js)
    (hi : PI X (.Name x px) iter wi) (he : ∀ r : GxRun, r.A = X.A.in1.in1 → PE (gxcx X x fr scope r) elt te) (hs : ∀ v, genFold iter X.env v = pure v) (I : Inv X pins σ H s) (h : tGx stop P wi te js σ H Q)
    (hQ : ∀ a s5, GxMade X pins σ x fr scope stop Q a s5 → Q' (.ref a) s5) :
    wpAny (model X.prog X.w) X.A (eval (.GeneratorExp elt [⟨.Name x px, iter, [], 0⟩] scope gpos) X.env) Q' X.xe s := by
  have hcap := cp I.ok
  have hfree : ∀ y ∈ scope.names, y.2 = .free → ∃ c, X.env.cells.lookup y.1 = some c := fun y hy e => by
    obtain ⟨i, hi⟩ := List.mem_iff_getElem?.mp (S.free y hy e)
    obtain ⟨c, hc, _⟩ := (cells_of I hcap).has i y.1 hi
    exact ⟨c, hcap.sub _ _ hc⟩
  refine wpAny_GeneratorExp_make S.co (closure_ok hfree) S.nocell S.dot S.kind (by have := hr.dp; omega) ?_ hs
  refine thn (hi.run pins s σ H _ I h) fun xv s1 hx => thn hx fun itv s2 h2 => ?_
  obtain ⟨it, fp, tn, J, H1, rfl, I1, T, st1, f1, ⟨ps, hP, ht⟩, q1⟩ := h2
  refine ⟨I1.nolimit, ?_⟩
  have hPs : s2.heap.get? P = some { cls := .none, data := .fields ps } := I1.hok P _ hP
  have hPlt : P < s2.heap.objs.size := Heap.lt_size hPs
  have cd : PySem.W.CodeHd s2.heap c P := TB.code.keeps fun b u e => I1.bk b u e
  have cont : ∀ (code : Value) (h3 : Heap) (tk : Nat) (ps' : Array Value), Heap.ExtBut P s2.heap h3 → s2.heap.objs.size ≤ h3.objs.size → h3.get? P = some { cls := .none, data := .fields ps' } → (∃ more, ps' = ps ++ more) → TriplesOk ps'.toList →
      wpAny (model X.prog X.w) X.A (builtinsFor X.env.globals X.env.builtins) (fun bi s₄ =>
        ∀ h', h'.Ns s₄.heap.objs.size (fun y => if y = ".0" then some (.ref it) else none) → Heap.SameBut s₄.heap.objs.size (s₄.heap.push { cls := .type "frame", data := .dict #[] }) h' →
          Q' (.ref h'.objs.size) { s₄ with
            gens := s₄.gens.push (.fresh (.compStart (.GeneratorExp elt [⟨.Name x px, iter, [], 0⟩] scope gpos) 0 (.ref it) .none (genEnv scope (cloFrom X.env.cells scope.names []) s₄.heap.objs.size code bi X.env))),
            toks := s₄.toks + 1 + 1 + 1,
            heap := h'.push { cls := .type "generator", data := .fields #[.int s₄.gens.size 0, .str "<genexpr>" (s₄.toks + 1), .str (X.env.qual ++ "<genexpr>") (s₄.toks + 1 + 1)] } }) X.xe { s2 with heap := h3, toks := tk } := by
    intro code h3 tk ps' hx3 hsz hP3 hmore ht3
    obtain ⟨bm, ob, e1, e2, e3, e4, e5, e6, e7, e8⟩ := TB.bm
    obtain ⟨more, rfl⟩ := hmore
    have keep3 : ∀ b u, b ≠ P → s2.heap.get? b = some u → h3.get? b = some u := fun b u hb e => hx3 b u hb e
    have J3 : Inv X pins σ (upd H1 P (.tbl (ps ++ more))) { s2 with heap := h3, toks := tk } :=
      inv_tab (g' := s2.gens) (d' := s2.drawn) I1 hP keep3 hP3 I1.bare
    refine wpAny_builtinsFor (m := X.mg) (by rw [I1.ok.glob]; exact (I1.mod.glob.keeps I1.bk).extBut hx3 TB.gP) e1 e2 (keep3 _ _ e4 (I1.bk _ _ e5)) e6 e7 e8 ?_
    intro h' hn' hs'
    have hfpP : ∀ b ∈ fp, b ≠ P := fun b hb e => by
      have z := (f1 b hb).1
      rw [e, hP] at z
      cases z
    have hlt2 : ∀ b ∈ fp, b < s2.heap.objs.size := fun b hb => by
      obtain ⟨o, e, _⟩ := T.obj _ _ st1 b hb
      exact Heap.lt_size e
    have st3 : tn 0 h3 := T.keep _ _ _ st1 fun b hb o e => keep3 b o (hfpP b hb) e
    have f3 : ∀ b ∈ fp, FpOk X pins (upd H1 P (.tbl (ps ++ more))) b ∧ b < h3.objs.size := fun b hb =>
      ⟨⟨by rw [upd_ne (hfpP b hb)]; exact (f1 b hb).1, (f1 b hb).2⟩, Nat.lt_of_lt_of_le (hlt2 b hb) hsz⟩
    have hTab : Tabbed P H1 (upd H1 P (.tbl (ps ++ more))) := ⟨⟨ps ++ more, upd_same, ht3⟩, fun b hb => upd_ne hb⟩
    obtain ⟨W, ⟨m, w0⟩, step⟩ := q1 _ hTab
    have hsz' : h'.objs.size = h3.objs.size + 1 := by rw [hs'.1, Heap.size_push]
    have kp' : ∀ b o, h3.get? b = some o → h'.get? b = some o := fun b o e => hs'.extBut b o (Nat.ne_of_lt (Heap.lt_size e)) (Heap.get?_push_of_some _ e)
    generalize hgo : ({ cls := .type "generator", data := .fields #[.int s2.gens.size 0, .str "<genexpr>" (tk + 1), .str (X.env.qual ++ "<genexpr>") (tk + 1 + 1)] } : Obj) = go
    have kp5 : ∀ b o, h3.get? b = some o → (h'.push go).get? b = some o := fun b o e => Heap.get?_push_of_some _ (kp' b o e)
    have ga : (h'.push go).get? h'.objs.size = some go := Heap.get?_push_size _ (by rw [← hgo]; rfl)
    have gcell : ∀ v, go.data ≠ .cell v := fun v q => by rw [← hgo] at q; cases q
    refine hQ _ _ ⟨⟨code, { s2 with heap := h3, toks := tk }, upd H1 P (.tbl (ps ++ more)), fp, X.A.in1.in1⟩, go, s2.gens.size, _, m + 1, fun hh e => ⟨go, _, _, e, by rw [← hgo], by rw [← hgo], by rw [← hgo]⟩, ?_, ?_, Array.getElem?_push_size .., ?_, fun σ' H' s' J' => gx_back J3 rfl f3 J'⟩
    · show (h'.push _).get? h'.objs.size = some go
      first | exact ga | (rw [hgo]; exact ga)
    · show (h'.push _).NoLimit
      first | exact J3.nolimit.keeps kp5 | (rw [hgo]; exact J3.nolimit.keeps kp5)
    · refine ⟨rfl, ?_⟩
      have hne : ∀ b ∈ fp, b ≠ h'.objs.size := fun b hb e => by
        have z := (f3 b hb).2
        have z2 : h'.objs.size < h3.objs.size := e ▸ z
        have z3 : (h'.objs.size : Nat) = h3.objs.size + 1 := hsz'
        omega
      have I5 : ∀ (tk5 : Nat) (g5 : Array GenState), AllBare g5 → Inv (gxcx X x fr scope ⟨code, { s2 with heap := h3, toks := tk }, upd H1 P (.tbl (ps ++ more)), fp, X.A.in1.in1⟩) [(h'.objs.size, go)] (none :: js.map (slotAt σ)) (upd H1 P (.tbl (ps ++ more)))
          { s2 with heap := h'.push go, toks := tk5, gens := g5 } := fun tk5 g5 hb5 => by
        have Z := gx_start (r := ⟨code, { s2 with heap := h3, toks := tk }, upd H1 P (.tbl (ps ++ more)), fp, X.A.in1.in1⟩) (x := x) (tk := tk5) (h5 := h'.push go) hr.hd J3.ok.frames S hcap J3 rfl f3 (hn'.push _) kp5 hb5
        have frA : X.A.frames = some X.stack := J3.ok.frames
        refine Z.pins_of fun p hp => ?_
        rw [List.mem_singleton.mp hp]
        refine ⟨ga, J3.hok.fresh ?_, ?_, fun hm => ?_, gcell⟩
        · show h3.objs.size ≤ h'.objs.size
          rw [hsz']
          exact Nat.le_succ _
        · show h'.objs.size ≠ h3.objs.size
          rw [hsz']
          exact Nat.succ_ne_self _
        · have hm : h'.objs.size ∈ frs X.stack := hm
          rcases List.mem_cons.mp (J3.stkSub _ hm) with z | z
          · have l := J3.lt
            have l : X.env.locals < h3.objs.size := l
            have l2 : h'.objs.size < h3.objs.size := z.symm ▸ l
            have z3 : (h'.objs.size : Nat) = h3.objs.size + 1 := hsz'
            omega
          · exact J3.nofs (a := h'.objs.size) (by show h3.objs.size ≤ h'.objs.size; rw [hsz']; exact Nat.le_succ _) z
      have hb : AllBare ((s2.gens.push (.fresh (.compStart (.GeneratorExp elt [⟨.Name x px, iter, [], 0⟩] scope gpos) 0 (.ref it) .none (genEnv scope (cloFrom X.env.cells scope.names []) h3.objs.size code builtinsNs X.env)))).setIfInBounds s2.gens.size .running) :=
        allBare_setGen (s := { s2 with gens := s2.gens.push _ }) (I1.bare.push rfl) rfl
      have Z5 := I5 (tk + 1 + 1 + 1) _ hb
      have nfp : ∀ b ∈ fp, (upd H1 P (.tbl (ps ++ more))) b = none := fun b hb => (f3 b hb).1.1
      have G := gx_begin (r := ⟨code, { s2 with heap := h3, toks := tk }, upd H1 P (.tbl (ps ++ more)), fp, X.A.in1.in1⟩) (px := px) (gpos := gpos) (iter := iter) (elt := elt) (go := go) T (he _ rfl) S hne step (m + 1) m
        { s2 with heap := h'.push go, toks := tk + 1 + 1 + 1, gens := (s2.gens.push (.fresh (.compStart (.GeneratorExp elt [⟨.Name x px, iter, [], 0⟩] scope gpos) 0 (.ref it) .none (genEnv scope (cloFrom X.env.cells scope.names []) h3.objs.size code builtinsNs X.env)))).setIfInBounds s2.gens.size .running }
        _ _ (Nat.lt_succ_self m) w0 Z5 (T.keep _ _ _ st3 fun b _ o e => kp5 b o e) nfp
      exact G
  cases hf : codeAmong gpos ps.toList with
  | none =>
    refine wpAny_genexprCodeX hcode (cd.code hPs ht) (cd.tab hPs) hf fun c' h' tk hx hge hlt hco' _ htab' _ => ?_
    obtain ⟨o1, vs, f1', tf, fl, tg, inF, tx, tt, op, _, _, _, _, _, _, _, _, _, htr, _⟩ := hco'
    exact cont _ h' tk _ hx (Nat.le_trans hge (Nat.le_of_lt hlt)) htab'.2 ⟨_, rfl⟩ htr
  | some cv =>
    refine wpAny_genexprCode_hit hcode (cd.code hPs ht) hf ?_
    exact cont cv s2.heap s2.toks ps (Heap.ExtBut.refl _ _) (Nat.le_refl _) hPs ⟨#[], by simp⟩ ht
theorem pe_anyG {c P : Addr} {elt iter : Expr} {x : Str} {px p pos gpos : Pos} {scope : Scope} {fr : List Str} {js : List Nat} {wi : TI} {te : TE} {k : Nat}
    (hr : Room k X.A) (hg : Gl X "any") (hm : X.mg "any" = none) (TB : TabB X.base X.mg c P) (hcode : X.env.code = .ref c) (S : GxS x fr scope) (cp : X.Ok → Caps X (cloFrom X.env.cells scope.names []) fr js)
    (hi : PI X (.Name x px) iter wi) (hel : ∀ r : GxRun, r.A = X.A.in1.in1 → PE (gxcx X x fr scope r) elt te) (hs : ∀ v, genFold iter X.env v = pure v := by intro _; rfl)
    (he : starEach [.GeneratorExp elt [⟨.Name x px, iter, [], 0⟩] scope gpos] X.env = (false, eval (.GeneratorExp elt [⟨.Name x px, iter, [], 0⟩] scope gpos) X.env) :: starEach [] X.env := by rfl) :
    PE X (.Call (.Name "any" p) [.GeneratorExp elt [⟨.Name x px, iter, [], 0⟩] scope gpos] [] pos) (tGx true P wi te js) := by
  refine ⟨fun pins s σ H Q I h => ?_⟩
  refine wpAny_Call_Name_kw (ld_blt I hg hm boot_any ?_)
  refine PyProof.Rows.callWith_builtin1 ?_ he (by rfl)
  rw [he]
  show wpAny _ _ (spliced ((false, eval (.GeneratorExp elt [⟨.Name x px, iter, [], 0⟩] scope gpos) X.env) :: backTo pos (starEach [] X.env))) _ _ s
  refine Calls.spliced_cons (gx_made hr TB hcode S cp hi hel hs I h fun a s5 hG => ?_)
  obtain ⟨r, go, g, gs, n, hgo, ha, hl, hgs, goes, hback⟩ := hG
  refine Calls.spliced_nil ?_
  refine call_function_tree F.kind_any F.plain_any F.entry_any (F.args_any1 _) ?_
  unfold Builtin.«any»
  refine wpAny_bind (m := oneArg "any" _) (wpAny_pure ?_)
  refine wpAny_bind (wpAny_pyIter_gen (hgo _ ha) ?_)
  refine wpAny_pure ⟨plainId_quiet F.plain_any_loop _, gx_any_loop (Y := gxcx X x fr scope r) hr.hd hr.depth hgo (fun b σ' H' s' J h1 h2 => ?_) n s5 gs ha hl hgs goes⟩
  refine ⟨.bl b, H', hback _ _ _ J, rfl, ?_⟩
  cases b with
  | true => exact h1 rfl
  | false => exact h2 rfl
theorem pe_allG {c P : Addr} {elt iter : Expr} {x : Str} {px p pos gpos : Pos} {scope : Scope} {fr : List Str} {js : List Nat} {wi : TI} {te : TE} {k : Nat}
    (hr : Room k X.A) (hg : Gl X "all") (hm : X.mg "all" = none) (TB : TabB X.base X.mg c P) (hcode : X.env.code = .ref c) (S : GxS x fr scope) (cp : X.Ok → Caps X (cloFrom X.env.cells scope.names []) fr js)
    (hi : PI X (.Name x px) iter wi) (hel : ∀ r : GxRun, r.A = X.A.in1.in1 → PE (gxcx X x fr scope r) elt te) (hs : ∀ v, genFold iter X.env v = pure v := by intro _; rfl)
    (he : starEach [.GeneratorExp elt [⟨.Name x px, iter, [], 0⟩] scope gpos] X.env = (false, eval (.GeneratorExp elt [⟨.Name x px, iter, [], 0⟩] scope gpos) X.env) :: starEach [] X.env := by rfl) :
    PE X (.Call (.Name "all" p) [.GeneratorExp elt [⟨.Name x px, iter, [], 0⟩] scope gpos] [] pos) (tGx false P wi te js) := by
  refine ⟨fun pins s σ H Q I h => ?_⟩
  refine wpAny_Call_Name_kw (ld_blt I hg hm boot_all ?_)
  refine PyProof.Rows.callWith_builtin1 ?_ he (by rfl)
  rw [he]
  show wpAny _ _ (spliced ((false, eval (.GeneratorExp elt [⟨.Name x px, iter, [], 0⟩] scope gpos) X.env) :: backTo pos (starEach [] X.env))) _ _ s
  refine Calls.spliced_cons (gx_made hr TB hcode S cp hi hel hs I h fun a s5 hG => ?_)
  obtain ⟨r, go, g, gs, n, hgo, ha, hl, hgs, goes, hback⟩ := hG
  refine Calls.spliced_nil ?_
  refine call_function_tree F.kind_all F.plain_all F.entry_all (F.args_all1 _) ?_
  unfold Builtin.«all»
  refine wpAny_bind (m := oneArg "all" _) (wpAny_pure ?_)
  refine wpAny_bind (wpAny_pyIter_gen (hgo _ ha) ?_)
  refine wpAny_pure ⟨plainId_quiet F.plain_all_loop _, gx_all_loop (Y := gxcx X x fr scope r) hr.hd hr.depth hgo (fun b σ' H' s' J h1 h2 => ?_) n s5 gs ha hl hgs goes⟩
  refine ⟨.bl b, H', hback _ _ _ J, rfl, ?_⟩
  cases b with
  | false => exact h1 rfl
  | true => exact h2 rfl
end
end Gx
/-! Sorting of pairs whose places are ints or texts: of a list, of a dict's keys, of a dict's items; any number of them. -/
namespace Sx
open PySem PySem.Spec PyProof.Rows L2
/-! ### the order -/
def ltK : Key → Key → Bool
  | .inl a, .inl b => decide (a < b)
  | .inr a, .inr b => decide (a.cps.toList < b.cps.toList)
  | .inl _, .inr _ => true
  | .inr _, .inl _ => false
theorem str_ext {a b : Str} (h : a.cps.toList = b.cps.toList) : a = b := by
  cases a with
  | mk x => cases b with
    | mk y => exact congrArg Str.mk (Array.toList_inj.mp h)
theorem ltK_irr : ∀ a : Key, ltK a a = false
  | .inl a => decide_eq_false (Int.lt_irrefl a)
  | .inr a => decide_eq_false (List.lt_irrefl a.cps.toList)
theorem ltK_trans : ∀ {a b c : Key}, ltK a b = true → ltK b c = true → ltK a c = true
  | .inl a, .inl b, .inl c, h1, h2 => by
    have h1 := of_decide_eq_true h1
    have h2 := of_decide_eq_true h2
    exact decide_eq_true (Int.lt_trans h1 h2)
  | .inl a, .inl b, .inr c, h1, h2 => rfl
  | .inl a, .inr b, .inl c, h1, h2 => by cases h2
  | .inl a, .inr b, .inr c, h1, h2 => rfl
  | .inr a, .inl b, _, h1, h2 => by cases h1
  | .inr a, .inr b, .inl c, h1, h2 => by cases h2
  | .inr a, .inr b, .inr c, h1, h2 => by
    have h1 := of_decide_eq_true h1
    have h2 := of_decide_eq_true h2
    exact decide_eq_true (List.lt_trans h1 h2)
theorem ltK_tri : ∀ a b : Key, ltK a b = true ∨ a = b ∨ ltK b a = true
  | .inl a, .inl b => by
    rcases Int.lt_trichotomy a b with h | h | h
    · exact .inl (decide_eq_true h)
    · exact .inr (.inl (by rw [h]))
    · exact .inr (.inr (decide_eq_true h))
  | .inl a, .inr b => .inl rfl
  | .inr a, .inl b => .inr (.inr rfl)
  | .inr a, .inr b => by
    by_cases h1 : a.cps.toList < b.cps.toList
    · exact .inl (decide_eq_true h1)
    · by_cases h2 : b.cps.toList < a.cps.toList
      · exact .inr (.inr (decide_eq_true h2))
      · exact .inr (.inl (by rw [str_ext (List.le_antisymm (List.not_lt.mp h2) (List.not_lt.mp h1))]))
abbrev K2 := Key × Key
def lt2K (p q : K2) : Bool := if p.1 = q.1 then ltK p.2 q.2 else ltK p.1 q.1
theorem lt2K_irr (p : K2) : lt2K p p = false := by
  unfold lt2K
  rw [if_pos rfl]
  exact ltK_irr _
theorem lt2K_trans {p q r : K2} (h1 : lt2K p q = true) (h2 : lt2K q r = true) : lt2K p r = true := by
  unfold lt2K at h1 h2 ⊢
  by_cases e1 : p.1 = q.1
  · rw [if_pos e1] at h1
    by_cases e2 : q.1 = r.1
    · rw [if_pos e2] at h2
      rw [if_pos (e1.trans e2)]
      exact ltK_trans h1 h2
    · rw [if_neg e2] at h2
      rw [if_neg (fun e => e2 (e1.symm.trans e)), e1]
      exact h2
  · rw [if_neg e1] at h1
    by_cases e2 : q.1 = r.1
    · rw [if_neg (fun e => e1 (e.trans e2.symm)), ← e2]
      exact h1
    · rw [if_neg e2] at h2
      have h3 := ltK_trans h1 h2
      have ne : ¬ p.1 = r.1 := fun e => by
        rw [e, ltK_irr] at h3
        cases h3
      rw [if_neg ne]
      exact h3
theorem lt2K_tri (p q : K2) : lt2K p q = true ∨ p = q ∨ lt2K q p = true := by
  unfold lt2K
  by_cases e : p.1 = q.1
  · rw [if_pos e, if_pos e.symm]
    rcases ltK_tri p.2 q.2 with h | h | h
    · exact .inl h
    · exact .inr (.inl (Prod.ext e h))
    · exact .inr (.inr h)
  · rw [if_neg e, if_neg (fun z => e z.symm)]
    rcases ltK_tri p.1 q.1 with h | h | h
    · exact .inl h
    · exact absurd h e
    · exact .inr (.inr h)
theorem lt2K_asym {p q : K2} (h : lt2K p q = true) : lt2K q p = false := by
  cases e : lt2K q p with
  | false => rfl
  | true =>
    have := lt2K_trans h e
    rw [lt2K_irr] at this
    cases this
theorem lt2K_not {p q : K2} (h : lt2K p q = false) : p = q ∨ lt2K q p = true := by
  rcases lt2K_tri p q with z | z | z
  · rw [h] at z; cases z
  · exact .inl z
  · exact .inr z
theorem swo2K {α : Type} (k : α → K2) : SrtO.Swo fun x y => lt2K (k x) (k y) := by
  refine ⟨fun x y h => lt2K_asym h, fun x y z h1 h2 => ?_⟩
  cases e : lt2K (k z) (k x) with
  | false => rfl
  | true =>
    rcases lt2K_not h1 with a | a
    · rcases lt2K_not h2 with b | b
      · rw [← a, ← b] at e
        first | (rw [lt2K_irr] at e; cases e) | (rw [a, b, lt2K_irr] at e; cases e)
      · rw [a] at b
        have b2 : lt2K (k x) (k z) = true := by first | exact b | (rw [← a] at b; exact b) | (rw [a]; exact b)
        have := lt2K_asym b2
        rw [e] at this
        cases this
    · rcases lt2K_not h2 with b | b
      · have a2 : lt2K (k x) (k z) = true := by rw [b]; exact a
        have := lt2K_asym a2
        rw [e] at this
        cases this
      · have := lt2K_asym (lt2K_trans a b)
        rw [e] at this
        cases this
/-! ### the machine compares so -/
def isI : Key → Bool
  | .inl _ => true
  | .inr _ => false
/-- v is a tuple of two such -/
def Is2 (h : Heap) (v : Value) (p : K2) : Prop := ∃ a o u1 u2 n, v = .ref a ∧ h.get? a = some o ∧ o.cls = .type "tuple" ∧ o.data = .seq #[u1, u2] n ∧ keyIs p.1 u1 = true ∧ keyIs p.2 u2 = true
theorem Is2.keeps {h h' : Heap} {v : Value} {p : K2} (x : Is2 h v p) (k : ∀ b o, h.get? b = some o → o.cls = .type "tuple" → h'.get? b = some o) : Is2 h' v p := by
  obtain ⟨a, o, u1, u2, n, e, ho, hc, r⟩ := x
  exact ⟨a, o, u1, u2, n, e, k _ _ ho hc, hc, r⟩
section
variable {prog : Program} {w : World} {A : Around} {E : Value → Shared → Prop} {s : Shared}
theorem one_true {k k' : Key} {u u' : Value} {Q : Bool → Shared → Prop} (h1 : keyIs k u = true) (h2 : keyIs k' u' = true) (hs : isI k = isI k') (h : Q (ltK k k') s) : wpAny (model prog w) A (oneLt' true u u') Q E s := by
  rcases keyIs_shape h1 with ⟨i, t, rfl, rfl⟩ | ⟨x, t, rfl, rfl⟩
  · rcases keyIs_shape h2 with ⟨j, t', rfl, rfl⟩ | ⟨y, t', rfl, rfl⟩
    · exact oneLt_int h
    · cases hs
  · rcases keyIs_shape h2 with ⟨j, t', rfl, rfl⟩ | ⟨y, t', rfl, rfl⟩
    · cases hs
    · exact oneLt_str h
theorem one_false {k k' : Key} {u u' : Value} {Q : Bool → Shared → Prop} (h1 : keyIs k u = true) (h2 : keyIs k' u' = true) (hs : isI k = isI k') (h : Q (ltK k k') s) : wpAny (model prog w) A (oneLt' false u u') Q E s := by
  rcases keyIs_shape h1 with ⟨i, t, rfl, rfl⟩ | ⟨x, t, rfl, rfl⟩
  · rcases keyIs_shape h2 with ⟨j, t', rfl, rfl⟩ | ⟨y, t', rfl, rfl⟩
    · exact PySem.W.kat_one _ _ (PyProof.Rows.lt_int h)
    · cases hs
  · rcases keyIs_shape h2 with ⟨j, t', rfl, rfl⟩ | ⟨y, t', rfl, rfl⟩
    · cases hs
    · exact PySem.W.kat_one _ _ (PyProof.Rows.lt_str h)
theorem cmp2 {vs : List Value} {k : Value → K2} {b1 b2 : Bool} (hp : ∀ v ∈ vs, Is2 s.heap v (k v)) (hs : ∀ v ∈ vs, isI (k v).1 = b1 ∧ isI (k v).2 = b2) :
    SrtO.Cmp prog w A s (tuples' true) (fun p => p.1 ∈ vs) (SrtO.lt2 fun v u => lt2K (k v) (k u)) := by
  intro p q hm hm'
  have h1 := hp _ hm
  have h2 := hp _ hm'
  obtain ⟨s1, s2⟩ := hs _ hm
  obtain ⟨t1, t2⟩ := hs _ hm'
  show wpAny (model prog w) A (keyLt' (tuples' true) p.1 q.1) (fun r s' => s' = s ∧ r = lt2K (k p.1) (k q.1)) (fun _ _ => False) s
  obtain ⟨a, o, u1, u2, n, e, ho, hc, hd, x1, x2⟩ := h1
  obtain ⟨a', o', v1, v2, n', e', ho', hc', hd', y1, y2⟩ := h2
  generalize k p.1 = kp at *
  generalize k q.1 = kq at *
  rw [e, e']
  refine PySem.W.kat_lt ho hd ho' hd' ?_
  show PySem.W.KatLex prog w A true (decide (2 < 2)) _ [(u1, v1), (u2, v2)] 0 s
  refine PySem.W.kat_cons ((mixKind prog w).eqBool x1 y1 ?_)
  unfold lt2K
  refine PySem.W.kat_go (fun e1 => ?_) (fun e1 => ?_)
  · have ex : kp.1 = kq.1 := of_decide_eq_true e1
    refine PySem.W.kat_yes (PySem.W.kat_cons ((mixKind prog w).eqBool x2 y2 ?_))
    refine PySem.W.kat_go (fun e2 => ?_) (fun e2 => ?_)
    · have ey : kp.2 = kq.2 := of_decide_eq_true e2
      refine PySem.W.kat_yes (PySem.W.kat_nil ⟨rfl, ?_⟩)
      rw [if_pos ex, ey, ltK_irr] <;> rfl
    · refine PySem.W.kat_no (one_false x2 y2 (s2.trans t2.symm) ⟨rfl, ?_⟩)
      rw [if_pos ex]
  · have ex : ¬ kp.1 = kq.1 := of_decide_eq_false e1
    refine PySem.W.kat_no (one_true x1 y1 (s1.trans t1.symm) ⟨rfl, ?_⟩)
    rw [if_neg ex]
theorem firsts2 {h : Heap} {k : Value → K2} : ∀ {vs : List Value}, (∀ v ∈ vs, Is2 h v (k v)) → ∃ fs : List Value, PySem.W.KatTups h vs fs ∧ fs.length = vs.length ∧ ∀ f ∈ fs, ∃ v ∈ vs, keyIs (k v).1 f = true
  | [], _ => ⟨[], PySem.W.KatTups.nil, rfl, fun _ hm => by simp at hm⟩
  | v :: vs, hp => by
    obtain ⟨fs, h1, h2, h3⟩ := firsts2 (vs := vs) fun v' hm => hp v' (List.mem_cons_of_mem _ hm)
    obtain ⟨a, o, u1, u2, n, e, ho, hc, hd, x1, x2⟩ := hp v (List.mem_cons_self ..)
    refine ⟨u1 :: fs, ?_, by rw [List.length_cons, List.length_cons, h2], fun f hm => ?_⟩
    · rw [e]
      exact PySem.W.KatTups.cons ho hc hd rfl h1
    · rcases List.mem_cons.mp hm with rfl | hm
      · exact ⟨v, List.mem_cons_self .., x1⟩
      · obtain ⟨v', hv, z⟩ := h3 f hm
        exact ⟨v', List.mem_cons_of_mem _ hv, z⟩
theorem sortable2 {a : Addr} {vs : List Value} {k : Value → K2} {b1 b2 : Bool} (h0 : 0 < vs.length) (hp : ∀ v ∈ vs, Is2 s.heap v (k v)) (hs : ∀ v ∈ vs, isI (k v).1 = b1 ∧ isI (k v).2 = b2) (ha : ∀ o, s.heap.get? a = some o → o.cls ≠ .type "tuple") :
    SrtO.SortableO prog w A s a vs fun v u => lt2K (k v) (k u) := by
  intro h' keep
  have hp' : ∀ v ∈ vs, Is2 h' v (k v) := fun v hm => (hp v hm).keeps fun b o e c => keep b o (fun z => by subst z; exact ha o e c) e
  obtain ⟨fs, h1, h2, h3⟩ := firsts2 hp'
  refine ⟨tuples' true, fun Q E hq => ?_, cmp2 hp' hs⟩
  cases b1 with
  | true =>
    refine PySem.W.kat_kind (T := .type "int") h1 (by omega) (fun f hm => ?_) (by rfl) ?_
    · obtain ⟨v, hv, z⟩ := h3 f hm
      rcases keyIs_shape z with ⟨i, t, e, rfl⟩ | ⟨x, t, e, rfl⟩
      · exact PySem.W.Looks.now
      · have q := (hs v hv).1
        rw [e] at q
        cases q
    · have e : (Value.type "int" != Value.type "tuple") = true := by first | decide +kernel | rfl | decide
      rw [e]
      exact hq
  | false =>
    refine PySem.W.kat_kind (T := .type "str") h1 (by omega) (fun f hm => ?_) (by rfl) ?_
    · obtain ⟨v, hv, z⟩ := h3 f hm
      rcases keyIs_shape z with ⟨i, t, e, rfl⟩ | ⟨x, t, e, rfl⟩
      · have q := (hs v hv).1
        rw [e] at q
        cases q
      · exact PySem.W.Looks.now
    · have e : (Value.type "str" != Value.type "tuple") = true := by first | decide +kernel | rfl | decide
      rw [e]
      exact hq
end
end Sx
namespace Sx
open PySem PySem.Spec PyProof.Rows L2
/-! ### as rules of the layer -/
def vK : V → Key
  | .int i => .inl i
  | .str x => .inr x
  | _ => .inl 0
theorem vK_kV : ∀ k : Key, vK (kV k) = k
  | .inl _ => rfl
  | .inr _ => rfl
/-- which pair stands there -/
def pk (H : Hp) : Value → K2
  | .ref a => match H a with
    | some (.tup [x, y]) => (vK x, vK y)
    | _ => (.inl 0, .inl 0)
  | _ => (.inl 0, .inl 0)
/-- a tuple of the pair p -/
def tup2 (p : K2) : HO := .tup [kV p.1, kV p.2]
theorem pk_at {H : Hp} {a : Addr} {p : K2} (h : H a = some (tup2 p)) : pk H (.ref a) = p := by
  show (match H a with
    | some (.tup [x, y]) => (vK x, vK y)
    | _ => ((.inl 0, .inl 0) : K2)) = p
  rw [h]
  show (vK (kV p.1), vK (kV p.2)) = p
  rw [vK_kV, vK_kV]
theorem is2_of {P : Program} {w : World} {H : Hp} {h : Heap} {a : Addr} {p : K2} (hok : HOk P w H h) (e : H a = some (tup2 p)) : Is2 h (.ref a) p := by
  obtain ⟨_, its, rv, o, ho, hc, n, hd⟩ := hok _ _ e
  obtain ⟨u1, u2, rfl, r1, r2⟩ := vals2 rv
  have k : ∀ {k : Key} {u : Value}, RelV (kV k) u → keyIs k u = true := fun {k u} r => by
    cases k with
    | inl i => obtain ⟨t, rfl⟩ := r; exact keyIs_int i t
    | inr x => obtain ⟨t, rfl⟩ := r; exact keyIs_str x t
  exact ⟨a, o, u1, u2, n, rfl, ho, hc, hd, k r1, k r2⟩
/-- all of L stand, of one kind -/
def Pairs (H : Hp) (L : List (Addr × K2)) : Prop := ∀ p ∈ L, H p.1 = some (tup2 p.2)
def OneKind (ps : List K2) : Prop := ∃ b1 b2, ∀ p ∈ ps, isI p.1 = b1 ∧ isI p.2 = b2
def Up (L : List (Addr × K2)) : Prop := L.Pairwise fun x y => lt2K y.2 x.2 = false
def Down (L : List (Addr × K2)) : Prop := L.Pairwise fun x y => lt2K x.2 y.2 = false
theorem refsOf (L : List (Addr × K2)) : Vals (L.map fun p => V.ref p.1) (L.map fun p => Value.ref p.1) := by
  induction L with
  | nil => exact .nil
  | cons p L ih => exact .cons rfl ih
/-- what comes out of the sort is L in another order -/
theorem back2 {H : Hp} {L : List (Addr × K2)} {out : List Value} (hL : Pairs H L) (hp : out.Perm (L.map fun p => Value.ref p.1)) :
    ∃ L' : List (Addr × K2), L'.Perm L ∧ out = L'.map (fun p => Value.ref p.1) ∧ L' = out.map fun v => (match v with | .ref a => a | _ => 0, pk H v) := by
  refine ⟨out.map fun v => (match v with | .ref a => a | _ => 0, pk H v), ?_, ?_, rfl⟩
  · have q := hp.map fun v => ((match v with | .ref a => a | _ => 0 : Addr), pk H v)
    rw [List.map_map] at q
    have e : L.map ((fun v => ((match v with | .ref a => a | _ => 0 : Addr), pk H v)) ∘ fun p : Addr × K2 => Value.ref p.1) = L := by
      conv => rhs; rw [← List.map_id L]
      refine List.map_congr_left fun p hm => ?_
      show (p.1, pk H (.ref p.1)) = p
      rw [pk_at (hL p hm)]
    rw [e] at q
    exact q
  · rw [List.map_map]
    conv => lhs; rw [← List.map_id out]
    refine List.map_congr_left fun v hm => ?_
    obtain ⟨p, _, rfl⟩ := List.mem_map.mp (hp.mem_iff.mp hm)
    rfl
section
variable {X : Cx} {pins : List (Addr × Obj)} {s : Shared} {σ : L2.St} {H : Hp}
/-- sorted(xs) of a list of such pairs -/
def rSorted2 (K : PySem.W.Frag) : List V → Hp → VK → Prop := fun vs H Q => ∃ (a : Addr) (L : List (Addr × K2)), vs = [V.ref a] ∧ SqL K H a (L.map fun p => V.ref p.1) ∧ Pairs H L ∧ OneKind (L.map (·.2)) ∧
  ∀ (L' : List (Addr × K2)) p, L'.Perm L → Up L' → H p = none → Q (.ref p) (upd H p (.lst (L'.map fun p => V.ref p.1)))
theorem cr_sorted2 : CallR X (.builtin "sorted") (rSorted2 X.K) := by
  intro pins s σ H vs us Q I r h
  obtain ⟨a, L, rfl, hs, hL, ⟨b1, b2, hk⟩, q⟩ := h
  obtain ⟨its, rv, hl, hz⟩ := I.list hs
  obtain ⟨u, rfl, ru⟩ := vals1 r
  obtain rfl : u = Value.ref a := ru
  have eits : its = L.map fun p => Value.ref p.1 := by
    clear hs hl hz hL hk q
    induction L generalizing its with
    | nil => cases rv; rfl
    | cons p L ih =>
      cases rv with
      | cons r1 r2 =>
        have e1 : _ = Value.ref p.1 := r1
        rw [List.map_cons, ih _ r2, e1]
  subst eits
  have is2 : ∀ v ∈ L.map (fun p => Value.ref p.1), Is2 s.heap v (pk H v) := fun v hm => by
    obtain ⟨p, hp, rfl⟩ := List.mem_map.mp hm
    rw [pk_at (hL p hp)]
    exact is2_of I.hok (hL p hp)
  have kd : ∀ v ∈ L.map (fun p => Value.ref p.1), isI (pk H v).1 = b1 ∧ isI (pk H v).2 = b2 := fun v hm => by
    obtain ⟨p, hp, rfl⟩ := List.mem_map.mp hm
    rw [pk_at (hL p hp)]
    exact hk _ (List.mem_map.mpr ⟨p, hp, rfl⟩)
  refine SrtO.sorted_ord (swo2K (pk H)) hl.isList (by rw [← rv.length]; exact hz) (fun h2 h₁ a' ha kk => ?_) fun out hs hb => ?_
  · refine sortable2 (s := { s with heap := h₁ }) (by omega) (fun v hm => (is2 v hm).keeps fun b o e _ => (kk b o e).2) kd fun o e => ?_
    have e' : some o = some (seqObj "list" (L.map fun p => Value.ref p.1).toArray 0) := e.symm.trans ha
    cases e'
    intro c
    exact absurd (Value.type.inj c) (by decide)
  · obtain ⟨L', hp, eo, eL⟩ := back2 hL hb.perm
    obtain ⟨n, hn⟩ := PyProof.Rows.sortedAll_at s.heap (L.map fun p => Value.ref p.1) out.toArray
    have up : Up L' := by
      rw [eL]
      refine List.pairwise_map.mpr (List.Pairwise.imp ?_ hs)
      intro x y z
      exact z
    refine ⟨.ref _, upd H (s.heap.objs.size + 1) (.lst (L'.map fun p => V.ref p.1)), I.laid (t' := s.toks) (fun _ _ => PyProof.Rows.sortedAll_old) (Nat.le_succ _) ⟨?_, out, n, ?_, hn⟩, rfl, q L' _ hp up (I.hok.fresh (Nat.le_succ _))⟩
    · rw [List.length_map, hp.length_eq]
      rw [List.length_map] at hz
      exact hz
    · rw [eo]
      exact refsOf L'
/-- the list that a sort leaves at the new list's place -/
theorem left2 {h' : Heap} {tk : Nat} {L L' : List (Addr × K2)} {out : Array Value} {Q : VK} (I : Inv X pins σ H s) (kp : ∀ b o, s.heap.get? b = some o → h'.get? b = some o) (hz : L.length ≤ sizeLine) (hp : L'.Perm L)
    (ho : (h'.push (seqObj "list" (L.map fun p => Value.ref p.1).toArray 0)).get? h'.objs.size = some (seqObj "list" (L.map fun p => Value.ref p.1).toArray 0)) (eo : out.toList = L'.map fun p => Value.ref p.1) (hn : H h'.objs.size = none)
    (q : Q (.ref h'.objs.size) (upd H h'.objs.size (.lst (L'.map fun p => V.ref p.1)))) :
    EP X pins σ Q (.ref h'.objs.size) { s with heap := sortedHeap (h'.push (seqObj "list" (L.map fun p => Value.ref p.1).toArray 0)) h'.objs.size (L.map fun p => Value.ref p.1) out, toks := tk } := by
  obtain ⟨e', he'⟩ := PyProof.Rows.sortedHeap_at (vs := L.map fun p => Value.ref p.1) (out := out) ho
  have I1 : Inv X pins σ H { s with heap := h', toks := tk } := I.kept kp
  refine ⟨.ref h'.objs.size, upd H h'.objs.size (.lst (L'.map fun p => V.ref p.1)), I1.laid (t' := tk) (fun b u e => ?_) (Nat.le_refl _)
    (show ObjOk X.prog X.w _ _ _ (.lst (L'.map fun p => V.ref p.1)) from ⟨by rw [List.length_map, hp.length_eq]; exact hz, out.toList, e', by rw [eo]; exact refsOf L', by rw [Array.toArray_toList]; exact he'⟩), rfl, q⟩
  have hb : b < h'.objs.size := Heap.lt_size e
  show (sortedHeap _ _ _ _).get? b = some u
  rw [PyProof.Rows.sortedHeap_old (Nat.ne_of_lt hb) (by rw [size_push']; exact Nat.lt_succ_of_lt hb)]
  exact Heap.get?_push_of_some _ e
/-- the keys of a dict whose keys are such pairs -/
theorem keys2 {ks : List (List Key × Addr × Value)} {kvs : List (List Key × V)} {ps : List K2} (rel : KT H kvs ks) (he : kvs.map (·.1) = ps.map fun p => [p.1, p.2]) :
    ∃ L : List (Addr × K2), Pairs H L ∧ L.map (·.2) = ps ∧ ks.map (fun x => Value.ref x.2.1) = L.map fun p => Value.ref p.1 := by
  induction rel generalizing ps with
  | nil =>
    cases ps with
    | nil => exact ⟨[], fun _ h => by simp at h, rfl, rfl⟩
    | cons p ps => cases he
  | @cons kv x kvs ks h t ih =>
    cases ps with
    | nil => cases he
    | cons p ps =>
      rw [List.map_cons, List.map_cons] at he
      obtain ⟨e1, e2⟩ := List.cons.inj he
      obtain ⟨L, hL, e3, e4⟩ := ih e2
      refine ⟨(x.2.1, p) :: L, fun q hq => ?_, by rw [List.map_cons, e3], by rw [List.map_cons, List.map_cons, e4]⟩
      rcases List.mem_cons.mp hq with rfl | hq
      · have z := h.2.1
        rw [e1] at z
        exact z
      · exact hL q hq
def rSortedD (rev : Bool) : Addr → Hp → VK → Prop := fun d H Q => ∃ (kvs : List (List Key × V)) (ps : List K2), Rd H d (.dT kvs) ∧ kvs.map (·.1) = ps.map (fun p => [p.1, p.2]) ∧ OneKind ps ∧
  ∀ (L : List (Addr × K2)) p, Pairs H L → (L.map (·.2)).Perm ps → (if rev = true then Down L else Up L) → H p = none → Q (.ref p) (upd H p (.lst (L.map fun p => V.ref p.1)))
/-- the collecting of a dict's keys -/
theorem collect2 {d : Addr} {kvs : List (List Key × V)} {ps : List K2} {R : List Value → Shared → Prop} {A : Around} {E : Value → Shared → Prop} (hh : A.handled = none) (I : Inv X pins σ H s) (hd : Rd H d (.dT kvs)) (he : kvs.map (·.1) = ps.map fun p => [p.1, p.2])
    (h : ∀ (h' : Heap) (tk : Nat) (L : List (Addr × K2)), (∀ b o, s.heap.get? b = some o → h'.get? b = some o) → Pairs H L → L.map (·.2) = ps → L.length ≤ sizeLine → R (L.map fun p => Value.ref p.1) { s with heap := h', toks := tk }) :
    wpAny (model X.prog X.w) A (collect (.ref d)) R E s := by
  obtain ⟨z, hs, ks, pr, o, es, ep, ho, hx, hdt, hen, hn⟩ := (show ObjOk X.prog X.w H s.heap d (.dT kvs) from hd.ok I.hok)
  have l1 : es.size = ks.length := size_of_entries hen
  have l2 : kvs.length = ks.length := Paired.length pr
  obtain ⟨L, hL, e3, e4⟩ := keys2 (show KT H kvs ks from pr) he
  have lL : L.length = ks.length := by
    have q := congrArg List.length e4
    rw [List.length_map, List.length_map] at q
    exact q.symm
  refine PySem.W.kdu_collect (kdl_raw hs hx hdt) hh ho (by omega) fun h' tk acc kp it => ?_
  have ea : acc.toList = ks.map fun x => Value.ref x.2.1 := by
    have hl : acc.toList.length = ks.length := by rw [Array.length_toList, it.1]; exact l1
    apply List.ext_getElem?
    intro j
    rw [List.getElem?_map]
    cases hj : acc.toList[j]? with
    | none =>
      have h1 := List.getElem?_eq_none_iff.mp hj
      rw [List.getElem?_eq_none (by omega)]
      all_goals rfl
    | some v =>
      obtain ⟨en, hen', hv⟩ := it.2 j v (by rw [← Array.getElem?_toList]; exact hj)
      have qe := entry_at hen j
      rw [hen'] at qe
      cases hb : ks[j]? with
      | none =>
        rw [hb] at qe
        exact nomatch (show some en = none from qe)
      | some b =>
        rw [hb] at qe
        have e2 : en = entryOfKey (tupleKind (mixKind X.prog X.w)) b := Option.some.inj qe
        rw [hv, e2]
        all_goals rfl
  rw [ea, e4]
  exact h h' tk L kp hL e3 (by omega)
theorem sort_prep {L : List (Addr × K2)} {h' : Heap} {tk : Nat} {A : Around} (I : Inv X pins σ H s) (hL : Pairs H L) (hk : OneKind (L.map (·.2))) (kp : ∀ b o, s.heap.get? b = some o → h'.get? b = some o) :
    2 ≤ (L.map fun p => Value.ref p.1).length → SrtO.SortableO X.prog X.w A { s with heap := h'.push (seqObj "list" (L.map fun p => Value.ref p.1).toArray 0), toks := tk } h'.objs.size (L.map fun p => Value.ref p.1) fun v u => lt2K (pk H v) (pk H u) := by
  intro h2
  obtain ⟨b1, b2, hk⟩ := hk
  have is2 : ∀ v ∈ L.map (fun p => Value.ref p.1), Is2 s.heap v (pk H v) := fun v hm => by
    obtain ⟨p, hp, rfl⟩ := List.mem_map.mp hm
    rw [pk_at (hL p hp)]
    exact is2_of I.hok (hL p hp)
  have kd : ∀ v ∈ L.map (fun p => Value.ref p.1), isI (pk H v).1 = b1 ∧ isI (pk H v).2 = b2 := fun v hm => by
    obtain ⟨p, hp, rfl⟩ := List.mem_map.mp hm
    rw [pk_at (hL p hp)]
    exact hk _ (List.mem_map.mpr ⟨p, hp, rfl⟩)
  have hoL : (h'.push (seqObj "list" (L.map fun p => Value.ref p.1).toArray 0)).get? h'.objs.size = some (seqObj "list" (L.map fun p => Value.ref p.1).toArray 0) := Heap.get?_push_size _ rfl
  refine sortable2 (s := { s with heap := h'.push (seqObj "list" (L.map fun p => Value.ref p.1).toArray 0), toks := tk }) (by omega) (fun v hm => (is2 v hm).keeps fun b o e _ => Heap.get?_push_of_some _ (kp b o e)) kd fun o e => ?_
  have e' : some o = some (seqObj "list" (L.map fun p => Value.ref p.1).toArray 0) := e.symm.trans hoL
  cases e'
  intro c
  exact absurd (Value.type.inj c) (by decide)
/-- sorted(d) of a dict whose keys are such pairs -/
theorem cr_sortedDT (hc : X.calm = true) : CallR X (.builtin "sorted") (fun vs H Q => ∃ d, vs = [V.ref d] ∧ rSortedD false d H Q) := by
  intro pins s σ H vs us Q I r h
  obtain ⟨d, rfl, kvs, ps, hd, he, hk, q⟩ := h
  obtain ⟨u, rfl, ru⟩ := vals1 r
  obtain rfl : u = Value.ref d := ru
  refine Calls.call_function_entry PyProof.Rows.kind_sorted PyProof.Rows.plain_sorted PyProof.Rows.entry_sorted (PyProof.Rows.args_sorted1 _) ?_
  unfold Builtin.«sorted»
  refine wpAny_bind (m := checkCount "sorted" 1 1 _) (wpAny_pure ?_)
  refine wpAny_bind (collect2 (A := X.A.in1) (I.ok.hd hc) I hd he fun h' tk L kp hL e3 hz => ?_)
  refine wpAny_bind (wpAny_newList ?_ (by rw [List.length_map]; exact hz))
  have hoL : (h'.push (seqObj "list" (L.map fun p => Value.ref p.1).toArray 0)).get? h'.objs.size = some (seqObj "list" (L.map fun p => Value.ref p.1).toArray 0) := Heap.get?_push_size _ rfl
  show wpAny _ _ _ _ _ { s with heap := h'.push (seqObj "list" (L.map fun p => Value.ref p.1).toArray 0), toks := tk }
  refine wpAny_bind (wpAny_holding (wpAny_call_entry PyProof.Rows.slot_list_sort ⟨_, hoL, rfl⟩ PyProof.Rows.entry_list_sort
    (SrtO.list_sort_ord (s := { s with heap := h'.push (seqObj "list" (L.map fun p => Value.ref p.1).toArray 0), toks := tk }) (swo2K (pk H)) hoL (by rw [List.length_map]; exact hz) (sort_prep I hL (by rw [e3]; exact hk) kp) fun out hs hb => ⟨_, rfl, ?_⟩) (PyProof.Rows.args_list_sort _)))
  obtain ⟨L', hp, eo, eL⟩ := back2 hL hb.perm
  have up : Up L' := by
    rw [eL]
    refine List.pairwise_map.mpr (List.Pairwise.imp ?_ hs)
    intro x y z
    exact z
  have hn : H h'.objs.size = none := (I.kept (h' := h') (t' := tk) kp).hok.fresh (Nat.le_refl _)
  refine wpAny_pure ⟨_, rfl, left2 (s := s) I kp hz hp hoL (by exact eo) hn (q L' _ (fun p hm => hL p (hp.mem_iff.mp hm)) (by rw [← e3]; exact hp.map _) ?_ hn)⟩
  exact up
/-- sorted(d, reverse=True) -/
theorem cr_sortedDTR (hc : X.calm = true) : CallRK X (.builtin "sorted") [Str.ofString "reverse"] (fun vs zs H Q => ∃ d, vs = [V.ref d] ∧ zs = [.bl true] ∧ rSortedD true d H Q) := by
  intro pins s σ H vs zs us ws Q I r rz h
  obtain ⟨d, rfl, rfl, kvs, ps, hd, he, hk, q⟩ := h
  obtain ⟨u, rfl, ru⟩ := vals1 r
  obtain rfl : u = Value.ref d := ru
  obtain ⟨w1, rfl, e1⟩ := vals1 rz
  obtain rfl : w1 = Value.bool true := e1
  refine call_function_entry_kw PyProof.Rows.kind_sorted PyProof.Rows.plain_sorted PyProof.Rows.entry_sorted (PyProof.Rows.args_sorted_rev _ _) ?_
  unfold Builtin.«sorted»
  refine wpAny_bind (m := checkCount "sorted" 1 1 _) (wpAny_pure ?_)
  refine wpAny_bind (collect2 (A := X.A.in1) (I.ok.hd hc) I hd he fun h' tk L kp hL e3 hz => ?_)
  refine wpAny_bind (wpAny_newList ?_ (by rw [List.length_map]; exact hz))
  have hoL : (h'.push (seqObj "list" (L.map fun p => Value.ref p.1).toArray 0)).get? h'.objs.size = some (seqObj "list" (L.map fun p => Value.ref p.1).toArray 0) := Heap.get?_push_size _ rfl
  show wpAny _ _ _ _ _ { s with heap := h'.push (seqObj "list" (L.map fun p => Value.ref p.1).toArray 0), toks := tk }
  refine wpAny_bind (wpAny_holding (wpAny_call_entry_kw PyProof.Rows.slot_list_sort ⟨_, hoL, rfl⟩ PyProof.Rows.entry_list_sort
    (SrtR.list_sort_ordR (b := true) (s := { s with heap := h'.push (seqObj "list" (L.map fun p => Value.ref p.1).toArray 0), toks := tk }) (swo2K (pk H)) hoL (by rw [List.length_map]; exact hz) (sort_prep I hL (by rw [e3]; exact hk) kp) fun out hs hb => ⟨_, rfl, ?_⟩) (PyProof.Rows.args_list_sort_rev _ _)))
  obtain ⟨L', hp, eo, eL⟩ := back2 hL (hb.perm.trans (List.reverse_perm _))
  have up : Up L' := by
    rw [eL]
    refine List.pairwise_map.mpr (List.Pairwise.imp ?_ hs)
    intro x y z
    exact z
  have hn : H h'.objs.size = none := (I.kept (h' := h') (t' := tk) kp).hok.fresh (Nat.le_refl _)
  refine wpAny_pure ⟨_, rfl, left2 (s := s) (L' := L'.reverse) I kp hz ((List.reverse_perm _).trans hp) hoL ?_ hn (q L'.reverse _ (fun p hm => hL p (hp.mem_iff.mp (List.mem_reverse.mp hm))) (by rw [← e3]; exact ((List.reverse_perm _).trans hp).map _) ?_ hn)⟩
  · show (out.toArray.reverse).toList = _
    rw [Array.toList_reverse, List.map_reverse, ← eo]
  · rw [if_pos rfl]
    exact List.pairwise_reverse.mpr up
end
end Sx
namespace Sx
open PySem PySem.Spec PyProof.Rows L2 L2.DX
section
variable {X : Cx} {pins : List (Addr × Obj)} {s : Shared} {σ : L2.St} {H : Hp}
/-- d.items() of a dict whose keys are ints and texts -/
def rItemsK : V → List V → Hp → VK → Prop := fun x xs H Q => ∃ (a : Addr) (kvs : List (Key × V)), x = .ref a ∧ xs = [] ∧ H a = some (.dK kvs) ∧ ∀ p, H p = none → Q (.ref p) (upd H p (itemsO p a))
theorem mt_itemsK : MtR X "dict.items" rItemsK := by
  intro pins s σ H x xs v us Q I rx rxs h
  obtain ⟨a, kvs, rfl, rfl, ha, q⟩ := h
  cases rx
  cases rxs
  obtain ⟨z, hd, vs, rel, o, es, ep, ho, hx, hdat, _⟩ := dk_of I.hok ha
  refine DT.callItems (es := es) (ep := ep) hd ⟨o, ho, hx, hdat⟩ ?_
  have hf : H s.heap.objs.size = none := I.hok.fresh (Nat.le_refl _)
  exact ⟨.ref s.heap.objs.size, upd H s.heap.objs.size (itemsO s.heap.objs.size a), I.laid (t' := s.toks) (fun b u e => Heap.get?_push_of_some _ e) (Nat.le_refl _) (itemsO_ok (Heap.get?_push_size _ rfl)), rfl, q _ hf⟩
theorem pairs_get {prog : Program} {w : World} {es : List DictEntry} {kvs : List (Key × Value)} (h : PySem.Pairs (mixKind prog w) es kvs) : ∀ {j : Nat} {en : DictEntry}, es[j]? = some en → ∃ kv, kvs[j]? = some kv ∧ keyIs kv.1 en.key = true ∧ en.val = kv.2 := by
  induction h with
  | nil => intro j en e; simp at e
  | cons h1 h2 _ ih =>
    intro j en e
    cases j with
    | zero =>
      have e := Option.some.inj e
      subst e
      exact ⟨_, rfl, h1, h2⟩
    | succ j => exact ih (by simpa using e)
theorem kv_get {kvs : List (Key × V)} {vs : List (Key × Value)} (r : KV kvs vs) : ∀ {j : Nat} {kv : Key × Value}, vs[j]? = some kv → ∃ p, kvs[j]? = some p ∧ p.1 = kv.1 ∧ RelV p.2 kv.2 := by
  induction r with
  | nil => intro j kv e; simp at e
  | cons h1 _ ih =>
    intro j kv e
    cases j with
    | zero =>
      have e := Option.some.inj e
      subst e
      exact ⟨_, rfl, h1.1, h1.2⟩
    | succ j => exact ih (by simpa using e)
theorem relV_is {k : Key} {u : Value} (r : RelV (kV k) u) : keyIs k u = true := by
  cases k with
  | inl i => obtain ⟨t, rfl⟩ := r; exact keyIs_int i t
  | inr x => obtain ⟨t, rfl⟩ := r; exact keyIs_str x t
theorem relV_of {k : Key} {u : Value} (h : keyIs k u = true) : RelV (kV k) u := by
  rcases keyIs_shape h with ⟨i, t, rfl, rfl⟩ | ⟨x, t, rfl, rfl⟩
  · exact ⟨t, rfl⟩
  · exact ⟨t, rfl⟩
/-- sorted(d.items()) -/
def rSortedItems : List V → Hp → VK → Prop := fun vs H Q => ∃ (p d : Addr) (ps : List K2), vs = [.ref p] ∧ H p = some (itemsO p d) ∧ H d = some (.dK (ps.map fun p => (p.1, kV p.2))) ∧ OneKind ps ∧
  ∀ (H' : Hp) (l : Addr) (L : List (Addr × K2)), (∀ b o, H b = some o → H' b = some o) → Pairs H' L → (L.map (·.2)).Perm ps → Up L → H' l = some (.lst (L.map fun p => V.ref p.1)) → Q (.ref l) H'
theorem cr_sortedItemsK (hc : X.calm = true) : CallR X (.builtin "sorted") rSortedItems := by
  intro pins s σ H xs us Q I r h
  obtain ⟨p, d, ps, rfl, hp, hd, ⟨b1, b2, hk1⟩, q⟩ := h
  obtain rfl := Vals.ref1 r
  have view : s.heap.IsItemsView p d := (show ObjOk X.prog X.w H s.heap p (itemsO p d) from I.hok p _ hp).1
  obtain ⟨z, hds, vs, rel, o, es, ep, ho, hx, hdat, hkeys, hpr, hnd⟩ := dk_of I.hok hd
  have l1 : ps.length = vs.length := by
    have q := Paired.length rel
    rw [List.length_map] at q
    exact q
  have l2 : es.size = vs.length := by rw [← Array.length_toList]; exact hpr.length
  have hh : X.A.handled = none := I.ok.hd hc
  rw [List.length_map] at z
  refine DT.sortedI (es := es) (ep := ep) hh view ⟨o, ho, hx, hdat⟩ (by omega) fun h' tk as hk hlt hl hG => ?_
  have lak : as.length = ps.length := by omega
  have nd : as.Nodup := List.Pairwise.imp (fun h => Nat.ne_of_lt h) hG.rise
  have pr : ∀ (j : Nat) (b : Addr), as[j]? = some b → ∃ (e : K2) (u1 u2 : Value), ps[j]? = some e ∧ keyIs e.1 u1 = true ∧ keyIs e.2 u2 = true ∧ h'.get? b = some { cls := .type "tuple", data := .seq #[u1, u2] } := by
    intro j b hj
    obtain ⟨en, he, hg⟩ := hG.pairs j b hj
    obtain ⟨kv, hkv, k1, k2⟩ := pairs_get hpr (by rw [Array.getElem?_toList]; exact he)
    obtain ⟨q1, hq, e1, r2⟩ := kv_get rel hkv
    rw [List.getElem?_map] at hq
    cases hpj : ps[j]? with
    | none => rw [hpj] at hq; cases hq
    | some e =>
      rw [hpj] at hq
      have eq1 : (e.1, kV e.2) = q1 := Option.some.inj hq
      subst eq1
      refine ⟨e, en.key, en.val, rfl, ?_, ?_, hg⟩
      · have e1 : e.1 = kv.1 := e1
        rw [e1]
        exact k1
      · rw [k2]
        exact relV_is r2
  generalize hkf : (fun v : Value => match v with | .ref b => ps.getD (as.idxOf b) (.inl 0, .inl 0) | _ => ((.inl 0, .inl 0) : K2)) = kf
  have kf_at : ∀ (j : Nat) (b : Addr) (e : K2), as[j]? = some b → ps[j]? = some e → kf (.ref b) = e := fun j b e hj he => by
    rw [← hkf]
    obtain ⟨hlt, hb⟩ := List.getElem?_eq_some_iff.mp hj
    have ix : as.idxOf b = j := by rw [← hb]; exact nd.idxOf_getElem j hlt
    show ps.getD (as.idxOf b) (.inl 0, .inl 0) = e
    rw [ix, List.getD_eq_getElem?_getD, he]
    rfl
  have hob : (h'.push { cls := .type "list", data := .seq (as.map Value.ref).toArray }).get? h'.objs.size = some (seqObj "list" (as.map Value.ref).toArray 0) := Heap.get?_push_size _ rfl
  have kb : ∀ b o, s.heap.get? b = some o → (h'.push { cls := .type "list", data := .seq (as.map Value.ref).toArray }).get? b = some o := fun b o e => Heap.get?_push_of_some _ (hk b o e)
  have ne0 : ∀ b o, h'.get? b = some o → b ≠ h'.objs.size := fun b o e => Nat.ne_of_lt (Heap.lt_size e)
  generalize hh2 : h'.push { cls := .type "list", data := .seq (as.map Value.ref).toArray } = h2 at hob kb ⊢
  have ka : ∀ b o, h'.get? b = some o → h2.get? b = some o := fun b o e => by rw [← hh2]; exact Heap.get?_push_of_some _ e
  have at_ : ∀ v ∈ as.map Value.ref, ∃ (j : Nat) (b : Addr) (e : K2) (u1 u2 : Value), v = .ref b ∧ as[j]? = some b ∧ ps[j]? = some e ∧ keyIs e.1 u1 = true ∧ keyIs e.2 u2 = true ∧ h2.get? b = some { cls := .type "tuple", data := .seq #[u1, u2] } ∧ kf v = e := by
    intro v hv'
    obtain ⟨b, hb, rfl⟩ := List.mem_map.mp hv'
    obtain ⟨j, hj⟩ := List.mem_iff_getElem?.mp hb
    obtain ⟨e, u1, u2, he, k1, k2, hg⟩ := pr j b hj
    exact ⟨j, b, e, u1, u2, rfl, hj, he, k1, k2, ka _ _ hg, kf_at j b e hj he⟩
  have is2 : ∀ v ∈ as.map Value.ref, Is2 h2 v (kf v) := fun v hv => by
    obtain ⟨j, b, e, u1, u2, rfl, hj, he, k1, k2, hg, ek⟩ := at_ v hv
    rw [ek]
    exact ⟨b, _, u1, u2, 0, rfl, hg, rfl, rfl, k1, k2⟩
  have kd : ∀ v ∈ as.map Value.ref, isI (kf v).1 = b1 ∧ isI (kf v).2 = b2 := fun v hv => by
    obtain ⟨j, b, e, u1, u2, rfl, hj, he, k1, k2, hg, ek⟩ := at_ v hv
    rw [ek]
    exact hk1 e (List.mem_of_getElem? he)
  refine wpAny_call_entry PyProof.Rows.slot_list_sort ⟨_, hob, rfl⟩ PyProof.Rows.entry_list_sort
    (SrtO.list_sort_ord (s := { s with heap := h2, toks := tk }) (swo2K kf) hob (by rw [List.length_map]; omega) (fun h2' => ?_) fun out hs hb => ⟨.none, rfl, ?_⟩) (PyProof.Rows.args_list_sort _)
  · refine sortable2 (s := { s with heap := h2, toks := tk }) (by omega) is2 kd fun o e => ?_
    have e' : some o = some (seqObj "list" (as.map Value.ref).toArray 0) := e.symm.trans hob
    cases e'
    intro c
    exact absurd (Value.type.inj c) (by decide)
  · show EP X pins σ Q (.ref h'.objs.size) { s with heap := sortedHeap h2 h'.objs.size (as.map Value.ref) out.toArray, toks := tk }
    have hperm := hb.perm
    have omem : ∀ v ∈ out, v ∈ as.map Value.ref := fun v hv => hperm.mem_iff.mp hv
    have kF : ∀ b o, b ≠ h'.objs.size → h2.get? b = some o → (sortedHeap h2 h'.objs.size (as.map Value.ref) out.toArray).get? b = some o := fun b o hb e => (PyProof.Rows.sortedHeap_old hb (Heap.lt_size e)).trans e
    have kS : ∀ b o, s.heap.get? b = some o → (sortedHeap h2 h'.objs.size (as.map Value.ref) out.toArray).get? b = some o := fun b o e => kF b o (ne0 _ _ (hk b o e)) (kb b o e)
    obtain ⟨eF, heF⟩ := PyProof.Rows.sortedHeap_at (vs := as.map Value.ref) (out := out.toArray) hob
    have I1 : Inv X pins σ H { s with heap := sortedHeap h2 h'.objs.size (as.map Value.ref) out.toArray, toks := tk } := I.kept (t' := tk) kS
    have hn0 : H h'.objs.size = none := I.hok.fresh (Nat.le_of_lt hlt)
    generalize hLL : out.map (fun v => ((match v with | .ref a => a | _ => 0 : Addr), kf v)) = L
    have eo : out = L.map fun p => Value.ref p.1 := by
      rw [← hLL, List.map_map]
      conv => lhs; rw [← List.map_id out]
      refine List.map_congr_left fun v hm => ?_
      obtain ⟨b, _, rfl⟩ := List.mem_map.mp (omem v hm)
      rfl
    have lout : out.length = as.length := by rw [hperm.length_eq, List.length_map]
    have lL : L.length = as.length := by rw [← hLL, List.length_map, lout]
    have hlen : (L.map fun p => V.ref p.1).length ≤ sizeLine := by
      rw [List.length_map, lL, lak]
      exact z
    have I2 : Inv X pins σ (upd H h'.objs.size (.lst (L.map fun p => V.ref p.1))) { s with heap := sortedHeap h2 h'.objs.size (as.map Value.ref) out.toArray, toks := tk } :=
      I1.take (h' := sortedHeap h2 h'.objs.size (as.map Value.ref) out.toArray) (t' := tk) (fun b ob _ e => e) (I.fpOk (Nat.le_of_lt hlt) hn0) ⟨hlen, out, eF, by rw [eo]; exact refsOf L, heF⟩
    obtain ⟨H2, I3, g, qt⟩ := takeT (P := fun b vs => ∃ (j : Nat) (e : K2), as[j]? = some b ∧ ps[j]? = some e ∧ vs = [kV e.1, kV e.2]) I as _ I2 nd fun b hb => by
      obtain ⟨j, hj⟩ := List.mem_iff_getElem?.mp hb
      obtain ⟨e, u1, u2, he, k1, k2, hg⟩ := pr j b hj
      have hbl : s.heap.objs.size ≤ b := Nat.le_of_lt (hG.above b hb)
      refine ⟨hbl, ?_, [kV e.1, kV e.2], ⟨j, e, hj, he, rfl⟩, fun H3 => ⟨(by rw [sizeLine_eq]; show 2 ≤ 16777216; omega), [u1, u2], .cons (relV_of k1) (.cons (relV_of k2) .nil), ⟨_, kF _ _ (ne0 _ _ hg) (ka _ _ hg), rfl, 0, rfl⟩⟩⟩
      rw [upd_ne (ne0 _ _ hg)]
      exact I.hok.fresh hbl
    have gr : ∀ b o, H b = some o → H2 b = some o := fun b o e => g b o (by rw [upd_ne (ne_of_none e hn0)]; exact e)
    refine ⟨.ref h'.objs.size, H2, I3, rfl, q H2 h'.objs.size L gr (fun x hx => ?_) ?_ ?_ (g _ _ upd_same)⟩
    · rw [← hLL] at hx
      obtain ⟨v, hv, rfl⟩ := List.mem_map.mp hx
      obtain ⟨j, b, e, u1, u2, rfl, hj, he, k1, k2, hg, ek⟩ := at_ v (omem v hv)
      obtain ⟨vs', ⟨j', e', hj', he', ev⟩, hH⟩ := qt b (List.mem_of_getElem? hj)
      have ej : j = j' := (List.getElem?_inj (List.getElem?_eq_some_iff.mp hj).1 nd).mp (hj.trans hj'.symm)
      subst ej
      rw [he] at he'
      cases he'
      rw [ev] at hH
      show H2 b = some (tup2 (kf (.ref b)))
      rw [ek]
      exact hH
    · have e1 : L.map (·.2) = out.map kf := by rw [← hLL, List.map_map]; rfl
      have e2 : (as.map Value.ref).map kf = ps := by
        rw [List.map_map]
        apply List.ext_getElem?
        intro j
        rw [List.getElem?_map]
        cases hj : as[j]? with
        | none =>
          have h1 := List.getElem?_eq_none_iff.mp hj
          rw [List.getElem?_eq_none (by omega)]
          rfl
        | some b =>
          obtain ⟨e, u1, u2, he, k1, k2, hg⟩ := pr j b hj
          rw [he]
          show some (kf (.ref b)) = some e
          rw [kf_at j b e hj he]
      rw [e1, ← e2]
      exact hperm.map kf
    · rw [← hLL]
      refine List.pairwise_map.mpr (List.Pairwise.imp ?_ hs)
      intro x y z
      exact z
end
end Sx
/-! The text by places, what is kept by all that runs, defs as they are called. -/
namespace K80
open PySem PySem.Spec PyProof.Rows L2 Gx GxR
def top (i : Nat) : Stmt := PySem.Challenge.pw_editsagree_k80_whole_edits_at_once_by_se.main.body.getD i (.Pass ⟨0, 0, 0, 0⟩)
/-! ### what is kept -/
/-- from H to H': tuples stand, tables grow, and all else stands but what D names -/
structure Gw (D : Addr → Prop) (H H' : Hp) : Prop where
  tup : ∀ b xs, H b = some (.tup xs) → H' b = some (.tup xs)
  oth : ∀ b o, H b = some o → (∀ ps, o ≠ .tbl ps) → ¬ D b → H' b = some o
  tab : ∀ b, TabG H b → TabG H' b
  non : ∀ b, H' b = none → H b = none
abbrev D0 : Addr → Prop := fun _ => False
theorem Gw.refl {D : Addr → Prop} {H : Hp} : Gw D H H := ⟨fun _ _ h => h, fun _ _ h _ _ => h, fun _ h => h, fun _ h => h⟩
theorem Gw.go {D D' : Addr → Prop} {H H1 H2 : Hp} (a : Gw D H H1) (b : Gw D' H1 H2) (s : ∀ p, D' p → H p ≠ none → D p) : Gw D H H2 :=
  ⟨fun p xs e => b.tup p xs (a.tup p xs e), fun p o e n d => b.oth p o (a.oth p o e n d) n fun d' => d (s p d' (by rw [e]; simp)), fun p e => b.tab p (a.tab p e), fun p e => a.non p (b.non p e)⟩
theorem Gw.trans {D : Addr → Prop} {H H1 H2 : Hp} (a : Gw D H H1) (b : Gw D H1 H2) : Gw D H H2 := a.go b fun _ d _ => d
theorem Gw.pure {D : Addr → Prop} {H H1 H2 : Hp} (a : Gw D H H1) (b : Gw D0 H1 H2) : Gw D H H2 := a.go b fun _ d _ => d.elim
theorem Gw.mono {D D' : Addr → Prop} {H H1 : Hp} (a : Gw D H H1) (s : ∀ p, D p → D' p) : Gw D' H H1 := ⟨a.tup, fun p o e n d => a.oth p o e n fun z => d (s p z), a.tab, a.non⟩
theorem Gw.of0 {D : Addr → Prop} {H H1 : Hp} (a : Gw D0 H H1) : Gw D H H1 := a.mono fun _ z => z.elim
/-- a new place (as H saw it) is written -/
theorem Gw.fresh {D : Addr → Prop} {H H1 : Hp} {p : Addr} {o : HO} (a : Gw D H H1) (n : H p = none) : Gw D H (upd H1 p o) := by
  have ne : ∀ {b : Addr} {u : HO}, H b = some u → b ≠ p := fun e => ne_of_none e n
  refine ⟨fun b xs e => by rw [upd_ne (ne e)]; exact a.tup b xs e, fun b u e nt d => by rw [upd_ne (ne e)]; exact a.oth b u e nt d, fun b ⟨ps, e, t⟩ => ?_, fun b e => ?_⟩
  · obtain ⟨qs, e2, t2⟩ := a.tab b ⟨ps, e, t⟩
    exact ⟨qs, by rw [upd_ne (ne e)]; exact e2, t2⟩
  · by_cases q : b = p
    · rw [q]; exact n
    · rw [upd_ne q] at e
      exact a.non b e
theorem Gw.new {D : Addr → Prop} {H H1 : Hp} {p : Addr} {o : HO} (a : Gw D H H1) (n : H1 p = none) : Gw D H (upd H1 p o) := a.fresh (a.non p n)
/-- what D names is written -/
theorem Gw.put {D : Addr → Prop} {H H1 : Hp} {p : Addr} {o u : HO} (a : Gw D H H1) (d : D p) (e : H1 p = some u) (nt : ∀ xs, u ≠ .tup xs) (nb : ∀ ps, u ≠ .tbl ps) : Gw D H (upd H1 p o) := by
  refine a.trans ⟨fun b xs eb => ?_, fun b v eb _ db => ?_, fun b ⟨ps, eb, t⟩ => ?_, fun b eb => ?_⟩
  · have q : b ≠ p := fun z => by
      rw [z, e] at eb
      exact nt xs (Option.some.inj eb)
    rw [upd_ne q]; exact eb
  · have q : b ≠ p := fun z => db (by rw [z]; exact d)
    rw [upd_ne q]; exact eb
  · have q : b ≠ p := fun z => by
      rw [z, e] at eb
      exact nb ps (Option.some.inj eb)
    exact ⟨ps, by rw [upd_ne q]; exact eb, t⟩
  · by_cases q : b = p
    · rw [q, upd_same] at eb; cases eb
    · rw [upd_ne q] at eb; exact eb
theorem Gw.tbl {D : Addr → Prop} {H H1 H2 : Hp} {P : Addr} (a : Gw D H H1) (t : Tabbed P H1 H2) (g : TabG H1 P) : Gw D H H2 := by
  obtain ⟨ps, e, tr⟩ := g
  refine a.trans ⟨fun b xs eb => ?_, fun b v eb nb _ => ?_, fun b h => ?_, fun b eb => ?_⟩
  · have q : b ≠ P := fun z => by rw [z, e] at eb; cases eb
    rw [t.2 b q]; exact eb
  · have q : b ≠ P := fun z => by
      rw [z, e] at eb
      exact nb ps (Option.some.inj eb).symm
    rw [t.2 b q]; exact eb
  · by_cases q : b = P
    · rw [q]; exact t.1
    · obtain ⟨qs, e2, t2⟩ := h
      exact ⟨qs, by rw [t.2 b q]; exact e2, t2⟩
  · by_cases q : b = P
    · rw [q] at eb
      obtain ⟨qs, e2, _⟩ := t.1
      rw [e2] at eb; cases eb
    · rw [t.2 b q] at eb; exact eb
/-! ### defs -/
structure Df (K : PySem.W.Frag) (mg : Str → Option Value) (x : Str) (st : Stmt) (ps : List Str) : Prop where
  ex : ∃ (f : Addr) (fd : FuncData), Fun K x x st f fd ∧ mg x = some (.ref f) ∧ Binds K fd ps []
structure DfT (K : PySem.W.Frag) (mg : Str → Option Value) (base : Heap) (x : Str) (st : Stmt) (ps : List Str) (T : Addr) : Prop where
  ex : ∃ (f : Addr) (fd : FuncData) (c : Addr), Fun K x x st f fd ∧ mg x = some (.ref f) ∧ Binds K fd ps [] ∧ fd.code = .ref c ∧ TabB base mg c T
structure Md (K : PySem.W.Frag) (C : Addr) (x q : Str) (st : Stmt) (ps : List Str) : Prop where
  ex : ∃ (f : Addr) (fd : FuncData), Fun K x q st f fd ∧ Meth K C x f ∧ Binds K fd ps []
structure MdT (K : PySem.W.Frag) (mg : Str → Option Value) (base : Heap) (C : Addr) (x q : Str) (st : Stmt) (ps : List Str) (T : Addr) : Prop where
  ex : ∃ (f : Addr) (fd : FuncData) (c : Addr), Fun K x q st f fd ∧ Meth K C x f ∧ Binds K fd ps [] ∧ fd.code = .ref c ∧ TabB base mg c T
/-- a def that keeps its promise, as a caller sees it -/
structure Fn (P : Program) (w : World) (K : PySem.W.Frag) (mg : Str → Option Value) (base : Heap) (k : Nat) (x : Str) (ps : List Str) (sp : Sp) : Prop where
  ex : ∃ (f : Addr) (fd : FuncData), FnOk P w K mg base CX0 k f fd ps sp ∧ mg x = some (.ref f) ∧ PySem.W.keepIn K (.ref f) = true ∧ Binds K fd ps []
structure Mt (P : Program) (w : World) (K : PySem.W.Frag) (mg : Str → Option Value) (base : Heap) (C : Addr) (k : Nat) (x : Str) (ps : List Str) (sp : Sp) : Prop where
  ex : ∃ (f : Addr) (fd : FuncData), FnOk P w K mg base CX0 k f fd ps sp ∧ Cls K C ∧ Meth K C x f ∧ Binds K fd ps []
section
variable {X : Cx}
theorem pe_fn {k : Nat} {x : Str} {ps : List Str} {sp : Sp} {e : Expr} {es : List Expr} {t : TA} {p pos : Pos} (h : Fn X.prog X.w X.K X.mg X.base k x ps sp) (hr : Room k X.A) (ha : PA X (e :: es) t) (hg : Gl X x := by rfl)
    (hdb : (x == ("__debug__" : Str)) = false := by decide) (he : starEach (e :: es) X.env = (false, eval e X.env) :: starEach es X.env := by rfl) (hpl : (backTo pos (starEach es X.env)).any (·.1) = false := by rfl) :
    PE X (.Call (.Name x p) (e :: es) [] pos) (tCall sp [] E0 t) := by
  obtain ⟨f, fd, G, m, kp, b⟩ := h.ex
  exact pe_call G hr hg m kp b .nil pass0 ha hdb he hpl
theorem pe_mth {C : Addr} {k : Nat} {x : Str} {ps : List Str} {sp : Sp} {o e : Expr} {es : List Expr} {to : TE} {t : TA} {p pos : Pos} {pl : Sem Bool} (h : Mt X.prog X.w X.K X.mg X.base C k x ps sp) (hr : Room k X.A) (ho : PE X o to) (ha : PA X (e :: es) t)
    (hst : starEach (e :: es) X.env = (false, eval e X.env) :: starEach es X.env := by rfl) (hpl : (backTo pos (starEach es X.env)).any (·.1) = false := by rfl)
    (ht : eval (.Call (.Attribute o x p) (e :: es) [] pos) X.env = (do
      let ov ← eval o X.env
      standAt p.atName
      let (f, first) ← holding [ov] (getMethod ov x pl)
      callWith pos f first (backTo pos (starEach (e :: es) X.env)) (backToKw pos (keywordEach [] X.env))) := by rfl) :
    PE X (.Call (.Attribute o x p) (e :: es) [] pos) (tMeth C x sp [] E0 to t) := by
  obtain ⟨f, fd, G, c, m, b⟩ := h.ex
  exact pe_meth ho c m G hr b .nil pass0 ha hst hpl ht
theorem pe_mth0 {C : Addr} {k : Nat} {x : Str} {ps : List Str} {sp : Sp} {o : Expr} {to : TE} {p pos : Pos} {pl : Sem Bool} (h : Mt X.prog X.w X.K X.mg X.base C k x ps sp) (hr : Room k X.A) (ho : PE X o to)
    (ht : eval (.Call (.Attribute o x p) [] [] pos) X.env = (do
      let ov ← eval o X.env
      standAt p.atName
      let (f, first) ← holding [ov] (getMethod ov x pl)
      callWith pos f first (backTo pos (starEach [] X.env)) (backToKw pos (keywordEach [] X.env))) := by rfl) :
    PE X (.Call (.Attribute o x p) [] [] pos) (tMeth C x sp [] E0 to tNil) := by
  obtain ⟨f, fd, G, c, m, b⟩ := h.ex
  exact pe_meth0 ho c m G hr b .nil pass0 ht
end
section
variable {P : Program} {w : World} {K : PySem.W.Frag} {mg : Str → Option Value} {base : Heap}
theorem Df.ok {x : Str} {st : Stmt} {N ps : List Str} {k : Nat} {sp : Sp} (D : Df K mg x st ps) (S : FnScope N ps (defScope st)) (len : ∀ vs H Q E, sp vs H Q E → vs.length = ps.length)
    (hbody : ∀ (cdv : Value) (f : Addr) (A : Around) (outer : List Env) (s : Shared) (H : Hp) (vs : List V) (Q : VK) (E : XK), Room k (A.deeper (envOfC x (defScope st) s.heap.objs.size f cdv)) → sp vs H Q E →
      ∃ t, PSs (cxOf CX0 P w K mg base N x (defScope st) f cdv A outer s H E).nox (defBody st) t ∧ t { nx := fun _ H' => Q .non H', rt := Q } (start N vs) H) : Fn P w K mg base (k + 1) x ps sp := by
  obtain ⟨f, fd, F, m, b⟩ := D.ex
  exact ⟨f, fd, F.ok S len fun cdv A outer s H vs Q E => hbody cdv f A outer s H vs Q E, m, F.kp, b⟩
theorem fun_okT {x qual : Str} {st : Stmt} {f c : Addr} {fd : FuncData} {N ps : List Str} {k : Nat} {sp : Sp} (F : Fun K x qual st f fd) (hc : fd.code = .ref c) (S : FnScope N ps (defScope st)) (len : ∀ vs H Q E, sp vs H Q E → vs.length = ps.length)
    (hbody : ∀ (A : Around) (outer : List Env) (s : Shared) (H : Hp) (vs : List V) (Q : VK) (E : XK), Room k (A.deeper (envOfC qual (defScope st) s.heap.objs.size f (.ref c))) → sp vs H Q E →
      ∃ t, PSs (cxOf CX0 P w K mg base N qual (defScope st) f (.ref c) A outer s H E).nox (defBody st) t ∧ t { nx := fun _ H' => Q .non H', rt := Q } (start N vs) H) : FnOk P w K mg base CX0 (k + 1) f fd ps sp := by
  obtain ⟨oc, od, kV, doc, pm, an, cdv, ct, osl, rfl, lk, hcd⟩ := F.ex
  obtain rfl : cdv = .ref c := hc
  refine fn_of lk hcd S len fun A outer s H vs Q E hr hsp => ?_
  obtain ⟨t, h, q⟩ := hbody A outer s H vs Q E hr hsp
  exact ⟨t, h.nox, q⟩
theorem DfT.ok {x : Str} {st : Stmt} {N ps : List Str} {k : Nat} {T : Addr} {sp : Sp} (D : DfT K mg base x st ps T) (S : FnScope N ps (defScope st)) (len : ∀ vs H Q E, sp vs H Q E → vs.length = ps.length)
    (hbody : ∀ (c f : Addr) (A : Around) (outer : List Env) (s : Shared) (H : Hp) (vs : List V) (Q : VK) (E : XK), TabB base mg c T → Room k (A.deeper (envOfC x (defScope st) s.heap.objs.size f (.ref c))) → sp vs H Q E →
      ∃ t, PSs (cxOf CX0 P w K mg base N x (defScope st) f (.ref c) A outer s H E).nox (defBody st) t ∧ t { nx := fun _ H' => Q .non H', rt := Q } (start N vs) H) : Fn P w K mg base (k + 1) x ps sp := by
  obtain ⟨f, fd, c, F, m, b, hc, TB⟩ := D.ex
  exact ⟨f, fd, fun_okT F hc S len fun A outer s H vs Q E => hbody c f A outer s H vs Q E TB, m, F.kp, b⟩
theorem Md.ok {C : Addr} {x q : Str} {st : Stmt} {N ps : List Str} {k : Nat} {sp : Sp} (D : Md K C x q st ps) (cl : Cls K C) (S : FnScope N ps (defScope st)) (len : ∀ vs H Q E, sp vs H Q E → vs.length = ps.length)
    (hbody : ∀ (cdv : Value) (f : Addr) (A : Around) (outer : List Env) (s : Shared) (H : Hp) (vs : List V) (Q : VK) (E : XK), Room k (A.deeper (envOfC q (defScope st) s.heap.objs.size f cdv)) → sp vs H Q E →
      ∃ t, PSs (cxOf CX0 P w K mg base N q (defScope st) f cdv A outer s H E).nox (defBody st) t ∧ t { nx := fun _ H' => Q .non H', rt := Q } (start N vs) H) : Mt P w K mg base C (k + 1) x ps sp := by
  obtain ⟨f, fd, F, m, b⟩ := D.ex
  exact ⟨f, fd, F.ok S len fun cdv A outer s H vs Q E => hbody cdv f A outer s H vs Q E, cl, m, b⟩
theorem MdT.ok {C : Addr} {x q : Str} {st : Stmt} {N ps : List Str} {k : Nat} {T : Addr} {sp : Sp} (D : MdT K mg base C x q st ps T) (cl : Cls K C) (S : FnScope N ps (defScope st)) (len : ∀ vs H Q E, sp vs H Q E → vs.length = ps.length)
    (hbody : ∀ (c f : Addr) (A : Around) (outer : List Env) (s : Shared) (H : Hp) (vs : List V) (Q : VK) (E : XK), TabB base mg c T → Room k (A.deeper (envOfC q (defScope st) s.heap.objs.size f (.ref c))) → sp vs H Q E →
      ∃ t, PSs (cxOf CX0 P w K mg base N q (defScope st) f (.ref c) A outer s H E).nox (defBody st) t ∧ t { nx := fun _ H' => Q .non H', rt := Q } (start N vs) H) : Mt P w K mg base C (k + 1) x ps sp := by
  obtain ⟨f, fd, c, F, m, b, hc, TB⟩ := D.ex
  exact ⟨f, fd, fun_okT F hc S len fun A outer s H vs Q E => hbody c f A outer s H vs Q E TB, cl, m, b⟩
end
/-- the built-ins' names are not the module's; what the module's constants are -/
structure Bi (mg : Str → Option Value) : Prop where
  isi : mg "isinstance" = none
  int_ : mg "int" = none
  bool_ : mg "bool" = none
  str_ : mg "str" = none
  tuple_ : mg "tuple" = none
  list_ : mg "list" = none
  dict_ : mg "dict" = none
  len_ : mg "len" = none
  all_ : mg "all" = none
  any_ : mg "any" = none
  range_ : mg "range" = none
  sum_ : mg "sum" = none
  sorted_ : mg "sorted" = none
  max_ : mg "max" = none
  min_ : mg "min" = none
  abs_ : mg "abs" = none
  rev_ : mg "reversed" = none
  mSigns : ∃ t, mg "MOST_SIGNS" = some (.int 2000 t)
  mEdits : ∃ t, mg "MOST_EDITS" = some (.int 200 t)
  first : ∃ t, mg "FIRST_SIGN" = some (.str " " t)
  last : ∃ t, mg "LAST_SIGN" = some (.str "~" t)
  lend : ∃ t, mg "LINE_END" = some (.str "\n" t)
  mCount : ∃ t, mg "MOST_COUNT" = some (.int 1000000 t)
  mOps : ∃ t, mg "MOST_OPERATIONS" = some (.int 6000 t)
  mCome : ∃ t, mg "MOST_COME" = some (.int 2000 t)
theorem isi_int {K : PySem.W.Frag} {H : Hp} {n : Int} : TyX K H (.int n) (.type "int") := .base (.int _)
end K80
namespace K80
open PySem PySem.Spec PyProof.Rows L2 Gx GxR
theorem gx_it {J : It} {n : Nat} {G : Hp → Prop} {Y : Nat → Hp → V → Hp → Prop} (wk : Walk J n G Y) {stop : Bool} {Qs Qn : Hp → Prop} {te : TE} {ws : List (Option V)} {H : Hp} (Pv : Nat → Hp → Prop) (h0 : Pv 0 H) (hG : ∀ i H, i ≤ n → Pv i H → G H)
    (hs : ∀ i y H H' (N : Hp → Prop), i < n → Pv i H → Y i H y H' → (∀ H2, Pv (i + 1) H2 → N H2) → te (some y :: ws) H' fun v H2 => ∃ b, v = .bl b ∧ if b = stop then Qs H2 else N H2) (hd : ∀ H, Pv n H → Qn H) :
    ∃ W : Nat → Nat → Hp → Prop, (∃ m, W 0 m H) ∧ GxStep J stop Qs Qn te ws W := by
  refine ⟨fun i m H => m = n - i ∧ i ≤ n ∧ Pv i H, ⟨n, by simp, Nat.zero_le _, h0⟩, ?_⟩
  rintro i m H ⟨rfl, hi, p⟩
  have q := hG i H hi p
  by_cases hlt : i < n
  · exact .inr ⟨wk.goes i H hlt q, fun y H' hy => hs i y H H' _ hlt p (wk.yields i H y H' hlt q hy) fun H2 p2 => ⟨n - (i + 1), by omega, rfl, hlt, p2⟩⟩
  · have e : i = n := by omega
    subst e
    exact .inl ⟨wk.stops H q, hd H p⟩
/-! ### numbers and texts of given kinds (the answer True alone) -/
section
variable {P : Program} {w : World} {K : PySem.W.Frag} {mg : Str → Option Value} {base : Heap}
def spNum : Sp := fun vs H Q _ => ∃ n a b : Int, vs = [.int n, .int a, .int b] ∧ a ≤ n ∧ n ≤ b ∧ Q (.bl true) H
theorem scNum : FnScope ["value", "least", "most"] ["value", "least", "most"] (defScope (top 9)) := ⟨rfl, rfl, rfl, by decide +kernel, rfl, by decide +kernel, by decide +kernel⟩
theorem kitII : kitB "int" "int" = some true := by decide +kernel
theorem kitIB : kitB "int" "bool" = some false := by decide +kernel
theorem kitSS : kitB "str" "str" = some true := by decide +kernel
theorem kitTT : kitB "tuple" "tuple" = some true := by decide +kernel
theorem boot_isi : bootBuiltins "isinstance" = some (.builtin "isinstance") := by decide +kernel
theorem boot_tint : bootBuiltins "int" = some (.type "int") := by decide +kernel
theorem boot_tbool : bootBuiltins "bool" = some (.type "bool") := by decide +kernel
theorem boot_tstr : bootBuiltins "str" = some (.type "str") := by decide +kernel
theorem boot_ttup : bootBuiltins "tuple" = some (.type "tuple") := by decide +kernel
theorem ok_num (D : Df K mg "is_number" (top 9) ["value", "least", "most"]) (T : Bi mg) : Fn P w K mg base 1 "is_number" ["value", "least", "most"] spNum := by
  refine D.ok scNum (fun vs H Q E h => ?_) (fun cdv f A outer s H vs Q E hr h => ?_)
  · obtain ⟨n, a, b, rfl, _⟩ := h
    rfl
  · obtain ⟨n, a, b, rfl, h1, h2, q⟩ := h
    refine ⟨_, pss_one (ps_ret (pe_and (pe_callB call_isi (by rfl) T.isi boot_isi (pa_cons (pv 0) (pa_cons (pe_bltn (v := .ty "int") (by rfl) T.int_ boot_tint rfl) pa_nil)))
      (pe_and (pe_not (pe_callB call_isi (by rfl) T.isi boot_isi (pa_cons (pv 0) (pa_cons (pe_bltn (v := .ty "bool") (by rfl) T.bool_ boot_tbool rfl) pa_nil))))
      (pe_one (pe_chain op_le op_le (pv 1) (pv 0) (pv 2)))))), ?_⟩
    refine ⟨_, rfl, _, _, _, _, _, rfl, .ty _, isi_int, kit_ty kitII, _, rfl, iteT ?_⟩
    refine ⟨_, rfl, _, _, _, _, _, rfl, .ty _, isi_int, kit_ty kitIB, _, rfl, _, rfl, iteT ?_⟩
    refine ⟨_, rfl, _, rfl, _, _, rfl, rfl, _, rfl, ?_⟩
    rw [decide_eq_true h1]
    refine iteT ⟨_, rfl, _, _, rfl, rfl, ?_⟩
    show Q (.bl (decide (n ≤ b))) H
    rw [decide_eq_true h2]
    exact q
end
end K80
namespace K80
open PySem PySem.Spec PyProof.Rows L2 Gx GxR NdefX
theorem caps_by {X : Cx} {x : Str} {fr : List Str} {scope sc : Scope} {js : List Nat} (S : GxS x fr scope) (he : X.env.scope = sc) (hf : (fr.all fun y => decide (sc.names.lookup y = some .cell) || decide (sc.names.lookup y = some .free)) = true)
    (hjs : js.map (fun j => X.N[j]?) = fr.map some) (ok : X.Ok) : Caps X (cloFrom X.env.cells scope.names []) fr js := by
  subst he
  refine caps_of S ok (fun y hy => ?_) hjs
  have q := List.all_eq_true.mp hf y hy
  rw [Bool.or_eq_true, decide_eq_true_eq, decide_eq_true_eq] at q
  exact q
/-- the tables of code objects of the defs that hold generator expressions -/
structure Tbs where
  n : Addr
  s : Addr
  e : Addr
  r : Addr
  o : Addr
  d : Addr
  c : Addr
structure Tb (t : Tbs) (H : Hp) : Prop where
  n : TabG H t.n
  s : TabG H t.s
  e : TabG H t.e
  r : TabG H t.r
  o : TabG H t.o
  d : TabG H t.d
  c : TabG H t.c
theorem Tb.gw {t : Tbs} {D : Addr → Prop} {H H' : Hp} (h : Tb t H) (g : Gw D H H') : Tb t H' := ⟨g.tab _ h.n, g.tab _ h.s, g.tab _ h.e, g.tab _ h.r, g.tab _ h.o, g.tab _ h.d, g.tab _ h.c⟩
/-- a sign that a text may have -/
def sgn (c : Nat) : Prop := c = 10 ∨ (32 ≤ c ∧ c ≤ 126)
def Sg (x : Str) : Prop := ∀ c ∈ x.cps.toList, sgn c
/-- a site's name -/
def Nm (x : Str) : Prop := 1 ≤ x.length ∧ x.length ≤ 16 ∧ ∀ c ∈ x.cps.toList, 97 ≤ c ∧ c ≤ 122
theorem iteTF {A B : Prop} (h : B) : if true = false then A else B := by
  rw [if_neg (by decide)]
  exact h
theorem iteFF {A B : Prop} (h : A) : if false = false then A else B := by
  rw [if_pos rfl]
  exact h
theorem lt1 {a b : Nat} : decide (([a] : List Nat) < [b]) = decide (a < b) := by
  apply decide_eq_decide.mpr
  constructor
  · intro h
    cases h with
    | rel h => exact h
    | cons h => cases h
  · intro h
    exact .rel h
theorem le1 {a b : Nat} (h : a ≤ b) : (!decide (([b] : List Nat) < [a])) = true := by
  rw [lt1]
  simp
  exact h
theorem sp32 : (" " : Str).cps.toList = [32] := by decide +kernel
theorem sp126 : ("~" : Str).cps.toList = [126] := by decide +kernel
theorem sp10 : ("\n" : Str) = ⟨#[10]⟩ := by decide +kernel
theorem spa : ("a" : Str).cps.toList = [97] := by decide +kernel
theorem spz : ("z" : Str).cps.toList = [122] := by decide +kernel
section
variable {P : Program} {w : World} {K : PySem.W.Frag} {mg : Str → Option Value} {base : Heap}
def spSigns (t : Tbs) : Sp := fun vs H Q _ => ∃ x : Str, vs = [.str x] ∧ Sg x ∧ Tb t H ∧ ∀ H', Gw D0 H H' → Q (.bl true) H'
theorem scSigns : FnScope ["value"] ["value"] (defScope (top 17)) := ⟨rfl, rfl, rfl, by decide +kernel, rfl, by decide +kernel, by decide +kernel⟩
theorem mem_cps {x : Str} {i c : Nat} (h : x.cps[i]? = some c) : c ∈ x.cps.toList := by
  rw [← Array.getElem?_toList] at h
  exact List.mem_of_getElem? h
theorem ok_signs {t : Tbs} (D : DfT K mg base "is_signs" (top 17) ["value"] t.s) (T : Bi mg) : Fn P w K mg base 1 "is_signs" ["value"] (spSigns t) := by
  refine D.ok scSigns (fun vs H Q E h => ?_) (fun c f A outer s H vs Q E TB hr h => ?_)
  · obtain ⟨x, rfl, _⟩ := h
    rfl
  · obtain ⟨x, rfl, hx, tb, q⟩ := h
    obtain ⟨t1, m1⟩ := T.lend
    obtain ⟨t2, m2⟩ := T.first
    obtain ⟨t3, m3⟩ := T.last
    refine ⟨_, pss_one (ps_ret (pe_and (pe_callB call_isi (by rfl) T.isi boot_isi (pa_cons (pv 0) (pa_cons (pe_bltn (v := .ty "str") (by rfl) T.str_ boot_tstr rfl) pa_nil)))
      (pe_one (pe_allG (x := "sign") (fr := []) (js := []) hr (by rfl) T.all_ TB rfl (gxs_by (by decide +kernel)) (caps_by (x := "sign") (sc := defScope (top 17)) (gxs_by (by decide +kernel)) rfl (by decide +kernel) rfl) (pi_str (pv 0))
        (fun r hA => pe_or (pe_cmpR op_eq (pv 0) (pe_glob (v := .str "\n") (by rfl) m1 ⟨_, rfl⟩) (nomark _)) (pe_one (pe_chain op_le_str op_le_str (pe_glob (v := .str " ") (by rfl) m2 ⟨_, rfl⟩) (pv 0) (pe_glob (v := .str "~") (by rfl) m3 ⟨_, rfl⟩)))))))), ?_⟩
    refine ⟨_, rfl, _, _, _, _, _, rfl, .ty _, .base (.str _), kit_ty kitSS, _, rfl, iteT ?_⟩
    refine ⟨_, rfl, x, rfl, tb.s, fun H2 h2 => gx_it walk_str (fun i H' => Gw D0 H H') (Gw.refl.tbl h2 tb.s) (fun _ _ _ _ => trivial) ?_ fun H' g => q _ g⟩
    rintro i y H1 H1' N hi g ⟨rfl, c, hc, rfl⟩ hN
    have sg := hx c (mem_cps hc)
    refine ⟨_, rfl, rfl, ?_⟩
    refine ⟨_, rfl, ?_⟩
    by_cases e : c = 10
    · subst e
      rw [sp10, decide_eq_true rfl]
      exact iteT ⟨_, rfl, iteTF (hN _ g)⟩
    · have hs : 32 ≤ c ∧ c ≤ 126 := sg.resolve_left e
      have n : decide (V.str ⟨#[c]⟩ = V.str "\n") = false := decide_eq_false fun z => by
        rw [sp10] at z
        injection z with z
        injection z with z
        have z2 : [c] = [10] := congrArg Array.toList z
        exact e (by simpa using z2)
      rw [n]
      refine iteF ⟨_, rfl, _, _, rfl, rfl, _, rfl, ?_⟩
      rw [sp32, le1 hs.1]
      refine iteT ⟨_, _, rfl, rfl, ?_⟩
      rw [sp126]
      refine ⟨_, rfl, ?_⟩
      rw [le1 hs.2]
      exact iteTF (hN _ g)
end
end K80
namespace K80
open PySem PySem.Spec PyProof.Rows L2 Gx GxR NdefX
theorem room_gx {X : Cx} {k : Nat} {x : Str} {fr : List Str} {scope : Scope} {r : GxRun} (hr : Room (k + 1) X.A) (hA : r.A = X.A.in1.in1) : Room k (gxcx X x fr scope r).A := by
  refine ⟨?_, ?_, ?_⟩
  · show (r.A.deeper _).handled = none
    rw [hA]
    exact hr.hd
  · have := hr.dp
    show r.A.depth + 1 + 3 * k + 5 < _
    rw [hA]
    show X.A.depth + 1 + 3 * k + 5 < _
    omega
  · have := hr.un
    show r.A.units + 3 + 16 * k + 200 < _
    rw [hA]
    show X.A.units + 1 + 1 + 3 + 16 * k + 200 < _
    omega
/-- two lists of one length, place by place -/
structure All2 {α β : Type} (R : α → β → Prop) (xs : List α) (ys : List β) : Prop where
  len : xs.length = ys.length
  at_ : ∀ (i : Nat) (x : α) (y : β), xs[i]? = some x → ys[i]? = some y → R x y
section
variable {α β : Type} {R R' : α → β → Prop} {xs xs' : List α} {ys ys' : List β}
theorem All2.nil : All2 R [] [] := ⟨rfl, fun i x y h => by simp at h⟩
theorem All2.mono (h : All2 R xs ys) (m : ∀ x y, R x y → R' x y) : All2 R' xs ys := ⟨h.len, fun i x y a b => m x y (h.at_ i x y a b)⟩
theorem All2.get (h : All2 R xs ys) {i : Nat} {x : α} (e : xs[i]? = some x) : ∃ y, ys[i]? = some y ∧ R x y := by
  obtain ⟨hi, _⟩ := List.getElem?_eq_some_iff.mp e
  have hi2 : i < ys.length := by rw [← h.len]; exact hi
  exact ⟨ys[i], List.getElem?_eq_getElem hi2, h.at_ i x _ e (List.getElem?_eq_getElem hi2)⟩
theorem All2.get' (h : All2 R xs ys) {i : Nat} {y : β} (e : ys[i]? = some y) : ∃ x, xs[i]? = some x ∧ R x y := by
  obtain ⟨hi, _⟩ := List.getElem?_eq_some_iff.mp e
  have hi2 : i < xs.length := by rw [h.len]; exact hi
  exact ⟨xs[i], List.getElem?_eq_getElem hi2, h.at_ i _ y (List.getElem?_eq_getElem hi2) e⟩
theorem All2.append (h : All2 R xs ys) (h' : All2 R xs' ys') : All2 R (xs ++ xs') (ys ++ ys') := by
  refine ⟨by rw [List.length_append, List.length_append, h.len, h'.len], fun i x y a b => ?_⟩
  by_cases q : i < xs.length
  · rw [List.getElem?_append_left q] at a
    rw [List.getElem?_append_left (by rw [← h.len]; exact q)] at b
    exact h.at_ i x y a b
  · rw [List.getElem?_append_right (by omega)] at a
    rw [List.getElem?_append_right (by rw [← h.len]; omega), ← h.len] at b
    exact h'.at_ _ x y a b
theorem All2.one {x : α} {y : β} (h : R x y) : All2 R [x] [y] := by
  refine ⟨rfl, fun i a b e1 e2 => ?_⟩
  cases i with
  | zero =>
    cases e1
    cases e2
    exact h
  | succ i => simp at e1
theorem All2.cons {x : α} {y : β} (h : R x y) (t : All2 R xs ys) : All2 R (x :: xs) (y :: ys) := (All2.one h).append t
theorem All2.snoc {x : α} {y : β} (t : All2 R xs ys) (h : R x y) : All2 R (xs ++ [x]) (ys ++ [y]) := t.append (.one h)
theorem All2.take (h : All2 R xs ys) (n : Nat) : All2 R (xs.take n) (ys.take n) := by
  refine ⟨by rw [List.length_take, List.length_take, h.len], fun i x y a b => ?_⟩
  rw [List.getElem?_take] at a b
  split at a
  · rename_i q
    rw [if_pos q] at b
    exact h.at_ i x y a b
  · cases a
theorem All2.drop (h : All2 R xs ys) (n : Nat) : All2 R (xs.drop n) (ys.drop n) := by
  refine ⟨by rw [List.length_drop, List.length_drop, h.len], fun i x y a b => ?_⟩
  rw [List.getElem?_drop] at a b
  exact h.at_ _ x y a b
end
/-- a text of given signs -/
abbrev S (l : List Nat) : Str := ⟨l.toArray⟩
theorem S_len (l : List Nat) : (S l).length = l.length := rfl
theorem S_add (l m : List Nat) : (S l ++ S m : Str) = S (l ++ m) := by
  show Str.mk (l.toArray ++ m.toArray) = _
  rw [List.append_toArray]
theorem cutS_take (l : List Nat) (n : Nat) : cutS (S l) none (some (n : Int)) = S (l.take n) := by
  unfold cutS
  rw [HT.sIx_none, HT.sIx_nat]
  show S _ = S _
  congr 1
  show (l.toArray.toList.drop 0).take (min n l.length - 0) = l.take n
  simp
theorem cutS_drop (l : List Nat) (n : Nat) : cutS (S l) (some (n : Int)) none = S (l.drop n) := by
  unfold cutS
  rw [HT.sIx_none, HT.sIx_nat]
  show S _ = S _
  congr 1
  show (l.toArray.toList.drop (min n l.length)).take (l.length - min n l.length) = l.drop n
  simp only []
  by_cases h : n ≤ l.length
  · rw [Nat.min_eq_left h, List.take_of_length_le (by rw [List.length_drop]; exact Nat.le_refl _)]
  · rw [Nat.min_eq_right (by omega), List.drop_eq_nil_of_le (Nat.le_refl _), List.drop_eq_nil_of_le (by omega), List.take_nil]
/-- an edit: its place, how many signs go, what comes -/
abbrev Ed := Nat × Nat × List Nat
def edV (e : Ed) : List V := [.int (e.1 : Nat), .int (e.2.1 : Nat), .str (S e.2.2)]
def EdAt (H : Hp) (v : V) (e : Ed) : Prop := ∃ a, v = .ref a ∧ H a = some (.tup (edV e))
theorem EdAt.gw {D : Addr → Prop} {H H' : Hp} {v : V} {e : Ed} (h : EdAt H v e) (g : Gw D H H') : EdAt H' v e := let ⟨a, e1, e2⟩ := h; ⟨a, e1, g.tup _ _ e2⟩
section
variable {P : Program} {w : World} {K : PySem.W.Frag} {mg : Str → Option Value} {base : Heap}
def spName (t : Tbs) : Sp := fun vs H Q _ => ∃ x : Str, vs = [.str x] ∧ Nm x ∧ Tb t H ∧ ∀ H', Gw D0 H H' → Q (.bl true) H'
theorem scName : FnScope ["value"] ["value"] (defScope (top 10)) := ⟨rfl, rfl, rfl, by decide +kernel, rfl, by decide +kernel, by decide +kernel⟩
theorem le_sizeLine {n : Nat} (h : n ≤ 100000) : n ≤ sizeLine := Nat.le_trans h (by decide)
theorem ok_name {t : Tbs} (D : DfT K mg base "is_name" (top 10) ["value"] t.n) (T : Bi mg) : Fn P w K mg base 1 "is_name" ["value"] (spName t) := by
  refine D.ok scName (fun vs H Q E h => ?_) (fun c f A outer s H vs Q E TB hr h => ?_)
  · obtain ⟨x, rfl, _⟩ := h
    rfl
  · obtain ⟨x, rfl, ⟨l1, l2, hx⟩, tb, q⟩ := h
    refine ⟨_, (pss_one (ps_ret (pe_and (pe_callB call_isi (by rfl) T.isi boot_isi (pa_cons (pv 0) (pa_cons (pe_bltn (v := .ty "str") (by rfl) T.str_ boot_tstr rfl) pa_nil))) (pe_and (pe_chain op_le op_le pe_int (pe_callB call_len_str (by rfl) T.len_ PySem.boot_len (pa_cons (pv 0) pa_nil)) pe_int)
      (pe_one (pe_allG (x := "sign") (fr := []) (js := []) hr (by rfl) T.all_ TB rfl (gxs_by (by decide +kernel)) (caps_by (x := "sign") (sc := defScope (top 10)) (gxs_by (by decide +kernel)) rfl (by decide +kernel) rfl) (pi_str (pv 0))
        (fun r hA => pe_chain op_le_str op_le_str pe_str (pv 0) pe_str))))))), ?_⟩
    refine ⟨_, rfl, _, _, _, _, _, rfl, .ty _, .base (.str _), kit_ty kitSS, _, rfl, iteT ?_⟩
    refine ⟨_, rfl, _, rfl, le_sizeLine (by omega), _, _, rfl, rfl, _, rfl, ?_⟩
    rw [decide_eq_true (show (1 : Int) ≤ (x.length : Int) by omega)]
    refine iteT ⟨_, _, rfl, rfl, _, rfl, ?_⟩
    rw [decide_eq_true (show (x.length : Int) ≤ 16 by omega)]
    refine iteT ⟨_, rfl, x, rfl, tb.n, fun H2 h2 => gx_it walk_str (fun i H' => Gw D0 H H') (Gw.refl.tbl h2 tb.n) (fun _ _ _ _ => trivial) ?_ fun H' g => q _ g⟩
    rintro i y H1 H1' N hi g ⟨rfl, c, hc, rfl⟩ hN
    have sg := hx c (mem_cps hc)
    refine ⟨_, rfl, _, _, rfl, rfl, _, rfl, ?_⟩
    rw [spa, le1 sg.1]
    refine iteT ⟨_, _, rfl, rfl, ?_⟩
    rw [spz]
    refine ⟨_, rfl, ?_⟩
    rw [le1 sg.2]
    exact iteTF (hN _ g)
/-- a text, not too long -/
def Tx (l : List Nat) : Prop := Sg (S l) ∧ l.length ≤ 2000
def spText (t : Tbs) : Sp := fun vs H Q _ => ∃ l, vs = [.str (S l)] ∧ Tx l ∧ Tb t H ∧ ∀ H', Gw D0 H H' → Q (.bl true) H'
theorem scText : FnScope ["value"] ["value"] (defScope (top 18)) := ⟨rfl, rfl, rfl, by decide +kernel, rfl, by decide +kernel, by decide +kernel⟩
theorem ok_text {t : Tbs} (D : Df K mg "is_text" (top 18) ["value"]) (T : Bi mg) (fS : Fn P w K mg base 1 "is_signs" ["value"] (spSigns t)) : Fn P w K mg base 2 "is_text" ["value"] (spText t) := by
  refine D.ok scText (fun vs H Q E h => ?_) (fun cdv f A outer s H vs Q E hr h => ?_)
  · obtain ⟨x, rfl, _⟩ := h
    rfl
  · obtain ⟨x, rfl, ⟨sg, hl⟩, tb, q⟩ := h
    obtain ⟨t1, m1⟩ := T.mSigns
    refine ⟨_, (pss_one (ps_ret (pe_and (pe_fn fS (by first | exact hr | exact hr.mono (by decide) | exact room_gx hr hA | exact (room_gx hr hA).mono (by decide)) (pa_cons (pv 0) pa_nil)) (pe_one (pe_cmpR op_le (pe_callB call_len_str (by rfl) T.len_ PySem.boot_len (pa_cons (pv 0) pa_nil)) (pe_glob (v := .int 2000) (by rfl) m1 ⟨_, rfl⟩) (nomark _)))))), ?_⟩
    refine ⟨_, rfl, _, rfl, sg, tb, fun H1 g1 => ⟨_, rfl, iteT ?_⟩⟩
    refine ⟨_, rfl, _, rfl, le_sizeLine (by rw [S_len]; omega), _, _, rfl, rfl, ?_⟩
    show Q (.bl (decide (((S x).length : Int) ≤ 2000))) H1
    rw [S_len, decide_eq_true (show (x.length : Int) ≤ 2000 by omega)]
    exact q _ g1
/-- an edit of a text so long -/
def EdOk (n : Nat) (e : Ed) : Prop := e.1 + e.2.1 ≤ n ∧ Tx e.2.2
def spChange (t : Tbs) : Sp := fun vs H Q _ => ∃ (l : List Nat) (v : V) (e : Ed), vs = [.str (S l), v] ∧ EdAt H v e ∧ EdOk l.length e ∧ l.length ≤ 100000 ∧ Tb t H ∧ ∀ H', Gw D0 H H' → Q (.bl true) H'
theorem scChange : FnScope ["text", "value"] ["text", "value"] (defScope (top 19)) := ⟨rfl, rfl, rfl, by decide +kernel, rfl, by decide +kernel, by decide +kernel⟩
theorem ok_change {t : Tbs} (D : Df K mg "is_change" (top 19) ["text", "value"]) (T : Bi mg) (fT : Fn P w K mg base 2 "is_text" ["value"] (spText t)) (fN : Fn P w K mg base 1 "is_number" ["value", "least", "most"] spNum) :
    Fn P w K mg base 3 "is_change" ["text", "value"] (spChange t) := by
  refine D.ok scChange (fun vs H Q E h => ?_) (fun cdv f A outer s H vs Q E hr h => ?_)
  · obtain ⟨l, v, e, rfl, _⟩ := h
    rfl
  · obtain ⟨l, v, ⟨p, g, c⟩, rfl, ⟨a, rfl, ha⟩, ⟨hp, hc⟩, hl, tb, q⟩ := h
    have hp : p + g ≤ l.length := hp
    refine ⟨_, (pss_cons (ps_if (PW.pt (pw_or (pt_not (pt_val (pe_callB call_isi (by rfl) T.isi boot_isi (pa_cons (pv 1) (pa_cons (pe_bltn (v := .ty "tuple") (by rfl) T.tuple_ boot_ttup rfl) pa_nil))))) (pw_or (pt_cmpR op_ne (pe_callB call_len_seq (by rfl) T.len_ PySem.boot_len (pa_cons (pv 1) pa_nil)) pe_int (nomark _)) (pw_or1 (pt_not (pt_val (pe_fn fT (by first | exact hr | exact hr.mono (by decide) | exact room_gx hr hA | exact (room_gx hr hA).mono (by decide)) (pa_cons (pe_ix ix_tup (pv 1) pe_int (fun _ _ => rfl)) pa_nil)))))))) (pss_one (ps_ret pe_bl)) pss_nil)
      (pss_one (ps_ret (pe_and (pe_fn fN (by first | exact hr | exact hr.mono (by decide) | exact room_gx hr hA | exact (room_gx hr hA).mono (by decide)) (pa_cons (pe_ix ix_tup (pv 1) pe_int (fun _ _ => rfl)) (pa_cons (pe_int) (pa_cons ((pe_callB call_len_str (by rfl) T.len_ PySem.boot_len (pa_cons (pv 0) pa_nil))) pa_nil)))) (pe_one (pe_fn fN (by first | exact hr | exact hr.mono (by decide) | exact room_gx hr hA | exact (room_gx hr hA).mono (by decide)) (pa_cons (pe_ix ix_tup (pv 1) pe_int (fun _ _ => rfl)) (pa_cons (pe_int) (pa_cons (pe_op op_sub (pe_callB call_len_str (by rfl) T.len_ PySem.boot_len (pa_cons (pv 0) pa_nil)) (pe_ix ix_tup (pv 1) pe_int (fun _ _ => rfl))) pa_nil))))))))), ?_⟩
    refine ⟨_, rfl, _, _, _, _, _, rfl, .ty _, .base (.tup ha), kit_ty kitTT, _, rfl, iteF ?_⟩
    refine ⟨_, rfl, _, _, rfl, .inr (SqT.of ha), rfl, _, rfl, iteF ?_⟩
    refine ⟨_, rfl, _, _, _, _, rfl, rfl, SqT.of ha, rfl, _, rfl, hc, tb, fun H1 g1 => ⟨_, rfl, iteF ?_⟩⟩
    have ha1 := g1.tup _ _ ha
    have ll : (S l).length ≤ sizeLine := le_sizeLine (by rw [S_len]; exact hl)
    refine ⟨_, rfl, _, _, _, _, rfl, rfl, SqT.of ha1, rfl, _, rfl, _, rfl, ll, _, _, _, rfl, by omega, by rw [S_len]; omega, _, rfl, iteT ?_⟩
    refine ⟨_, rfl, _, _, _, _, rfl, rfl, SqT.of ha1, rfl, _, rfl, _, rfl, ll, _, rfl, _, _, _, _, rfl, rfl, SqT.of ha1, rfl, _, _, rfl, rfl, _, _, _, rfl, by omega, by rw [S_len]; omega, q _ g1⟩
end
end K80
namespace K80
open PySem PySem.Spec PyProof.Rows L2 Gx GxR NdefX
/-- what putting an edit into a text makes -/
def putIn (l : List Nat) (e : Ed) : List Nat := l.take e.1 ++ e.2.2 ++ l.drop (e.1 + e.2.1)
section
variable {P : Program} {w : World} {K : PySem.W.Frag} {mg : Str → Option Value} {base : Heap}
def spPutIn : Sp := fun vs H Q _ => ∃ (l : List Nat) (v : V) (e : Ed), vs = [.str (S l), v] ∧ EdAt H v e ∧ l.length ≤ 1000000 ∧ e.2.2.length ≤ 100000 ∧ Q (.str (S (putIn l e))) H
theorem scPutIn : FnScope ["text", "edit", "place", "gone", "come"] ["text", "edit"] (defScope (top 20)) := ⟨rfl, rfl, rfl, by decide +kernel, rfl, by decide +kernel, by decide +kernel⟩
theorem putIn_read {l : List Nat} {e : Ed} : (cutS (S l) none (some ((e.1 : Nat) : Int)) ++ S e.2.2 : Str) ++ cutS (S l) (some (((e.1 : Nat) : Int) + ((e.2.1 : Nat) : Int))) none = S (putIn l e) := by
  rw [cutS_take, ← Int.natCast_add, cutS_drop, S_add, S_add]
  rfl
theorem putIn_len1 {l : List Nat} {e : Ed} : (cutS (S l) none (some ((e.1 : Nat) : Int))).length ≤ l.length := cutS_length _ _ _
theorem ok_putIn (D : Df K mg "put_in" (top 20) ["text", "edit"]) : Fn P w K mg base 1 "put_in" ["text", "edit"] spPutIn := by
  refine D.ok scPutIn (fun vs H Q E h => ?_) (fun cdv f A outer s H vs Q E hr h => ?_)
  · obtain ⟨l, v, e, rfl, _⟩ := h
    rfl
  · obtain ⟨l, v, e, rfl, ⟨a, rfl, ha⟩, hl, hc, q⟩ := h
    refine ⟨_, (pss_cons (ps_asg (pv 1) (pg_tup (by rfl) (pgs_cons (pg_name (i := 2) scPutIn.nd rfl (Or.inl rfl)) (pgs_cons (pg_name (i := 3) scPutIn.nd rfl (Or.inl rfl)) (pgs_cons (pg_name (i := 4) scPutIn.nd rfl (Or.inl rfl)) pgs_nil)))))
      (pss_one (ps_ret (pe_op op_add_str (pe_op op_add_str (pe_slice sl_str (pv 0) po_none (po_some (pv 2))) (pv 4)) (pe_slice sl_str (pv 0) (po_some (pe_op op_add (pv 2) (pv 3))) po_none))))), ?_⟩
    refine ⟨_, rfl, a, _, rfl, SqT.of ha, rfl, _, _, rfl, _, _, rfl, _, _, rfl, rfl, ?_⟩
    have ll : (S l).length ≤ sizeLine := by rw [S_len, sizeLine_eq]; omega
    have z1 : (cutS (S l) none (some ((e.1 : Nat) : Int))).length ≤ l.length := cutS_length _ _ _
    have z2 : (cutS (S l) (some (((e.1 : Nat) : Int) + ((e.2.1 : Nat) : Int))) none).length ≤ l.length := cutS_length _ _ _
    have z3 : (cutS (S l) none (some ((e.1 : Nat) : Int)) ++ S e.2.2 : Str).length ≤ l.length + e.2.2.length := by
      rw [cutS_take, S_add, S_len, List.length_append]
      have : (l.take e.1).length ≤ l.length := by rw [List.length_take]; omega
      omega
    refine ⟨_, rfl, _, rfl, _, rfl, _, rfl, ll, _, rfl, _, _, rfl, rfl, ?_, _, rfl, _, rfl, _, rfl, _, _, rfl, rfl, _, rfl, _, rfl, ll, _, _, rfl, rfl, ?_, ?_⟩
    · rw [sizeLine_eq]
      show (cutS (S l) none (some ((e.1 : Nat) : Int))).length + e.2.2.length ≤ 16777216
      omega
    · rw [sizeLine_eq]
      show (cutS (S l) none (some ((e.1 : Nat) : Int)) ++ S e.2.2 : Str).length + (cutS (S l) (some (((e.1 : Nat) : Int) + ((e.2.1 : Nat) : Int))) none).length ≤ 16777216
      omega
    · show Q (.str ((cutS (S l) none (some ((e.1 : Nat) : Int)) ++ S e.2.2 : Str) ++ cutS (S l) (some (((e.1 : Nat) : Int) + ((e.2.1 : Nat) : Int))) none)) H
      rw [putIn_read]
      exact q
/-- an edit at a site's text -/
def spSiteEdit (t : Tbs) : Sp := fun vs H Q _ => ∃ (l : List Nat) (v : V) (e : Ed), vs = [.str (S l), v] ∧ EdAt H v e ∧ EdOk l.length e ∧ l.length ≤ 100000 ∧ Tb t H ∧ ∀ H', Gw D0 H H' → Q (.bl true) H'
theorem scSiteEdit : FnScope ["text", "value"] ["text", "value"] (defScope (top 40)) := ⟨rfl, rfl, rfl, by decide +kernel, rfl, by decide +kernel, by decide +kernel⟩
theorem ok_siteEdit {t : Tbs} (D : Df K mg "is_site_edit" (top 40) ["text", "value"]) (T : Bi mg) (fS : Fn P w K mg base 1 "is_signs" ["value"] (spSigns t)) (fN : Fn P w K mg base 1 "is_number" ["value", "least", "most"] spNum) :
    Fn P w K mg base 2 "is_site_edit" ["text", "value"] (spSiteEdit t) := by
  refine D.ok scSiteEdit (fun vs H Q E h => ?_) (fun cdv f A outer s H vs Q E hr h => ?_)
  · obtain ⟨l, v, e, rfl, _⟩ := h
    rfl
  · obtain ⟨l, v, ⟨p, g, c⟩, rfl, ⟨a, rfl, ha⟩, ⟨hp, hc1, hc2⟩, hl, tb, q⟩ := h
    have hp : p + g ≤ l.length := hp
    have hc2 : c.length ≤ 2000 := hc2
    obtain ⟨t1, m1⟩ := T.mCome
    refine ⟨_, (pss_cons (ps_if (PW.pt (pw_or (pt_not (pt_val (pe_callB call_isi (by rfl) T.isi boot_isi (pa_cons (pv 1) (pa_cons (pe_bltn (v := .ty "tuple") (by rfl) T.tuple_ boot_ttup rfl) pa_nil))))) (pw_or (pt_cmpR op_ne (pe_callB call_len_seq (by rfl) T.len_ PySem.boot_len (pa_cons (pv 1) pa_nil)) pe_int (nomark _)) (pw_or (pt_not (pt_val (pe_fn fS (by first | exact hr | exact hr.mono (by decide) | exact room_gx hr hA | exact (room_gx hr hA).mono (by decide)) (pa_cons (pe_ix ix_tup (pv 1) pe_int (fun _ _ => rfl)) pa_nil))))
        (pw_or1 (pt_cmpR op_gt (pe_callB call_len_str (by rfl) T.len_ PySem.boot_len (pa_cons (pe_ix ix_tup (pv 1) pe_int (fun _ _ => rfl)) pa_nil)) (pe_glob (v := .int 2000) (by rfl) m1 ⟨_, rfl⟩) (nomark _))))))) (pss_one (ps_ret pe_bl)) pss_nil)
      (pss_one (ps_ret (pe_and (pe_fn fN (by first | exact hr | exact hr.mono (by decide) | exact room_gx hr hA | exact (room_gx hr hA).mono (by decide)) (pa_cons (pe_ix ix_tup (pv 1) pe_int (fun _ _ => rfl)) (pa_cons (pe_int) (pa_cons ((pe_callB call_len_str (by rfl) T.len_ PySem.boot_len (pa_cons (pv 0) pa_nil))) pa_nil)))) (pe_one (pe_fn fN (by first | exact hr | exact hr.mono (by decide) | exact room_gx hr hA | exact (room_gx hr hA).mono (by decide)) (pa_cons (pe_ix ix_tup (pv 1) pe_int (fun _ _ => rfl)) (pa_cons (pe_int) (pa_cons (pe_op op_sub (pe_callB call_len_str (by rfl) T.len_ PySem.boot_len (pa_cons (pv 0) pa_nil)) (pe_ix ix_tup (pv 1) pe_int (fun _ _ => rfl))) pa_nil))))))))), ?_⟩
    refine ⟨_, rfl, _, _, _, _, _, rfl, .ty _, .base (.tup ha), kit_ty kitTT, _, rfl, iteF ?_⟩
    refine ⟨_, rfl, _, _, rfl, .inr (SqT.of ha), rfl, _, rfl, iteF ?_⟩
    refine ⟨_, rfl, _, _, _, _, rfl, rfl, SqT.of ha, rfl, _, rfl, hc1, tb, fun H1 g1 => ⟨_, rfl, iteF ?_⟩⟩
    have ha1 := g1.tup _ _ ha
    have ll : (S l).length ≤ sizeLine := le_sizeLine (by rw [S_len]; exact hl)
    refine ⟨_, rfl, _, _, _, _, rfl, rfl, SqT.of ha1, rfl, _, rfl, le_sizeLine (by show c.length ≤ _; omega), _, _, rfl, rfl, _, rfl, ?_⟩
    rw [decide_eq_false (show ¬ ((S c).length : Int) > 2000 by rw [S_len]; omega)]
    refine iteF ?_
    refine ⟨_, rfl, _, _, _, _, rfl, rfl, SqT.of ha1, rfl, _, rfl, _, rfl, ll, _, _, _, rfl, by omega, by rw [S_len]; omega, _, rfl, iteT ?_⟩
    refine ⟨_, rfl, _, _, _, _, rfl, rfl, SqT.of ha1, rfl, _, rfl, _, rfl, ll, _, rfl, _, _, _, _, rfl, rfl, SqT.of ha1, rfl, _, _, rfl, rfl, _, _, _, rfl, by omega, by rw [S_len]; omega, q _ g1⟩
end
end K80
namespace K80
open PySem PySem.Spec PyProof.Rows L2 Gx GxR NdefX
def EdsAt (H : Hp) (v : V) (es : List Ed) : Prop := ∃ a vs, v = .ref a ∧ H a = some (.tup vs) ∧ All2 (EdAt H) vs es
theorem EdsAt.gw {D : Addr → Prop} {H H' : Hp} {v : V} {es : List Ed} (h : EdsAt H v es) (g : Gw D H H') : EdsAt H' v es := let ⟨a, vs, e1, e2, e3⟩ := h; ⟨a, vs, e1, g.tup _ _ e2, e3.mono fun _ _ z => z.gw g⟩
structure EdsOk (n : Nat) (es : List Ed) : Prop where
  len : es.length ≤ 200
  each : ∀ e ∈ es, EdOk n e
  apart : ∀ (i : Nat) (e e' : Ed), es[i]? = some e → es[i + 1]? = some e' → e.1 + e.2.1 < e'.1
  sum : (n : Int) + (es.map fun e => ((e.2.2.length : Int) - (e.2.1 : Int))).sum ≤ 2000
/-- rules that say which written part they speak of -/
theorem ixtK {X : Cx} {K : PySem.W.Frag} (h : X.K = K := by rfl) : IxR X (rIxT K) := by
  subst h
  exact ix_tup
theorem ixlK {X : Cx} {K : PySem.W.Frag} (h : X.K = K := by rfl) : IxR X (rIxL K) := by
  subst h
  exact ix_list
section
variable {P : Program} {w : World} {K : PySem.W.Frag} {mg : Str → Option Value} {base : Heap}
def spAreEdits (t : Tbs) : Sp := fun vs H Q _ => ∃ (l : List Nat) (v : V) (es : List Ed), vs = [.str (S l), v] ∧ EdsAt H v es ∧ EdsOk l.length es ∧ l.length ≤ 100000 ∧ Tb t H ∧ ∀ H', Gw D0 H H' → Q (.bl true) H'
theorem scAreEdits : FnScope ["text", "value", "_", "gone", "come"] ["text", "value"] (defScope (top 21)) := ⟨rfl, rfl, rfl, by decide +kernel, rfl, by decide +kernel, by decide +kernel⟩
theorem ok_areEdits {t : Tbs} (D : DfT K mg base "are_edits" (top 21) ["text", "value"] t.e) (T : Bi mg) (fC : Fn P w K mg base 3 "is_change" ["text", "value"] (spChange t)) : Fn P w K mg base 5 "are_edits" ["text", "value"] (spAreEdits t) := by
  refine D.ok scAreEdits (fun vs H Q E h => ?_) (fun c f A outer s H vs Q E TB hr h => ?_)
  · obtain ⟨l, v, e, rfl, _⟩ := h
    rfl
  · obtain ⟨l, v, es, rfl, ⟨a, vs, rfl, ha, h2⟩, ok, hl, tb, q⟩ := h
    obtain ⟨t1, m1⟩ := T.mSigns
    obtain ⟨t2, m2⟩ := T.mEdits
    refine ⟨_, (pss_cons (ps_if (PW.pt (pw_or (pt_not (pt_val (pe_callB call_isi (by rfl) T.isi boot_isi (pa_cons (pv 1) (pa_cons (pe_bltn (v := .ty "tuple") (by rfl) T.tuple_ boot_ttup rfl) pa_nil))))) (pw_or (pt_cmpR op_gt (pe_callB call_len_seq (by rfl) T.len_ PySem.boot_len (pa_cons (pv 1) pa_nil)) (pe_glob (v := .int 200) (by rfl) m2 ⟨_, rfl⟩) (nomark _)) (pw_or1 (pt_not (pt_val (pe_allG (x := "one") (fr := ["text"]) (js := [0]) hr (by rfl) T.all_ TB rfl (gxs_by (by decide +kernel)) (caps_by (x := "one") (sc := defScope (top 21)) (gxs_by (by decide +kernel)) rfl (by decide +kernel) rfl) (pi_tup (pv 1))
        (fun r hA => (pe_fn fC (by first | exact hr | exact hr.mono (by decide) | exact room_gx hr hA | exact (room_gx hr hA).mono (by decide)) (pa_cons (pv 1) (pa_cons (pv 0) pa_nil))))))))))) (pss_one (ps_ret pe_bl)) pss_nil)
      (pss_cons (ps_if (pt_not (pt_val (pe_allG (x := "at") (fr := ["value"]) (js := [1]) hr (by rfl) T.all_ TB rfl (gxs_by (by decide +kernel)) (caps_by (x := "at") (sc := defScope (top 21)) (gxs_by (by decide +kernel)) rfl (by decide +kernel) rfl) (pi_range2 (by rfl) T.range_ (pa_cons (pe_int) (pa_cons ((pe_callB call_len_seq (by rfl) T.len_ PySem.boot_len (pa_cons (pv 1) pa_nil))) pa_nil)))
        (fun r hA => pe_cmpR op_lt (pe_op op_add (pe_ix (ixtK (K := K)) (pe_ix (ixtK (K := K)) (pv 1) (pe_op op_sub (pv 0) pe_int) (fun _ _ => rfl)) pe_int (fun _ _ => rfl)) (pe_ix (ixtK (K := K)) (pe_ix (ixtK (K := K)) (pv 1) (pe_op op_sub (pv 0) pe_int) (fun _ _ => rfl)) pe_int (fun _ _ => rfl)))
          (pe_ix (ixtK (K := K)) (pe_ix (ixtK (K := K)) (pv 1) (pv 0) (fun _ _ => rfl)) pe_int (fun _ _ => rfl)) (nomark _))))) (pss_one (ps_ret pe_bl)) pss_nil)
      (pss_one (ps_ret (pe_cmpR op_le (pe_op op_add (pe_callB call_len_str (by rfl) T.len_ PySem.boot_len (pa_cons (pv 0) pa_nil)) (pe_callB (cr_sum rfl) (by rfl) T.sum_ (by decide +kernel) (pa_cons ((pe_lc (own := [("_", 2), ("gone", 3), ("come", 4)]) (g := (gTup K 3 (gCons (gName 2) (gCons (gName 3) (gCons (gName 4) gNil))))) rfl scAreEdits.nd (pi_tup (pv 1)) (blkOk_by (own := [("_", 2), ("gone", 3), ("come", 4)]) (N := ["text", "value", "_", "gone", "come"]) (sc := defScope (top 21)) (by decide +kernel))
        (fun _ _ _ _ _ => (pg_tup (by rfl) (pgs_cons (pg_name (i := 2) scAreEdits.nd rfl (Or.inl rfl)) (pgs_cons (pg_name (i := 3) scAreEdits.nd rfl (Or.inl rfl)) (pgs_cons (pg_name (i := 4) scAreEdits.nd rfl (Or.inl rfl)) pgs_nil))))) (fun _ _ _ _ _ => pts_nil) (fun _ _ _ _ _ => pe_op op_sub (pe_callB call_len_str (by rfl) T.len_ PySem.boot_len (pa_cons (pv 4) pa_nil)) (pv 3)))) pa_nil))) (pe_glob (v := .int 2000) (by rfl) m1 ⟨_, rfl⟩) (nomark _)))))), ?_⟩
    have lv : vs.length = es.length := h2.len
    have l200 := ok.len
    refine ⟨_, rfl, _, _, _, _, _, rfl, .ty _, .base (.tup ha), kit_ty kitTT, _, rfl, iteF ?_⟩
    refine ⟨_, rfl, _, _, rfl, .inr (SqT.of ha), _, _, rfl, rfl, _, rfl, ?_⟩
    rw [decide_eq_false (show ¬ (vs.length : Int) > 200 by omega)]
    refine iteF ⟨_, rfl, a, rfl, ⟨vs, SqT.of ha⟩, tb.e, fun H1 h1 => gx_it (walk_tup (xs := vs)) (fun i H' => Gw D0 H H') (Gw.refl.tbl h1 tb.e) (fun i H' _ g => SqT.of (g.tup _ _ ha)) ?_ fun H2 g2 => ⟨_, rfl, iteF ?_⟩⟩
    · rintro i y H2 H2' N hi g ⟨rfl, hy⟩ hN
      obtain ⟨e, he, r⟩ := h2.get hy
      refine ⟨_, rfl, _, rfl, l, y, e, rfl, r.gw g, ok.each e (List.mem_of_getElem? he), hl, tb.gw g, fun H3 g3 => ⟨_, rfl, iteTF (hN _ (g.trans g3))⟩⟩
    refine ⟨_, rfl, _, _, rfl, .inr (SqT.of (g2.tup _ _ ha)), _, _, rfl, ⟨by decide, by decide, by omega, by omega⟩, (tb.gw g2).e, fun H3 h3 => gx_it walk_range (fun i H' => Gw D0 H H') (g2.tbl h3 (tb.gw g2).e) (fun _ _ _ _ => trivial) ?_ fun H4 g4 => ⟨_, rfl, iteF ?_⟩⟩
    · rintro i y H4 H4' N hi g ⟨rfl, rfl⟩ hN
      have hi1 : i + 1 < vs.length := by omega
      have hi0 : i < vs.length := by omega
      have e0 : vs[i]? = some vs[i] := List.getElem?_eq_getElem hi0
      have e1 : vs[i + 1]? = some vs[i + 1] := List.getElem?_eq_getElem hi1
      obtain ⟨d0, hd0, a0, q0, r0⟩ := h2.get e0
      obtain ⟨d1, hd1, a1, q1, r1⟩ := h2.get e1
      have ap := ok.apart i d0 d1 hd0 hd1
      have z0 : atI vs ((1 : Int) + (i : Int) - 1) = some (.ref a0) := by
        rw [show (1 : Int) + (i : Int) - 1 = ((i : Nat) : Int) by omega, ← q0]
        exact atI_nat e0
      have z1 : atI vs ((1 : Int) + (i : Int)) = some (.ref a1) := by
        rw [show (1 : Int) + (i : Int) = ((i + 1 : Nat) : Int) by omega, ← q1]
        exact atI_nat e1
      have ta := SqT.of (K := K) (g.tup _ _ ha)
      have t0 := SqT.of (K := K) (g.tup _ _ r0)
      have t1' := SqT.of (K := K) (g.tup _ _ r1)
      refine ⟨_, rfl, _, rfl, _, _, rfl, rfl, _, _, _, _, rfl, rfl, ta, z0, _, _, _, _, rfl, rfl, t0, rfl, ?_⟩
      refine ⟨_, rfl, _, rfl, _, _, rfl, rfl, _, _, _, _, rfl, rfl, ta, z0, _, _, _, _, rfl, rfl, t0, rfl, _, _, rfl, rfl, ?_⟩
      refine ⟨_, rfl, _, rfl, _, _, _, _, rfl, rfl, ta, z1, _, _, _, _, rfl, rfl, t1', rfl, _, _, rfl, rfl, _, rfl, ?_⟩
      rw [decide_eq_true (show (d0.1 : Int) + (d0.2.1 : Int) < (d1.1 : Int) by omega)]
      exact iteTF (hN _ g)
    have ll : (S l).length ≤ sizeLine := le_sizeLine (by rw [S_len]; exact hl)
    refine ⟨_, rfl, _, rfl, ll, _, rfl, a, rfl, ⟨vs, SqT.of (g4.tup _ _ ha)⟩, fun L nL => ?_⟩
    refine lc_it (walk_tup (xs := vs)) (fun i H' => Gw D0 H H' ∧ H' L = some (.lst (((es.take i).map fun e => ((e.2.2.length : Int) - (e.2.1 : Int))).map V.int))) ⟨g4.new nL, upd_same⟩ (fun i H' _ g => SqT.of (g.1.tup _ _ ha)) ?_ ?_
    · rintro i y H5 H5' hi ⟨g, hL⟩ ⟨rfl, hy⟩
      obtain ⟨e, he, b, rfl, hb⟩ := h2.get hy
      have le : (S e.2.2).length ≤ sizeLine := le_sizeLine (by rw [S_len]; have := (ok.each e (List.mem_of_getElem? he)).2.2; omega)
      refine ⟨b, _, rfl, SqT.of (g.tup _ _ hb), rfl, _, _, rfl, _, _, rfl, _, _, rfl, rfl, rfl, ?_⟩
      refine ⟨_, rfl, _, rfl, le, _, rfl, _, _, rfl, rfl, _, hL, ?_, g.fresh (g4.non _ nL), ?_⟩
      · rw [List.length_map, List.length_map, List.length_take, sizeLine_eq]
        omega
      · rw [upd_same, List.take_add_one, he]
        simp
        rfl
    · rintro H5 ⟨g, hL⟩
      rw [lv, List.take_length] at hL
      refine ⟨L, _, rfl, SqL.of hL, _, _, rfl, rfl, _, _, rfl, rfl, ?_⟩
      show Q (.bl (decide ((l.length : Int) + _ ≤ 2000))) H5
      rw [decide_eq_true ok.sum]
      exact q _ g
end
end K80
namespace K80
open PySem PySem.Spec PyProof.Rows L2 Gx GxR NdefX
def tRevT (K : PySem.W.Frag) (te : TE) : TE := fun σ H Q => te σ H fun x H1 => ∃ a xs, x = .ref a ∧ SqT K H1 a xs ∧ ∀ p, H1 p = none → Q (.ref p) (upd H1 p (.tup xs.reverse))
theorem adj_rev (n : Nat) : Builtin.Slice.sliceAdjust none none (-1) (n : Int) = ((n : Int) - 1, -1) := by
  unfold Builtin.Slice.sliceAdjust
  rfl
theorem pl_rev (n : Nat) : Builtin.Slice.slicePlaces ((n : Int) - 1) (-1) (-1) = n := by
  unfold Builtin.Slice.slicePlaces
  rw [if_neg (by omega), show (- -1 : Int) = 1 by decide, Int.ediv_one]
  split <;> omega
theorem pick_rev (xs : Array Value) : ((List.range xs.size).filterMap fun (m : Nat) => xs[(((xs.size : Int) - 1) + (m : Int) * (-1)).toNat]?) = xs.toList.reverse := by
  have e : (fun (m : Nat) => xs[(((xs.size : Int) - 1) + (m : Int) * (-1)).toNat]?) = fun m => xs[xs.size - 1 - m]? := by
    funext m
    have : (((xs.size : Int) - 1) + (m : Int) * (-1)).toNat = xs.size - 1 - m := by omega
    rw [this]
  rw [e]
  have h := List.filterMap_map (f := fun k => xs.size - 1 - k) (g := fun (i : Nat) => xs[i]?) (l := List.range xs.size)
  have e2 : ((fun (i : Nat) => xs[i]?) ∘ fun k => xs.size - 1 - k) = fun m => xs[xs.size - 1 - m]? := rfl
  rw [e2] at h
  rw [← h, PySem.W.krv_range, List.filterMap_reverse, PySem.W.krv_all]
section
variable {prog : Program} {w : World} {A : Around} {E : Value → Shared → Prop} {s : Shared}
theorem getItem_tuple_rev {t sl : Addr} {items : Array Value} {vs : Value} {Q : Value → Shared → Prop} (ht : IsTup s.heap t items) (hs : s.heap.IsSliceOf sl .none .none vs) (ps : IsPart vs (some (-1)))
    (h : Q (.ref s.heap.objs.size) { s with heap := s.heap.push { cls := .type "tuple", data := .seq items.toList.reverse.toArray } }) (hsz : items.size ≤ sizeLine) : wpAny (model prog w) A (getItem (.ref t) (.ref sl)) Q E s := by
  have htake : sizeOk (.seq items.toList.reverse.toArray) := by
    show items.toList.reverse.toArray.size ≤ sizeLine
    rw [List.size_toArray, List.length_reverse, Array.length_toList]
    omega
  obtain ⟨os, hos, hcs, hds⟩ := id hs
  have hTs : s.TypeIs (.ref sl) "slice" := ⟨os, hos, hcs⟩
  have hap : ∀ {R : Int × Int × Nat → Shared → Prop}, R ((items.size : Int) - 1, -1, items.size) s → wpAny (model prog w) A.in1 (Builtin.Slice.sliceApplied (.ref sl) (pure (items.size : Int))) R E s := by
    intro R hR
    unfold Builtin.Slice.sliceApplied Builtin.Slice.sliceFields
    refine wpAny_bind (wpAny_bind (wpAny_field hos hds (x := .none) rfl (wpAny_bind (wpAny_field hos hds (x := .none) rfl (wpAny_bind (wpAny_field hos hds (x := vs) rfl (wpAny_pure ?_)))))))
    refine wpAny_bind (HT.slicePart_ ps ?_)
    show wpAny _ _ (if ((-1 : Int) == 0) = true then _ else _) _ _ s
    rw [if_neg (by decide)]
    refine wpAny_bind (HT.slicePart_ .none (wpAny_bind (HT.slicePart_ .none (wpAny_bind (wpAny_pure ?_)))))
    show wpAny _ _ (match Builtin.Slice.sliceAdjust none none (-1) (items.size : Int) with | (lo, hi) => pure (lo, (-1 : Int), Builtin.Slice.slicePlaces lo hi (-1))) _ _ s
    rw [adj_rev]
    show wpAny _ _ (pure (((items.size : Int) - 1), (-1 : Int), Builtin.Slice.slicePlaces ((items.size : Int) - 1) (-1) (-1))) _ _ s
    rw [pl_rev]
    exact wpAny_pure hR
  unfold getItem
  try with_reducible refine wpAny_holding ?_
  first | refine wpAny_bind (wpAny_pure ?_) | skip
  refine wpAny_bind (wpAny_sequenceKey ht.typeIs (by decide) ?_)
  refine wpAny_bind (wpAny_callSpecial?_slot (name := Str.ofString "__getitem__") ht.typeIs PyProof.Rows.slot_tuple_getitem
    (wpAny_call_entry PyProof.Rows.slot_tuple_getitem ht.typeIs entry_tuple_getitem ?_ (args_tuple_getitem _ _)))
  show wpAny _ _ (Builtin.Tuple.tupleItemsOf (.ref t) >>= _) _ _ s
  refine wpAny_bind (tupleItemsOf_ ht ?_)
  refine wpAny_bind (wpAny_typeOf hTs ?_)
  rw [if_pos (by decide)]
  refine wpAny_bind (hap ?_)
  have hno : ¬ (((((items.size : Int) - 1)) == 0 && (-1 : Int) == 1 && items.size == items.size) = true) := by
    intro q
    rw [Bool.and_eq_true, Bool.and_eq_true] at q
    exact absurd (eq_of_beq q.1.2) (by decide)
  show wpAny _ _ (if ((((items.size : Int) - 1)) == 0 && (-1 : Int) == 1 && items.size == items.size) = true then _ else _) _ _ s
  rw [if_neg hno, pick_rev]
  first
    | exact wpAny_bind (m := Builtin.Tuple.tupleExact _) (wpAny_newObj_type (wpAny_pure ⟨_, rfl, wpAny_pure h⟩) htake)
    | exact wpAny_bind (m := Builtin.Tuple.tupleExact _) (wpAny_newObj_type (wpAny_bind (wpAny_pure (wpAny_pure ⟨_, rfl, wpAny_pure h⟩))) htake)
end
section
variable {X : Cx}
theorem pe_revT {e : Expr} {te : TE} {k : Nat} {p1 p2 p3 pos : Pos} (he : PE X e te) : PE X (.Subscript e (.Slice none none (some (.UnaryOp .USub (.Constant (.int 1) k p1) p2)) p3) pos) (tRevT X.K te) := by
  refine ⟨fun pins s σ H Q I h => ?_⟩
  refine Subscript_ (thn (he.run pins s σ H _ I h) fun v s1 ⟨x, H1, I1, r1, q1⟩ => ?_)
  obtain ⟨a, xs, ex, hx, q⟩ := q1
  subst ex
  cases r1
  have hst : PO X (some (.UnaryOp .USub (.Constant (.int 1) k p1) p2)) (tPart (tUn (rU fun i => .int (-i)) (tC (.int 1)))) := po_some (pe_un un_neg pe_int)
  refine wpAny_Slice (thn (po_none.run pins s1 σ H1 (fun o H2 => o = none ∧ H2 = H1) I1 ⟨rfl, rfl⟩) fun vl s2 ⟨l, H2, I2, pl, el, e2⟩ => ?_)
  subst el e2
  refine thn (po_none.run pins s2 σ H2 (fun o H3 => o = none ∧ H3 = H2) I2 ⟨rfl, rfl⟩) fun vu s3 ⟨u, H3, I3, pu, eu, e3⟩ => ?_
  subst eu e3
  refine thn (hst.run pins s3 σ H3 (fun o H4 => o = some (-1) ∧ H4 = H3) I3 ⟨1, rfl, -1, rfl, rfl, rfl⟩) fun vs s4 ⟨o, H4, I4, ps, eo, e4⟩ => ?_
  subst eo e4
  cases pl
  cases pu
  have I5 : Inv X pins σ H4 { s4 with heap := s4.heap.push { cls := .type "slice", data := .fields #[.none, .none, vs] } } := I4.kept (t' := s4.toks) fun b ob q => Heap.get?_push_of_some _ q
  obtain ⟨its, r, ht, hz⟩ := I5.tuple hx
  have hlen := r.length
  show wpAny (model X.prog X.w) X.A (subscriptTail e (.Slice none none (some (.UnaryOp .USub (.Constant (.int 1) k p1) p2)) p3) (.ref a) (.ref s4.heap.objs.size)) (EP X pins σ Q) X.xe { s4 with heap := s4.heap.push { cls := .type "slice", data := .fields #[.none, .none, vs] } }
  refine tail_any (ops := [.ref a, .ref s4.heap.objs.size]) ht.typeIs (PyProof.Rows.slot_tuple_getitem.lookup) ?_ (by with_unfolding_all rfl)
  refine getItem_tuple_rev ht (Heap.IsSliceOf.new _ .none .none vs) ps ?_ (by rw [List.size_toArray]; omega)
  refine ⟨.ref _, _, I5.laid (t' := s4.toks) (o := .tup xs.reverse) (fun b ob q => Heap.get?_push_of_some _ q) (Nat.le_refl _) ?_, rfl, q _ (I5.hok.fresh (Nat.le_refl _))⟩
  exact ⟨by rw [List.length_reverse]; exact hz, _, r.reverse, IsTup.new _ _⟩
end
end K80
namespace K80
open PySem PySem.Spec PyProof.Rows L2 Gx GxR NdefX
/-- edits put from the last one on -/
def applied (l : List Nat) (es : List Ed) : List Nat := es.foldr (fun e t => putIn t e) l
theorem applied_rev (l : List Nat) (es : List Ed) : applied l es = es.reverse.foldl putIn l := by
  unfold applied
  rw [List.foldl_reverse]
theorem putIn_len (l : List Nat) (e : Ed) : (putIn l e).length ≤ l.length + e.2.2.length := by
  unfold putIn
  rw [List.length_append, List.length_append, List.length_take, List.length_drop]
  omega
def moreOf (es : List Ed) : Int := (es.map fun e => ((e.2.2.length : Int) - (e.2.1 : Int))).sum
theorem moreOf_snoc (es : List Ed) (e : Ed) : moreOf (es ++ [e]) = moreOf es + ((e.2.2.length : Int) - (e.2.1 : Int)) := by
  unfold moreOf
  rw [List.map_append, List.sum_append]
  simp
/-- the places that edits have when they are put one by one from the first on -/
def inTurn : Int → List Ed → List Ed
  | _, [] => []
  | m, e :: es => ((((e.1 : Nat) : Int) + m).toNat, e.2.1, e.2.2) :: inTurn (m + ((e.2.2.length : Int) - (e.2.1 : Int))) es
theorem inTurn_snoc (e : Ed) : ∀ (es : List Ed) (m : Int), inTurn m (es ++ [e]) = inTurn m es ++ [((((e.1 : Nat) : Int) + (m + moreOf es)).toNat, e.2.1, e.2.2)]
  | [], m => by
    unfold moreOf
    simp [inTurn]
  | d :: es, m => by
    show _ :: inTurn _ (es ++ [e]) = _ :: (inTurn _ es ++ _)
    rw [inTurn_snoc e es]
    unfold moreOf
    rw [List.map_cons, List.sum_cons, Int.add_assoc]
section
variable {P : Program} {w : World} {K : PySem.W.Frag} {mg : Str → Option Value} {base : Heap}
def spCheck (t : Tbs) : Sp := fun vs H Q _ => ∃ (l : List Nat) (v : V) (es : List Ed), vs = [.str (S l), v] ∧ EdsAt H v es ∧ EdsOk l.length es ∧ l.length ≤ 100000 ∧ Tb t H ∧ ∀ H', Gw D0 H H' → Q .non H'
theorem scCheck : FnScope ["text", "edits"] ["text", "edits"] (defScope (top 22)) := ⟨rfl, rfl, rfl, by decide +kernel, rfl, by decide +kernel, by decide +kernel⟩
theorem ok_check {t : Tbs} (D : Df K mg "check_edits" (top 22) ["text", "edits"]) (fA : Fn P w K mg base 5 "are_edits" ["text", "value"] (spAreEdits t)) : Fn P w K mg base 6 "check_edits" ["text", "edits"] (spCheck t) := by
  refine D.ok scCheck (fun vs H Q E h => ?_) (fun cdv f A outer s H vs Q E hr h => ?_)
  · obtain ⟨l, v, e, rfl, _⟩ := h
    rfl
  · obtain ⟨l, v, es, rfl, h1, h2, h3, h4, q⟩ := h
    refine ⟨_, (pss_one (ps_if (pt_not (pt_val (pe_fn fA (by first | exact hr | exact hr.mono (by decide) | exact room_gx hr hA | exact (room_gx hr hA).mono (by decide)) (pa_cons (pv 0) (pa_cons (pv 1) pa_nil))))) (pss_one ps_never) pss_nil)), ?_⟩
    exact ⟨_, rfl, _, rfl, l, v, es, rfl, h1, h2, h3, h4, fun H1 g1 => ⟨_, rfl, q _ g1⟩⟩
def spApplied (t : Tbs) : Sp := fun vs H Q _ => ∃ (l : List Nat) (v : V) (es : List Ed), vs = [.str (S l), v] ∧ EdsAt H v es ∧ EdsOk l.length es ∧ l.length ≤ 100000 ∧ Tb t H ∧ ∀ H', Gw D0 H H' → Q (.str (S (applied l es))) H'
theorem scApplied : FnScope ["text", "edits", "edit"] ["text", "edits"] (defScope (top 23)) := ⟨rfl, rfl, rfl, by decide +kernel, rfl, by decide +kernel, by decide +kernel⟩
theorem ok_applied {t : Tbs} (D : Df K mg "all_applied" (top 23) ["text", "edits"]) (fC : Fn P w K mg base 6 "check_edits" ["text", "edits"] (spCheck t)) (fP : Fn P w K mg base 1 "put_in" ["text", "edit"] spPutIn) :
    Fn P w K mg base 7 "all_applied" ["text", "edits"] (spApplied t) := by
  refine D.ok scApplied (fun vs H Q E h => ?_) (fun cdv f A outer s H vs Q E hr h => ?_)
  · obtain ⟨l, v, e, rfl, _⟩ := h
    rfl
  · obtain ⟨l, v, es, rfl, h1, h2, h3, h4, q⟩ := h
    refine ⟨_, (pss_cons (ps_expr (pe_fn fC (by first | exact hr | exact hr.mono (by decide) | exact room_gx hr hA | exact (room_gx hr hA).mono (by decide)) (pa_cons (pv 0) (pa_cons (pv 1) pa_nil))))
      (pss_cons (ps_for PassesOwn.never rfl (pi_tup (pe_revT (pv 1))) (pg_name (i := 2) scApplied.nd rfl (Or.inl rfl)) (pss_one ((ps_set (i := 0) scApplied.nd rfl (Or.inl rfl) ((pe_fn fP (by first | exact hr | exact hr.mono (by decide) | exact room_gx hr hA | exact (room_gx hr hA).mono (by decide)) (pa_cons (pv 0) (pa_cons (pv 2) pa_nil))))))))
      (pss_one (ps_ret (pv 0))))), ?_⟩
    refine ⟨_, rfl, _, rfl, l, v, es, rfl, h1, h2, h3, h4, fun H1 g1 => ?_⟩
    obtain ⟨a, us, rfl, ha, h5⟩ := h1.gw g1
    refine ⟨_, rfl, a, us, rfl, SqT.of ha, fun p np => ⟨p, rfl, ⟨_, SqT.of upd_same⟩, ?_⟩⟩
    have hlen : us.reverse.length = es.reverse.length := by rw [List.length_reverse, List.length_reverse, h5.len]
    refine for_it (walk_tup (xs := us.reverse)) (fun i σ H' => (∃ v, σ = [some (.str (S ((es.reverse.take i).foldl putIn l))), some (.ref a), v]) ∧ Gw D0 H1 H' ∧ H' p = some (.tup us.reverse) ∧ ((es.reverse.take i).foldl putIn l).length ≤ 100000 + i * 2000)
      ⟨⟨_, rfl⟩, Gw.refl.new np, upd_same, h3⟩ (fun i σ H' _ h => SqT.of h.2.2.1) ?_ ?_
    · rintro i y σ H2 H2' hi ⟨⟨v, rfl⟩, g, hp, hl⟩ ⟨rfl, hy⟩
      have hi2 : i < es.reverse.length := by rw [← hlen]; exact hi
      have l200 := h2.len
      rw [List.length_reverse] at hi2
      obtain ⟨e, he, r⟩ : ∃ e, es.reverse[i]? = some e ∧ EdAt H1 y e := by
        rw [List.getElem?_reverse (by rw [List.length_reverse] at hi; exact hi)] at hy
        rw [h5.len] at hy
        obtain ⟨e, he, r⟩ := h5.get hy
        exact ⟨e, by rw [List.getElem?_reverse hi2]; exact he, r⟩
      have hm : e ∈ es := List.mem_reverse.mp (List.mem_of_getElem? he)
      have hc : e.2.2.length ≤ 2000 := (h2.each e hm).2.2
      refine ⟨_, rfl, _, rfl, _, y, e, rfl, r.gw g, by omega, by omega, ?_⟩
      have et : es.reverse.take (i + 1) = es.reverse.take i ++ [e] := by rw [List.take_add_one, he]; rfl
      have ef : (es.reverse.take (i + 1)).foldl putIn l = putIn ((es.reverse.take i).foldl putIn l) e := by rw [et, List.foldl_append]; rfl
      refine ⟨⟨_, by rw [ef]; rfl⟩, g, hp, ?_⟩
      rw [ef]
      have := putIn_len ((es.reverse.take i).foldl putIn l) e
      omega
    · rintro σ H2 ⟨⟨v, rfl⟩, g, hp, hl⟩
      rw [hlen, List.take_length, ← applied_rev]
      exact ⟨_, rfl, q _ (g1.trans g)⟩
def spInTurn (t : Tbs) : Sp := fun vs H Q _ => ∃ (l : List Nat) (v : V) (es : List Ed), vs = [.str (S l), v] ∧ EdsAt H v es ∧ EdsOk l.length es ∧ l.length ≤ 100000 ∧ Tb t H ∧ ∀ v' H', Gw D0 H H' → EdsAt H' v' (inTurn 0 es) → Q v' H'
theorem scInTurn : FnScope ["text", "edits", "found", "more", "place", "gone", "come"] ["text", "edits"] (defScope (top 24)) := ⟨rfl, rfl, rfl, by decide +kernel, rfl, by decide +kernel, by decide +kernel⟩
theorem ok_inTurn {t : Tbs} (D : Df K mg "in_turn" (top 24) ["text", "edits"]) (T : Bi mg) (fC : Fn P w K mg base 6 "check_edits" ["text", "edits"] (spCheck t)) :
    Fn P w K mg base 7 "in_turn" ["text", "edits"] (spInTurn t) := by
  refine D.ok scInTurn (fun vs H Q E h => ?_) (fun cdv f A outer s H vs Q E hr h => ?_)
  · obtain ⟨l, v, e, rfl, _⟩ := h
    rfl
  · obtain ⟨l, v, es, rfl, h1, h2, h3, h4, q⟩ := h
    refine ⟨_, (pss_cons (ps_expr (pe_fn fC (by first | exact hr | exact hr.mono (by decide) | exact room_gx hr hA | exact (room_gx hr hA).mono (by decide)) (pa_cons (pv 0) (pa_cons (pv 1) pa_nil))))
      (pss_cons ((ps_set (i := 2) scInTurn.nd rfl (Or.inl rfl) (pe_lst pa_nil)))
      (pss_cons ((ps_set (i := 3) scInTurn.nd rfl (Or.inl rfl) (pe_int)))
      (pss_cons (ps_for PassesOwn.never rfl (pi_tup (pv 1)) (pg_tup (by rfl) (pgs_cons (pg_name (i := 4) scInTurn.nd rfl (Or.inl rfl)) (pgs_cons (pg_name (i := 5) scInTurn.nd rfl (Or.inl rfl)) (pgs_cons (pg_name (i := 6) scInTurn.nd rfl (Or.inl rfl)) pgs_nil))))
        (pss_cons (ps_expr (pe_bm PySem.F.plainAttrs_list PySem.F.slot_list_append PySem.F.type_list_append mt_append (pv 2) (pa_cons (pe_tup (pa_cons (pe_op op_add (pv 4) (pv 3)) (pa_cons (pv 5) (pa_cons (pv 6) pa_nil)))) pa_nil)))
      (pss_one (ps_aug (i := 3) scInTurn.nd rfl (.inl rfl) (pe_op op_sub (pe_callB call_len_str (by rfl) T.len_ PySem.boot_len (pa_cons (pv 6) pa_nil)) (pv 5)) ip_add))))
      (pss_one (ps_ret (pe_callTy call_tuple_of (by rfl) T.tuple_ (by decide +kernel) (pa_cons (pv 2) pa_nil)))))))), ?_⟩
    refine ⟨_, rfl, _, rfl, l, v, es, rfl, h1, h2, h3, h4, fun H1 g1 => ?_⟩
    obtain ⟨a, us, rfl, ha, h5⟩ := h1.gw g1
    refine ⟨Nat.zero_le _, fun L nL => ?_⟩
    have nLH := g1.non _ nL
    refine ⟨_, rfl, a, rfl, ⟨_, SqT.of (by rw [upd_ne (ne_of_none ha nL)]; exact ha)⟩, ?_⟩
    have l200 := h2.len
    refine for_it (walk_tup (xs := us)) (fun i σ H' => (∃ v4 v5 v6, σ = [some (.str (S l)), some (.ref a), some (.ref L), some (.int (moreOf (es.take i))), v4, v5, v6]) ∧ Gw D0 H1 H' ∧ (∀ e, es[i]? = some e → 0 ≤ ((e.1 : Nat) : Int) + moreOf (es.take i)) ∧ ∃ ws, H' L = some (.lst ws) ∧ All2 (EdAt H') ws (inTurn 0 (es.take i)))
      ⟨⟨_, _, _, rfl⟩, Gw.refl.new nL, fun e _ => by unfold moreOf; simp, [], upd_same, All2.nil⟩ (fun i σ H' _ h => SqT.of (h.2.1.tup _ _ ha)) ?_ ?_
    · rintro i y σ H2 H2' hi ⟨⟨v4, v5, v6, rfl⟩, g, pos, ws, hL, hw⟩ ⟨rfl, hy⟩
      obtain ⟨e, he, b, rfl, hb⟩ := h5.get hy
      have p0 := pos e he
      have hb2 := g.tup _ _ hb
      have et : es.take (i + 1) = es.take i ++ [e] := by rw [List.take_add_one, he]; rfl
      have hws : ws.length ≤ 200 := by
        have := hw.len
        have i2 : ∀ (ds : List Ed) m, (inTurn m ds).length = ds.length := fun ds => by
          induction ds with
          | nil => intro m; rfl
          | cons d ds ih => intro m; show (inTurn _ ds).length + 1 = ds.length + 1; rw [ih]
        rw [i2, List.length_take] at this
        omega
      refine ⟨b, _, rfl, SqT.of hb2, rfl, _, _, rfl, _, _, rfl, _, _, rfl, rfl, ?_⟩
      refine ⟨_, rfl, .inl ⟨rfl, _, SqL.of hL⟩, _, rfl, _, rfl, _, _, rfl, rfl, _, rfl, _, rfl, by rw [sizeLine_eq]; show 3 ≤ _; omega, fun p np => ?_⟩
      have nLp : L ≠ p := ne_of_none hL np
      refine ⟨L, _, _, rfl, rfl, by rw [upd_ne nLp]; exact hL, by rw [sizeLine_eq]; omega, ?_⟩
      refine ⟨_, rfl, _, rfl, _, rfl, le_sizeLine (by rw [S_len]; have := (h2.each e (List.mem_of_getElem? he)).2.2; omega), _, rfl, _, _, rfl, rfl, _, _, rfl, rfl, ?_⟩
      refine ⟨⟨_, _, _, by rw [et, moreOf_snoc]; rfl⟩, (g.new np).fresh nL, fun e' he' => ?_, _, upd_same, ?_⟩
      · have ap := h2.apart i e e' he he'
        rw [et, moreOf_snoc]
        omega
      · rw [et, inTurn_snoc, Int.zero_add]
        have gx : Gw (fun z => z = L) H2' (upd (upd H2' p (.tup [V.int (((e.1 : Nat) : Int) + moreOf (es.take i)), V.int ((e.2.1 : Nat) : Int), V.str (S e.2.2)])) L (.lst (ws ++ [V.ref p]))) :=
          (Gw.refl.new np).put rfl (by rw [upd_ne nLp]; exact hL) (fun _ z => by cases z) (fun _ z => by cases z)
        refine (hw.mono fun x y z => z.gw gx).snoc ⟨p, rfl, ?_⟩
        rw [upd_ne nLp.symm, upd_same]
        show some (HO.tup [_, _, _]) = some (HO.tup [V.int ((((((e.1 : Nat) : Int) + moreOf (es.take i)).toNat : Nat)) : Int), _, _])
        rw [Int.toNat_of_nonneg p0]
    · rintro σ H2 ⟨⟨v4, v5, v6, rfl⟩, g, pos, ws, hL, hw⟩
      rw [h5.len, List.take_length] at hw
      refine ⟨_, rfl, L, _, rfl, .inl ⟨SqL.of hL, fun p np => ?_⟩⟩
      refine q _ _ ((g1.trans g).new np) ⟨p, ws, rfl, upd_same, hw.mono fun x y z => z.gw ((Gw.refl (D := D0)).new np)⟩
end
end K80
namespace K80
open PySem PySem.Spec PyProof.Rows L2 Gx GxR NdefX
/-- k not in d, d a written dict that has k -/
theorem op_notInKD {X : Cx} : OpR X (compareOp .NotIn) (fun x y H Q => ∃ z p v, x = .str z ∧ y = .ref p ∧ KDct X.K X.w p z v ∧ (p == sysModules) = false ∧ Q (.bl false) H) := by
  intro pins s σ H x y v u Q I rx ry h
  obtain ⟨z, p, r, rfl, rfl, ⟨es, n, u0, hl, hk, e, ru⟩, hs, q⟩ := h
  obtain rfl : u = Value.ref p := ry
  obtain ⟨t, rfl⟩ := rx
  have hm := PySem.W.mapOf_K (prog := X.prog) (w := X.w) I.kIn hl hk
  refine wpAny_notIn_of (strKind_is X.prog X.w z t) hs hm ?_
  rw [PySem.W.find_K hl e]
  exact ⟨.bl false, H, I.tok _, rfl, q⟩
structure Ln (K : PySem.W.Frag) (w : World) (mg : Str → Option Value) : Prop where
  ex : ∃ a : Addr, mg "LENGTHS" = some (.ref a) ∧ (a == sysModules) = false ∧ KDct K w a "put" (.int 5) ∧ KDct K w a "cut" (.int 4) ∧ KDct K w a "undo" (.int 4)
/-! ### operations -/
abbrev Id := Nat × Str
def idT (i : Id) : List V := [.int (i.1 : Nat), .str i.2]
abbrev idK (i : Id) : List L2.Key := [.inl (i.1 : Nat), .inr i.2]
def IdAt (H : Hp) (v : V) (i : Id) : Prop := ∃ a, v = .ref a ∧ H a = some (.tup (idT i))
theorem IdAt.gw {D : Addr → Prop} {H H' : Hp} {v : V} {i : Id} (h : IdAt H v i) (g : Gw D H H') : IdAt H' v i := let ⟨a, e1, e2⟩ := h; ⟨a, e1, g.tup _ _ e2⟩
def RefAt (H : Hp) (v : V) : Option Id → Prop
  | none => v = .non
  | some i => IdAt H v i
theorem RefAt.gw {D : Addr → Prop} {H H' : Hp} {v : V} : ∀ {i : Option Id}, RefAt H v i → Gw D H H' → RefAt H' v i
  | none, h, _ => h
  | some _, h, g => IdAt.gw h g
inductive Kd where
  | put
  | cut
  | undo
  deriving DecidableEq
def Kd.s : Kd → Str
  | .put => "put"
  | .cut => "cut"
  | .undo => "undo"
structure Op where
  kind : Kd
  id : Id
  prev : Nat
  ref : Option Id
  sign : Nat
  deriving DecidableEq
def restT (k : Kd) (vr : V) (c : Nat) : List V := match k with
  | .put => [vr, .str (S [c])]
  | _ => [vr]
def opT (o : Op) (vi vr : V) : List V := .str o.kind.s :: vi :: .int (o.prev : Nat) :: restT o.kind vr o.sign
def OpAt (H : Hp) (v : V) (o : Op) : Prop := ∃ a vi vr, v = .ref a ∧ H a = some (.tup (opT o vi vr)) ∧ IdAt H vi o.id ∧ RefAt H vr o.ref
theorem OpAt.gw {D : Addr → Prop} {H H' : Hp} {v : V} {o : Op} (h : OpAt H v o) (g : Gw D H H') : OpAt H' v o :=
  let ⟨a, vi, vr, e1, e2, e3, e4⟩ := h; ⟨a, vi, vr, e1, g.tup _ _ e2, e3.gw g, e4.gw g⟩
def IdOk (i : Id) : Prop := 1 ≤ i.1 ∧ i.1 ≤ 1000000 ∧ Nm i.2
/-- it is an operation -/
structure OpOk (o : Op) : Prop where
  id : IdOk o.id
  prev : o.prev + 1 ≤ o.id.1
  ref : ∀ r, o.ref = some r → IdOk r ∧ r.1 < o.id.1
  sign : o.kind = .put → sgn o.sign
  some_ : o.kind ≠ .put → o.ref ≠ none
theorem len0 (o : Op) (vi vr : V) : (opT o vi vr).length = if o.kind = .put then 5 else 4 := by
  unfold opT restT
  cases o.kind <;> rfl
theorem at1 (o : Op) (vi vr : V) : atI (opT o vi vr) 1 = some vi := atI_nat (j := 1) rfl
theorem at2 (o : Op) (vi vr : V) : atI (opT o vi vr) 2 = some (.int (o.prev : Nat)) := atI_nat (j := 2) rfl
theorem at0 (o : Op) (vi vr : V) : atI (opT o vi vr) 0 = some (.str o.kind.s) := atI_nat (j := 0) rfl
theorem at3 (o : Op) (vi vr : V) : atI (opT o vi vr) 3 = some vr := atI_nat (j := 3) (by unfold opT restT; cases o.kind <;> rfl)
theorem at4 (o : Op) (vi vr : V) (h : o.kind = .put) : atI (opT o vi vr) 4 = some (.str (S [o.sign])) := atI_nat (j := 4) (by unfold opT restT; rw [h]; rfl)
theorem idat0 (i : Id) : atI (idT i) 0 = some (.int (i.1 : Nat)) := rfl
theorem idat1 (i : Id) : atI (idT i) 1 = some (.str i.2) := rfl
theorem s_put : Kd.s .put = "put" := rfl
theorem kput_ne : ("put" : Str) ≠ "cut" ∧ ("put" : Str) ≠ "undo" ∧ ("cut" : Str) ≠ "put" ∧ ("cut" : Str) ≠ "undo" ∧ ("undo" : Str) ≠ "put" ∧ ("undo" : Str) ≠ "cut" := by decide +kernel
theorem kd_eq (k : Kd) : decide (V.str k.s = V.str "put") = decide (k = .put) := by
  cases k with
  | put => rfl
  | cut => exact decide_eq_false (fun z => kput_ne.2.2.1 (V.str.inj z))
  | undo => exact decide_eq_false (fun z => kput_ne.2.2.2.2.1 (V.str.inj z))
theorem kd_eqc (k : Kd) : decide (V.str k.s = V.str "cut") = decide (k = .cut) := by
  cases k with
  | put => exact decide_eq_false (fun z => kput_ne.1 (V.str.inj z))
  | cut => rfl
  | undo => exact decide_eq_false (fun z => kput_ne.2.2.2.2.2 (V.str.inj z))
theorem kd_equ (k : Kd) : decide (V.str k.s = V.str "undo") = decide (k = .undo) := by
  cases k with
  | put => exact decide_eq_false (fun z => kput_ne.2.1 (V.str.inj z))
  | cut => exact decide_eq_false (fun z => kput_ne.2.2.2.1 (V.str.inj z))
  | undo => rfl
section
variable {P : Program} {w : World} {K : PySem.W.Frag} {mg : Str → Option Value} {base : Heap}
def spIsId (t : Tbs) : Sp := fun vs H Q _ => ∃ (v : V) (i : Id), vs = [v] ∧ IdAt H v i ∧ IdOk i ∧ Tb t H ∧ ∀ H', Gw D0 H H' → Q (.bl true) H'
theorem scIsId : FnScope ["value"] ["value"] (defScope (top 28)) := ⟨rfl, rfl, rfl, by decide +kernel, rfl, by decide +kernel, by decide +kernel⟩
theorem ok_isId {t : Tbs} (D : Df K mg "is_id" (top 28) ["value"]) (T : Bi mg) (fM : Fn P w K mg base 1 "is_name" ["value"] (spName t)) (fN : Fn P w K mg base 1 "is_number" ["value", "least", "most"] spNum) : Fn P w K mg base 2 "is_id" ["value"] (spIsId t) := by
  refine D.ok scIsId (fun vs H Q E h => ?_) (fun cdv f A outer s H vs Q E hr h => ?_)
  · obtain ⟨v, i, rfl, _⟩ := h
    rfl
  · obtain ⟨v, i, rfl, ⟨a, rfl, ha⟩, ⟨h1, h2, h3⟩, tb, q⟩ := h
    obtain ⟨t1, m1⟩ := T.mCount
    refine ⟨_, (pss_cons (ps_if (PW.pt (pw_or (pt_not (pt_val (pe_callB call_isi (by rfl) T.isi boot_isi (pa_cons (pv 0) (pa_cons (pe_bltn (v := .ty "tuple") (by rfl) T.tuple_ boot_ttup rfl) pa_nil))))) (pw_or1 (pt_cmpR op_ne (pe_callB call_len_seq (by rfl) T.len_ PySem.boot_len (pa_cons (pv 0) pa_nil)) pe_int (nomark _))))) (pss_one (ps_ret pe_bl)) pss_nil)
      (pss_one (ps_ret (pe_and (pe_fn fN (by first | exact hr | exact hr.mono (by decide) | exact room_gx hr hA | exact (room_gx hr hA).mono (by decide)) (pa_cons (pe_ix ix_tup (pv 0) pe_int (fun _ _ => rfl)) (pa_cons (pe_int) (pa_cons ((pe_glob (v := .int 1000000) (by rfl) m1 ⟨_, rfl⟩)) pa_nil)))) (pe_one (pe_fn fM (by first | exact hr | exact hr.mono (by decide) | exact room_gx hr hA | exact (room_gx hr hA).mono (by decide)) (pa_cons (pe_ix ix_tup (pv 0) pe_int (fun _ _ => rfl)) pa_nil))))))), ?_⟩
    refine ⟨_, rfl, _, _, _, _, _, rfl, .ty _, .base (.tup ha), kit_ty kitTT, _, rfl, iteF ?_⟩
    refine ⟨_, rfl, _, _, rfl, .inr (SqT.of ha), rfl, _, rfl, iteF ?_⟩
    refine ⟨_, rfl, _, _, _, _, rfl, rfl, SqT.of ha, idat0 i, _, _, _, rfl, by omega, by omega, _, rfl, iteT ?_⟩
    exact ⟨_, rfl, _, _, _, _, rfl, rfl, SqT.of ha, idat1 i, _, rfl, h3, tb, q⟩
def spIsSign : Sp := fun vs H Q _ => ∃ c : Nat, vs = [.str (S [c])] ∧ sgn c ∧ Q (.bl true) H
theorem scIsSign : FnScope ["value"] ["value"] (defScope (top 29)) := ⟨rfl, rfl, rfl, by decide +kernel, rfl, by decide +kernel, by decide +kernel⟩
theorem ok_isSign (D : Df K mg "is_sign" (top 29) ["value"]) (T : Bi mg) : Fn P w K mg base 1 "is_sign" ["value"] spIsSign := by
  refine D.ok scIsSign (fun vs H Q E h => ?_) (fun cdv f A outer s H vs Q E hr h => ?_)
  · obtain ⟨c, rfl, _⟩ := h
    rfl
  · obtain ⟨c, rfl, sg, q⟩ := h
    obtain ⟨t1, m1⟩ := T.lend
    obtain ⟨t2, m2⟩ := T.first
    obtain ⟨t3, m3⟩ := T.last
    refine ⟨_, (pss_cons (ps_if (PW.pt (pw_or (pt_not (pt_val (pe_callB call_isi (by rfl) T.isi boot_isi (pa_cons (pv 0) (pa_cons (pe_bltn (v := .ty "str") (by rfl) T.str_ boot_tstr rfl) pa_nil))))) (pw_or1 (pt_cmpR op_ne (pe_callB call_len_str (by rfl) T.len_ PySem.boot_len (pa_cons (pv 0) pa_nil)) pe_int (nomark _))))) (pss_one (ps_ret pe_bl)) pss_nil)
      (pss_one (ps_ret (pe_or (pe_cmpR op_eq (pv 0) (pe_glob (v := .str "\n") (by rfl) m1 ⟨_, rfl⟩) (nomark _)) (pe_one (pe_chain op_le_str op_le_str (pe_glob (v := .str " ") (by rfl) m2 ⟨_, rfl⟩) (pv 0) (pe_glob (v := .str "~") (by rfl) m3 ⟨_, rfl⟩))))))), ?_⟩
    refine ⟨_, rfl, _, _, _, _, _, rfl, .ty _, .base (.str _), kit_ty kitSS, _, rfl, iteF ?_⟩
    refine ⟨_, rfl, _, rfl, le_sizeLine (by show 1 ≤ _; decide), rfl, _, rfl, iteF ?_⟩
    refine ⟨_, rfl, rfl, ?_⟩
    refine ⟨_, rfl, ?_⟩
    by_cases e : c = 10
    · subst e
      rw [sp10, decide_eq_true rfl]
      exact iteT q
    · have hs : 32 ≤ c ∧ c ≤ 126 := sg.resolve_left e
      have n : decide (V.str (S [c]) = V.str "\n") = false := decide_eq_false fun z => by
        rw [sp10] at z
        injection z with z
        injection z with z
        have z2 : [c] = [10] := congrArg Array.toList z
        exact e (by simpa using z2)
      rw [n]
      refine iteF ⟨_, rfl, _, _, rfl, rfl, _, rfl, ?_⟩
      rw [sp32, le1 hs.1]
      refine iteT ⟨_, _, rfl, rfl, ?_⟩
      rw [sp126]
      show Q (.bl (!decide (([126] : List Nat) < [c]))) H
      rw [le1 hs.2]
      exact q
def spIsAhead (t : Tbs) : Sp := fun vs H Q _ => ∃ (v u : V) (i j : Id), vs = [v, u] ∧ IdAt H v i ∧ IdOk i ∧ IdAt H u j ∧ i.1 < j.1 ∧ Tb t H ∧ ∀ H', Gw D0 H H' → Q (.bl true) H'
theorem scIsAhead : FnScope ["value", "own"] ["value", "own"] (defScope (top 30)) := ⟨rfl, rfl, rfl, by decide +kernel, rfl, by decide +kernel, by decide +kernel⟩
theorem ok_isAhead {t : Tbs} (D : Df K mg "is_ahead" (top 30) ["value", "own"]) (fI : Fn P w K mg base 2 "is_id" ["value"] (spIsId t)) : Fn P w K mg base 3 "is_ahead" ["value", "own"] (spIsAhead t) := by
  refine D.ok scIsAhead (fun vs H Q E h => ?_) (fun cdv f A outer s H vs Q E hr h => ?_)
  · obtain ⟨v, u, i, j, rfl, _⟩ := h
    rfl
  · obtain ⟨v, u, i, j, rfl, hi, hok, hj, lt, tb, q⟩ := h
    refine ⟨_, (pss_one (ps_ret (pe_and (pe_fn fI (by first | exact hr | exact hr.mono (by decide) | exact room_gx hr hA | exact (room_gx hr hA).mono (by decide)) (pa_cons (pv 0) pa_nil)) (pe_one (pe_cmpR op_lt (pe_ix ix_tup (pv 0) pe_int (fun _ _ => rfl)) (pe_ix ix_tup (pv 1) pe_int (fun _ _ => rfl)) (nomark _)))))), ?_⟩
    refine ⟨_, rfl, _, i, rfl, hi, hok, tb, fun H1 g1 => ⟨_, rfl, iteT ?_⟩⟩
    obtain ⟨a, rfl, ha⟩ := hi.gw g1
    obtain ⟨b, rfl, hb⟩ := hj.gw g1
    refine ⟨_, rfl, _, _, _, _, rfl, rfl, SqT.of ha, idat0 i, _, rfl, _, _, _, _, rfl, rfl, SqT.of hb, idat0 j, _, _, rfl, rfl, ?_⟩
    show Q (.bl (decide (((i.1 : Nat) : Int) < ((j.1 : Nat) : Int)))) H1
    rw [decide_eq_true (by omega)]
    exact q _ g1
def spIsOp (t : Tbs) : Sp := fun vs H Q _ => ∃ (v : V) (o : Op), vs = [v] ∧ OpAt H v o ∧ OpOk o ∧ Tb t H ∧ ∀ H', Gw D0 H H' → Q (.bl true) H'
theorem scIsOp : FnScope ["value"] ["value"] (defScope (top 31)) := ⟨rfl, rfl, rfl, by decide +kernel, rfl, by decide +kernel, by decide +kernel⟩
theorem ok_isOp {t : Tbs} (D : Df K mg "is_operation" (top 31) ["value"]) (T : Bi mg) (L : Ln K w mg) (fI : Fn P w K mg base 2 "is_id" ["value"] (spIsId t)) (fN : Fn P w K mg base 1 "is_number" ["value", "least", "most"] spNum)
    (fS : Fn P w K mg base 1 "is_sign" ["value"] spIsSign) (fA : Fn P w K mg base 3 "is_ahead" ["value", "own"] (spIsAhead t)) : Fn P w K mg base 4 "is_operation" ["value"] (spIsOp t) := by
  refine D.ok scIsOp (fun vs H Q E h => ?_) (fun cdv f A outer s H vs Q E hr h => ?_)
  · obtain ⟨v, u, rfl, _⟩ := h
    rfl
  · obtain ⟨v, o, rfl, ⟨a, vi, vr, rfl, ha, hi, hrf⟩, ok, tb, q⟩ := h
    obtain ⟨aL, mL, nL, k1, k2, k3⟩ := L.ex
    have kL : KDct K w aL o.kind.s (.int (opT o vi vr).length) := by
      rw [len0]
      cases o.kind <;> assumption
    have lpos : (opT o vi vr).length ≠ 0 := by
      rw [len0]
      split <;> decide
    refine ⟨_, (pss_cons (ps_if (PW.pt (pw_or (pt_not (pt_val (pe_callB call_isi (by rfl) T.isi boot_isi (pa_cons (pv 0) (pa_cons (pe_bltn (v := .ty "tuple") (by rfl) T.tuple_ boot_ttup rfl) pa_nil))))) (pw_or (pt_cmpR op_eq (pe_callB call_len_seq (by rfl) T.len_ PySem.boot_len (pa_cons (pv 0) pa_nil)) pe_int (nomark _)) (pw_or (pt_not (pt_val (pe_callB call_isi (by rfl) T.isi boot_isi (pa_cons (pe_ix ix_tup (pv 0) pe_int (fun _ _ => rfl)) (pa_cons (pe_bltn (v := .ty "str") (by rfl) T.str_ boot_tstr rfl) pa_nil)))))
        (pw_or1 (pt_cmpR op_notInKD (pe_ix ix_tup (pv 0) pe_int (fun _ _ => rfl)) (pe_glob (v := .ref aL) (by rfl) mL rfl) (by rfl))))))) (pss_one (ps_ret pe_bl)) pss_nil)
      (pss_cons (ps_if (PW.pt (pw_or (pt_cmpR op_ne (pe_callB call_len_seq (by rfl) T.len_ PySem.boot_len (pa_cons (pv 0) pa_nil)) (pe_ix ix_kdict (pe_glob (v := .ref aL) (by rfl) mL rfl) (pe_ix ix_tup (pv 0) pe_int (fun _ _ => rfl)) (fun _ _ => rfl)) (nomark _)) (pw_or (pt_not (pt_val (pe_fn fI (by first | exact hr | exact hr.mono (by decide) | exact room_gx hr hA | exact (room_gx hr hA).mono (by decide)) (pa_cons (pe_ix ix_tup (pv 0) pe_int (fun _ _ => rfl)) pa_nil))))
        (pw_or1 (pt_not (pt_val (pe_fn fN (by first | exact hr | exact hr.mono (by decide) | exact room_gx hr hA | exact (room_gx hr hA).mono (by decide)) (pa_cons (pe_ix ix_tup (pv 0) pe_int (fun _ _ => rfl)) (pa_cons (pe_int) (pa_cons (pe_op op_sub (pe_ix ix_tup (pe_ix ix_tup (pv 0) pe_int (fun _ _ => rfl)) pe_int (fun _ _ => rfl)) pe_int) pa_nil)))))))))) (pss_one (ps_ret pe_bl)) pss_nil)
      (pss_cons (ps_if (pt_cmpR op_eq (pe_ix ix_tup (pv 0) pe_int (fun _ _ => rfl)) pe_str (nomark _)) (pss_one (ps_ret (pe_and (pe_fn fS (by first | exact hr | exact hr.mono (by decide) | exact room_gx hr hA | exact (room_gx hr hA).mono (by decide)) (pa_cons (pe_ix ix_tup (pv 0) pe_int (fun _ _ => rfl)) pa_nil)) (pe_one (pe_or (pe_cmpR op_isN (pe_ix ix_tup (pv 0) pe_int (fun _ _ => rfl)) pe_non (nomark _)) (pe_one (pe_fn fA (by first | exact hr | exact hr.mono (by decide) | exact room_gx hr hA | exact (room_gx hr hA).mono (by decide)) (pa_cons (pe_ix ix_tup (pv 0) pe_int (fun _ _ => rfl)) (pa_cons (pe_ix ix_tup (pv 0) pe_int (fun _ _ => rfl)) pa_nil))))))))) pss_nil)
      (pss_one (ps_ret (pe_fn fA (by first | exact hr | exact hr.mono (by decide) | exact room_gx hr hA | exact (room_gx hr hA).mono (by decide)) (pa_cons (pe_ix ix_tup (pv 0) pe_int (fun _ _ => rfl)) (pa_cons (pe_ix ix_tup (pv 0) pe_int (fun _ _ => rfl)) pa_nil)))))))), ?_⟩
    refine ⟨_, rfl, _, _, _, _, _, rfl, .ty _, .base (.tup ha), kit_ty kitTT, _, rfl, iteF ?_⟩
    refine ⟨_, rfl, _, _, rfl, .inr (SqT.of ha), rfl, _, rfl, ?_⟩
    rw [decide_eq_false (show ¬ V.int ((opT o vi vr).length : Nat) = V.int 0 from fun z => lpos (by have := V.int.inj z; omega))]
    refine iteF ⟨_, rfl, _, _, _, _, rfl, rfl, SqT.of ha, at0 o vi vr, _, _, _, _, _, rfl, .ty _, .base (.str _), kit_ty kitSS, _, rfl, iteF ?_⟩
    refine ⟨_, rfl, _, _, _, _, rfl, rfl, SqT.of ha, at0 o vi vr, _, _, _, rfl, rfl, kL, nL, _, rfl, iteF ?_⟩
    refine ⟨_, rfl, _, _, rfl, .inr (SqT.of ha), _, rfl, _, _, _, _, rfl, rfl, SqT.of ha, at0 o vi vr, _, _, _, rfl, rfl, kL, rfl, _, rfl, iteNS rfl ?_⟩
    refine ⟨_, rfl, _, _, _, _, rfl, rfl, SqT.of ha, at1 o vi vr, _, o.id, rfl, hi, ok.id, tb, fun H1 g1 => ⟨_, rfl, iteF ?_⟩⟩
    have ha1 := g1.tup _ _ ha
    obtain ⟨b, eb, hb⟩ := hi.gw g1
    have pv1 := ok.prev
    refine ⟨_, rfl, _, _, _, _, rfl, rfl, SqT.of ha1, at2 o vi vr, _, rfl, _, _, _, _, rfl, rfl, SqT.of ha1, at1 o vi vr, _, _, _, _, eb, rfl, SqT.of hb, idat0 _, _, _, rfl, rfl, _, _, _, rfl, by omega, by omega, _, rfl, iteF ?_⟩
    have hAh : ∀ (r : Id), o.ref = some r → IdAt H1 vr r := fun r e => by
      have z := hrf.gw g1
      rw [e] at z
      exact z
    refine ⟨_, rfl, _, _, _, _, rfl, rfl, SqT.of ha1, at0 o vi vr, rfl, _, rfl, ?_⟩
    rw [kd_eq]
    by_cases hk : o.kind = .put
    · rw [decide_eq_true hk]
      refine iteT ⟨_, rfl, _, _, _, _, rfl, rfl, SqT.of ha1, at4 o vi vr hk, _, rfl, ok.sign hk, _, rfl, iteT ?_⟩
      refine ⟨_, rfl, _, _, _, _, rfl, rfl, SqT.of ha1, at3 o vi vr, rfl, _, rfl, ?_⟩
      cases hr2 : o.ref with
      | none =>
        have z := hrf
        rw [hr2] at z
        have z : vr = .non := z
        subst z
        exact iteT (q _ g1)
      | some r =>
        obtain ⟨b2, e2, h2⟩ := hAh r hr2
        subst e2
        refine iteF ⟨_, rfl, _, _, _, _, rfl, rfl, SqT.of ha1, at3 o vi _, _, rfl, _, _, _, _, rfl, rfl, SqT.of ha1, at1 o vi _, _, _, r, o.id, rfl, hAh r hr2, (ok.ref r hr2).1, hi.gw g1, (ok.ref r hr2).2, tb.gw g1, fun H2 g2 => q _ (g1.trans g2)⟩
    · rw [decide_eq_false hk]
      refine iteF ?_
      cases hr2 : o.ref with
      | none => exact absurd hr2 (ok.some_ hk)
      | some r => exact ⟨_, rfl, _, _, _, _, rfl, rfl, SqT.of ha1, at3 o vi vr, _, rfl, _, _, _, _, rfl, rfl, SqT.of ha1, at1 o vi vr, _, _, r, o.id, rfl, hAh r hr2, (ok.ref r hr2).1, hi.gw g1, (ok.ref r hr2).2, tb.gw g1, fun H2 g2 => q _ (g1.trans g2)⟩
end
end K80
namespace K80
open PySem PySem.Spec PyProof.Rows L2 Gx GxR NdefX
/-- a new tuple, as it was made (nothing hangs on it): dict() reads it -/
def tupP (a : Addr) (xs : List V) : HO := .ext fun h => xs.length ≤ sizeLine ∧ ∃ (its : List Value) (n : Nat), Vals xs its ∧ h.get? a = some { cls := .type "tuple", data := .seq its.toArray n }
theorem tupP_ok {P : Program} {w : World} {H : Hp} {h : Heap} {a : Addr} {xs : List V} {its : List Value} {n : Nat} (z : xs.length ≤ sizeLine) (r : Vals xs its) (e : h.get? a = some { cls := .type "tuple", data := .seq its.toArray n }) : ObjOk P w H h a (tupP a xs) :=
  ⟨⟨z, its, n, r, e⟩, ⟨_, e⟩, fun h1 h2 ⟨z, its, n, r, e⟩ k => ⟨z, its, n, r, k _ e⟩⟩
section
variable {X : Cx}
/-- tuple(list) -/
theorem cr_tupP : CallR X (.type "tuple") (fun xs H Q => ∃ p ys, xs = [.ref p] ∧ SqL X.K H p ys ∧ ∀ l, H l = none → Q (.ref l) (upd H l (tupP l ys))) := by
  intro pins s σ H xs us Q I r h
  obtain ⟨p, ys, rfl, hq, q⟩ := h
  obtain ⟨u, rfl, rx⟩ := vals1 r
  cases rx
  obtain ⟨its, r', pl, hz⟩ := I.list hq
  have hlen := r'.length
  refine call_tuple_list pl.isList (fun h' kp => ?_) (by simp only [List.size_toArray] <;> omega)
  have I1 : Inv X pins σ H { s with heap := h' } := I.kept (t' := s.toks) kp
  have I2 : Inv X pins σ (upd H h'.objs.size (tupP h'.objs.size ys)) { s with heap := h'.push { cls := .type "tuple", data := .seq its.toArray } } :=
    I1.laid (t' := s.toks) (fun b o e => Heap.get?_push_of_some _ e) (Nat.le_refl _) (tupP_ok (n := 0) hz r' (Heap.get?_push_size _ rfl))
  exact ⟨.ref h'.objs.size, _, I2, rfl, q _ (I1.hok.fresh (Nat.le_refl _))⟩
/-- () -/
theorem pe_tup0P {k : Nat} {pos : Pos} : PE X (.Tuple [] k pos) (fun _ H Q => ∀ p, H p = none → Q (.ref p) (upd H p (tupP p []))) := by
  refine ⟨fun pins s σ H Q I hq => ?_⟩
  refine wpAny_Tuple_spliced (thn ((pa_nil (X := X)).run pos pins s σ H (fun vs H1 => vs = [] ∧ H1 = H) I ⟨rfl, rfl⟩) fun us s1 ⟨xs, H1, I1, r, e1, e2⟩ => ?_)
  subst e1 e2
  cases r
  refine ⟨by rw [sizeLine_eq]; show 0 ≤ _; omega, ?_⟩
  have hf : H1 s1.heap.objs.size = none := I1.hok.fresh (Nat.le_refl _)
  exact ⟨.ref s1.heap.objs.size, upd H1 s1.heap.objs.size (tupP s1.heap.objs.size []), I1.laid (t' := s1.toks) (fun b u e => Heap.get?_push_of_some _ e) (Nat.le_refl _) (tupP_ok (n := 0) (by rw [sizeLine_eq]; show 0 ≤ _; omega) .nil (Heap.get?_push_size _ rfl)), rfl, hq _ hf⟩
theorem pairs_ofU {pins : List (Addr × Obj)} {σ : L2.St} {H : Hp} {s : Shared} (I : Inv X pins σ H s) : ∀ {ps : List Addr} {kvs : List (L2.Key × V)}, Paired (fun p kv => SqT X.K H p [kV kv.1, kv.2]) ps kvs →
    ∃ (prs : List (L2.Key × Value)) (us : List Value), KV kvs prs ∧ prs.length = ps.length ∧ us.length = ps.length ∧ ∀ (j : Nat) (q : L2.Key × Value) (u : Value), prs[j]? = some q → us[j]? = some u → ∃ (b : Addr), ps[j]? = some b ∧ IsTup s.heap b #[u, q.2] ∧ keyIs q.1 u = true
  | _, _, .nil => ⟨[], [], .nil, rfl, rfl, fun j q u e => by simp at e⟩
  | _, _, .cons (a := p) (b := kv) h t => by
    obtain ⟨prs, us, r, hl, hl2, hp⟩ := pairs_ofU I t
    obtain ⟨its, rv, ht, _⟩ := I.tuple h
    obtain ⟨u, y, ei, ru, ry⟩ := vals2 rv
    subst ei
    refine ⟨(kv.1, y) :: prs, u :: us, .cons ⟨rfl, ry⟩ r, by rw [List.length_cons, List.length_cons, hl], by rw [List.length_cons, List.length_cons, hl2], fun j q u' e e' => ?_⟩
    cases j with
    | zero =>
      cases Option.some.inj e
      cases Option.some.inj e'
      exact ⟨p, rfl, ht, kV_is (P := X.prog) (w := X.w) ru⟩
    | succ j =>
      obtain ⟨b, e1, e2, e3⟩ := hp j q u' (by simpa using e) (by simpa using e')
      exact ⟨b, by simpa using e1, e2, e3⟩
theorem isTuple_of {h : Heap} {b : Addr} {its : Array Value} (x : IsTup h b its) : h.IsTuple b its := let ⟨o, h1, h2, n, h3⟩ := x; ⟨o, h1, h2, n, h3⟩
/-- dict(t) of a new tuple of pairs -/
theorem cr_dictTP (hc : X.calm = true) : CallR X (.type "dict") (fun xs H Q => ∃ (a : Addr) (ps : List Addr) (kvs : List (L2.Key × V)), xs = [.ref a] ∧ H a = some (tupP a (ps.map V.ref)) ∧ Paired (fun p kv => SqT X.K H p [kV kv.1, kv.2]) ps kvs ∧
    ∀ p, H p = none → Q (.ref p) (upd H p (.dK (mergeK [] kvs)))) := by
  intro pins s σ H xs us Q I r q
  obtain ⟨a, ps, kvs, ex, hq, hp, q⟩ := q
  subst ex
  obtain ⟨u, eu, rx⟩ := vals1 r
  subst eu
  cases rx
  obtain ⟨⟨hz, its, n, rv, ea⟩, _⟩ := (show ObjOk X.prog X.w H s.heap a (tupP a (ps.map V.ref)) from I.hok a _ hq)
  have ei := refs_at rv
  subst ei
  rw [List.length_map] at hz
  obtain ⟨prs, ks, rel, hl, hl2, hpr⟩ := pairs_ofU I hp
  have hlen : (ks.zip (prs.map (·.2))).length = ps.length := by rw [List.length_zip, List.length_map, hl, hl2, Nat.min_self]
  have zat : ∀ (j : Nat) (k v : Value), (ks.zip (prs.map (·.2)))[j]? = some (k, v) → ∃ q, prs[j]? = some q ∧ ks[j]? = some k ∧ q.2 = v := fun j k v e => by
    rw [List.getElem?_zip_eq_some] at e
    obtain ⟨e1, e2⟩ := e
    rw [List.getElem?_map] at e2
    cases hh : prs[j]? with
    | none => rw [hh] at e2; cases e2
    | some q => rw [hh] at e2; exact ⟨q, rfl, e1, Option.some.inj e2⟩
  refine PySem.call_dict_pairs (knd := mixKind X.prog X.w) (kvs := prs) (PairArg.tuple a (ps.map Value.ref).toArray (fun j => ps.getD j 0) (ks.zip (prs.map (·.2)))) (I.ok.hd hc) ⟨⟨_, n, ea, rfl, rfl, rfl⟩, ?_, ?_⟩ ⟨by rw [hlen, hl], ?_⟩ (by rw [hlen]; exact hz) fun h' tk hd' k => ?_
  · rw [List.size_toArray, List.length_map, hlen]
  · intro j k v e
    obtain ⟨q1, hq1, hk1, rfl⟩ := zat j k v e
    obtain ⟨b, e1, e2, e3⟩ := hpr j q1 k hq1 hk1
    have eg : ps.getD j 0 = b := by rw [List.getD_eq_getElem?_getD, e1]; rfl
    refine ⟨?_, ?_⟩
    · show (ps.map Value.ref).toArray[j]? = some (Value.ref (ps.getD j 0))
      rw [List.getElem?_toArray, List.getElem?_map, e1, eg]
      rfl
    · show PairAt s.heap (ps.getD j 0) k q1.2
      rw [eg]
      exact .inl (isTuple_of e2)
  · intro i key v e
    obtain ⟨q1, hq1, hk1, rfl⟩ := zat i key v e
    obtain ⟨b, e1, e2, e3⟩ := hpr i q1 key hq1 hk1
    exact ⟨q1.1, hq1, e3⟩
  · have hm : (s.heap.objs.size == sysModules) = false := beq_eq_false_iff_ne.mpr (Nat.ne_of_gt I.big)
    have hlen2 : (mergeK [] kvs).length ≤ sizeLine := by
      refine Nat.le_trans (length_mergeK kvs []) ?_
      rw [List.length_nil, Nat.zero_add, rel.length, hl]
      exact hz
    exact ⟨.ref s.heap.objs.size, upd H s.heap.objs.size (.dK (mergeK [] kvs)), I.laid (t' := tk) (fun b o e => k b o (fun z => nomatch z) e) (Nat.le_refl _) (show ObjOk X.prog X.w _ _ _ (.dK (mergeK [] kvs)) from ⟨hlen2, hm, merged [] prs, KV.merge rel .nil, hd'⟩), rfl, q _ (I.hok.fresh (Nat.le_refl _))⟩
theorem mergeK_nd : ∀ (kvs acc : List (L2.Key × V)), ((acc ++ kvs).map (·.1)).Nodup → mergeK acc kvs = acc ++ kvs
  | [], acc, _ => by unfold mergeK; simp
  | p :: kvs, acc, nd => by
    have e : putK acc p.1 p.2 = acc ++ [p] := by
      refine putK_new _ ?_
      cases h : valV acc p.1 with
      | none => rfl
      | some v =>
        have hm := valV_in h
        rw [List.map_append, List.nodup_append] at nd
        exact absurd rfl (nd.2.2 _ hm _ (by simp))
    have e2 : mergeK acc (p :: kvs) = mergeK (putK acc p.1 p.2) kvs := rfl
    rw [e2, e, mergeK_nd kvs (acc ++ [p]) (by rw [List.append_assoc]; exact nd), List.append_assoc]
    rfl
end
end K80
namespace K80
open PySem PySem.Spec PyProof.Rows L2 Gx GxR NdefX
/-- how many operations of each site -/
abbrev Cnt := List (Str × Nat)
def cntV (cs : Cnt) : List (L2.Key × V) := cs.map fun c => (Sum.inr c.1, V.int (c.2 : Nat))
def cnt (cs : Cnt) (x : Str) : Nat := ((cs.find? fun c => decide (c.1 = x)).map (·.2)).getD 0
theorem valV_cnt (x : Str) : ∀ cs : Cnt, (valV (cntV cs) (Sum.inr x)).getD (V.int 0) = V.int (cnt cs x : Nat)
  | [] => rfl
  | c :: cs => by
    unfold cntV cnt
    rw [List.map_cons, List.find?_cons]
    by_cases e : c.1 = x
    · rw [valV_pos (show (Sum.inr c.1 : L2.Key) = Sum.inr x by rw [e]), decide_eq_true e]
      rfl
    · rw [valV_neg (show ¬ (Sum.inr c.1 : L2.Key) = Sum.inr x from fun z => e (Sum.inr.inj z)), decide_eq_false e]
      exact valV_cnt x cs
def SeenAt (H : Hp) (v : V) (cs : Cnt) : Prop := ∃ (a : Addr) (ps : List Addr), v = .ref a ∧ H a = some (tupP a (ps.map V.ref)) ∧ Paired (fun p kv => H p = some (.tup [kV kv.1, kv.2])) ps (cntV cs) ∧ (cs.map (·.1)).Nodup
theorem SeenAt.gw {H H' : Hp} {v : V} {cs : Cnt} (h : SeenAt H v cs) (g : Gw D0 H H') : SeenAt H' v cs :=
  let ⟨a, ps, e1, e2, e3, e4⟩ := h; ⟨a, ps, e1, g.oth _ _ e2 (fun _ z => by cases z) (fun z => z), L2.Paired.mapP e3 (fun p kv z => g.tup _ _ z), e4⟩
def hasSeen (cs : Cnt) (i : Id) : Bool := decide (i.1 ≤ cnt cs i.2)
def needs (o : Op) : List Id := o.ref.toList
def ready (cs : Cnt) (o : Op) : Bool := decide (cnt cs o.id.2 = o.prev) && decide (o.prev < o.id.1) && (needs o).all (hasSeen cs)
section
variable {P : Program} {w : World} {K : PySem.W.Frag} {mg : Str → Option Value} {base : Heap}
def spHasSeen : Sp := fun vs H Q _ => ∃ (v u : V) (cs : Cnt) (i : Id), vs = [v, u] ∧ SeenAt H v cs ∧ IdAt H u i ∧ ∀ H', Gw D0 H H' → Q (.bl (hasSeen cs i)) H'
theorem scHasSeen : FnScope ["seen", "own"] ["seen", "own"] (defScope (top 32)) := ⟨rfl, rfl, rfl, by decide +kernel, rfl, by decide +kernel, by decide +kernel⟩
theorem cntV_nd {cs : Cnt} (h : (cs.map (·.1)).Nodup) : ((cntV cs).map (·.1)).Nodup := by
  unfold cntV
  rw [List.map_map]
  have e : ((fun (kv : L2.Key × V) => kv.1) ∘ fun (c : Str × Nat) => ((Sum.inr c.1 : L2.Key), V.int (c.2 : Nat))) = (fun x => (Sum.inr x : L2.Key)) ∘ fun (c : Str × Nat) => c.1 := rfl
  rw [e, ← List.map_map]
  exact List.Pairwise.map _ (fun a b h z => h (Sum.inr.inj z)) h
theorem merge_cnt {cs : Cnt} (h : (cs.map (·.1)).Nodup) : mergeK [] (cntV cs) = cntV cs := by
  rw [mergeK_nd _ [] (by simpa using cntV_nd h)]
  rfl
theorem ok_hasSeen (D : Df K mg "has_seen" (top 32) ["seen", "own"]) (T : Bi mg) : Fn P w K mg base 1 "has_seen" ["seen", "own"] spHasSeen := by
  refine D.ok scHasSeen (fun vs H Q E h => ?_) (fun cdv f A outer s H vs Q E hr h => ?_)
  · obtain ⟨v, u, cs, i, rfl, _⟩ := h
    rfl
  · obtain ⟨v, u, cs, i, rfl, ⟨a, ps, rfl, ha, hp, nd⟩, ⟨b, rfl, hb⟩, q⟩ := h
    refine ⟨_, (pss_one (ps_ret (pe_cmpR op_ge (pe_dget2 (hu_of hr) ((pe_callTy (cr_dictTP rfl) (by rfl) T.dict_ (by decide +kernel) (pa_cons (pv 0) pa_nil))) ((pe_ix ix_tup (pv 1) (pe_int) (fun _ _ => rfl))) (pe_int) ⟨by rfl, by rfl, by rfl, by rfl⟩) (pe_ix ix_tup (pv 1) (pe_int) (fun _ _ => rfl)) (nomark _)))), ?_⟩
    refine ⟨_, rfl, a, ps, cntV cs, rfl, ha, L2.Paired.mapP hp (fun p kv z => SqT.of z), fun d nd2 => ?_⟩
    rw [merge_cnt nd]
    have hb2 : upd H d (HO.dK (cntV cs)) b = some (.tup (idT i)) := by rw [upd_ne (ne_of_none hb nd2)]; exact hb
    refine ⟨d, rfl, .inl ⟨_, .of upd_same⟩, _, rfl, _, _, _, _, rfl, rfl, SqT.of hb2, idat1 i, _, DGet.k (k := Sum.inr i.2) upd_same, ?_⟩
    refine ⟨_, rfl, _, _, _, _, rfl, rfl, SqT.of hb2, idat0 i, ?_⟩
    rw [valV_cnt]
    refine ⟨_, _, rfl, rfl, ?_⟩
    show Q (.bl (decide (((cnt cs i.2 : Nat) : Int) ≥ ((i.1 : Nat) : Int)))) _
    have e : decide (((cnt cs i.2 : Nat) : Int) ≥ ((i.1 : Nat) : Int)) = hasSeen cs i := decide_eq_decide.mpr (by constructor <;> intro h <;> omega)
    rw [e]
    exact q _ (Gw.refl.new nd2)
def spNeeds : Sp := fun vs H Q _ => ∃ (v : V) (o : Op), vs = [v] ∧ OpAt H v o ∧ ∀ H' p us, Gw D0 H H' → H' p = some (.lst us) → All2 (IdAt H') us (needs o) → Q (.ref p) H'
theorem scNeeds : FnScope ["operation"] ["operation"] (defScope (top 33)) := ⟨rfl, rfl, rfl, by decide +kernel, rfl, by decide +kernel, by decide +kernel⟩
theorem ok_needs (D : Df K mg "needs_of" (top 33) ["operation"]) : Fn P w K mg base 1 "needs_of" ["operation"] spNeeds := by
  refine D.ok scNeeds (fun vs H Q E h => ?_) (fun cdv f A outer s H vs Q E hr h => ?_)
  · obtain ⟨v, o, rfl, _⟩ := h
    rfl
  · obtain ⟨v, o, rfl, ⟨a, vi, vr, rfl, ha, hi, hrf⟩, q⟩ := h
    refine ⟨_, (pss_one (ps_ret (pe_ifExp (pt_cmpR op_isN (pe_ix ix_tup (pv 0) (pe_int) (fun _ _ => rfl)) pe_non (nomark _)) (pe_lst pa_nil) (pe_lst (pa_cons ((pe_ix ix_tup (pv 0) (pe_int) (fun _ _ => rfl))) pa_nil))))), ?_⟩
    refine ⟨_, rfl, _, _, _, _, rfl, rfl, SqT.of ha, at3 o vi vr, rfl, _, rfl, ?_⟩
    unfold needs at q
    cases hr2 : o.ref with
    | none =>
      rw [hr2] at hrf q
      have z : vr = .non := hrf
      subst z
      exact iteT ⟨Nat.zero_le _, fun p np => q _ p [] (Gw.refl.new np) upd_same .nil⟩
    | some r =>
      rw [hr2] at hrf q
      obtain ⟨b, e2, h2⟩ := hrf
      subst e2
      refine iteF ⟨_, rfl, _, _, _, _, rfl, rfl, SqT.of ha, at3 o vi _, by rw [sizeLine_eq]; show 1 ≤ _; omega, fun p np => q _ p _ (Gw.refl.new np) upd_same (.one ⟨b, rfl, ?_⟩)⟩
      rw [upd_ne (ne_of_none h2 np)]
      exact h2
def spReady (t : Tbs) : Sp := fun vs H Q _ => ∃ (v u : V) (cs : Cnt) (o : Op), vs = [v, u] ∧ SeenAt H v cs ∧ OpAt H u o ∧ Tb t H ∧ ∀ H', Gw D0 H H' → Q (.bl (ready cs o)) H'
theorem scReady : FnScope ["seen", "operation", "count", "site"] ["seen", "operation"] (defScope (top 35)) := ⟨rfl, rfl, rfl, by decide +kernel, rfl, by decide +kernel, by decide +kernel⟩
theorem all_split {α : Type} (f : α → Bool) (l : List α) (h : ∀ (i : Nat) (x : α), l[i]? = some x → f x = true) : l.all f = true := by
  rw [List.all_eq_true]
  intro x hx
  obtain ⟨i, hi⟩ := List.mem_iff_getElem?.mp hx
  exact h i x hi
theorem all_no {α : Type} (f : α → Bool) (l : List α) {i : Nat} {x : α} (h : l[i]? = some x) (hf : f x = false) : l.all f = false := by
  rw [List.all_eq_false]
  exact ⟨x, List.mem_of_getElem? h, by rw [hf]; exact Bool.false_ne_true⟩
theorem ok_ready {t : Tbs} (D : DfT K mg base "is_ready" (top 35) ["seen", "operation"] t.r) (T : Bi mg) (fH : Fn P w K mg base 1 "has_seen" ["seen", "own"] spHasSeen) (fN : Fn P w K mg base 1 "needs_of" ["operation"] spNeeds) :
    Fn P w K mg base 3 "is_ready" ["seen", "operation"] (spReady t) := by
  refine D.ok scReady (fun vs H Q E h => ?_) (fun c f A outer s H vs Q E TB hr h => ?_)
  · obtain ⟨v, u, cs, i, rfl, _⟩ := h
    rfl
  · obtain ⟨v, u, cs, o, rfl, hs, ho, tb, q⟩ := h
    have ho' := ho
    have hs' := hs
    obtain ⟨a, ps, rfl, ha, hp, nd⟩ := hs
    obtain ⟨b, vi, vr, rfl, hb, ⟨ai, rfl, hi⟩, hrf⟩ := ho
    refine ⟨_, (pss_cons (ps_asg (pe_ix ix_tup (pv 1) (pe_int) (fun _ _ => rfl)) (pg_tup (by rfl) (pgs_cons (pg_name (i := 2) scReady.nd rfl (Or.inl rfl)) (pgs_cons (pg_name (i := 3) scReady.nd rfl (Or.inl rfl)) pgs_nil))))
      (pss_cons (ps_if (PW.pt (pw_or (pt_cmpR op_ne (pe_dget2 (hu_of hr) ((pe_callTy (cr_dictTP rfl) (by rfl) T.dict_ (by decide +kernel) (pa_cons (pv 0) pa_nil))) (pv 3) (pe_int) ⟨by rfl, by rfl, by rfl, by rfl⟩) (pe_ix ix_tup (pv 1) (pe_int) (fun _ _ => rfl)) (nomark _)) (pw_or1 (pt_cmpR op_ge (pe_ix ix_tup (pv 1) (pe_int) (fun _ _ => rfl)) (pv 2) (nomark _))))) (pss_one (ps_ret pe_bl)) pss_nil)
      (pss_one (ps_ret (pe_allG (x := "need") (fr := ["seen"]) (js := [0]) hr (by rfl) T.all_ TB rfl (gxs_by (by decide +kernel)) (caps_by (x := "need") (sc := defScope (top 35)) (gxs_by (by decide +kernel)) rfl (by decide +kernel) rfl) (pi_list (pe_fn fN (by first | exact hr | exact hr.mono (by decide) | exact room_gx hr hA | exact (room_gx hr hA).mono (by decide)) (pa_cons (pv 1) pa_nil)))
        (fun r hA => (pe_fn fH (by first | exact hr | exact hr.mono (by decide) | exact room_gx hr hA | exact (room_gx hr hA).mono (by decide)) (pa_cons (pv 1) (pa_cons (pv 0) pa_nil))))))))), ?_⟩
    refine ⟨_, rfl, _, _, _, _, rfl, rfl, SqT.of hb, at1 o _ _, ai, _, rfl, SqT.of hi, rfl, _, _, rfl, _, _, rfl, rfl, ?_⟩
    refine ⟨_, rfl, a, ps, cntV cs, rfl, ha, L2.Paired.mapP hp (fun p kv z => SqT.of z), fun d nd2 => ?_⟩
    rw [merge_cnt nd]
    have g1 : Gw D0 H (upd H d (HO.dK (cntV cs))) := Gw.refl.new nd2
    have hb1 := g1.tup _ _ hb
    refine ⟨d, rfl, .inl ⟨_, .of upd_same⟩, _, rfl, _, DGet.k (k := Sum.inr o.id.2) upd_same, ?_⟩
    rw [valV_cnt]
    refine ⟨_, rfl, _, _, _, _, rfl, rfl, SqT.of hb1, at2 o _ _, rfl, _, rfl, ?_⟩
    by_cases c1 : cnt cs o.id.2 = o.prev
    · have n1 : (!decide (V.int ((cnt cs o.id.2 : Nat) : Int) = V.int ((o.prev : Nat) : Int))) = false := by rw [c1, decide_eq_true rfl]; rfl
      rw [n1]
      refine iteF ⟨_, rfl, _, _, _, _, rfl, rfl, SqT.of hb1, at2 o _ _, _, rfl, _, _, rfl, rfl, _, rfl, ?_⟩
      by_cases c2 : o.prev < o.id.1
      · rw [decide_eq_false (show ¬ ((o.prev : Nat) : Int) ≥ ((o.id.1 : Nat) : Int) by omega)]
        refine iteF ⟨_, rfl, _, o, rfl, ho'.gw g1, fun H2 p us g2 hp2 hu => ?_⟩
        have g12 := g1.trans g2
        have qe : ready cs o = (needs o).all (hasSeen cs) := by unfold ready; rw [decide_eq_true c1, decide_eq_true c2]; rfl
        rw [qe] at q
        have tb2 := tb.gw g12
        refine ⟨p, rfl, ⟨us, SqL.of hp2⟩, tb2.r, fun H3 h3 => gx_it (walk_list (xs := us)) (fun i H' => Gw D0 H2 H' ∧ ∀ j x, j < i → (needs o)[j]? = some x → hasSeen cs x = true) ⟨Gw.refl.tbl h3 tb2.r, fun j x hj => absurd hj (Nat.not_lt_zero _)⟩ (fun i H' _ g => SqL.of (g.1.oth _ _ hp2 (fun _ z => by cases z) (fun z => z))) ?_ fun H4 g4 => ?_⟩
        · rintro i y H4 H4' N hi4 ⟨g4, pf⟩ ⟨rfl, hy⟩ hN
          obtain ⟨x, hx, hxa⟩ := hu.get hy
          refine ⟨_, rfl, _, rfl, _, y, cs, x, rfl, (hs'.gw g12).gw g4, hxa.gw g4, fun H5 g5 => ⟨_, rfl, ?_⟩⟩
          cases hsx : hasSeen cs x with
          | true =>
            refine iteTF (hN _ ⟨g4.trans g5, fun j z hj hz => ?_⟩)
            by_cases e : j = i
            · subst e
              rw [hx] at hz
              cases hz
              exact hsx
            · exact pf j z (by omega) hz
          | false =>
            refine iteFF ?_
            rw [all_no _ _ hx hsx] at q
            exact q _ (g12.trans (g4.trans g5))
        · rw [all_split _ _ (fun i x hx => g4.2 i x (by rw [hu.len]; exact (List.getElem?_eq_some_iff.mp hx).1) hx)] at q
          exact q _ (g12.trans g4.1)
      · rw [decide_eq_true (show ((o.prev : Nat) : Int) ≥ ((o.id.1 : Nat) : Int) by omega)]
        have qe : ready cs o = false := by unfold ready; rw [decide_eq_false c2]; simp
        rw [qe] at q
        exact iteT (q _ g1)
    · have n1 : (!decide (V.int ((cnt cs o.id.2 : Nat) : Int) = V.int ((o.prev : Nat) : Int))) = true := by
        rw [decide_eq_false (fun z => c1 (by have := V.int.inj z; omega))]; rfl
      rw [n1]
      have qe : ready cs o = false := by unfold ready; rw [decide_eq_false c1]; rfl
      rw [qe] at q
      exact iteT (q _ g1)
end
end K80
namespace K80
open PySem PySem.Spec PyProof.Rows L2 Gx GxR NdefX
section
variable {X : Cx}
/-- d.pop(k), k a tuple that is there -/
def rPop1T : V → List V → Hp → VK → Prop := fun x xs H Q => ∃ (a : Addr) (kvs : List (List L2.Key × V)) (k : List L2.Key) (b : Addr) (v : V), x = .ref a ∧ xs = [.ref b] ∧ H a = some (.dT kvs) ∧ H b = some (.tup (k.map kV)) ∧ valV kvs k = some v ∧ Q v (upd H a (.dT (dropK kvs k)))
theorem mt_pop1T (hu : X.A.units + 1 < cLine) : MtR X "dict.pop" rPop1T := by
  intro pins s σ H x xs v us Q I rx rxs h
  obtain ⟨a, kvs, k, b, v0, rfl, rfl, ha, hb, hv, q⟩ := h
  obtain ⟨u1, rfl, r1⟩ := vals1 rxs
  cases rx
  cases r1
  obtain ⟨z, hd, ys, rel, dd⟩ := dt_of I.hok ha
  have r := rel.val k
  rw [hv] at r
  cases hp : atKey ys k with
  | none =>
    rw [hp] at r
    exact (show False from r).elim
  | some p =>
    rw [hp] at r
    have rv : RelV v0 p.2 := r
    refine call_pop_heap (knd := tupleKind (mixKind X.prog X.w)) (k := k) (more := []) (.inl rfl) (PySem.F.args_dict_pop_2 _ _) (tupleKind_room_in1 hu) (key_of I.hok hb) hd dd hp (fun h' dd' hs => ?_) (by rw [← Paired.length rel]; exact z)
    obtain ⟨o, es, ep, hq, h2, h3, h4, _, h5⟩ := dd'
    exact ⟨v0, upd H a (.dT (dropK kvs k)), d_write I (by rw [ha]; exact True.intro) hs ⟨o, hq⟩
      ⟨Nat.le_trans (dropK_le kvs k) z, hd, _, (DX.KT_drop k rel).keeps (fun c zs ec => by rw [upd_ne (ne_of ec ha (fun z => nomatch z))]; exact ec), o, es, ep, hq, h2, h3, h4, h5⟩, rv, q⟩
end
/-! ### for k, v in d.items(), the keys tuples; d is locked -/
section
variable {X : Cx} {pins : List (Addr × Obj)} {σ : L2.St} {H : Hp} {s : Shared} {d : Addr} {o : Obj} {kvs : List (List L2.Key × V)}
theorem frz_rows (I : Inv X pins σ H s) (h : H d = some (.frz o (.dT kvs))) : (d == sysModules) = false ∧ ∃ (es : Array DictEntry) (ep : Nat), o.data = .dict es ep ∧ DT.Raw s.heap d es ep ∧ es.size = kvs.length ∧
    ∀ (i : Nat) (k : List L2.Key) (v : V), kvs[i]? = some (k, v) → ∃ (en : DictEntry) (q : Addr), es[i]? = some en ∧ en.key = .ref q ∧ H q = some (.tup (k.map kV)) ∧ RelV v en.val := by
  obtain ⟨hd, z, hs, ys, pr, o', es, ep, ho, hx, hdt, he, _⟩ := I.hok d _ h
  obtain rfl : o = o' := Option.some.inj (hd.symm.trans ho)
  have l1 : es.size = ys.length := size_of_entries he
  have l2 : kvs.length = ys.length := Paired.length pr
  refine ⟨hs, es, ep, hdt, ⟨o, ho, hx, hdt⟩, l1.trans l2.symm, fun i k v e => ?_⟩
  obtain ⟨y, hy, e1, e2, e3⟩ := L2.paired_get pr e
  have q := entry_at he i
  rw [hy] at q
  exact ⟨_, y.2.1, q, rfl, e2, e3⟩
end
/-- the pairs of a locked dict with tuple keys, each a new tuple of the key's own tuple and the value -/
def ItPr (d : Addr) (o : Obj) (kvs : List (List L2.Key × V)) : It :=
  ⟨fun i H => H d = some (.frz o (.dT kvs)) ∧ i < kvs.length, fun i H x H' => ∃ T k v q, kvs[i]? = some (k, v) ∧ x = .ref T ∧ H q = some (.tup (k.map kV)) ∧ H T = none ∧ H' = upd H T (.tup [.ref q, v]), fun i H => H d = some (.frz o (.dT kvs)) ∧ kvs.length ≤ i⟩
section
variable {P : Program} {w : World} {K : PySem.W.Frag} {d : Addr} {o : Obj} {es : Array DictEntry} {ep : Nat}
theorem turn_pr {kvs : List (List L2.Key × V)} {elts : List Expr} {kk : Nat} {tpos : Pos} (it : Addr) (hod : o.data = .dict es ep) :
    Turn P w K (.Tuple elts kk tpos) (ItPr d o kvs) [it] it (fun i h => ∃ ok ov, IsItemIter h it d i kvs.length ep ok ov) := by
  have one : ∀ {b : Addr}, b ∈ [it] → b = it := fun hb => List.mem_singleton.mp hb
  refine ⟨List.mem_singleton.mpr rfl, fun i h st b hb => ?_, fun i h h' ⟨ok, ov, e⟩ k => ⟨ok, ov, k it (List.mem_singleton.mpr rfl) _ e⟩, ?_, ?_, fun A i s Q E st h => let ⟨_, _, e⟩ := st; PySem.W.kcp_self e h⟩
  · obtain ⟨ok, ov, e⟩ := st
    rw [one hb]
    exact ⟨_, e, fun v z => nomatch z⟩
  · intro X hP hw hK hc i pins s σ H E I hf st hg
    subst hP hw hK
    obtain ⟨hs, es', ep', hdt, raw, hsz, ent⟩ := frz_rows I hg.1
    obtain ⟨rfl, rfl⟩ := L2.dict_ep hod hdt
    obtain ⟨⟨k, v⟩, hkv⟩ : ∃ p, kvs[i]? = some p := ⟨kvs[i]'hg.2, List.getElem?_eq_getElem hg.2⟩
    obtain ⟨en, q, hen, hkey, hq, rv⟩ := ent i k v hkv
    obtain ⟨ok, ov, he⟩ := st
    rw [← hsz] at he
    have hlt : it < s.heap.objs.size := Heap.lt_size he
    obtain ⟨hi', ei⟩ := Array.getElem?_eq_some_iff.mp hen
    refine DT.nextI he raw hi' fun h' ho hT hz hk => ?_
    rw [ei] at ho hT
    refine ⟨_, rfl, wpAny_letOwnedTupleGo_items (s := { s with heap := h' }) ho fun h2 he' sb => ?_⟩
    have hT2 : h2.get? s.heap.objs.size = some { cls := .type "tuple", data := .seq #[en.key, en.val] } := (sb.2 _ (Nat.ne_of_gt hlt)).trans hT
    have new : ObjOk X.prog X.w (upd H s.heap.objs.size (.tup [.ref q, v])) h2 s.heap.objs.size (.tup [.ref q, v]) :=
      ⟨by show 2 ≤ sizeLine; decide, [en.key, en.val], .cons (by rw [hkey]; rfl) (.cons rv .nil), ⟨_, hT2, rfl, _, rfl⟩⟩
    have I1 : Inv X pins σ (upd H s.heap.objs.size (.tup [.ref q, v])) { s with heap := h2 } :=
      I.turnedNew (t' := s.toks) (ch := [it]) (fun b ob hb e => (sb.2 b fun z => hb (List.mem_singleton.mpr z)).trans (hk b ob (fun z => hb (List.mem_singleton.mpr z)) e)) hf (Nat.le_refl _) new
    refine ⟨.ref s.heap.objs.size, _, I1, rfl, ⟨_, k, v, q, hkv, rfl, hq, I.hok.fresh (Nat.le_refl _), rfl⟩, ⟨en.key, en.val, ?_⟩, fun b hb => ?_⟩
    · rw [← hsz]; exact he'
    · rw [one hb, upd_ne (Nat.ne_of_lt hlt)]
      exact (hf it (List.mem_singleton.mpr rfl)).1
  · intro X hP hw hK hc i pins s σ H E I hf st hg
    subst hP hw hK
    obtain ⟨f0, f1, f2, f3, f4, f5⟩ := hf it (List.mem_singleton.mpr rfl)
    obtain ⟨hs, es', ep', hdt, raw, hsz, ent⟩ := frz_rows I hg.1
    obtain ⟨rfl, rfl⟩ := L2.dict_ep hod hdt
    obtain ⟨ok, ov, he⟩ := st
    rw [← hsz] at he
    exact DT.endI (I.ok.hd hc) he raw (by rw [hsz]; exact hg.2) fun h' eb => ⟨rfl, I.turned (t' := s.toks) (fun b ob hb e => eb b ob hb e) f0 f1 f3 f4 f5⟩
end
def iItemsT (td : TE) : TI := fun σ H R => td σ H fun x H1 => ∃ d o kvs, x = .ref d ∧ H1 d = some (.frz o (.dT kvs)) ∧ R (ItPr d o kvs) H1
theorem walk_pr {d : Addr} {o : Obj} {kvs : List (List L2.Key × V)} : Walk (ItPr d o kvs) kvs.length (fun H => H d = some (.frz o (.dT kvs)))
    (fun i H x H' => ∃ T k v q, kvs[i]? = some (k, v) ∧ x = .ref T ∧ H q = some (.tup (k.map kV)) ∧ H T = none ∧ H' = upd H T (.tup [.ref q, v])) :=
  ⟨fun _ _ hi q => ⟨q, hi⟩, fun _ q => ⟨q, Nat.le_refl _⟩, fun _ _ _ _ _ _ y => y⟩
section
variable {X : Cx}
theorem pi_itemsT {e : Expr} {td : TE} {apos cpos : Pos} {elts : List Expr} {kk : Nat} {tpos : Pos} (he : PE X e td) (hbase : attributeBase e "items" X.env (eval e X.env) = eval e X.env := by rfl) (hline : (apos.endLine == cpos.line) = true := by rfl) :
    PI X (.Tuple elts kk tpos) (.Call (.Attribute e "items" apos) [] [] cpos) (iItemsT td) := by
  refine ⟨fun pins s σ H R I h => ?_⟩
  refine wpAny_Call_method (T := "dict") (id := "dict.items") hbase rfl hline PySem.F.plainAttrs_dict PySem.F.slot_dict_items PySem.F.type_dict_items (thn (he.run pins s σ H _ I h) fun u s1 ⟨x, H1, I1, rx, d, o, kvs, ex, hd, q⟩ => ?_)
  subst ex
  obtain rfl : u = Value.ref d := rx
  obtain ⟨hs, es, ep, hdt, raw, hsz, ent⟩ := frz_rows I1 hd
  refine ⟨raw.typeIs, fun b hb => ?_, ?_⟩
  · obtain rfl := Value.ref.inj hb
    obtain ⟨ob, h1, h2, _⟩ := raw
    exact ⟨ob, h1, h2.2.1⟩
  have I2 : Inv X pins σ H1 { s1 with heap := s1.heap.push { cls := .type "dict_items", data := .fields #[.ref d] } } := I1.kept (t' := s1.toks) fun b ob q => Heap.get?_push_of_some _ q
  have fin : wpAny (model X.prog X.w) X.A (pyIter (.ref s1.heap.objs.size)) (PIE X pins σ (.Tuple elts kk tpos) R) X.xe { s1 with heap := s1.heap.push { cls := .type "dict_items", data := .fields #[.ref d] } } := by
    refine DT.iterI (d := d) ⟨_, Heap.get?_push_size _ rfl, rfl, rfl⟩ (raw.push _) (pi_one (tk := s1.toks) I2 _ (turn_pr _ hdt) ⟨.none, .none, ?_⟩ q)
    rw [← hsz]
    exact Heap.get?_push_size _ rfl
  show wpAny _ _ (callWith cpos (.builtin "dict.items") [.ref d] [] []) _ X.xe s1
  exact method_meetsIn PySem.F.slot_dict_items PySem.F.entry_dict_items rfl (PySem.evalArgs_none ⟨rfl, raw.typeIs, PySem.F.args_dict_items_1 _, _, DT.meetsItems (es := es) (ep := ep) hs, ⟨raw, fin⟩⟩)
end
end K80
namespace K80
open PySem PySem.Spec PyProof.Rows L2 Gx GxR NdefX
/-! A dict comprehension whose keys are tuples. -/
theorem d_setT {X : Cx} {pins : List (Addr × Obj)} {σ : L2.St} {H : Hp} {s : Shared} {E : Value → Shared → Prop} {D b : Addr} {kvs : List (List L2.Key × V)} {k : List L2.Key} {v : V} {r : Value} {Q : Unit → Shared → Prop} (hu : X.A.units < cLine) (I : Inv X pins σ H s) (hD : H D = some (.dT kvs)) (hz : kvs.length < sizeLine)
    (eb : H b = some (.tup (k.map kV))) (rv : RelV v r) (h : ∀ s', Inv X pins σ (upd H D (.dT (putK kvs k v))) s' → Q () s') : wpAny (model X.prog X.w) X.A (dictSet D (.ref b) r) Q E s := by
  obtain ⟨z, hd, ys, rel, dd⟩ := dt_of I.hok hD
  refine wpAny_dictSet_heap (knd := tupleKind (mixKind X.prog X.w)) (hsz := by rw [← Paired.length rel]; exact z) hu (key_of I.hok eb) dd fun h' ⟨o, es, ep, hq, h2, h3, h4, _, h5⟩ hs => h _ ?_
  refine d_write I (by rw [hD]; exact True.intro) hs ⟨o, hq⟩ ⟨by have := length_putK kvs k v; omega, hd, _, (rel.put k eb rv).keeps fun c zs ec => ?_, o, es, ep, hq, h2, h3, h4, h5⟩
  rw [upd_ne (ne_of ec hD (fun z => nomatch z))]
  exact ec
section
variable {X : Cx}
def tDcT (wi : TI) (g : TG) (tt : TT) (tk tv : TE) (vs : List Nat) : TE := fun σ H Q => wi σ H fun J H1 => ∀ D, H1 D = none → ∃ W : Nat → Nat → Hp → Prop, (∃ m, W 0 m (upd H1 D (.dT []))) ∧ ∀ i m H, W i m H →
  (J.stop i H ∧ Q (.ref D) H) ∨ (J.go i H ∧ ∃ N : Hp → Prop, (∀ H', N H' → ∃ m', m' < m ∧ W (i + 1) m' H') ∧ ∀ x H', J.yld i H x H' → g x (wipe σ vs) H' fun σ2 H2 => wipe σ2 vs = wipe σ vs ∧ tt σ2 H2 fun b H3 =>
    if b = true then tk σ2 H3 fun y H4 => tv σ2 H4 fun z H5 => ∃ kvs k q, y = .ref q ∧ H5 q = some (.tup (k.map kV)) ∧ H5 D = some (.dT kvs) ∧ kvs.length < sizeLine ∧ N (upd H5 D (.dT (putK kvs k z))) else N H3)
theorem pe_dcT {kx vx tg iter : Expr} {ifs : List Expr} {scope : Scope} {own : List (Str × Nat)} {pos : Pos} {wi : TI} {g : TG} {tt : TT} {tk tv : TE} (hu : X.A.units < cLine) (hc : X.calm = true) (hN : X.N.Nodup) (hi : PI X tg iter wi) (ok : BlkOk X.N X.env.scope scope own)
    (hg : ∀ (s : Shared) (H : Hp) (C : Addr) (cl : List (Str × Addr)) (fp : List Addr), PG (X.blk s H scope (compEnvC scope cl C X.env) fp) tg g) (ht : ∀ (s : Shared) (H : Hp) (C : Addr) (cl : List (Str × Addr)) (fp : List Addr), PTs (X.blk s H scope (compEnvC scope cl C X.env) fp) ifs tt)
    (hk : ∀ (s : Shared) (H : Hp) (C : Addr) (cl : List (Str × Addr)) (fp : List Addr), PE (X.blk s H scope (compEnvC scope cl C X.env) fp) kx tk)
    (he : ∀ (s : Shared) (H : Hp) (C : Addr) (cl : List (Str × Addr)) (fp : List Addr), PE (X.blk s H scope (compEnvC scope cl C X.env) fp) vx tv) (hs : ∀ x, foldedSetIterable iter X.env x = pure x := by intro _; rfl) :
    PE X (.DictComp kx vx [⟨tg, iter, ifs, 0⟩] scope pos) (tDcT wi g tt tk tv (own.map (·.2))) := by
  refine ⟨fun pins s σ H Q I h => ?_⟩
  rw [arm_eval_DictComp]
  have free : ∀ y ∈ scope.names, y.2 = .free → ∃ c, X.env.cells.lookup y.1 = some c := fun y hy e => (ok.free y hy e).elim (fun z => I.ok.has _ (.inl z)) fun z => I.ok.has _ (.inr z)
  refine wpAny_comprehension_free rfl hs (closure_ok free) ok.kind (fun y hy e => by rw [ok.uniq y hy, e]) (thn (hi.run pins s σ H _ I h) fun xv s1 hx => thn hx fun itv s2 ⟨it, fp, tn, J, H2, ei, I2, T, st2, f2, q⟩ => ?_)
  subst ei
  refine wpAny_newObj_type (newEnv_comp ?_)
  generalize hD : s2.heap.objs.size = D
  obtain ⟨W, ⟨m0, w0⟩, turn⟩ := q D (I2.hok.fresh (Nat.le_of_eq hD))
  generalize e3 : ({ s2 with heap := s2.heap.push { cls := .type "dict", data := .dict #[] } } : Shared) = s3
  have I3 : Inv X pins σ (upd H2 D (.dT [])) s3 := by
    rw [← e3]
    refine I2.laid (t' := s2.toks) (fun b o e => Heap.get?_push_of_some _ e) (Nat.le_of_eq hD) ?_
    rw [← hD]
    exact ⟨Nat.zero_le _, beq_eq_false_iff_ne.mpr (Nat.ne_of_gt I2.big), [], .nil, _, #[], 0, Heap.get?_push_size _ rfl, ⟨rfl, rfl, rfl⟩, rfl, rfl, List.nodup_nil⟩
  have h3 : s3.heap = s2.heap.push { cls := .type "dict", data := .dict #[] } := by rw [← e3]
  have f3 : ∀ b ∈ fp, FpOk X pins (upd H2 D (.dT [])) b ∧ b < s3.heap.objs.size := fun b hb => by
    obtain ⟨o, eo, _⟩ := T.obj _ _ st2 b hb
    have hlt := Heap.lt_size eo
    exact ⟨⟨by rw [upd_ne (by rw [← hD]; exact Nat.ne_of_lt hlt)]; exact (f2 b hb).1, (f2 b hb).2⟩, by rw [h3, Heap.size_push]; exact Nat.lt_succ_of_lt hlt⟩
  have I4 := block_start I3 ok hN f3
  show codeAny _ _ (.compStart (.DictComp kx vx [⟨tg, iter, ifs, 0⟩] scope pos) 0 (.ref it) (.ref D) (compEnvC scope (cellsFrom (s3.heap.objs.size + 1) scope.names (cloFrom X.env.cells scope.names [])) s3.heap.objs.size X.env)) _ { s3 with heap := pushCells (s3.heap.push { cls := .type "dict", data := .dict #[] }) scope.names }
  generalize ecl : cellsFrom (s3.heap.objs.size + 1) scope.names (cloFrom X.env.cells scope.names []) = cl at I4 ⊢
  have pg := hg s3 (upd H2 D (.dT [])) s3.heap.objs.size cl fp
  have pt := ht s3 (upd H2 D (.dT [])) s3.heap.objs.size cl fp
  have pk := hk s3 (upd H2 D (.dT [])) s3.heap.objs.size cl fp
  have pe := he s3 (upd H2 D (.dT [])) s3.heap.objs.size cl fp
  have nfp : ∀ b ∈ fp, (upd H2 D (.dT [])) b = none := fun b hb => (f3 b hb).1.1
  have cL : (compEnvC scope cl s3.heap.objs.size X.env).locals = s3.heap.objs.size := rfl
  generalize hce : compEnvC scope cl s3.heap.objs.size X.env = ce at I4 pg pt pk pe cL ⊢
  generalize hH3 : upd H2 D (.dT []) = H3 at I3 I4 pg pt pk pe w0 nfp f3
  generalize e4 : ({ s3 with heap := pushCells (s3.heap.push { cls := .type "dict", data := .dict #[] }) scope.names } : Shared) = s4 at I4 ⊢
  have st4 : tn 0 s4.heap := T.keep _ _ _ st2 fun b _ o e => by
    rw [← e4]
    refine pushCells_keeps _ _ _ _ (Heap.get?_push_of_some _ ?_)
    rw [h3]
    exact Heap.get?_push_of_some _ e
  have stat : ∀ {σ' : L2.St} {H' : Hp} {s' : Shared}, Inv (X.blk s3 H3 scope ce fp) [] σ' H' s' → (∀ b ∈ fp, H' b = none) → ∀ b ∈ fp, FpOk (X.blk s3 H3 scope ce fp) [] H' b := fun {σ' H' s'} I' hn b hb =>
    ⟨hn b hb, (I'.ok.exf b hb).1, I'.ok.exfs b hb, .inl hb, fun x c e => (I'.ok.exf b hb).2 x c e, fun p hp => absurd (show p ∈ ([] : List (Addr × Obj)) ++ [] from hp) (by simp)⟩
  refine codeAny_compStart_dict ?_ (T.self X.A 0 _ _ _ st4 ?_)
  all_goals
    refine compLoop_anyD (fun n s' => ∃ i H', Inv (X.blk s3 H3 scope ce fp) [] (wipe σ (own.map (·.2))) H' s' ∧ tn i s'.heap ∧ (∀ b ∈ fp, H' b = none) ∧ W i n H') ?_ m0 ⟨0, H3, I4, st4, nfp, w0⟩
    rintro n s5 ⟨i, H5, I5, st5, n5, w5⟩
    rcases turn i n H5 w5 with ⟨stop, qq⟩ | ⟨go, N, hN2, step⟩
    · refine thnF (T.done (X.blk s3 H3 scope ce fp) rfl rfl rfl hc i [] s5 _ H5 (fun _ _ => False) I5 (stat I5 n5) st5 stop) fun r s6 ⟨hr, I6⟩ => ?_
      subst hr
      have I7 : Inv X pins σ H5 s6 := I3.call' (ch := fp) I6.os I6.base I6.hok I6.bare fun b hb => ⟨(f3 b hb).1.2.2.2.1, (f3 b hb).1.2.1, (f3 b hb).1.2.2.2.2.1, (f3 b hb).1.2.2.2.2.2⟩
      have nC : H5 s3.heap.objs.size = none := by rw [← cL]; exact I6.free
      obtain ⟨m, hn, _⟩ := I6.loc
      have hn : s6.heap.Ns ce.locals m := hn
      rw [cL] at hn
      obtain ⟨k0, k1, k2, k3, k4, k5⟩ := I3.fpOk (Nat.le_refl _) nC
      exact ⟨m, hn, fun h2 sb => ⟨.ref D, H5, I7.turned (t' := s6.toks) (fun b o hb e => (sb.2 b hb).trans e) k0 k1 k3 k4 k5, rfl, qq⟩⟩
    · refine thnF (T.item (X.blk s3 H3 scope ce fp) rfl rfl rfl hc i [] s5 _ H5 (fun _ _ => False) I5 (stat I5 n5) st5 go) fun r s6 ⟨u, hr, h6⟩ => ?_
      subst hr
      refine thnF h6 fun _ s7 ⟨x, H7, I7, r7, y7, st7, n7⟩ => ?_
      refine thnF (pg.run _ s7 _ H7 x u _ (I7.pinned (stat I7 n7) (T.obj _ _ st7)) r7 (step x H7 y7)) fun _ s8 ⟨σ8, H8, I8, hw8, q8⟩ => ?_
      refine thnF (pt.run _ s8 σ8 H8 _ I8 q8) fun b s9 ⟨H9, I9, q9⟩ => ?_
      have fin : ∀ {s' : Shared} {H' : Hp}, Inv (X.blk s3 H3 scope ce fp) ([] ++ pinsAt fp s7.heap) σ8 H' s' → N H' → ∃ m, m < n ∧ ∃ i H', Inv (X.blk s3 H3 scope ce fp) [] (wipe σ (own.map (·.2))) H' s' ∧ tn i s'.heap ∧ (∀ b ∈ fp, H' b = none) ∧ W i m H' := fun {s' H'} I' nx => by
        obtain ⟨m', hm, w'⟩ := hN2 H' nx
        have pin' : ∀ b ∈ fp, ∀ o, s7.heap.get? b = some o → s'.heap.get? b = some o ∧ H' b = none := fun b hb o e =>
          let z := I'.pin (b, o) (List.mem_append_right _ (List.mem_append_right _ (mem_pinsAt hb e)))
          ⟨z.1, z.2.1⟩
        refine ⟨m', hm, i + 1, H', (I'.unpinned (pins := [])).weak (by rw [← hw8, wipe_length]) (fun j v e => (wipe_some (by rw [hw8]; exact e)).1), T.keep _ _ _ st7 fun b hb o e => (pin' b hb o e).1, fun b hb => ?_, w'⟩
        obtain ⟨o, e, _⟩ := T.obj _ _ st7 b hb
        exact (pin' b hb o e).2
      cases b with
      | false => exact fin I9 q9
      | true =>
        refine thnF (pk.run _ s9 σ8 H9 _ I9 q9) fun z s10 ⟨yk, H10, I10, r10, q10⟩ => ?_
        refine thnF (pe.run _ s10 σ8 H10 _ I10 q10) fun z2 s11 ⟨yv, H11, I11, r11, kvs, k, qa, ek, eq, hD11, hz11, nx⟩ => ?_
        subst ek
        obtain rfl : z = Value.ref qa := r10
        exact d_setT (X := X.blk s3 H3 scope ce fp) hu I11 hD11 hz11 eq r11 fun s12 I12 => fin I12 nx
/-- its reading over whatever is walked -/
theorem dc_it {J : It} {n : Nat} {G : Hp → Prop} {Y : Nat → Hp → V → Hp → Prop} (w : Walk J n G Y) {g : TG} {tt : TT} {tk tv : TE} {vs : List Nat} {σ : L2.St} {H1 : Hp} {D : Addr} {Qd : Hp → Prop} (Pv : Nat → Hp → Prop) (h0 : Pv 0 (upd H1 D (.dT []))) (hG : ∀ i H, i ≤ n → Pv i H → G H)
    (hs : ∀ i x H H', i < n → Pv i H → Y i H x H' → g x (wipe σ vs) H' fun σ2 H2 => wipe σ2 vs = wipe σ vs ∧ tt σ2 H2 fun b H3 =>
      if b = true then tk σ2 H3 fun y H4 => tv σ2 H4 fun z H5 => ∃ kvs k q, y = .ref q ∧ H5 q = some (.tup (k.map kV)) ∧ H5 D = some (.dT kvs) ∧ kvs.length < sizeLine ∧ Pv (i + 1) (upd H5 D (.dT (putK kvs k z))) else Pv (i + 1) H3) (hd : ∀ H, Pv n H → Qd H) :
    ∃ W : Nat → Nat → Hp → Prop, (∃ m, W 0 m (upd H1 D (.dT []))) ∧ ∀ i m H, W i m H →
      (J.stop i H ∧ Qd H) ∨ (J.go i H ∧ ∃ N : Hp → Prop, (∀ H', N H' → ∃ m', m' < m ∧ W (i + 1) m' H') ∧ ∀ x H', J.yld i H x H' → g x (wipe σ vs) H' fun σ2 H2 => wipe σ2 vs = wipe σ vs ∧ tt σ2 H2 fun b H3 =>
        if b = true then tk σ2 H3 fun y H4 => tv σ2 H4 fun z H5 => ∃ kvs k q, y = .ref q ∧ H5 q = some (.tup (k.map kV)) ∧ H5 D = some (.dT kvs) ∧ kvs.length < sizeLine ∧ N (upd H5 D (.dT (putK kvs k z))) else N H3) := by
  refine ⟨fun i m H => m = n - i ∧ i ≤ n ∧ Pv i H, ⟨n, by simp, Nat.zero_le _, h0⟩, ?_⟩
  rintro i m H ⟨rfl, hi, p⟩
  have q := hG i H hi p
  by_cases hlt : i < n
  · exact .inr ⟨w.goes i H hlt q, Pv (i + 1), fun H' p' => ⟨n - (i + 1), by omega, rfl, hlt, p'⟩, fun x H' y => hs i x H H' hlt p (w.yields i H x H' hlt q y)⟩
  · obtain rfl : i = n := by omega
    exact .inl ⟨w.stops H q, hd H p⟩
end
end K80
namespace K80
open PySem PySem.Spec PyProof.Rows L2 Gx GxR NdefX
/-! ### rows kept by an id: the dict's pairs and the mirror's rows -/
theorem All2.uncons {α β : Type} {R : α → β → Prop} {x : α} {xs : List α} {ys : List β} (h : All2 R (x :: xs) ys) : ∃ y ys', ys = y :: ys' ∧ R x y ∧ All2 R xs ys' := by
  cases ys with
  | nil => have := h.len; simp at this
  | cons y ys' =>
    refine ⟨y, ys', rfl, h.at_ 0 x y rfl rfl, by have := h.len; simpa using this, fun i a b e1 e2 => h.at_ (i + 1) a b (by simpa using e1) (by simpa using e2)⟩
theorem All2.nil_inv {α β : Type} {R : α → β → Prop} {ys : List β} (h : All2 R ([] : List α) ys) : ys = [] := List.length_eq_zero_iff.mp h.len.symm
theorem idK_inj {i j : Id} (h : idK i = idK j) : i = j := by
  unfold idK at h
  injection h with h1 h2
  injection h2 with h2 _
  injection h1 with h1
  injection h2 with h2
  exact Prod.ext (by omega) h2
theorem idK_map (i : Id) : (idK i).map kV = idT i := rfl
section
variable {ρ : Type} (key : ρ → Id)
def lkG (rows : List ρ) (i : Id) : Option ρ := rows.find? fun r => decide (key r = i)
def putG (rows : List ρ) (r : ρ) : List ρ := if (rows.any fun x => decide (key x = key r)) = true then rows.map (fun x => if key x = key r then r else x) else rows ++ [r]
def dropG (rows : List ρ) (i : Id) : List ρ := rows.filter fun r => decide (key r ≠ i)
variable (R : V → ρ → Prop)
def Rows (kvs : List (List L2.Key × V)) (rows : List ρ) : Prop := All2 (fun kv r => kv.1 = idK (key r) ∧ R kv.2 r) kvs rows
variable {key R}
theorem Rows.none_ : ∀ {kvs : List (List L2.Key × V)} {rows : List ρ} {i : Id}, Rows key R kvs rows → lkG key rows i = none → valV kvs (idK i) = none
  | [], _, _, _, _ => rfl
  | kv :: kvs, rows, i, h, e => by
    obtain ⟨r, rows', rfl, ⟨h1, h2⟩, t⟩ := All2.uncons h
    unfold lkG at e
    rw [List.find?_cons] at e
    by_cases q : key r = i
    · rw [decide_eq_true q] at e; cases e
    · rw [decide_eq_false q] at e
      rw [valV_neg (fun z => q (idK_inj (h1.symm.trans z)))]
      exact Rows.none_ t e
theorem Rows.some_ : ∀ {kvs : List (List L2.Key × V)} {rows : List ρ} {i : Id} {r : ρ}, Rows key R kvs rows → lkG key rows i = some r → ∃ v, valV kvs (idK i) = some v ∧ R v r
  | [], rows, _, _, h, e => by
    rw [All2.nil_inv h] at e; cases e
  | kv :: kvs, rows, i, r, h, e => by
    obtain ⟨r', rows', rfl, ⟨h1, h2⟩, t⟩ := All2.uncons h
    unfold lkG at e
    rw [List.find?_cons] at e
    by_cases q : key r' = i
    · rw [decide_eq_true q] at e
      cases e
      exact ⟨kv.2, valV_pos (h1.trans (by rw [q])), h2⟩
    · rw [decide_eq_false q] at e
      obtain ⟨v, h3, h4⟩ := Rows.some_ t e
      exact ⟨v, by rw [valV_neg (fun z => q (idK_inj (h1.symm.trans z)))]; exact h3, h4⟩
theorem Rows.any_ : ∀ {kvs : List (List L2.Key × V)} {rows : List ρ} {i : Id}, Rows key R kvs rows → (kvs.any fun kv => decide (kv.1 = idK i)) = rows.any fun r => decide (key r = i)
  | [], rows, _, h => by rw [All2.nil_inv h]; rfl
  | kv :: kvs, rows, i, h => by
    obtain ⟨r', rows', rfl, ⟨h1, h2⟩, t⟩ := All2.uncons h
    rw [List.any_cons, List.any_cons, Rows.any_ t, h1]
    congr 1
    exact decide_eq_decide.mpr ⟨idK_inj, fun z => by rw [z]⟩
theorem Rows.map_ (r : ρ) (v : V) (rv : R v r) : ∀ {kvs : List (List L2.Key × V)} {rows : List ρ}, Rows key R kvs rows → Rows key R (kvs.map fun kv => if kv.1 = idK (key r) then (kv.1, v) else kv) (rows.map fun x => if key x = key r then r else x)
  | [], rows, h => by rw [All2.nil_inv h]; exact All2.nil
  | kv :: kvs, rows, h => by
    obtain ⟨r', rows', rfl, ⟨h1, h2⟩, t⟩ := All2.uncons h
    rw [List.map_cons, List.map_cons]
    refine All2.cons ?_ (Rows.map_ r v rv t)
    by_cases q : key r' = key r
    · rw [if_pos (h1.trans (by rw [q])), if_pos q]
      exact ⟨h1.trans (by rw [q]), rv⟩
    · rw [if_neg (fun z => q (idK_inj (h1.symm.trans z))), if_neg q]
      exact ⟨h1, h2⟩
theorem Rows.put {kvs : List (List L2.Key × V)} {rows : List ρ} {r : ρ} {v : V} (h : Rows key R kvs rows) (rv : R v r) : Rows key R (putK kvs (idK (key r)) v) (putG key rows r) := by
  unfold putK putG
  rw [Rows.any_ h]
  by_cases q : (rows.any fun x => decide (key x = key r)) = true
  · rw [if_pos q, if_pos q]
    exact Rows.map_ r v rv h
  · rw [if_neg q, if_neg q]
    exact All2.snoc h ⟨rfl, rv⟩
theorem Rows.drop : ∀ {kvs : List (List L2.Key × V)} {rows : List ρ} {i : Id}, Rows key R kvs rows → Rows key R (dropK kvs (idK i)) (dropG key rows i)
  | [], rows, _, h => by rw [All2.nil_inv h]; exact All2.nil
  | kv :: kvs, rows, i, h => by
    obtain ⟨r', rows', rfl, ⟨h1, h2⟩, t⟩ := All2.uncons h
    have ih := Rows.drop (i := i) t
    unfold dropK dropG at ih ⊢
    by_cases q : key r' = i
    · rw [List.filter_cons_of_neg (by rw [h1, q]; simp), List.filter_cons_of_neg (by simp [q])]
      exact ih
    · rw [List.filter_cons_of_pos (by simpa using fun z => q (idK_inj (h1.symm.trans z))), List.filter_cons_of_pos (by simpa using q)]
      exact All2.cons ⟨h1, h2⟩ ih
theorem Rows.mono {R' : V → ρ → Prop} {kvs : List (List L2.Key × V)} {rows : List ρ} (h : Rows key R kvs rows) (m : ∀ v r, R v r → R' v r) : Rows key R' kvs rows := All2.mono h fun _ _ z => ⟨z.1, m _ _ z.2⟩
theorem putG_len (rows : List ρ) (r : ρ) : (putG key rows r).length ≤ rows.length + 1 := by
  unfold putG
  split
  · rw [List.length_map]; omega
  · rw [List.length_append, List.length_singleton]; omega
theorem lkG_key {rows : List ρ} {i : Id} {r : ρ} (h : lkG key rows i = some r) : key r = i ∧ r ∈ rows := by
  unfold lkG at h
  exact ⟨by have := List.find?_some h; simpa using this, List.mem_of_find?_eq_some h⟩
end
/-! ### fields of an instance -/
theorem lookup_of {fs : List (Str × V)} (i : Nat) {f : Str} {v : V} (h : fs[i]? = some (f, v)) (nd : (fs.map (·.1)).Nodup) : fs.lookup f = some v := by
  induction fs generalizing i with
  | nil => simp at h
  | cons p fs ih =>
    rw [List.map_cons, List.nodup_cons] at nd
    cases i with
    | zero =>
      cases Option.some.inj h
      rw [List.lookup_cons, beq_self_eq_true]
    | succ i =>
      have h2 : fs[i]? = some (f, v) := by simpa using h
      have ne : (f == p.1) = false := beq_eq_false_iff_ne.mpr fun z => nd.1 (by rw [← z]; exact List.mem_map.mpr ⟨(f, v), List.mem_of_getElem? h2, rfl⟩)
      rw [List.lookup_cons, ne]
      exact ih i h2 nd.2
theorem lookup_no {fs : List (Str × V)} {m : Str} (h : m ∉ fs.map (·.1)) : fs.lookup m = none := by
  induction fs with
  | nil => rfl
  | cons p fs ih =>
    rw [List.map_cons, List.mem_cons] at h
    rw [List.lookup_cons, beq_eq_false_iff_ne.mpr (fun z => h (.inl z))]
    exact ih fun z => h (.inr z)
theorem putF_in {pre post : List (Str × V)} {f : Str} {v u : V} (h : f ∉ pre.map (·.1)) : putF f v (pre ++ (f, u) :: post) = pre ++ (f, v) :: post := by
  induction pre with
  | nil =>
    show (if f = f then _ else _) = _
    rw [if_pos rfl]
    rfl
  | cons p pre ih =>
    rw [List.map_cons, List.mem_cons] at h
    show (if p.1 = f then _ else _) = _
    rw [if_neg (fun z => h (.inl z.symm))]
    show p :: putF f v (pre ++ (f, u) :: post) = _
    rw [ih fun z => h (.inr z)]
    rfl
theorem putF_new {pre : List (Str × V)} {f : Str} {v : V} (h : f ∉ pre.map (·.1)) : putF f v pre = pre ++ [(f, v)] := by
  induction pre with
  | nil => rfl
  | cons p pre ih =>
    rw [List.map_cons, List.mem_cons] at h
    show (if p.1 = f then _ else _) = _
    rw [if_neg (fun z => h (.inl z.symm)), ih fun z => h (.inr z)]
    rfl
end K80
namespace K80
open PySem PySem.Spec PyProof.Rows L2 Gx GxR NdefX
/-! ### ids in order -/
abbrev id2 (i : Id) : Sx.K2 := (.inl (i.1 : Nat), .inr i.2)
theorem id2_inj {i j : Id} (h : id2 i = id2 j) : i = j := by
  injection h with h1 h2
  injection h1 with h1
  injection h2 with h2
  exact Prod.ext (by omega) h2
def ltI (i j : Id) : Bool := Sx.lt2K (id2 i) (id2 j)
def leI (i j : Id) : Bool := !ltI j i
theorem leI_antisymm {i j : Id} (h1 : leI i j = true) (h2 : leI j i = true) : i = j := by
  unfold leI at h1 h2
  rw [Bool.not_eq_true'] at h1 h2
  rcases Sx.lt2K_tri (id2 i) (id2 j) with h | h | h
  · unfold ltI at h2; rw [h] at h2; cases h2
  · exact id2_inj h
  · unfold ltI at h1; rw [h] at h1; cases h1
theorem leI_trans {i j k : Id} (h1 : leI i j = true) (h2 : leI j k = true) : leI i k = true := by
  unfold leI at *
  rw [Bool.not_eq_true'] at *
  cases h : ltI k i with
  | false => rfl
  | true =>
    rcases Sx.lt2K_tri (id2 i) (id2 j) with h3 | h3 | h3
    · have := Sx.lt2K_trans h h3
      unfold ltI at h2; rw [this] at h2; cases h2
    · unfold ltI at h h2; rw [h3] at h; rw [h] at h2; cases h2
    · unfold ltI at h1; rw [h3] at h1; cases h1
theorem leI_total (i j : Id) : (leI i j || leI j i) = true := by
  unfold leI ltI
  cases h : Sx.lt2K (id2 j) (id2 i) with
  | false => rfl
  | true =>
    rw [Sx.lt2K_asym h]
    rfl
def sortI (l : List Id) : List Id := l.mergeSort leI
theorem sortI_perm (l : List Id) : (sortI l).Perm l := List.mergeSort_perm l leI
theorem sortI_up (l : List Id) : (sortI l).Pairwise fun i j => leI i j = true := List.pairwise_mergeSort (le := leI) (fun _ _ _ => leI_trans) leI_total l
theorem up_unique : ∀ {l m : List Id}, l.Pairwise (fun i j => leI i j = true) → m.Pairwise (fun i j => leI i j = true) → l.Perm m → l = m
  | [], m, _, _, p => (List.nil_perm.mp p).symm
  | i :: l, [], _, _, p => by simpa using p.length_eq
  | i :: l, j :: m, h1, h2, p => by
    rw [List.pairwise_cons] at h1 h2
    have e : i = j := by
      have m1 : i ∈ j :: m := p.mem_iff.mp List.mem_cons_self
      have m2 : j ∈ i :: l := p.mem_iff.mpr List.mem_cons_self
      rcases List.mem_cons.mp m1 with q | q
      · exact q
      · rcases List.mem_cons.mp m2 with r | r
        · exact r.symm
        · exact leI_antisymm (h1.1 j r) (h2.1 i q)
    subst e
    rw [up_unique h1.2 h2.2 (List.Perm.cons_inv p)]
theorem sortI_is {l m : List Id} (h : l.Pairwise fun i j => leI i j = true) (p : l.Perm m) : l = sortI m := up_unique h (sortI_up m) (p.trans (sortI_perm m).symm)
theorem sortI_down {l m : List Id} (h : l.Pairwise fun i j => leI j i = true) (p : l.Perm m) : l = (sortI m).reverse := by
  have q := sortI_is (l := l.reverse) (m := m) (List.pairwise_reverse.mpr h) ((List.reverse_perm l).trans p)
  rw [← q, List.reverse_reverse]
/-- the addresses that sorting gives, as ids -/
theorem ids_of {H : Hp} {L : List (Addr × Sx.K2)} {ids : List Id} (hL : Sx.Pairs H L) (p : (L.map (·.2)).Perm (ids.map id2)) :
    ∃ js : List Id, js.Perm ids ∧ L.map (·.2) = js.map id2 ∧ All2 (IdAt H) (L.map fun p => V.ref p.1) js := by
  obtain ⟨js, hj, e⟩ : ∃ js : List Id, js.Perm ids ∧ L.map (·.2) = js.map id2 := by
    have back : ∀ x ∈ L.map (·.2), ∃ i, x = id2 i := fun x hx => by
      obtain ⟨i, _, e⟩ := List.mem_map.mp (p.mem_iff.mp hx)
      exact ⟨i, e.symm⟩
    let f : Sx.K2 → Id := fun x => match x with
      | (.inl n, .inr s) => (n.toNat, s)
      | _ => (0, Str.empty)
    have fi : ∀ i : Id, f (id2 i) = i := fun i => by
      show ((((i.1 : Nat) : Int)).toNat, i.2) = i
      rw [Int.toNat_natCast]
    refine ⟨(L.map (·.2)).map f, ?_, ?_⟩
    · have q := p.map f
      rw [List.map_map (f := id2)] at q
      have e : ids.map (f ∘ id2) = ids := by
        conv => rhs; rw [← List.map_id ids]
        exact List.map_congr_left fun i _ => fi i
      rw [e] at q
      exact q
    · rw [List.map_map (f := f)]
      conv => lhs; rw [← List.map_id (L.map (·.2))]
      refine List.map_congr_left fun x hx => ?_
      obtain ⟨i, rfl⟩ := back x hx
      show id2 i = id2 (f (id2 i))
      rw [fi]
  refine ⟨js, hj, e, by rw [List.length_map, ← List.length_map (f := id2), ← e, List.length_map], fun k v i hv hi => ?_⟩
  rw [List.getElem?_map] at hv
  cases hk : L[k]? with
  | none => rw [hk] at hv; cases hv
  | some q =>
    rw [hk] at hv
    cases Option.some.inj hv
    have e2 : (L.map (·.2))[k]? = (js.map id2)[k]? := by rw [e]
    rw [List.getElem?_map, List.getElem?_map, hk, hi] at e2
    have e3 : q.2 = id2 i := Option.some.inj e2
    have h1 := hL q (List.mem_of_getElem? hk)
    rw [e3] at h1
    exact ⟨q.1, rfl, h1⟩
theorem up_ids {L : List (Addr × Sx.K2)} {js : List Id} (h : Sx.Up L) (e : L.map (·.2) = js.map id2) : js.Pairwise fun i j => leI i j = true := by
  have h2 : (L.map (·.2)).Pairwise fun x y => Sx.lt2K y x = false := List.pairwise_map.mpr h
  rw [e] at h2
  refine List.Pairwise.imp (fun z => ?_) (List.pairwise_map.mp h2)
  unfold leI ltI
  rw [z]
  rfl
theorem down_ids {L : List (Addr × Sx.K2)} {js : List Id} (h : Sx.Down L) (e : L.map (·.2) = js.map id2) : js.Pairwise fun i j => leI j i = true := by
  have h2 : (L.map (·.2)).Pairwise fun x y => Sx.lt2K x y = false := List.pairwise_map.mpr h
  rw [e] at h2
  refine List.Pairwise.imp (fun z => ?_) (List.pairwise_map.mp h2)
  unfold leI ltI
  rw [z]
  rfl
theorem oneKind (ids : List Id) : Sx.OneKind (ids.map id2) := ⟨true, false, fun p hp => by
  obtain ⟨i, _, rfl⟩ := List.mem_map.mp hp
  exact ⟨rfl, rfl⟩⟩
theorem keys_rows {ρ : Type} {key : ρ → Id} {R : V → ρ → Prop} : ∀ {kvs : List (List L2.Key × V)} {rows : List ρ}, Rows key R kvs rows → kvs.map (·.1) = ((rows.map key).map id2).map fun p => [p.1, p.2]
  | [], rows, h => by rw [All2.nil_inv h]; rfl
  | kv :: kvs, rows, h => by
    obtain ⟨r, rows', rfl, ⟨h1, _⟩, t⟩ := All2.uncons h
    rw [List.map_cons, keys_rows t, h1]
    rfl
end K80
namespace K80
open PySem PySem.Spec PyProof.Rows L2 Gx GxR NdefX
/-! ### the ones that wait -/
structure Kl (K : PySem.W.Frag) (mg : Str → Option Value) (C : Addr) (x : Str) (fields : List Str) : Prop where
  cl : Cls K C
  no : ∀ f ∈ fields, NoAttr K C f
  mgC : mg x = some (.ref C)
def wtF (rw : Addr) : List (Str × V) := [("rows", .ref rw)]
theorem wtF_rows (rw : Addr) : (wtF rw).lookup ("rows" : Str) = some (V.ref rw) := lookup_of 0 rfl (by show (["rows"] : List Str).Nodup; decide +kernel)
theorem wtF_no (rw : Addr) {m : Str} (h : m ∉ (["rows"] : List Str)) : (wtF rw).lookup m = none := lookup_no h
/-- at wt the waiting ones ws, their dict at rw -/
structure WtAt (C : Addr) (H : Hp) (wt wd rw : Addr) (ws : List Op) : Prop where
  ins : H wt = some (.ins C wd (wtF rw))
  rows : ∃ kvs, H rw = some (.dT kvs) ∧ Rows Op.id (OpAt H) kvs ws
theorem WtAt.gw {C : Addr} {D : Addr → Prop} {H H' : Hp} {wt wd rw : Addr} {ws : List Op} (h : WtAt C H wt wd rw ws) (g : Gw D H H') (n1 : ¬ D wt) (n2 : ¬ D rw) : WtAt C H' wt wd rw ws :=
  let ⟨kvs, h1, h2⟩ := h.rows
  ⟨g.oth _ _ h.ins (fun _ z => by cases z) n1, kvs, g.oth _ _ h1 (fun _ z => by cases z) n2, h2.mono fun _ _ z => z.gw g⟩
theorem WtAt.ne {C : Addr} {H : Hp} {wt wd rw : Addr} {ws : List Op} (h : WtAt C H wt wd rw ws) : wt ≠ rw := by
  obtain ⟨kvs, h1, _⟩ := h.rows
  exact ne_of h.ins h1 (fun z => by cases z)
def wput (ws : List Op) (o : Op) : List Op := if (lkG Op.id ws o.id).isSome = true then ws else putG Op.id ws o
def nextReady (cs : Cnt) (ws : List Op) : Option Op := ((sortI (ws.map Op.id)).filterMap (lkG Op.id ws)).find? (ready cs)
def forgetW (cs : Cnt) (ws : List Op) : List Op := ws.filter fun o => !hasSeen cs o.id
abbrev sWt (j : Nat) : Stmt := inClass (top 36) j
section
variable {P : Program} {w : World} {K : PySem.W.Frag} {mg : Str → Option Value} {base : Heap}
variable {C : Addr}
def spWtInit (C : Addr) : Sp := fun vs H Q _ => ∃ p dx : Addr, vs = [.ref p] ∧ H p = some (.ins C dx []) ∧ ∀ H' rw, H rw = none → WtAt C H' p dx rw [] → Gw (fun b => b = p) H H' → Q .non H'
theorem scWtInit : FnScope ["self"] ["self"] (defScope (sWt 0)) := ⟨rfl, rfl, rfl, by decide +kernel, rfl, by decide +kernel, by decide +kernel⟩
theorem ok_wtInit (D : Md K C "__init__" "Waiting.__init__" (sWt 0) ["self"]) (L : Kl K mg C "Waiting" ["rows"]) : Mt P w K mg base C 1 "__init__" ["self"] (spWtInit C) := by
  refine D.ok L.cl scWtInit (fun vs H Q E h => ?_) (fun cdv f A outer s H vs Q E hr h => ?_)
  · obtain ⟨p, dx, rfl, _⟩ := h
    rfl
  · obtain ⟨p, dx, rfl, hp, q⟩ := h
    refine ⟨_, (pss_one (ps_fld (pv 0) pe_dnewT rfl)), ?_⟩
    intro d nd
    have npd := ne_of_none hp nd
    refine ⟨_, rfl, p, C, dx, _, rfl, by rw [upd_ne npd]; exact hp, L.cl, L.no _ List.mem_cons_self, by show 0 < 1000; decide, ?_⟩
    refine q _ d nd ⟨upd_same, [], by rw [upd_ne npd.symm]; exact upd_same, All2.nil⟩ ((Gw.refl.new nd).put rfl (by rw [upd_ne npd]; exact hp) (fun _ z => by cases z) (fun _ z => by cases z))
def spWtPut (C : Addr) : Sp := fun vs H Q _ => ∃ (wt wd rw : Addr) (ws : List Op) (v : V) (o : Op), vs = [.ref wt, v] ∧ WtAt C H wt wd rw ws ∧ OpAt H v o ∧ ws.length ≤ 100000 ∧ ∀ H', WtAt C H' wt wd rw (wput ws o) → Gw (fun b => b = rw) H H' → Q .non H'
theorem scWtPut : FnScope ["self", "operation"] ["self", "operation"] (defScope (sWt 1)) := ⟨rfl, rfl, rfl, by decide +kernel, rfl, by decide +kernel, by decide +kernel⟩
theorem ok_wtPut (D : Md K C "put" "Waiting.put" (sWt 1) ["self", "operation"]) (L : Kl K mg C "Waiting" ["rows"]) : Mt P w K mg base C 1 "put" ["self", "operation"] (spWtPut C) := by
  refine D.ok L.cl scWtPut (fun vs H Q E h => ?_) (fun cdv f A outer s H vs Q E hr h => ?_)
  · obtain ⟨p, dx, _, _, _, _, rfl, _⟩ := h
    rfl
  · obtain ⟨wt, wd, rw_, ws, v, o, rfl, hw, ho, hl, q⟩ := h
    have ho' := ho
    obtain ⟨kvs, hk, rws⟩ := hw.rows
    obtain ⟨a, vi, vr, rfl, ha, ⟨ai, rfl, hi⟩, _⟩ := ho
    have hu := hu_of hr
    refine ⟨_, (pss_one (ps_if (pt_cmp (pc_dnotin hu (pe_ix ix_tup (pv 1) (pe_int) (fun _ _ => rfl)) (pe_fld (pv 0) rfl))) (pss_one (ps_dput hu (pe_fld (pv 0) rfl) (pe_ix ix_tup (pv 1) (pe_int) (fun _ _ => rfl)) (pv 1) rfl)) pss_nil)), ?_⟩
    have t1 := SqT.of (K := K) ha
    refine ⟨_, rfl, _, _, _, _, rfl, rfl, t1, at1 o _ _, _, rfl, wt, C, wd, _, _, rfl, hw.ins, L.cl, L.no _ List.mem_cons_self, wtF_rows _, _, _, rfl, DGet.t (k := idK o.id) hk hi, _, rfl, ?_⟩
    cases hlk : lkG Op.id ws o.id with
    | some r =>
      obtain ⟨v0, hv, _⟩ := Rows.some_ rws hlk
      rw [hv]
      refine iteF (q _ ?_ Gw.refl)
      unfold wput
      rw [hlk]
      exact hw
    | none =>
      rw [Rows.none_ rws hlk]
      have l2 : kvs.length < sizeLine := by rw [All2.len rws, sizeLine_eq]; omega
      refine iteT ⟨_, rfl, _, rfl, wt, C, wd, _, _, rfl, hw.ins, L.cl, L.no _ List.mem_cons_self, wtF_rows _, _, rfl, _, _, _, _, rfl, rfl, t1, at1 o _ _, _, _, rfl, DPut.t (k := idK o.id) hk hi l2, ?_⟩
      have g : Gw (fun b => b = rw_) H (upd H rw_ (.dT (putK kvs (idK o.id) (.ref a)))) := Gw.refl.put rfl hk (fun _ z => by cases z) (fun _ z => by cases z)
      refine q _ ⟨by rw [upd_ne hw.ne]; exact hw.ins, _, upd_same, ?_⟩ g
      unfold wput
      rw [hlk]
      exact (rws.put (r := o) ho').mono fun _ _ z => z.gw g
def spWtMany (C : Addr) : Sp := fun vs H Q _ => ∃ (wt wd rw : Addr) (ws : List Op), vs = [.ref wt] ∧ WtAt C H wt wd rw ws ∧ Q (.int (ws.length : Nat)) H
end
end K80
namespace K80
open PySem PySem.Spec PyProof.Rows L2 Gx GxR NdefX
section
variable {P : Program} {w : World} {K : PySem.W.Frag} {mg : Str → Option Value} {base : Heap}
variable {C : Addr}
theorem scWtMany : FnScope ["self"] ["self"] (defScope (sWt 2)) := ⟨rfl, rfl, rfl, by decide +kernel, rfl, by decide +kernel, by decide +kernel⟩
theorem ok_wtMany (D : Md K C "many" "Waiting.many" (sWt 2) ["self"]) (L : Kl K mg C "Waiting" ["rows"]) (T : Bi mg) : Mt P w K mg base C 1 "many" ["self"] (spWtMany C) := by
  refine D.ok L.cl scWtMany (fun vs H Q E h => ?_) (fun cdv f A outer s H vs Q E hr h => ?_)
  · obtain ⟨p, dx, _, _, rfl, _⟩ := h
    rfl
  · obtain ⟨wt, wd, rw_, ws, rfl, hw, q⟩ := h
    obtain ⟨kvs, hk, rws⟩ := hw.rows
    refine ⟨_, (pss_one (ps_ret (pe_callB call_len_dT (by rfl) T.len_ PySem.boot_len (pa_cons ((pe_fld (pv 0) rfl)) pa_nil)))), ?_⟩
    refine ⟨_, rfl, wt, C, wd, _, _, rfl, hw.ins, L.cl, L.no _ List.mem_cons_self, wtF_rows _, _, _, rfl, hk, ?_⟩
    rw [All2.len rws]
    exact q
def spWtNext (C : Addr) (t : Tbs) : Sp := fun vs H Q _ => ∃ (wt wd rw : Addr) (ws : List Op) (v : V) (cs : Cnt), vs = [.ref wt, v] ∧ WtAt C H wt wd rw ws ∧ SeenAt H v cs ∧ Tb t H ∧
  (nextReady cs ws = none → ∀ H', Gw D0 H H' → Q .non H') ∧ ∀ o, nextReady cs ws = some o → ∀ H' u, OpAt H' u o → WtAt C H' wt wd rw (dropG Op.id ws o.id) → Gw (fun b => b = rw) H H' → Q u H'
theorem scWtNext : FnScope ["self", "seen", "own"] ["self", "seen"] (defScope (sWt 3)) := ⟨rfl, rfl, rfl, by decide +kernel, rfl, by decide +kernel, by decide +kernel⟩
theorem find_take_none {α : Type} {p : α → Bool} {l : List α} (h : ∀ (i : Nat) (x : α), l[i]? = some x → p x = false) : l.find? p = none := by
  rw [List.find?_eq_none]
  intro x hx
  obtain ⟨i, hi⟩ := List.mem_iff_getElem?.mp hx
  rw [h i x hi]
  exact Bool.false_ne_true
theorem find_first {α : Type} {p : α → Bool} : ∀ {l : List α} {i : Nat} {x : α}, l[i]? = some x → p x = true → (∀ (j : Nat) (y : α), j < i → l[j]? = some y → p y = false) → l.find? p = some x
  | [], _, _, h, _, _ => by simp at h
  | z :: l, 0, x, h, hp, _ => by
    cases Option.some.inj h
    rw [List.find?_cons, hp]
  | z :: l, i + 1, x, h, hp, hn => by
    rw [List.find?_cons, hn 0 z (Nat.succ_pos i) rfl]
    exact find_first (l := l) (by simpa using h) hp fun j y hj hy => hn (j + 1) y (Nat.succ_lt_succ hj) (by simpa using hy)
theorem lk_all {ws : List Op} {js : List Id} (h : ∀ i ∈ js, ∃ o, lkG Op.id ws i = some o) : ∀ (k : Nat) (i : Id), js[k]? = some i → (js.filterMap (lkG Op.id ws))[k]? = lkG Op.id ws i := by
  induction js with
  | nil => intro k i e; simp at e
  | cons j js ih =>
    intro k i e
    obtain ⟨o, ho⟩ := h j List.mem_cons_self
    rw [List.filterMap_cons, ho]
    cases k with
    | zero =>
      cases Option.some.inj e
      simp [ho]
    | succ k =>
      have := ih (fun i hi => h i (List.mem_cons_of_mem _ hi)) k i (by simpa using e)
      simpa using this
theorem lk_len {ws : List Op} {js : List Id} (h : ∀ i ∈ js, ∃ o, lkG Op.id ws i = some o) : (js.filterMap (lkG Op.id ws)).length = js.length := by
  induction js with
  | nil => rfl
  | cons j js ih =>
    obtain ⟨o, ho⟩ := h j List.mem_cons_self
    rw [List.filterMap_cons, ho]
    show (js.filterMap _).length + 1 = _
    rw [ih fun i hi => h i (List.mem_cons_of_mem _ hi)]
    rfl
theorem lk_mem {ρ : Type} {key : ρ → Id} {rows : List ρ} {i : Id} (h : i ∈ rows.map key) : ∃ o, lkG key rows i = some o := by
  obtain ⟨r, hr, e⟩ := List.mem_map.mp h
  cases q : lkG key rows i with
  | some o => exact ⟨o, rfl⟩
  | none =>
    unfold lkG at q
    rw [List.find?_eq_none] at q
    exact absurd (decide_eq_true e) (q r hr)
theorem ok_wtNext {t : Tbs} (D : Md K C "next_ready" "Waiting.next_ready" (sWt 3) ["self", "seen"]) (L : Kl K mg C "Waiting" ["rows"]) (T : Bi mg) (fR : Fn P w K mg base 3 "is_ready" ["seen", "operation"] (spReady t)) :
    Mt P w K mg base C 4 "next_ready" ["self", "seen"] (spWtNext C t) := by
  refine D.ok L.cl scWtNext (fun vs H Q E h => ?_) (fun cdv f A outer s H vs Q E hr h => ?_)
  · obtain ⟨p, dx, _, _, _, _, rfl, _⟩ := h
    rfl
  · obtain ⟨wt, wd, rw_, ws, v, cs, rfl, hw, hs, tb, q0, q1⟩ := h
    obtain ⟨kvs, hk, rws⟩ := hw.rows
    have hu := hu_of hr
    refine ⟨_, (pss_cons (ps_for PassesOwn.never rfl (pi_list (pe_callB (Sx.cr_sortedDT rfl) (by rfl) T.sorted_ (by decide +kernel) (pa_cons ((pe_fld (pv 0) rfl)) pa_nil))) (pg_name (i := 2) scWtNext.nd rfl (Or.inl rfl))
        (pss_one (ps_if (pt_val (pe_fn fR (by first | exact hr | exact hr.mono (by decide) | exact room_gx hr hA | exact (room_gx hr hA).mono (by decide)) (pa_cons (pv 1) (pa_cons (pe_dget hu (pe_fld (pv 0) rfl) (pv 2) (fun _ _ => rfl)) pa_nil)))) (pss_one (ps_ret (pe_bm PySem.F.plainAttrs_dict PySem.F.slot_dict_pop PySem.F.type_dict_pop (mt_pop1T hu) ((pe_fld (pv 0) rfl)) (pa_cons (pv 2) pa_nil)))) pss_nil)))
      (pss_one (ps_ret pe_non))), ?_⟩
    refine ⟨_, rfl, wt, C, wd, _, _, rfl, hw.ins, L.cl, L.no _ List.mem_cons_self, wtF_rows _, rw_, rfl, kvs, (ws.map Op.id).map id2, .of hk, keys_rows rws, oneKind _, fun Ls p hL hp up np => ?_⟩
    obtain ⟨js, jp, e2, js2⟩ := ids_of hL hp
    have ejs : js = sortI (ws.map Op.id) := sortI_is (up_ids up e2) jp
    refine ⟨p, rfl, ⟨_, SqL.of upd_same⟩, ?_⟩
    have g0 : Gw D0 H (upd H p (.lst (Ls.map fun p => V.ref p.1))) := Gw.refl.new np
    have inW : ∀ i ∈ js, ∃ o, lkG Op.id ws i = some o := fun i hi => lk_mem (jp.mem_iff.mp hi)
    have hwn : ∀ {H' : Hp}, Gw D0 H H' → WtAt C H' wt wd rw_ ws := fun g => hw.gw g (fun z => z) (fun z => z)
    have nrL : rw_ ≠ p := ne_of_none hk np
    refine for_it (walk_list (xs := Ls.map fun p => V.ref p.1)) (fun i σ H' => (∃ v2, σ = [some (.ref wt), some v, v2]) ∧ Gw D0 H H' ∧ H' p = some (.lst (Ls.map fun p => V.ref p.1)) ∧ ∀ (j : Nat) (o : Op), j < i → (js.filterMap (lkG Op.id ws))[j]? = some o → ready cs o = false)
      ⟨⟨_, rfl⟩, g0, upd_same, fun j o hj => absurd hj (Nat.not_lt_zero _)⟩ (fun i σ H' _ h => SqL.of h.2.2.1) ?_ ?_
    · rintro i y σ H1 H1' hi ⟨⟨v2, rfl⟩, g, hp1, pf⟩ ⟨rfl, hy⟩
      obtain ⟨ij, hij, hya⟩ := js2.get hy
      obtain ⟨o, ho⟩ := inW ij (List.mem_of_getElem? hij)
      have hoj : (js.filterMap (lkG Op.id ws))[i]? = some o := by rw [lk_all inW i ij hij, ho]
      obtain ⟨kvs1, hk1, rws1⟩ := (hwn g).rows
      obtain ⟨u, hu1, hou⟩ := Rows.some_ rws1 ho
      have ei := (lkG_key ho).1
      obtain ⟨ya, rfl, hyt⟩ := hya
      have hyt1 := g.tup _ _ hyt
      refine ⟨_, rfl, _, rfl, wt, C, wd, _, _, rfl, (hwn g).ins, L.cl, L.no _ List.mem_cons_self, wtF_rows _, _, rfl, _, u, rfl, ?_, ?_⟩
      · rw [← hu1]
        exact DGet.t (k := idK ij) hk1 hyt1
      · refine ⟨_, _, cs, o, rfl, hs.gw g, hou, tb.gw g, fun H2 g2 => ⟨_, rfl, ?_⟩⟩
        have gg := g.trans g2
        cases hrd : ready cs o with
        | false =>
          refine iteF ⟨⟨_, rfl⟩, gg, g2.oth _ _ hp1 (fun _ z => by cases z) (fun z => z), fun j o' hj hj' => ?_⟩
          by_cases e : j = i
          · subst e
            rw [hoj] at hj'
            cases hj'
            exact hrd
          · exact pf j o' (by omega) hj'
        | true =>
          obtain ⟨kvs2, hk2, rws2⟩ := (hwn gg).rows
          obtain ⟨u2, hu2, hou2⟩ := Rows.some_ rws2 ho
          refine iteT ⟨_, rfl, wt, C, wd, _, _, rfl, (hwn gg).ins, L.cl, L.no _ List.mem_cons_self, wtF_rows _, .inr (.inr (.inl ⟨rfl, .inr ⟨_, hk2⟩⟩)), _, rfl, rw_, kvs2, idK ij, ya, u2, rfl, rfl, hk2, gg.tup _ _ hyt, hu2, ?_⟩
          have gd : Gw (fun b => b = rw_) H2 (upd H2 rw_ (.dT (dropK kvs2 (idK ij)))) := Gw.refl.put rfl hk2 (fun _ z => by cases z) (fun _ z => by cases z)
          refine q1 o ?_ _ u2 (hou2.gw gd) ⟨by rw [upd_ne hw.ne]; exact (hwn gg).ins, _, upd_same, ?_⟩ ((Gw.of0 gg).trans gd)
          · unfold nextReady
            rw [← ejs]
            exact find_first hoj hrd pf
          · rw [ei]
            exact rws2.drop.mono fun _ _ z => z.gw gd
    · rintro σ H1 ⟨⟨v2, rfl⟩, g, hp1, pf⟩
      refine q0 ?_ _ g
      unfold nextReady
      rw [← ejs]
      refine find_take_none fun i o ho => pf i o ?_ ho
      have := (List.getElem?_eq_some_iff.mp ho).1
      rw [lk_len inW] at this
      rw [js2.len]
      exact this
end
end K80
namespace K80
open PySem PySem.Spec PyProof.Rows L2 Gx GxR NdefX
theorem SeenAt.gw1 {D : Addr → Prop} {H H' : Hp} {v : V} {cs : Cnt} (h : SeenAt H v cs) (g : Gw D H H') (n : ∀ a xs, H a = some (tupP a xs) → ¬ D a) : SeenAt H' v cs :=
  let ⟨a, ps, e1, e2, e3, e4⟩ := h; ⟨a, ps, e1, g.oth _ _ e2 (fun _ z => by cases z) (n _ _ e2), L2.Paired.mapP e3 (fun p kv z => g.tup _ _ z), e4⟩
theorem putG_new {ρ : Type} {key : ρ → Id} {rows : List ρ} {r : ρ} (h : ∀ x ∈ rows, key x ≠ key r) : putG key rows r = rows ++ [r] := by
  unfold putG
  refine if_neg fun z => ?_
  obtain ⟨x, hx, e⟩ := List.any_eq_true.mp z
  exact h x hx (of_decide_eq_true e)
section
variable {P : Program} {w : World} {K : PySem.W.Frag} {mg : Str → Option Value} {base : Heap}
variable {C : Addr}
def spWtForget (C : Addr) : Sp := fun vs H Q _ => ∃ (wt wd rw : Addr) (ws : List Op) (v : V) (cs : Cnt), vs = [.ref wt, v] ∧ WtAt C H wt wd rw ws ∧ SeenAt H v cs ∧ (ws.map Op.id).Nodup ∧ ws.length ≤ 100000 ∧
  ∀ H' rw', H rw' = none → WtAt C H' wt wd rw' (forgetW cs ws) → Gw (fun b => b = wt ∨ b = rw) H H' → Q .non H'
theorem scWtForget : FnScope ["self", "seen", "own", "row"] ["self", "seen"] (defScope (sWt 4)) := ⟨rfl, rfl, rfl, by decide +kernel, rfl, by decide +kernel, by decide +kernel⟩
theorem ok_wtForget (D : Md K C "forget" "Waiting.forget" (sWt 4) ["self", "seen"]) (L : Kl K mg C "Waiting" ["rows"]) (fH : Fn P w K mg base 1 "has_seen" ["seen", "own"] spHasSeen) : Mt P w K mg base C 2 "forget" ["self", "seen"] (spWtForget C) := by
  refine D.ok L.cl scWtForget (fun vs H Q E h => ?_) (fun cdv f A outer s H vs Q E hr h => ?_)
  · obtain ⟨p, dx, _, _, _, _, rfl, _⟩ := h
    rfl
  · obtain ⟨wt, wd, rw_, ws, v, cs, rfl, hw, hs, nd, hl, q⟩ := h
    obtain ⟨kvs, hk, rws⟩ := hw.rows
    refine ⟨_, (pss_one (ps_fld (pv 0) (pe_lock (pe_dcT (own := [("own", 2), ("row", 3)]) (g := (gTup K 2 (gCons (gName 2) (gCons (gName 3) gNil)))) hr.units0 rfl scWtForget.nd (pi_itemsT (pe_fld (pv 0) rfl)) (blkOk_by (own := [("own", 2), ("row", 3)]) (N := ["self", "seen", "own", "row"]) (sc := defScope (sWt 4)) (by decide +kernel))
        (fun _ _ _ _ _ => (pg_tup (by rfl) (pgs_cons (pg_name (i := 2) scWtForget.nd rfl (Or.inl rfl)) (pgs_cons (pg_name (i := 3) scWtForget.nd rfl (Or.inl rfl)) pgs_nil)))) (fun _ _ _ _ _ => pts_one (pt_not (pt_val (pe_fn fH (by first | exact hr | exact hr.mono (by decide) | exact room_gx hr hA | exact (room_gx hr hA).mono (by decide)) (pa_cons (pv 1) (pa_cons (pv 2) pa_nil)))))) (fun _ _ _ _ _ => pv 2) (fun _ _ _ _ _ => pv 3))) rfl)), ?_⟩
    have lk : kvs.length = ws.length := All2.len rws
    refine ⟨rw_, .dT kvs, hk, True.intro, fun od => ?_⟩
    have nwr := hw.ne
    have g0 : Gw (fun b => b = rw_) H (upd H rw_ (.frz od (.dT kvs))) := Gw.refl.put rfl hk (fun _ z => by cases z) (fun _ z => by cases z)
    have nv : ∀ a xs, H a = some (tupP a xs) → ¬ a = rw_ := fun a xs e z => by
      rw [z, hk] at e
      cases e
    refine ⟨_, rfl, wt, C, wd, _, _, rfl, by rw [upd_ne nwr]; exact hw.ins, L.cl, L.no _ List.mem_cons_self, wtF_rows _, rw_, od, kvs, rfl, upd_same, fun d nd1 => ?_⟩
    have nd0 := g0.non _ nd1
    have nrd : rw_ ≠ d := ne_of_none hk nd0
    refine dc_it walk_pr (fun i H' => Gw (fun b => b = rw_) H H' ∧ H' rw_ = some (.frz od (.dT kvs)) ∧ ∃ acc, H' d = some (.dT acc) ∧ Rows Op.id (OpAt H') acc ((ws.take i).filter fun o => !hasSeen cs o.id))
      ⟨g0.new nd1, by rw [upd_ne nrd]; exact upd_same, [], upd_same, All2.nil⟩ (fun i H' _ h => h.2.1) ?_ ?_
    · rintro i x H1 H1' hi ⟨g, hr1, acc, hd, hacc⟩ ⟨T, k, u, qa, hkv, rfl, hqa, nT, rfl⟩
      obtain ⟨o, ho, ek, hou⟩ : ∃ o, ws[i]? = some o ∧ k = idK o.id ∧ OpAt H u o := by
        obtain ⟨o, ho, h1, h2⟩ := All2.get rws hkv
        exact ⟨o, ho, h1, h2⟩
      subst ek
      have gT := g.new (o := .tup [.ref qa, u]) nT
      have nTq : qa ≠ T := ne_of_none hqa nT
      have hq1 : upd H1 T (.tup [.ref qa, u]) qa = some (.tup (idT o.id)) := by rw [upd_ne nTq]; exact hqa
      have et : (ws.take (i + 1)).filter (fun o => !hasSeen cs o.id) = (ws.take i).filter (fun o => !hasSeen cs o.id) ++ (if (!hasSeen cs o.id) = true then [o] else []) := by
        rw [List.take_add_one, ho, List.filter_append]
        congr 1
        show ([o] : List Op).filter _ = _
        rw [List.filter_cons]
        rfl
      refine ⟨T, _, rfl, SqT.of upd_same, rfl, _, _, rfl, _, _, rfl, rfl, rfl, ?_⟩
      refine ⟨_, rfl, _, rfl, _, _, cs, o.id, rfl, (hs.gw1 gT nv), ⟨qa, rfl, hq1⟩, fun H2 g2 => ⟨_, rfl, ?_⟩⟩
      have hr2 : H2 rw_ = some (.frz od (.dT kvs)) := g2.oth _ _ (by rw [upd_ne (ne_of_none hr1 nT)]; exact hr1) (fun _ z => by cases z) (fun z => z)
      have hd2 : H2 d = some (.dT acc) := g2.oth _ _ (by rw [upd_ne (ne_of_none hd nT)]; exact hd) (fun _ z => by cases z) (fun z => z)
      have gg : Gw (fun b => b = rw_) H H2 := gT.pure g2
      have g12 : Gw D0 H1 H2 := (Gw.refl.new nT).trans g2
      cases hsn : hasSeen cs o.id with
      | true =>
        refine ⟨gg, hr2, acc, hd2, ?_⟩
        rw [et, hsn]
        simpa using hacc.mono fun _ _ z => z.gw g12
      | false =>
        have nacc : acc.length < sizeLine := by
          rw [All2.len hacc, sizeLine_eq]
          have h1 := List.length_filter_le (fun o => !hasSeen cs o.id) (ws.take i)
          rw [List.length_take] at h1
          omega
        refine ⟨_, rfl, _, rfl, acc, idK o.id, qa, rfl, g2.tup _ _ hq1, hd2, nacc, gg.fresh nd0, by rw [upd_ne nrd]; exact hr2, _, upd_same, ?_⟩
        have gd : Gw (fun b => b = d) H2 (upd H2 d (.dT (putK acc (idK o.id) u))) := Gw.refl.put rfl hd2 (fun _ z => by cases z) (fun _ z => by cases z)
        have pn : putG Op.id ((ws.take i).filter fun o => !hasSeen cs o.id) o = (ws.take i).filter (fun o => !hasSeen cs o.id) ++ [o] := putG_new fun x hx e => by
          have hx1 := (List.mem_filter.mp hx).1
          obtain ⟨j, hj⟩ := List.mem_iff_getElem?.mp hx1
          rw [List.getElem?_take] at hj
          split at hj
          · rename_i hji
            have h1 : (ws.map Op.id)[j]? = some o.id := by rw [List.getElem?_map, hj, ← e]; rfl
            have h2 : (ws.map Op.id)[i]? = some o.id := by rw [List.getElem?_map, ho]; rfl
            have := (List.getElem?_inj (List.getElem?_eq_some_iff.mp h1).1 nd).mp (h1.trans h2.symm)
            omega
          · cases hj
        rw [et, hsn, if_pos (show (!false) = true from rfl), ← pn]
        exact ((hacc.mono fun _ _ z => z.gw g12).put (r := o) ((hou.gw gg))).mono fun _ _ z => z.gw gd
    · rintro H1 ⟨g, hr1, acc, hd, hacc⟩
      rw [lk, List.take_length] at hacc
      refine ⟨hr1, ?_⟩
      have hw1 : H1 wt = some (.ins C wd (wtF rw_)) := g.oth _ _ hw.ins (fun _ z => by cases z) nwr
      have nwd : wt ≠ d := ne_of_none hw.ins nd0
      refine ⟨_, rfl, wt, C, wd, _, rfl, by rw [upd_ne nwr]; exact hw1, L.cl, L.no _ List.mem_cons_self, by show 1 < 1000; decide, ?_⟩
      have g2 : Gw (fun b => b = wt ∨ b = rw_) H1 (upd (upd H1 rw_ (.dT kvs)) wt (.ins C wd (putF "rows" (.ref d) (wtF rw_)))) :=
        (Gw.refl.put (.inr rfl) hr1 (fun _ z => by cases z) (fun _ z => by cases z)).put (.inl rfl) (by rw [upd_ne nwr]; exact hw1) (fun _ z => by cases z) (fun _ z => by cases z)
      have pf : putF "rows" (.ref d) (wtF rw_) = wtF d := putF_in (pre := []) (post := []) (by simp)
      refine q _ d nd0 ⟨by rw [upd_same, pf], acc, ?_, hacc.mono fun _ _ z => z.gw g2⟩ ((g.mono fun _ z => .inr z).trans g2)
      rw [upd_ne nwd.symm, upd_ne nrd.symm]
      exact hd
end
end K80
namespace K80
open PySem PySem.Spec PyProof.Rows L2 Gx GxR NdefX
/-! ### a site: addresses, mirror -/
structure SA where
  p : Addr
  d : Addr
  kn : Addr
  un : Addr
  ct : Addr
  od : Addr
  cn : Addr
  wt : Addr
  wd : Addr
  rw : Addr
abbrev Tab := List (Id × List Id)
structure Sm where
  name : Str
  known : List Op
  undone : Tab
  cuts : Tab
  order : List Id
  counts : Cnt
  clock : Nat
  waits : List Op
def IdsAt (H : Hp) (v : V) (ids : List Id) : Prop := ∃ a us, v = .ref a ∧ H a = some (.tup us) ∧ All2 (IdAt H) us ids
theorem IdsAt.gw {D : Addr → Prop} {H H' : Hp} {v : V} {ids : List Id} (h : IdsAt H v ids) (g : Gw D H H') : IdsAt H' v ids := let ⟨a, us, e1, e2, e3⟩ := h; ⟨a, us, e1, g.tup _ _ e2, e3.mono fun _ _ z => z.gw g⟩
abbrev TabAt (H : Hp) (a : Addr) (t : Tab) : Prop := ∃ kvs, H a = some (.dT kvs) ∧ Rows (fun r : Id × List Id => r.1) (fun v r => IdsAt H v r.2) kvs t
def siteF (A : SA) (m : Sm) : List (Str × V) := [("name", .str m.name), ("known", .ref A.kn), ("undone", .ref A.un), ("cuts", .ref A.ct), ("order", .ref A.od), ("counts", .ref A.cn), ("clock", .int (m.clock : Nat)), ("waits", .ref A.wt)]
theorem siteF_nd (A : SA) (m : Sm) : ((siteF A m).map (·.1)).Nodup := by
  show (["name", "known", "undone", "cuts", "order", "counts", "clock", "waits"] : List Str).Nodup
  decide +kernel
theorem sF_no (A : SA) (m : Sm) {x : Str} (h : x ∉ (["name", "known", "undone", "cuts", "order", "counts", "clock", "waits"] : List Str)) : (siteF A m).lookup x = none := lookup_no h
theorem sF_name (A : SA) (m : Sm) : (siteF A m).lookup ("name" : Str) = some (V.str m.name) := lookup_of 0 rfl (siteF_nd A m)
theorem sF_known (A : SA) (m : Sm) : (siteF A m).lookup ("known" : Str) = some (V.ref A.kn) := lookup_of 1 rfl (siteF_nd A m)
theorem sF_undone (A : SA) (m : Sm) : (siteF A m).lookup ("undone" : Str) = some (V.ref A.un) := lookup_of 2 rfl (siteF_nd A m)
theorem sF_cuts (A : SA) (m : Sm) : (siteF A m).lookup ("cuts" : Str) = some (V.ref A.ct) := lookup_of 3 rfl (siteF_nd A m)
theorem sF_order (A : SA) (m : Sm) : (siteF A m).lookup ("order" : Str) = some (V.ref A.od) := lookup_of 4 rfl (siteF_nd A m)
theorem sF_counts (A : SA) (m : Sm) : (siteF A m).lookup ("counts" : Str) = some (V.ref A.cn) := lookup_of 5 rfl (siteF_nd A m)
theorem sF_clock (A : SA) (m : Sm) : (siteF A m).lookup ("clock" : Str) = some (V.int (m.clock : Nat)) := lookup_of 6 rfl (siteF_nd A m)
theorem sF_waits (A : SA) (m : Sm) : (siteF A m).lookup ("waits" : Str) = some (V.ref A.wt) := lookup_of 7 rfl (siteF_nd A m)
theorem sN_init (A : SA) (m : Sm) : (siteF A m).lookup ("__init__" : Str) = none := sF_no A m (by decide +kernel)
theorem sN_seen (A : SA) (m : Sm) : (siteF A m).lookup ("seen" : Str) = none := sF_no A m (by decide +kernel)
theorem sN_waiting (A : SA) (m : Sm) : (siteF A m).lookup ("waiting" : Str) = none := sF_no A m (by decide +kernel)
theorem sN_off (A : SA) (m : Sm) : (siteF A m).lookup ("off" : Str) = none := sF_no A m (by decide +kernel)
theorem sN_does_show (A : SA) (m : Sm) : (siteF A m).lookup ("does_show" : Str) = none := sF_no A m (by decide +kernel)
theorem sN_showing (A : SA) (m : Sm) : (siteF A m).lookup ("showing" : Str) = none := sF_no A m (by decide +kernel)
theorem sN_text (A : SA) (m : Sm) : (siteF A m).lookup ("text" : Str) = none := sF_no A m (by decide +kernel)
theorem sN_place_behind (A : SA) (m : Sm) : (siteF A m).lookup ("place_behind" : Str) = none := sF_no A m (by decide +kernel)
theorem sN_carry_out (A : SA) (m : Sm) : (siteF A m).lookup ("carry_out" : Str) = none := sF_no A m (by decide +kernel)
theorem sN_next_id (A : SA) (m : Sm) : (siteF A m).lookup ("next_id" : Str) = none := sF_no A m (by decide +kernel)
theorem sN_make (A : SA) (m : Sm) : (siteF A m).lookup ("make" : Str) = none := sF_no A m (by decide +kernel)
theorem sN_check_room (A : SA) (m : Sm) : (siteF A m).lookup ("check_room" : Str) = none := sF_no A m (by decide +kernel)
theorem sN_check_new (A : SA) (m : Sm) : (siteF A m).lookup ("check_new" : Str) = none := sF_no A m (by decide +kernel)
theorem sN_edit (A : SA) (m : Sm) : (siteF A m).lookup ("edit" : Str) = none := sF_no A m (by decide +kernel)
theorem sN_undo (A : SA) (m : Sm) : (siteF A m).lookup ("undo" : Str) = none := sF_no A m (by decide +kernel)
theorem sN_take (A : SA) (m : Sm) : (siteF A m).lookup ("take" : Str) = none := sF_no A m (by decide +kernel)
structure KSite (K : PySem.W.Frag) (mg : Str → Option Value) (C : Addr) : Prop where
  cl : Cls K C
  name : NoAttr K C "name"
  known : NoAttr K C "known"
  undone : NoAttr K C "undone"
  cuts : NoAttr K C "cuts"
  order : NoAttr K C "order"
  counts : NoAttr K C "counts"
  clock : NoAttr K C "clock"
  waits : NoAttr K C "waits"
  mgC : mg "Site" = some (.ref C)
structure SiteAt (C W : Addr) (H : Hp) (A : SA) (m : Sm) : Prop where
  ins : H A.p = some (.ins C A.d (siteF A m))
  kn : ∃ kvs, H A.kn = some (.dT kvs) ∧ Rows Op.id (OpAt H) kvs m.known
  un : TabAt H A.un m.undone
  ct : TabAt H A.ct m.cuts
  od : ∃ us, H A.od = some (.lst us) ∧ All2 (IdAt H) us m.order
  cn : H A.cn = some (.dK (cntV m.counts))
  wt : WtAt W H A.wt A.wd A.rw m.waits
  n1 : A.kn ≠ A.un
  n2 : A.kn ≠ A.ct
  n3 : A.un ≠ A.ct
  n4 : A.rw ≠ A.kn
  n5 : A.rw ≠ A.un
  n6 : A.rw ≠ A.ct
  n7 : A.p ≠ A.wt
def SA.fp (A : SA) : List Addr := [A.p, A.kn, A.un, A.ct, A.od, A.cn, A.wt, A.rw]
theorem TabAt.gw {D : Addr → Prop} {H H' : Hp} {a : Addr} {t : Tab} (h : TabAt H a t) (g : Gw D H H') (n : ¬ D a) : TabAt H' a t :=
  let ⟨kvs, h1, h2⟩ := h; ⟨kvs, g.oth _ _ h1 (fun _ z => by cases z) n, h2.mono fun _ _ z => z.gw g⟩
theorem SiteAt.gw {C W : Addr} {D : Addr → Prop} {H H' : Hp} {A : SA} {m : Sm} (h : SiteAt C W H A m) (g : Gw D H H') (n : ∀ b ∈ A.fp, ¬ D b) : SiteAt C W H' A m := by
  have q : ∀ b, b ∈ ([A.p, A.kn, A.un, A.ct, A.od, A.cn, A.wt, A.rw] : List Addr) → ¬ D b := n
  have nt : ∀ {o : HO}, (∀ ps, o ≠ .tbl ps) → (∀ ps, o ≠ .tbl ps) := fun z => z
  refine ⟨g.oth _ _ h.ins (fun _ z => by cases z) (q _ (by simp)), ?_, h.un.gw g (q _ (by simp)), h.ct.gw g (q _ (by simp)), ?_, g.oth _ _ h.cn (fun _ z => by cases z) (q _ (by simp)), h.wt.gw g (q _ (by simp)) (q _ (by simp)), h.n1, h.n2, h.n3, h.n4, h.n5, h.n6, h.n7⟩
  · obtain ⟨kvs, h1, h2⟩ := h.kn
    exact ⟨kvs, g.oth _ _ h1 (fun _ z => by cases z) (q _ (by simp)), h2.mono fun _ _ z => z.gw g⟩
  · obtain ⟨us, h1, h2⟩ := h.od
    exact ⟨us, g.oth _ _ h1 (fun _ z => by cases z) (q _ (by simp)), h2.mono fun _ _ z => z.gw g⟩
theorem SiteAt.gw0 {C W : Addr} {H H' : Hp} {A : SA} {m : Sm} (h : SiteAt C W H A m) (g : Gw D0 H H') : SiteAt C W H' A m := h.gw g fun _ _ z => z
/-! ### the mirror's functions -/
def getT (t : Tab) (i : Id) : List Id := ((lkG (fun r : Id × List Id => r.1) t i).map (·.2)).getD []
def inI (l : List Id) (i : Id) : Bool := (lkG (fun r : Id => r) l i).isSome
def offStep (u : Tab) (found : List Id) (own : Id) : List Id := if ((getT u own).any fun other => !inI found other) = true then putG (fun r : Id => r) found own else found
def offM (u : Tab) : List Id := (sortI (u.map fun r : Id × List Id => r.1)).reverse.foldl (offStep u) []
def showB (off : List Id) (cuts : Tab) (own : Id) : Bool := !inI off own && (getT cuts own).all fun o => inI off o
def showing (m : Sm) : List Id := m.order.filter (showB (offM m.undone) m.cuts)
def signOf (known : List Op) (i : Id) : Nat := ((lkG Op.id known i).map (·.sign)).getD 0
def textM (m : Sm) : List Nat := (showing m).map (signOf m.known)
def startB (order : List Id) (r : Option Id) : Nat := match r with
  | none => 0
  | some i => order.idxOf i + 1
def placeB (order : List Id) (o : Op) : Nat := startB order o.ref + ((order.drop (startB order o.ref)).takeWhile fun i => ltI o.id i).length
def insAt (l : List Id) (n : Nat) (i : Id) : List Id := l.take n ++ [i] ++ l.drop n
def putC (cs : Cnt) (x : Str) (n : Nat) : Cnt := if (cs.any fun c => decide (c.1 = x)) = true then cs.map (fun c => if c.1 = x then (c.1, n) else c) else cs ++ [(x, n)]
def addT (t : Tab) (i own : Id) : Tab := putG (fun r : Id × List Id => r.1) t (i, getT t i ++ [own])
def refOf (o : Op) : Id := o.ref.getD (0, Str.empty)
/-- an operation carried out -/
def carry (m : Sm) (o : Op) : Sm :=
  { m with
    order := if o.kind = .put then insAt m.order (placeB m.order o) o.id else m.order
    cuts := if o.kind = .cut then addT m.cuts (refOf o) o.id else m.cuts
    undone := if o.kind = .undo then addT m.undone (refOf o) o.id else m.undone
    known := putG Op.id m.known o
    counts := putC m.counts o.id.2 o.id.1
    clock := max m.clock o.id.1 }
def makeO (m : Sm) (k : Kd) (r : Option Id) (c : Nat) : Op := ⟨k, (m.clock + 1, m.name), cnt m.counts m.name, r, c⟩
theorem putC_cnt (cs : Cnt) (x : Str) (n : Nat) : putK (cntV cs) (Sum.inr x) (V.int (n : Nat)) = cntV (putC cs x n) := by
  unfold putK putC
  have e : ((cntV cs).any fun kv => decide (kv.1 = Sum.inr x)) = cs.any fun c => decide (c.1 = x) := by
    unfold cntV
    rw [List.any_map]
    congr 1
    funext c
    exact decide_eq_decide.mpr ⟨fun z => Sum.inr.inj z, fun z => by show (Sum.inr c.1 : L2.Key) = _; rw [z]⟩
  rw [e]
  by_cases q : (cs.any fun c => decide (c.1 = x)) = true
  · rw [if_pos q, if_pos q]
    unfold cntV
    rw [List.map_map, List.map_map]
    refine List.map_congr_left fun c _ => ?_
    show (if (Sum.inr c.1 : L2.Key) = Sum.inr x then _ else _) = _
    by_cases z : c.1 = x
    · rw [if_pos (by rw [z])]
      show _ = ((Sum.inr (if c.1 = x then (c.1, n) else c).1 : L2.Key), V.int ((if c.1 = x then (c.1, n) else c).2 : Nat))
      rw [if_pos z]
    · rw [if_neg (fun y => z (Sum.inr.inj y))]
      show _ = ((Sum.inr (if c.1 = x then (c.1, n) else c).1 : L2.Key), V.int ((if c.1 = x then (c.1, n) else c).2 : Nat))
      rw [if_neg z]
  · rw [if_neg q, if_neg q]
    unfold cntV
    rw [List.map_append]
    rfl
end K80
namespace K80
open PySem PySem.Spec PyProof.Rows L2 Gx GxR NdefX
theorem Gw.same {D : Addr → Prop} {H H' : Hp} (s : ∀ b o, H b = some o → H' b = some o) : Gw D H H' :=
  ⟨fun b xs e => s _ _ e, fun b o e _ _ => s _ _ e, fun b ⟨ps, e, t⟩ => ⟨ps, s _ _ e, t⟩, fun b e => by
    cases q : H b with
    | none => rfl
    | some o => rw [s _ _ q] at e; cases e⟩
theorem perm_back {α β : Type} (f : α → β) (g : β → α) (gf : ∀ a, g (f a) = a) {l : List β} {xs : List α} (p : l.Perm (xs.map f)) : ∃ js : List α, js.Perm xs ∧ l = js.map f := by
  refine ⟨l.map g, ?_, ?_⟩
  · have q := p.map g
    rw [List.map_map (f := f)] at q
    have e : xs.map (g ∘ f) = xs := by
      conv => rhs; rw [← List.map_id xs]
      exact List.map_congr_left fun a _ => gf a
    rw [e] at q
    exact q
  · rw [List.map_map]
    conv => lhs; rw [← List.map_id l]
    refine List.map_congr_left fun x hx => ?_
    obtain ⟨a, _, rfl⟩ := List.mem_map.mp (p.mem_iff.mp hx)
    show f a = f (g (f a))
    rw [gf]
theorem paired_map {α γ δ : Type} {F : γ → δ → Prop} (f : α → γ) (g : α → δ) : ∀ {l : List α}, (∀ x ∈ l, F (f x) (g x)) → Paired F (l.map f) (l.map g)
  | [], _ => .nil
  | x :: l, h => .cons (h x List.mem_cons_self) (paired_map f g fun y hy => h y (List.mem_cons_of_mem _ hy))
def c2 (c : Str × Nat) : Sx.K2 := (.inr c.1, .inl (c.2 : Nat))
theorem seen_of {H : Hp} {L : List (Addr × Sx.K2)} {cs : Cnt} (hL : Sx.Pairs H L) (p : (L.map (·.2)).Perm (cs.map c2)) : ∃ ds : Cnt, ds.Perm cs ∧ Paired (fun p kv => H p = some (.tup [kV kv.1, kv.2])) (L.map (·.1)) (cntV ds) := by
  obtain ⟨ds, dp, e⟩ := perm_back c2 (fun x => match x with
    | (.inr s, .inl n) => (s, n.toNat)
    | _ => (Str.empty, 0)) (fun c => by show (c.1, ((c.2 : Nat) : Int).toNat) = c; rw [Int.toNat_natCast]) p
  refine ⟨ds, dp, ?_⟩
  have e2 : cntV ds = L.map fun q => (q.2.1, kV q.2.2) := by
    have : cntV ds = (ds.map c2).map fun x => (x.1, kV x.2) := by unfold cntV; rw [List.map_map]; rfl
    rw [this, ← e, List.map_map]
    rfl
  rw [e2]
  exact paired_map _ _ fun q hq => hL q hq
theorem cnt_perm {cs ds : Cnt} (p : ds.Perm cs) (nd : (cs.map (·.1)).Nodup) (x : Str) : cnt ds x = cnt cs x := by
  have nd2 : (ds.map (·.1)).Nodup := (p.map _).nodup_iff.mpr nd
  have key : ∀ {es : Cnt}, (es.map (·.1)).Nodup → ∀ c ∈ es, c.1 = x → es.find? (fun c => decide (c.1 = x)) = some c := by
    intro es nd c hc e
    induction es with
    | nil => cases hc
    | cons a es ih =>
      rw [List.map_cons, List.nodup_cons] at nd
      rw [List.find?_cons]
      rcases List.mem_cons.mp hc with rfl | hc
      · rw [decide_eq_true e]
      · have : a.1 ≠ x := fun z => nd.1 (by rw [z, ← e]; exact List.mem_map.mpr ⟨c, hc, rfl⟩)
        rw [decide_eq_false this]
        exact ih nd.2 hc
  unfold cnt
  cases h : cs.find? (fun c => decide (c.1 = x)) with
  | none =>
    rw [List.find?_eq_none] at h
    have : ds.find? (fun c => decide (c.1 = x)) = none := List.find?_eq_none.mpr fun c hc => h c (p.mem_iff.mp hc)
    rw [this]
  | some c =>
    have hc := List.mem_of_find?_eq_some h
    have e : c.1 = x := by have := List.find?_some h; simpa using this
    rw [key nd2 c (p.mem_iff.mpr hc) e]
section
variable {P : Program} {w : World} {K : PySem.W.Frag} {mg : Str → Option Value} {base : Heap}
variable {C W : Addr}
abbrev sSt (j : Nat) : Stmt := inClass (top 41) j
def spSeen (C W : Addr) : Sp := fun vs H Q _ => ∃ (A : SA) (m : Sm), vs = [.ref A.p] ∧ SiteAt C W H A m ∧ (m.counts.map (·.1)).Nodup ∧ ∀ H' v cs, cs.Perm m.counts → SeenAt H' v cs → Gw D0 H H' → Q v H'
theorem scSeen : FnScope ["self"] ["self"] (defScope (sSt 1)) := ⟨rfl, rfl, rfl, by decide +kernel, rfl, by decide +kernel, by decide +kernel⟩
theorem ok_seen (D : Md K C "seen" "Site.seen" (sSt 1) ["self"]) (L : KSite K mg C) (T : Bi mg) : Mt P w K mg base C 1 "seen" ["self"] (spSeen C W) := by
  refine D.ok L.cl scSeen (fun vs H Q E h => ?_) (fun cdv f A outer s H vs Q E hr h => ?_)
  · obtain ⟨A, m, rfl, _⟩ := h
    rfl
  · obtain ⟨A, m, rfl, h, nd, q⟩ := h
    refine ⟨_, (pss_one (ps_ret (pe_callTy cr_tupP (by rfl) T.tuple_ (by decide +kernel) (pa_cons ((pe_callB (Sx.cr_sortedItemsK rfl) (by rfl) T.sorted_ (by decide +kernel) (pa_cons ((pe_bm0 PySem.F.plainAttrs_dict PySem.F.slot_dict_items PySem.F.type_dict_items Sx.mt_itemsK ((pe_fld (pv 0) rfl)))) pa_nil))) pa_nil)))), ?_⟩
    refine ⟨_, rfl, _, _, _, _, _, rfl, h.ins, L.cl, L.counts, sF_counts _ _, .inr (.inr (.inl ⟨rfl, .inl ⟨_, h.cn⟩⟩)), A.cn, _, rfl, rfl, h.cn, fun p np => ?_⟩
    have npc : A.cn ≠ p := ne_of_none h.cn np
    have ep : cntV m.counts = (m.counts.map c2).map fun p => (p.1, kV p.2) := by unfold cntV; rw [List.map_map]; rfl
    refine ⟨p, A.cn, m.counts.map c2, rfl, upd_same, by rw [upd_ne npc, h.cn, ep], ⟨false, true, fun x hx => ?_⟩, fun H1 l Ls same hL pm _ hl => ?_⟩
    · obtain ⟨c, _, rfl⟩ := List.mem_map.mp hx
      exact ⟨rfl, rfl⟩
    · obtain ⟨ds, dp, hp⟩ := seen_of hL pm
      refine ⟨l, _, rfl, SqL.of hl, fun t nt => ?_⟩
      have g : Gw D0 H (upd H1 t (tupP t (Ls.map fun p => V.ref p.1))) := ((Gw.refl.new np).trans (Gw.same same)).new nt
      refine q _ _ ds dp ⟨t, Ls.map (·.1), rfl, ?_, L2.Paired.mapP hp fun p kv z => ?_, (dp.map _).nodup_iff.mpr nd⟩ g
      · rw [upd_same, List.map_map]
        rfl
      · rw [upd_ne (ne_of_none z nt)]
        exact z
def spWaiting (C W : Addr) : Sp := fun vs H Q _ => ∃ (A : SA) (m : Sm), vs = [.ref A.p] ∧ SiteAt C W H A m ∧ Q (.int (m.waits.length : Nat)) H
theorem scWaiting : FnScope ["self"] ["self"] (defScope (sSt 2)) := ⟨rfl, rfl, rfl, by decide +kernel, rfl, by decide +kernel, by decide +kernel⟩
theorem ok_waiting (D : Md K C "waiting" "Site.waiting" (sSt 2) ["self"]) (L : KSite K mg C) (mM : Mt P w K mg base W 1 "many" ["self"] (spWtMany W)) : Mt P w K mg base C 2 "waiting" ["self"] (spWaiting C W) := by
  refine D.ok L.cl scWaiting (fun vs H Q E h => ?_) (fun cdv f A outer s H vs Q E hr h => ?_)
  · obtain ⟨A, m, rfl, _⟩ := h
    rfl
  · obtain ⟨A, m, rfl, h, q⟩ := h
    refine ⟨_, (pss_one (ps_ret (pe_mth0 mM (by first | exact hr | exact hr.mono (by decide) | exact room_gx hr hA | exact (room_gx hr hA).mono (by decide)) ((pe_fld (pv 0) rfl))))), ?_⟩
    exact ⟨_, rfl, _, _, _, _, _, rfl, h.ins, L.cl, L.waits, sF_waits _ _, _, _, _, rfl, h.wt.ins, wtF_no _ (by decide +kernel), _, _, _, _, rfl, h.wt, q⟩
def FoundAt (H : Hp) (a : Addr) (l : List Id) : Prop := ∃ kvs, H a = some (.dT kvs) ∧ Rows (fun r : Id => r) (fun v _ => v = .bl true) kvs l
theorem FoundAt.gw {D : Addr → Prop} {H H' : Hp} {a : Addr} {l : List Id} (h : FoundAt H a l) (g : Gw D H H') (n : ¬ D a) : FoundAt H' a l := let ⟨kvs, h1, h2⟩ := h; ⟨kvs, g.oth _ _ h1 (fun _ z => by cases z) n, h2⟩
theorem found_is {kvs : List (List L2.Key × V)} {l : List Id} (h : Rows (fun r : Id => r) (fun v _ => v = .bl true) kvs l) (i : Id) : (valV kvs (idK i)).isSome = inI l i := by
  unfold inI
  cases e : lkG (fun r : Id => r) l i with
  | none =>
    rw [Rows.none_ h e]
    rfl
  | some r =>
    obtain ⟨v, hv, _⟩ := Rows.some_ h e
    rw [hv]
    rfl
theorem tab_get {H : Hp} {kvs : List (List L2.Key × V)} {t : Tab} {i : Id} (h : Rows (fun r : Id × List Id => r.1) (fun v r => IdsAt H v r.2) kvs t) (hi : i ∈ t.map fun r : Id × List Id => r.1) : ∃ v, valV kvs (idK i) = some v ∧ IdsAt H v (getT t i) := by
  obtain ⟨r, hr⟩ := lk_mem hi
  obtain ⟨v, hv, hids⟩ := Rows.some_ h hr
  refine ⟨v, hv, ?_⟩
  unfold getT
  rw [hr]
  exact hids
theorem any_no {α : Type} (f : α → Bool) (l : List α) (h : ∀ (i : Nat) (x : α), l[i]? = some x → f x = false) : l.any f = false := by
  rw [List.any_eq_false]
  intro x hx
  obtain ⟨i, hi⟩ := List.mem_iff_getElem?.mp hx
  rw [h i x hi]
  exact Bool.false_ne_true
theorem any_yes {α : Type} (f : α → Bool) (l : List α) {i : Nat} {x : α} (h : l[i]? = some x) (hf : f x = true) : l.any f = true := List.any_eq_true.mpr ⟨x, List.mem_of_getElem? h, hf⟩
theorem offStep_yes {u : Tab} {found : List Id} {own o : Id} {k : Nat} (h : (getT u own)[k]? = some o) (hf : inI found o = false) : offStep u found own = putG (fun r : Id => r) found own := by
  unfold offStep
  rw [any_yes (fun other => !inI found other) _ h (by rw [hf]; rfl)]
  exact if_pos rfl
theorem offStep_no {u : Tab} {found : List Id} {own : Id} (h : ∀ (k : Nat) (o : Id), (getT u own)[k]? = some o → inI found o = true) : offStep u found own = found := by
  unfold offStep
  rw [any_no (fun other => !inI found other) _ fun k x hx => by rw [h k x hx]; rfl]
  exact if_neg Bool.false_ne_true
def spOff (C W : Addr) (t : Tbs) : Sp := fun vs H Q _ => ∃ (A : SA) (m : Sm), vs = [.ref A.p] ∧ SiteAt C W H A m ∧ m.undone.length ≤ 100000 ∧ Tb t H ∧ ∀ H' f, FoundAt H' f (offM m.undone) → Gw D0 H H' → Q (.ref f) H'
theorem scOff : FnScope ["self", "found", "own"] ["self"] (defScope (sSt 3)) := ⟨rfl, rfl, rfl, by decide +kernel, rfl, by decide +kernel, by decide +kernel⟩
theorem ok_off {t : Tbs} (D : MdT K mg base C "off" "Site.off" (sSt 3) ["self"] t.o) (L : KSite K mg C) (T : Bi mg) : Mt P w K mg base C 2 "off" ["self"] (spOff C W t) := by
  refine D.ok L.cl scOff (fun vs H Q E h => ?_) (fun c f A outer s H vs Q E TB hr h => ?_)
  · obtain ⟨A, m, rfl, _⟩ := h
    rfl
  · obtain ⟨A, m, rfl, h, hl, tb, q⟩ := h
    obtain ⟨kvs, hk, rws⟩ := h.un
    refine ⟨_, (pss_cons ((ps_set (i := 1) scOff.nd rfl (Or.inr rfl) (pe_dnewT)))
      (pss_cons (ps_for PassesOwn.never rfl (pi_list (pe_callBK (Sx.cr_sortedDTR rfl) (by rfl) T.sorted_ (by decide +kernel) (pa_cons ((pe_fld (pv 0) rfl)) pa_nil) (pk_cons pe_bl pk_nil))) (pg_name (i := 2) scOff.nd rfl (Or.inl rfl))
        (pss_one (ps_if (pt_val (pe_anyG (x := "other") (fr := ["found"]) (js := [1]) hr (by rfl) T.any_ TB rfl (gxs_by (by decide +kernel)) (caps_by (x := "other") (sc := defScope (sSt 3)) (gxs_by (by decide +kernel)) rfl (by decide +kernel) rfl) (pi_tup (pe_dget (hu_of hr) (pe_fld (pv 0) rfl) (pv 2) (fun _ _ => rfl)))
        (fun r hA => pe_cmp (pc_dnotin (hu_of (room_gx hr hA)) (pv 0) (pv 1))))) (pss_one (ps_dput (hu_of hr) (pv 1) (pv 2) pe_bl rfl)) pss_nil)))
      (pss_one (ps_ret (pv 1))))), ?_⟩
    intro d nd
    have g0 : Gw D0 H (upd H d (.dT [])) := Gw.refl.new nd
    have h0 := h.gw0 g0
    have hk0 : upd H d (HO.dT []) A.un = some (.dT kvs) := by rw [upd_ne (ne_of_none hk nd)]; exact hk
    refine ⟨_, rfl, _, _, _, _, _, rfl, h0.ins, L.cl, L.undone, sF_undone _ _, A.un, rfl, rfl, kvs, (m.undone.map fun r : Id × List Id => r.1).map id2, .of hk0, keys_rows rws, oneKind _, fun Ls p hL hp dn np => ?_⟩
    obtain ⟨js, jp, e2, js2⟩ := ids_of hL hp
    have dn : Sx.Down Ls := dn
    have ejs : js = (sortI (m.undone.map fun r : Id × List Id => r.1)).reverse := sortI_down (down_ids dn e2) jp
    have g1 : Gw D0 H (upd (upd H d (.dT [])) p (.lst (Ls.map fun p => V.ref p.1))) := g0.new np
    have ndp : d ≠ p := ne_of_none upd_same np
    have npH : H p = none := g0.non _ np
    refine ⟨p, rfl, ⟨_, SqL.of upd_same⟩, ?_⟩
    refine for_it (walk_list (xs := Ls.map fun p => V.ref p.1)) (fun i σ H' => (∃ v2, σ = [some (.ref A.p), some (.ref d), v2]) ∧ Gw D0 H H' ∧ H' p = some (.lst (Ls.map fun p => V.ref p.1)) ∧ FoundAt H' d ((js.take i).foldl (offStep m.undone) []) ∧ ((js.take i).foldl (offStep m.undone) []).length ≤ i)
      ⟨⟨_, rfl⟩, g1, upd_same, ⟨[], by rw [upd_ne ndp]; exact upd_same, All2.nil⟩, Nat.le_refl _⟩ (fun i σ H' _ h => SqL.of h.2.2.1) ?_ ?_
    · rintro i y σ H1 H1' hi ⟨⟨v2, rfl⟩, g, hp1, ⟨fkv, hf1, hf2⟩, hfl⟩ ⟨rfl, hy⟩
      obtain ⟨ij, hij, hya⟩ := js2.get hy
      obtain ⟨ya, rfl, hyt0⟩ := hya
      have hyt : H1' ya = some (.tup (idT ij)) := by
        have hyH : H ya = some (.tup (idT ij)) := by
          have z : ya ≠ d := fun z => by rw [z, upd_same] at hyt0; cases hyt0
          rw [upd_ne z] at hyt0
          exact hyt0
        exact g.tup _ _ hyH
      have h1 := h.gw0 g
      obtain ⟨kvs1, hk1, rws1⟩ := h1.un
      obtain ⟨u, hu1, ⟨ua, us, rfl, hua, hus⟩⟩ := tab_get rws1 (jp.mem_iff.mp (List.mem_of_getElem? hij))
      have et : js.take (i + 1) = js.take i ++ [ij] := by rw [List.take_add_one, hij]; rfl
      have ef : (js.take (i + 1)).foldl (offStep m.undone) [] = offStep m.undone ((js.take i).foldl (offStep m.undone) []) ij := by rw [et, List.foldl_append]; rfl
      have tb1 := tb.gw g
      have hi2 : i < 100000 := by
        have a1 : i < js.length := by rw [← js2.len]; exact hi
        rw [jp.length_eq, List.length_map] at a1
        omega
      refine ⟨_, rfl, _, _, _, _, _, rfl, h1.ins, L.cl, L.undone, sF_undone _ _, _, rfl, _, _, rfl, (by rw [← hu1]; exact DGet.t (k := idK ij) hk1 hyt), ua, rfl, ⟨us, SqT.of hua⟩, tb1.o, fun H2 t2 => gx_it (walk_tup (xs := us)) (fun k H' => Gw D0 H1' H' ∧ ∀ j o, j < k → (getT m.undone ij)[j]? = some o → inI ((js.take i).foldl (offStep m.undone) []) o = true) ⟨Gw.refl.tbl t2 tb1.o, fun j o hj => absurd hj (Nat.not_lt_zero _)⟩ (fun k H' _ z => SqT.of (z.1.tup _ _ hua)) ?_ fun H3 g3 => ?_⟩
      · rintro k z H3 H3' N hk3 ⟨g3, pf⟩ ⟨rfl, hz⟩ hN
        obtain ⟨o, ho, ⟨za, rfl, hza⟩⟩ := hus.get hz
        have hd3 := g3.oth _ _ hf1 (fun _ z => by cases z) (fun z => z)
        refine ⟨_, rfl, _, rfl, _, _, rfl, DGet.t (k := idK o) hd3 (g3.tup _ _ hza), _, rfl, ?_⟩
        rw [found_is hf2]
        cases hin : inI ((js.take i).foldl (offStep m.undone) []) o with
        | true =>
          refine iteF (hN _ ⟨g3, fun j x hj hx => ?_⟩)
          by_cases e : j = k
          · subst e
            rw [ho] at hx
            cases hx
            exact hin
          · exact pf j x (by omega) hx
        | false =>
          refine iteT ⟨_, rfl, ?_⟩
          have gg := g.trans g3
          refine iteT ⟨_, rfl, _, rfl, _, _, rfl, DPut.t (k := idK ij) hd3 (g3.tup _ _ hyt) (by rw [All2.len hf2, sizeLine_eq]; omega), ?_⟩
          have es := offStep_yes ho hin
          refine ⟨⟨_, rfl⟩, gg.fresh nd, by rw [upd_ne ndp.symm]; exact g3.oth _ _ hp1 (fun _ z => by cases z) (fun z => z), ⟨_, upd_same, ?_⟩, ?_⟩
          · rw [ef, es]
            exact hf2.put rfl
          · rw [ef, es]
            have := putG_len (key := fun r : Id => r) ((js.take i).foldl (offStep m.undone) []) ij
            omega
      · refine ⟨_, rfl, iteF ?_⟩
        have es := offStep_no (u := m.undone) (found := (js.take i).foldl (offStep m.undone) []) (own := ij) fun k x hx => g3.2 k x (by rw [hus.len]; exact (List.getElem?_eq_some_iff.mp hx).1) hx
        refine ⟨⟨_, rfl⟩, g.trans g3.1, g3.1.oth _ _ hp1 (fun _ z => by cases z) (fun z => z), ?_, ?_⟩
        · rw [ef, es]
          exact ⟨fkv, g3.1.oth _ _ hf1 (fun _ z => by cases z) (fun z => z), hf2⟩
        · rw [ef, es]
          omega
    · rintro σ H1 ⟨⟨v2, rfl⟩, g, hp1, hf, _⟩
      rw [js2.len, List.take_length, ejs] at hf
      exact ⟨_, rfl, q _ _ hf g⟩
end
end K80
namespace K80
open PySem PySem.Spec PyProof.Rows L2 Gx GxR NdefX
theorem fldK {X : Cx} {K : PySem.W.Frag} {e : Expr} {f : Str} {pos : Pos} {ta : TE} (he : PE X e ta) (hb : attributeBase e f X.env (eval e X.env) = eval e X.env) (h : X.K = K := by rfl) : PE X (.Attribute e f pos) (tFld K ta f) := by
  subst h
  exact pe_fld he hb
theorem filter_take_succ {α : Type} (f : α → Bool) {l : List α} {i : Nat} {x : α} (h : l[i]? = some x) : (l.take (i + 1)).filter f = (l.take i).filter f ++ (if f x = true then [x] else []) := by
  rw [List.take_add_one, h, List.filter_append]
  congr 1
  show ([x] : List α).filter f = _
  rw [List.filter_cons]
  rfl
theorem join_signs : ∀ cs : List Nat, Txt.join ("" : Str) (cs.map fun c => S [c]) = S cs := by
  intro cs
  have e0 : ("" : Str) = ⟨#[]⟩ := by decide +kernel
  unfold Txt.join
  show Builtin.Str.glued _ _ = _
  unfold Builtin.Str.glued
  rw [e0]
  cases cs with
  | nil => rfl
  | cons c cs =>
    have key : ∀ (l : List Nat) (acc : Array Nat), (l.map fun c => S [c]).foldl (fun acc p => acc ++ (⟨#[]⟩ : Str).cps ++ p.cps) acc = acc ++ l.toArray := by
      intro l
      induction l with
      | nil => intro acc; simp
      | cons d l ih =>
        intro acc
        rw [List.map_cons, List.foldl_cons, ih]
        apply Array.ext'
        simp
    rw [List.map_cons, List.drop_one, List.tail_cons, key]
    show Str.mk (#[c] ++ cs.toArray) = Str.mk (c :: cs).toArray
    rw [show (c :: cs).toArray = #[c] ++ cs.toArray from by apply Array.ext'; simp]
section
variable {P : Program} {w : World} {K : PySem.W.Frag} {mg : Str → Option Value} {base : Heap}
variable {C W : Addr}
theorem tab_none {H : Hp} {kvs : List (List L2.Key × V)} {t : Tab} {i : Id} (h : Rows (fun r : Id × List Id => r.1) (fun v r => IdsAt H v r.2) kvs t) (hi : lkG (fun r : Id × List Id => r.1) t i = none) : valV kvs (idK i) = none ∧ getT t i = [] :=
  ⟨Rows.none_ h hi, by unfold getT; rw [hi]; rfl⟩
def spDoesShow (C W : Addr) (t : Tbs) : Sp := fun vs H Q _ => ∃ (A : SA) (m : Sm) (f : Addr) (l : List Id) (v : V) (i : Id), vs = [.ref A.p, .ref f, v] ∧ SiteAt C W H A m ∧ FoundAt H f l ∧ IdAt H v i ∧ Tb t H ∧ ∀ H', Gw D0 H H' → Q (.bl (showB l m.cuts i)) H'
theorem scDoesShow : FnScope ["self", "off", "own"] ["self", "off", "own"] (defScope (sSt 4)) := ⟨rfl, rfl, rfl, by decide +kernel, rfl, by decide +kernel, by decide +kernel⟩
theorem ok_doesShow {t : Tbs} (D : MdT K mg base C "does_show" "Site.does_show" (sSt 4) ["self", "off", "own"] t.d) (L : KSite K mg C) (T : Bi mg) : Mt P w K mg base C 2 "does_show" ["self", "off", "own"] (spDoesShow C W t) := by
  refine D.ok L.cl scDoesShow (fun vs H Q E h => ?_) (fun c f A outer s H vs Q E TB hr h => ?_)
  · obtain ⟨A, m, _, _, _, _, rfl, _⟩ := h
    rfl
  · obtain ⟨A, m, f, l, v, i, rfl, h, ⟨fk, hf, hl⟩, ⟨a, rfl, ha⟩, tb, q⟩ := h
    obtain ⟨kvs, hk, rws⟩ := h.ct
    refine ⟨_, (pss_one (ps_ret (pe_and (pe_cmp (pc_dnotin (hu_of hr) (pv 2) (pv 1))) (pe_one (pe_allG (x := "other") (fr := ["off"]) (js := [1]) hr (by rfl) T.all_ TB rfl (gxs_by (by decide +kernel)) (caps_by (x := "other") (sc := defScope (sSt 4)) (gxs_by (by decide +kernel)) rfl (by decide +kernel) rfl) (pi_tup (pe_dget2 (hu_of hr) ((pe_fld (pv 0) rfl)) (pv 2) (pe_tup pa_nil) ⟨by rfl, by rfl, by rfl, by rfl⟩))
        (fun r hA => pe_cmp (pc_din (hu_of (room_gx hr hA)) (pv 0) (pv 1)))))))), ?_⟩
    refine ⟨_, rfl, _, rfl, _, _, rfl, DGet.t (k := idK i) hf ha, _, rfl, ?_⟩
    rw [found_is hl]
    unfold showB at q
    cases hin : inI l i with
    | true =>
      rw [hin] at q
      exact iteF (q _ Gw.refl)
    | false =>
      rw [hin] at q
      refine iteT ⟨_, rfl, _, _, _, _, _, rfl, h.ins, L.cl, L.cuts, sF_cuts _ _, A.ct, rfl, .inr ⟨_, .of hk⟩, _, rfl, Nat.zero_le _, fun e ne => ?_⟩
      have g0 : Gw D0 H (upd H e (.tup [])) := Gw.refl.new ne
      have hk0 : upd H e (HO.tup []) A.ct = some (.dT kvs) := by rw [upd_ne (ne_of_none hk ne)]; exact hk
      have ha0 := g0.tup _ _ ha
      have tb0 := tb.gw g0
      have main : ∀ (p : Addr) (us : List V), upd H e (HO.tup []) p = some (.tup us) → All2 (IdAt (upd H e (HO.tup []))) us (getT m.cuts i) →
          iTup K (fun _ H' R => R (.ref p) H') (L2.start ["self", "off", "own"] [V.ref A.p, V.ref f, V.ref a]) (upd H e (HO.tup [])) fun J H1 => TabG H1 t.d ∧ ∀ H2, Tabbed t.d H1 H2 → ∃ W' : Nat → Nat → Hp → Prop, (∃ m', W' 0 m' H2) ∧ GxStep J false (fun H' => Q (.bl false) H') (fun H' => Q (.bl true) H') (tDIn (tVar 0) (tVar 1)) [some (V.ref f)] W' := by
        intro p us hp hus
        refine ⟨p, rfl, ⟨us, SqT.of hp⟩, tb0.d, fun H2 t2 => gx_it (walk_tup (xs := us)) (fun k H' => Gw D0 (upd H e (HO.tup [])) H' ∧ ∀ j o, j < k → (getT m.cuts i)[j]? = some o → inI l o = true) ⟨Gw.refl.tbl t2 tb0.d, fun j o hj => absurd hj (Nat.not_lt_zero _)⟩ (fun k H' _ z => SqT.of (z.1.tup _ _ hp)) ?_ fun H3 g3 => ?_⟩
        · rintro k z H3 H3' N hk3 ⟨g3, pf⟩ ⟨rfl, hz⟩ hN
          obtain ⟨o, ho, ⟨za, rfl, hza⟩⟩ := hus.get hz
          have hf3 := (g0.trans g3).oth _ _ hf (fun _ z => by cases z) (fun z => z)
          refine ⟨_, rfl, _, rfl, _, _, rfl, DGet.t (k := idK o) hf3 (g3.tup _ _ hza), _, rfl, ?_⟩
          rw [found_is hl]
          cases hin2 : inI l o with
          | true =>
            refine iteTF (hN _ ⟨g3, fun j x hj hx => ?_⟩)
            by_cases e : j = k
            · subst e
              rw [ho] at hx
              cases hx
              exact hin2
            · exact pf j x (by omega) hx
          | false =>
            refine iteFF ?_
            rw [all_no (fun o => inI l o) _ ho hin2] at q
            exact q _ (g0.trans g3)
        · have : (getT m.cuts i).all (fun o => inI l o) = true := all_split _ _ fun k x hx => g3.2 k x (by rw [hus.len]; exact (List.getElem?_eq_some_iff.mp hx).1) hx
          rw [this] at q
          exact q _ (g0.trans g3.1)
      cases hlk : lkG (fun r : Id × List Id => r.1) m.cuts i with
      | none =>
        obtain ⟨e1, e2⟩ := tab_none rws hlk
        refine ⟨none, by rw [← e1]; exact DGet.t (k := idK i) hk0 ha0, ?_⟩
        exact main e [] upd_same (by rw [e2]; exact All2.nil)
      | some r =>
        obtain ⟨v, hv, ⟨p, us, ev, hp, hus⟩⟩ := Rows.some_ rws hlk
        subst ev
        refine ⟨some (.ref p), by rw [← hv]; exact DGet.t (k := idK i) hk0 ha0, ?_⟩
        refine main p us (g0.tup _ _ hp) ?_
        unfold getT
        rw [hlk]
        exact hus.mono fun _ _ z => z.gw g0
def spShowing (C W : Addr) (t : Tbs) : Sp := fun vs H Q _ => ∃ (A : SA) (m : Sm), vs = [.ref A.p] ∧ SiteAt C W H A m ∧ m.undone.length ≤ 100000 ∧ m.order.length ≤ 100000 ∧ Tb t H ∧ ∀ H' p us, H' p = some (.lst us) → All2 (IdAt H') us (showing m) → H p = none → Gw D0 H H' → Q (.ref p) H'
theorem scShowing : FnScope ["self", "off", "own"] ["self"] (defScope (sSt 5)) := ⟨rfl, rfl, rfl, by decide +kernel, rfl, by decide +kernel, by decide +kernel⟩
theorem ok_showing {t : Tbs} (D : Md K C "showing" "Site.showing" (sSt 5) ["self"]) (L : KSite K mg C) (mO : Mt P w K mg base C 2 "off" ["self"] (spOff C W t)) (mD : Mt P w K mg base C 2 "does_show" ["self", "off", "own"] (spDoesShow C W t)) :
    Mt P w K mg base C 3 "showing" ["self"] (spShowing C W t) := by
  refine D.ok L.cl scShowing (fun vs H Q E h => ?_) (fun cdv f A outer s H vs Q E hr h => ?_)
  · obtain ⟨A, m, rfl, _⟩ := h
    rfl
  · obtain ⟨A, m, rfl, h, hl1, hl2, tb, q⟩ := h
    refine ⟨_, (pss_cons ((ps_set (i := 1) scShowing.nd rfl (Or.inr rfl) ((pe_mth0 mO (by first | exact hr | exact hr.mono (by decide) | exact room_gx hr hA | exact (room_gx hr hA).mono (by decide)) (pv 0)))))
      (pss_one (ps_ret (pe_lc (own := [("own", 2)]) (g := (gName 2)) rfl scShowing.nd (pi_list (pe_fld (pv 0) rfl)) (blkOk_by (own := [("own", 2)]) (N := ["self", "off", "own"]) (sc := defScope (sSt 5)) (by decide +kernel))
        (fun _ _ _ _ _ => (pg_name (i := 2) scShowing.nd rfl (Or.inl rfl))) (fun _ _ _ _ _ => pts_one (pt_val (pe_mth mD (by first | exact hr | exact hr.mono (by decide) | exact room_gx hr hA | exact (room_gx hr hA).mono (by decide)) (pv 0) (pa_cons (pv 1) (pa_cons (pv 2) pa_nil))))) (fun _ _ _ _ _ => pv 2))))), ?_⟩
    refine ⟨_, rfl, _, _, _, rfl, h.ins, sN_off _ _, A, m, rfl, h, hl1, tb, fun H1 f hf g1 => ?_⟩
    have h1 := h.gw0 g1
    obtain ⟨us, hod, hus⟩ := h1.od
    refine ⟨_, rfl, _, _, _, _, _, rfl, h1.ins, L.cl, L.order, sF_order _ _, A.od, rfl, ⟨us, SqL.of hod⟩, fun d nd => ?_⟩
    have ndH := g1.non _ nd
    refine lc_it (walk_list (xs := us)) (fun i H' => Gw D0 H1 H' ∧ ∃ vs, H' d = some (.lst vs) ∧ All2 (IdAt H') vs ((m.order.take i).filter (showB (offM m.undone) m.cuts))) ⟨Gw.refl.new nd, [], upd_same, All2.nil⟩ (fun i H' _ z => SqL.of (z.1.oth _ _ hod (fun _ z => by cases z) (fun z => z))) ?_ ?_
    · rintro i y H2 H2' hi ⟨g, vs, hd, hvs⟩ ⟨rfl, hy⟩
      obtain ⟨x, hx, hxa⟩ := hus.get hy
      have et : (m.order.take (i + 1)).filter (showB (offM m.undone) m.cuts) = (m.order.take i).filter (showB (offM m.undone) m.cuts) ++ (if showB (offM m.undone) m.cuts x = true then [x] else []) := filter_take_succ _ hx
      have hx2 := hxa.gw g
      refine ⟨rfl, _, rfl, _, _, _, rfl, (h1.gw0 g).ins, sN_does_show _ _, _, rfl, _, rfl, A, m, f, _, y, x, rfl, h1.gw0 g, hf.gw g (fun z => z), hx2, (tb.gw g1).gw g, fun H3 g3 => ⟨_, rfl, ?_⟩⟩
      have hd3 := g3.oth _ _ hd (fun _ z => by cases z) (fun z => z)
      have gg := g.trans g3
      cases hsh : showB (offM m.undone) m.cuts x with
      | true =>
        have lv : vs.length < sizeLine := by
          rw [hvs.len, sizeLine_eq]
          have h1 := List.length_filter_le (showB (offM m.undone) m.cuts) (m.order.take i)
          rw [List.length_take] at h1
          omega
        refine ⟨_, rfl, vs, hd3, lv, gg.fresh nd, _, upd_same, ?_⟩
        rw [et, hsh]
        have gd : Gw (fun b => b = d) H2' (upd H3 d (.lst (vs ++ [y]))) := (Gw.of0 g3).put rfl hd3 (fun _ z => by cases z) (fun _ z => by cases z)
        exact (hvs.mono fun _ _ z => z.gw gd).snoc (hx2.gw gd)
      | false =>
        refine ⟨gg, vs, hd3, ?_⟩
        rw [et, hsh]
        simpa using hvs.mono fun _ _ z => z.gw g3
    · rintro H2 ⟨g, vs, hd, hvs⟩
      rw [hus.len, List.take_length] at hvs
      exact q _ d vs hd hvs ndH (g1.trans g)
/-- all that is in the order is known, as a sign put in -/
def OrdOk (m : Sm) : Prop := ∀ i ∈ m.order, ∃ o, lkG Op.id m.known i = some o ∧ o.kind = .put
def spTextS (C W : Addr) (t : Tbs) : Sp := fun vs H Q _ => ∃ (A : SA) (m : Sm), vs = [.ref A.p] ∧ SiteAt C W H A m ∧ m.undone.length ≤ 100000 ∧ m.order.length ≤ 100000 ∧ OrdOk m ∧ Tb t H ∧ ∀ H', Gw D0 H H' → Q (.str (S (textM m))) H'
theorem scTextS : FnScope ["self", "own"] ["self"] (defScope (sSt 6)) := ⟨rfl, rfl, rfl, by decide +kernel, rfl, by decide +kernel, by decide +kernel⟩
theorem ok_textS {t : Tbs} (D : Md K C "text" "Site.text" (sSt 6) ["self"]) (L : KSite K mg C) (mS : Mt P w K mg base C 3 "showing" ["self"] (spShowing C W t)) : Mt P w K mg base C 4 "text" ["self"] (spTextS C W t) := by
  refine D.ok L.cl scTextS (fun vs H Q E h => ?_) (fun cdv f A outer s H vs Q E hr h => ?_)
  · obtain ⟨A, m, rfl, _⟩ := h
    rfl
  · obtain ⟨A, m, rfl, h, hl1, hl2, ok, tb, q⟩ := h
    have hu := hu_of hr
    refine ⟨_, (pss_one (ps_ret (pe_join pe_str (pe_lc (own := [("own", 1)]) (g := (gName 1)) rfl scTextS.nd (pi_list (pe_mth0 mS (by first | exact hr | exact hr.mono (by decide) | exact room_gx hr hA | exact (room_gx hr hA).mono (by decide)) (pv 0))) (blkOk_by (own := [("own", 1)]) (N := ["self", "own"]) (sc := defScope (sSt 6)) (by decide +kernel))
        (fun _ _ _ _ _ => (pg_name (i := 1) scTextS.nd rfl (Or.inl rfl))) (fun _ _ _ _ _ => pts_nil) (fun _ _ _ _ _ => pe_ix (ixtK (K := K)) (pe_dget hu (fldK (K := K) (pv 0) rfl) (pv 1) (fun _ _ => rfl)) pe_int (fun _ _ => rfl)))))), ?_⟩
    refine ⟨⟨_, rfl⟩, _, rfl, _, _, _, rfl, h.ins, sN_showing _ _, A, m, rfl, h, hl1, hl2, tb, fun H1 p us hp hus np g1 => ?_⟩
    refine ⟨p, rfl, ⟨us, SqL.of hp⟩, fun d nd => ?_⟩
    have h1 := h.gw0 g1
    refine lc_it (walk_list (xs := us)) (fun i H' => Gw D0 H1 H' ∧ H' d = some (.lst ((((showing m).take i).map fun i => S [signOf m.known i]).map V.str))) ⟨Gw.refl.new nd, upd_same⟩ (fun i H' _ z => SqL.of (z.1.oth _ _ hp (fun _ z => by cases z) (fun z => z))) ?_ ?_
    · rintro i y H2 H2' hi ⟨g, hd⟩ ⟨rfl, hy⟩
      obtain ⟨x, hx, xa, rfl, hxa⟩ := hus.get hy
      have hxo : x ∈ m.order := (List.mem_filter.mp (List.mem_of_getElem? hx)).1
      obtain ⟨o, ho, hk⟩ := ok x hxo
      have h2 := h1.gw0 g
      obtain ⟨kvs, hkn, rws⟩ := h2.kn
      obtain ⟨v, hv, a, vi, vr, ev, ha, _⟩ := Rows.some_ rws ho
      subst ev
      have ls : (showing m).length ≤ 100000 := Nat.le_trans (List.length_filter_le _ _) hl2
      refine ⟨rfl, _, rfl, _, _, _, _, _, rfl, h2.ins, L.cl, L.known, sF_known _ _, _, rfl, _, _, rfl, (by rw [← hv]; exact DGet.t (k := idK x) hkn (g.tup _ _ hxa)), _, _, _, _, rfl, rfl, SqT.of ha, at4 o _ _ hk, _, hd, ?_, g.fresh nd, ?_⟩
      · rw [List.length_map, List.length_map, List.length_take, sizeLine_eq]
        omega
      · rw [upd_same, List.take_add_one, hx]
        have e : signOf m.known x = o.sign := by unfold signOf; rw [ho]; rfl
        simp [e]
    · rintro H2 ⟨g, hd⟩
      rw [hus.len, List.take_length] at hd
      refine ⟨_, d, _, rfl, rfl, .inl (SqL.of hd), ?_, ?_⟩
      · have l0 : ("" : Str).length = 0 := by decide +kernel
        rw [l0, Nat.mul_zero, Nat.add_zero, List.map_map]
        have : ∀ l : List Id, (l.map ((fun x : Str => x.length) ∘ fun i => S [signOf m.known i])).sum = l.length := fun l => by
          induction l with
          | nil => rfl
          | cons a l ih =>
            rw [List.map_cons, List.sum_cons, ih]
            show 1 + l.length = l.length + 1
            omega
        rw [this]
        have ls : (showing m).length ≤ m.order.length := List.length_filter_le _ _
        omega
      · have e : (showing m).map (fun i => S [signOf m.known i]) = (textM m).map fun c => S [c] := by unfold textM; rw [List.map_map]; rfl
        rw [e, join_signs]
        exact q _ (g1.trans g)
end
end K80
namespace K80
open PySem PySem.Spec PyProof.Rows L2 Gx GxR NdefX
open PySem.W PySem.SeqAt
/-! ### ids as data: >, the place in a list -/
def dI (i : Id) : PyData := .tuple [.int (i.1 : Nat), .str i.2]
theorem dI_at {K : PySem.W.Frag} {H : Hp} {v : V} {i : Id} (h : IdAt H v i) : Dp K H v (dI i) := by
  obtain ⟨a, rfl, ha⟩ := h
  exact .tup (SqT.of ha) (.cons (.int _) (.cons (.str _) .nil))
theorem eqv_dI (i j : Id) : PyData.eqv (dI i) (dI j) = decide (i = j) := by
  unfold dI
  simp only [PyData.eqv, PyData.eqvAll, Bool.and_true]
  apply Bool.eq_iff_iff.mpr
  rw [Bool.and_eq_true, beq_iff_eq, beq_iff_eq, decide_eq_true_eq]
  constructor
  · intro ⟨h1, h2⟩
    exact Prod.ext (by omega) h2
  · intro h
    rw [h]
    exact ⟨rfl, rfl⟩
theorem alike_dI (i j : Id) : alike (dI i) (dI j) = true := by
  unfold dI
  simp [alike, alikeAll]
theorem dataLt_dI (i j : Id) : dataLt (dI i) (dI j) = ltI i j := by
  unfold dI ltI Sx.lt2K
  rw [dataLt_tuple]
  by_cases h : i.1 = j.1
  · rw [if_pos (show (id2 i).1 = (id2 j).1 by show (Sum.inl ((i.1 : Nat) : Int) : L2.Key) = Sum.inl ((j.1 : Nat) : Int); rw [h])]
    rw [dataLt_all_yes (by simp [alike]) (by simp [PyData.eqv, h])]
    by_cases h2 : i.2 = j.2
    · rw [dataLt_all_yes (by simp [alike]) (by simp [PyData.eqv, h2])]
      show _ = Sx.ltK (Sum.inr i.2) (Sum.inr j.2)
      rw [h2, Sx.ltK_irr]
      rfl
    · rw [dataLt_all_no (by simp [alike]) (by simp [PyData.eqv, h2]), dataLt_str]
      rfl
  · have ne : ¬ ((i.1 : Nat) : Int) = ((j.1 : Nat) : Int) := by omega
    rw [if_neg (show ¬ (id2 i).1 = (id2 j).1 from fun z => ne (Sum.inl.inj z))]
    rw [dataLt_all_no (by simp [alike]) (by simp [PyData.eqv, ne]), dataLt_int]
    rfl
/-- i > j -/
theorem op_gtI {X : Cx} (hu : X.A.units + 4 < cLine) : OpR X (compareOp .Gt) (fun x y H Q => ∃ i j : Id, IdAt H x i ∧ IdAt H y j ∧ Q (.bl (ltI j i)) H) := by
  intro pins s σ H x y v u Q I rx ry h
  obtain ⟨i, j, hi, hj, q⟩ := h
  obtain ⟨as, r1⟩ := Dp.reads I _ _ _ (dI_at (K := X.K) hi) rx
  obtain ⟨bs, r2⟩ := Dp.reads I _ _ _ (dI_at (K := X.K) hj) ry
  refine gt_data r1 r2 (alike_dI i j) (by unfold dI; exact fun z => by cases z) ?_ ⟨.bl (ltI j i), H, I, by rw [dataLt_dI]; rfl, q⟩
  have : (dI i).depth ≤ 3 := by unfold dI; simp [PyData.depth, PyData.depthAll]
  have := Nat.min_le_left (dI i).depth (dI j).depth
  omega
theorem shaped_dI {i : Id} (h : PyData.strOk i.2 = true) : shaped (dI i) = true := by
  unfold dI shaped
  simp [PyData.canLay0, PyData.canLayAll0, PyData.depth, PyData.depthAll, h]
theorem shaped_all {l : List Id} (h : ∀ i ∈ l, PyData.strOk i.2 = true) : shaped (.list (l.map dI)) = true := by
  have a : ∀ l : List Id, (∀ i ∈ l, PyData.strOk i.2 = true) → PyData.canLayAll0 (l.map dI) = true ∧ PyData.depthAll (l.map dI) ≤ 1 := by
    intro l
    induction l with
    | nil => intro _; exact ⟨rfl, Nat.zero_le _⟩
    | cons i l ih =>
      intro h
      obtain ⟨h1, h2⟩ := ih fun j hj => h j (List.mem_cons_of_mem _ hj)
      have h3 := h i List.mem_cons_self
      refine ⟨?_, ?_⟩
      · rw [List.map_cons, PyData.canLayAll0, h1]
        unfold dI
        simp [PyData.canLay0, PyData.canLayAll0, h3]
      · rw [List.map_cons, PyData.depthAll]
        unfold dI at h2 ⊢
        simp [PyData.depth, PyData.depthAll]
        exact Nat.max_le.mpr ⟨Nat.le_refl _, h2⟩
  obtain ⟨h1, h2⟩ := a l h
  unfold shaped
  rw [PyData.canLay0, h1, PyData.depth]
  simp
  omega
theorem dpAll {K : PySem.W.Frag} {H : Hp} : ∀ {us : List V} {l : List Id}, All2 (IdAt H) us l → DpAll K H us (l.map dI)
  | [], l, h => by rw [All2.nil_inv h]; exact .nil
  | u :: us, l, h => by
    obtain ⟨i, l', rfl, h1, t⟩ := All2.uncons h
    exact .cons (dI_at h1) (dpAll t)
end K80
namespace K80
open PySem PySem.Spec PyProof.Rows L2 Gx GxR NdefX
theorem strOk_nm {x : Str} (h : Nm x) : PyData.strOk x = true := by
  unfold PyData.strOk
  rw [← Array.all_toList, List.all_eq_true]
  intro c hc
  have := h.2.2 c hc
  simp
  omega
theorem hu65 {k : Nat} {A : Around} (hr : Room k A) : A.units + 65 < cLine := by have := hr.un; omega
theorem hu4 {k : Nat} {A : Around} (hr : Room k A) : A.units + 4 < cLine := by have := hr.un; omega
section
variable {P : Program} {w : World} {K : PySem.W.Frag} {mg : Str → Option Value} {base : Heap}
variable {C W : Addr}
/-- what place_behind needs: the names in the order are fit, the sign it comes behind is there -/
structure PlOk (m : Sm) (o : Op) : Prop where
  len : m.order.length ≤ 100000
  ok : ∀ i ∈ m.order, PyData.strOk i.2 = true
  ref : ∀ r, o.ref = some r → r ∈ m.order
def spPlace (C W : Addr) : Sp := fun vs H Q _ => ∃ (A : SA) (m : Sm) (v : V) (o : Op), vs = [.ref A.p, v] ∧ SiteAt C W H A m ∧ OpAt H v o ∧ PlOk m o ∧ Q (.int (placeB m.order o : Nat)) H
theorem scPlace : FnScope ["self", "operation", "own", "after", "place"] ["self", "operation"] (defScope (sSt 7)) := ⟨rfl, rfl, rfl, by decide +kernel, rfl, by decide +kernel, by decide +kernel⟩
theorem idxOf_first {l : List Id} {i : Id} : ∀ (k : Nat) (j : Id), k < l.idxOf i → l[k]? = some j → j ≠ i := by
  intro k j hk hj e
  subst e
  obtain ⟨hk2, e2⟩ := List.getElem?_eq_some_iff.mp hj
  have := List.not_of_lt_findIdx (p := fun x => x == j) (show k < l.findIdx (fun x => x == j) from hk)
  rw [e2] at this
  simp at this
theorem drop_tw {l : List Id} {p : Id → Bool} {s n : Nat} (h : ∀ k, k < n → ∃ x, l[s + k]? = some x ∧ p x = true) (e : ∀ x, l[s + n]? = some x → p x = false) : ((l.drop s).takeWhile p).length = n := by
  induction n generalizing s with
  | zero =>
    cases hd : l.drop s with
    | nil => rfl
    | cons x t =>
      have : l[s]? = some x := by
        have := congrArg List.head? hd
        rw [List.head?_drop] at this
        exact this
      rw [List.takeWhile_cons, e x (by simpa using this)]
      rfl
  | succ n ih =>
    obtain ⟨x, hx, px⟩ := h 0 (Nat.succ_pos n)
    have hx : l[s]? = some x := by simpa using hx
    obtain ⟨hs, ex⟩ := List.getElem?_eq_some_iff.mp hx
    rw [List.drop_eq_getElem_cons hs, ex, List.takeWhile_cons, px]
    show ((l.drop (s + 1)).takeWhile p).length + 1 = n + 1
    rw [ih (s := s + 1) (fun k hk => by
      obtain ⟨y, hy, py⟩ := h (k + 1) (by omega)
      exact ⟨y, by rw [show s + 1 + k = s + (k + 1) by omega]; exact hy, py⟩) (fun y hy => e y (by rw [show s + (n + 1) = s + 1 + n by omega]; exact hy))]
theorem ok_place (D : Md K C "place_behind" "Site.place_behind" (sSt 7) ["self", "operation"]) (L : KSite K mg C) (T : Bi mg) : Mt P w K mg base C 1 "place_behind" ["self", "operation"] (spPlace C W) := by
  refine D.ok L.cl scPlace (fun vs H Q E h => ?_) (fun cdv f A outer s H vs Q E hr h => ?_)
  · obtain ⟨A, m, _, _, rfl, _⟩ := h
    rfl
  · obtain ⟨A, m, v, o, rfl, h, ⟨a, vi, vr, rfl, ha, hi, hrf⟩, ok, q⟩ := h
    obtain ⟨us, hod, hus⟩ := h.od
    have hun := hr.un
    refine ⟨_, (pss_cons (ps_par (i := 2) (j := 3) (by rfl) scPlace.nd rfl rfl (by decide) rfl rfl (pa_cons ((pe_ix ix_tup (pv 1) (pe_int) (fun _ _ => rfl))) (pa_cons ((pe_ix ix_tup (pv 1) (pe_int) (fun _ _ => rfl))) pa_nil)) (by rfl))
      (pss_cons ((ps_set (i := 4) scPlace.nd rfl (Or.inl rfl) (pe_ifExp (pt_cmpR op_isN (pv 3) pe_non (nomark _)) pe_int (pe_op op_add (pe_bm PySem.F.plainAttrs_list PySem.F.slot_list_index PySem.F.type_list_index (mt_indexD (hu65 hr)) ((pe_fld (pv 0) rfl)) (pa_cons (pv 3) pa_nil)) pe_int))))
      (pss_cons (ps_while PassesOwn.never (PW.pt (pw_and (pt_cmpR op_lt (pv 4) (pe_callB call_len_seq (by rfl) T.len_ PySem.boot_len (pa_cons ((pe_fld (pv 0) rfl)) pa_nil)) (nomark _)) (pw_and1 (pt_cmpR (op_gtI (hu4 hr)) (pe_ix ix_list ((pe_fld (pv 0) rfl)) (pv 4) (fun _ _ => rfl)) (pv 2) (nomark _))))) (pss_one (ps_aug (i := 4) scPlace.nd rfl (.inl rfl) pe_int ip_add)))
      (pss_one (ps_ret (pv 4)))))), ?_⟩
    refine ⟨_, rfl, _, _, _, _, rfl, rfl, SqT.of ha, at1 o _ _, _, rfl, _, _, _, _, rfl, rfl, SqT.of ha, at3 o _ _, _, _, rfl, ?_⟩
    refine ⟨_, rfl, rfl, _, rfl, ?_⟩
    have hsl : ∀ r, o.ref = some r → m.order.idxOf r < m.order.length := fun r e => List.idxOf_lt_length_of_mem (ok.ref r e)
    have l5 := ok.len
    have lst : startB m.order o.ref ≤ m.order.length := by
      cases hr2 : o.ref with
      | none => exact Nat.zero_le _
      | some r => exact hsl r hr2
    cases hr2 : o.ref with
    | none =>
      rw [hr2] at hrf
      have z : vr = .non := hrf
      subst z
      have e0 : (startB m.order o.ref) = 0 := by rw [hr2]; rfl
      refine iteT ⟨fun n σ H' => ∃ k : Nat, σ = [some (.ref A.p), some (.ref a), some vi, some .non, some (.int ((startB m.order o.ref + k : Nat)))] ∧ H' = H ∧ n + (startB m.order o.ref + k) = m.order.length ∧ ∀ j, j < k → ∃ x, m.order[startB m.order o.ref + j]? = some x ∧ ltI o.id x = true, ⟨_, 0, ?_, rfl, Nat.sub_add_cancel lst, fun j hj => absurd hj (Nat.not_lt_zero _)⟩, ?_⟩
      · rw [e0]
        rfl
      · rintro n σ H' ⟨k, rfl, rfl, hn, pf⟩
        have hplace : placeB m.order o = startB m.order o.ref + ((m.order.drop (startB m.order o.ref)).takeWhile fun i => ltI o.id i).length := rfl
        refine ⟨_, rfl, _, rfl, _, _, _, _, _, rfl, h.ins, L.cl, L.order, sF_order _ _, A.od, us, rfl, .inl (SqL.of hod), _, _, rfl, rfl, _, rfl, ?_⟩
        by_cases c1 : startB m.order o.ref + k < m.order.length
        · rw [decide_eq_true (show (((startB m.order o.ref + k : Nat)) : Int) < ((us.length : Nat) : Int) by rw [hus.len]; omega)]
          obtain ⟨x, hx⟩ : ∃ x, m.order[startB m.order o.ref + k]? = some x := ⟨_, List.getElem?_eq_getElem c1⟩
          obtain ⟨u, hu1, hxa⟩ := hus.get' hx
          refine iteT ⟨_, rfl, _, _, _, _, _, rfl, h.ins, L.cl, L.order, sF_order _ _, _, rfl, A.od, us, _, u, rfl, rfl, SqL.of hod, atI_nat hu1, _, rfl, x, o.id, hxa, hi, _, rfl, ?_⟩
          cases c2 : ltI o.id x with
          | true =>
            refine iteT ⟨fun σ2 H2 => ∃ k : Nat, σ2 = [some (.ref A.p), some (.ref a), some vi, some .non, some (.int ((startB m.order o.ref + k : Nat)))] ∧ H2 = H' ∧ (n - 1) + (startB m.order o.ref + k) = m.order.length ∧ ∀ j, j < k → ∃ x, m.order[startB m.order o.ref + j]? = some x ∧ ltI o.id x = true, fun σ2 H2 hh => ⟨n - 1, by omega, hh⟩, ?_⟩
            refine ⟨_, rfl, _, _, rfl, rfl, k + 1, ?_, rfl, by omega, fun j hj => ?_⟩
            · rw [show (((startB m.order o.ref + (k + 1) : Nat)) : Int) = ((startB m.order o.ref + k : Nat) : Int) + 1 by omega]
              rfl
            · by_cases e : j = k
              · rw [e]
                exact ⟨x, hx, c2⟩
              · exact pf j (by omega)
          | false =>
            refine iteF ⟨_, rfl, ?_⟩
            rw [hplace, drop_tw pf (fun y hy => by rw [hx] at hy; cases hy; exact c2)] at q
            exact q
        · rw [decide_eq_false (show ¬ (((startB m.order o.ref + k : Nat)) : Int) < ((us.length : Nat) : Int) by rw [hus.len]; omega)]
          refine iteF ⟨_, rfl, ?_⟩
          rw [hplace, drop_tw pf (fun y hy => by rw [List.getElem?_eq_none (by omega)] at hy; cases hy)] at q
          exact q
    | some r =>
      rw [hr2] at hrf
      obtain ⟨b, ev, hb⟩ := hrf
      subst ev
      have hlt := hsl r hr2
      refine iteF ⟨_, rfl, _, _, _, _, _, rfl, h.ins, L.cl, L.order, sF_order _ _, .inl ⟨rfl, _, SqL.of hod⟩, _, rfl, A.od, _, dI r, m.order.map dI, m.order.idxOf r, dI r, rfl, rfl, .lst (SqL.of hod) (dpAll hus), dI_at ⟨b, rfl, hb⟩, shaped_all ok.ok, shaped_dI (ok.ok r (ok.ref r hr2)), ?_, ?_, ?_, _, _, rfl, rfl, ?_⟩
      · rw [List.getElem?_map, List.getElem?_eq_getElem hlt, List.getElem_idxOf hlt]
        rfl
      · rw [eqv_dI]
        exact decide_eq_true rfl
      · intro k z hk hz
        rw [List.getElem?_map] at hz
        cases hj : m.order[k]? with
        | none => rw [hj] at hz; cases hz
        | some j =>
          rw [hj] at hz
          cases Option.some.inj hz
          rw [eqv_dI]
          exact decide_eq_false (idxOf_first k j hk hj)
      · have e0 : (startB m.order o.ref) = m.order.idxOf r + 1 := by rw [hr2]; rfl
        refine ⟨fun n σ H' => ∃ k : Nat, σ = [some (.ref A.p), some (.ref a), some vi, some (.ref b), some (.int ((startB m.order o.ref + k : Nat)))] ∧ H' = H ∧ n + (startB m.order o.ref + k) = m.order.length ∧ ∀ j, j < k → ∃ x, m.order[startB m.order o.ref + j]? = some x ∧ ltI o.id x = true, ⟨_, 0, ?_, rfl, Nat.sub_add_cancel lst, fun j hj => absurd hj (Nat.not_lt_zero _)⟩, ?_⟩
        · rw [e0]
          rfl
        · rintro n σ H' ⟨k, rfl, rfl, hn, pf⟩
          have hplace : placeB m.order o = startB m.order o.ref + ((m.order.drop (startB m.order o.ref)).takeWhile fun i => ltI o.id i).length := rfl
          refine ⟨_, rfl, _, rfl, _, _, _, _, _, rfl, h.ins, L.cl, L.order, sF_order _ _, A.od, us, rfl, .inl (SqL.of hod), _, _, rfl, rfl, _, rfl, ?_⟩
          by_cases c1 : startB m.order o.ref + k < m.order.length
          · rw [decide_eq_true (show (((startB m.order o.ref + k : Nat)) : Int) < ((us.length : Nat) : Int) by rw [hus.len]; omega)]
            obtain ⟨x, hx⟩ : ∃ x, m.order[startB m.order o.ref + k]? = some x := ⟨_, List.getElem?_eq_getElem c1⟩
            obtain ⟨u, hu1, hxa⟩ := hus.get' hx
            refine iteT ⟨_, rfl, _, _, _, _, _, rfl, h.ins, L.cl, L.order, sF_order _ _, _, rfl, A.od, us, _, u, rfl, rfl, SqL.of hod, atI_nat hu1, _, rfl, x, o.id, hxa, hi, _, rfl, ?_⟩
            cases c2 : ltI o.id x with
            | true =>
              refine iteT ⟨fun σ2 H2 => ∃ k : Nat, σ2 = [some (.ref A.p), some (.ref a), some vi, some (.ref b), some (.int ((startB m.order o.ref + k : Nat)))] ∧ H2 = H' ∧ (n - 1) + (startB m.order o.ref + k) = m.order.length ∧ ∀ j, j < k → ∃ x, m.order[startB m.order o.ref + j]? = some x ∧ ltI o.id x = true, fun σ2 H2 hh => ⟨n - 1, by omega, hh⟩, ?_⟩
              refine ⟨_, rfl, _, _, rfl, rfl, k + 1, ?_, rfl, by omega, fun j hj => ?_⟩
              · rw [show (((startB m.order o.ref + (k + 1) : Nat)) : Int) = ((startB m.order o.ref + k : Nat) : Int) + 1 by omega]
                rfl
              · by_cases e : j = k
                · rw [e]
                  exact ⟨x, hx, c2⟩
                · exact pf j (by omega)
            | false =>
              refine iteF ⟨_, rfl, ?_⟩
              rw [hplace, drop_tw pf (fun y hy => by rw [hx] at hy; cases hy; exact c2)] at q
              exact q
          · rw [decide_eq_false (show ¬ (((startB m.order o.ref + k : Nat)) : Int) < ((us.length : Nat) : Int) by rw [hus.len]; omega)]
            refine iteF ⟨_, rfl, ?_⟩
            rw [hplace, drop_tw pf (fun y hy => by rw [List.getElem?_eq_none (by omega)] at hy; cases hy)] at q
            exact q
end
end K80
namespace K80
open PySem PySem.Spec PyProof.Rows L2 Gx GxR NdefX
section
variable {C W : Addr} {H : Hp} {A : SA} {m : Sm}
structure SNe (A : SA) : Prop where
  p_kn : A.p ≠ A.kn
  p_un : A.p ≠ A.un
  p_ct : A.p ≠ A.ct
  p_od : A.p ≠ A.od
  p_cn : A.p ≠ A.cn
  p_wt : A.p ≠ A.wt
  p_rw : A.p ≠ A.rw
  kn_un : A.kn ≠ A.un
  kn_ct : A.kn ≠ A.ct
  kn_od : A.kn ≠ A.od
  kn_cn : A.kn ≠ A.cn
  kn_wt : A.kn ≠ A.wt
  kn_rw : A.kn ≠ A.rw
  un_ct : A.un ≠ A.ct
  un_od : A.un ≠ A.od
  un_cn : A.un ≠ A.cn
  un_wt : A.un ≠ A.wt
  un_rw : A.un ≠ A.rw
  ct_od : A.ct ≠ A.od
  ct_cn : A.ct ≠ A.cn
  ct_wt : A.ct ≠ A.wt
  ct_rw : A.ct ≠ A.rw
  od_cn : A.od ≠ A.cn
  od_wt : A.od ≠ A.wt
  od_rw : A.od ≠ A.rw
  cn_wt : A.cn ≠ A.wt
  cn_rw : A.cn ≠ A.rw
  wt_rw : A.wt ≠ A.rw
theorem SiteAt.ne (h : SiteAt C W H A m) : SNe A := by
  obtain ⟨k1, hk, _⟩ := h.kn
  obtain ⟨k2, hu, _⟩ := h.un
  obtain ⟨k3, hc, _⟩ := h.ct
  obtain ⟨us, ho, _⟩ := h.od
  obtain ⟨k4, hr, _⟩ := h.wt.rows
  have hp := h.ins
  have hn := h.cn
  have hw := h.wt.ins
  exact ⟨ne_of hp hk (fun z => by cases z), ne_of hp hu (fun z => by cases z), ne_of hp hc (fun z => by cases z), ne_of hp ho (fun z => by cases z), ne_of hp hn (fun z => by cases z), h.n7, ne_of hp hr (fun z => by cases z), h.n1, h.n2, ne_of hk ho (fun z => by cases z), ne_of hk hn (fun z => by cases z), ne_of hk hw (fun z => by cases z), h.n4.symm, h.n3, ne_of hu ho (fun z => by cases z), ne_of hu hn (fun z => by cases z), ne_of hu hw (fun z => by cases z), h.n5.symm, ne_of hc ho (fun z => by cases z), ne_of hc hn (fun z => by cases z), ne_of hc hw (fun z => by cases z), h.n6.symm, ne_of ho hn (fun z => by cases z), ne_of ho hw (fun z => by cases z), ne_of ho hr (fun z => by cases z), ne_of hn hw (fun z => by cases z), ne_of hn hr (fun z => by cases z), ne_of hw hr (fun z => by cases z)⟩
theorem SiteAt.set_kn (h : SiteAt C W H A m) {kvs : List (List L2.Key × V)} {x : List Op} (r : Rows Op.id (OpAt H) kvs x) : SiteAt C W (upd H A.kn (.dT kvs)) A { m with known := x } ∧ Gw (fun b => b ∈ A.fp) H (upd H A.kn (.dT kvs)) := by
  have e := h.ne
  obtain ⟨k0, h0, _⟩ := h.kn
  have g : Gw (fun b => b = A.kn) H (upd H A.kn (.dT kvs)) := Gw.refl.put rfl h0 (fun _ z => by cases z) (fun _ z => by cases z)
  refine ⟨⟨(by rw [upd_ne (e.p_kn)]; exact h.ins), ⟨kvs, upd_same, r.mono fun _ _ z => z.gw g⟩, (h.un.gw g (e.kn_un.symm)), (h.ct.gw g (e.kn_ct.symm)), (by obtain ⟨u, h1, h2⟩ := h.od; exact ⟨u, by rw [upd_ne (e.kn_od.symm)]; exact h1, h2.mono fun _ _ z => z.gw g⟩), (by rw [upd_ne (e.kn_cn.symm)]; exact h.cn), (h.wt.gw g (e.kn_wt.symm) (e.kn_rw.symm)), h.n1, h.n2, h.n3, h.n4, h.n5, h.n6, h.n7⟩, g.mono fun b z => ?_⟩
  rw [show b = A.kn from z]
  unfold SA.fp
  simp
theorem SiteAt.set_un (h : SiteAt C W H A m) {kvs : List (List L2.Key × V)} {x : Tab} (r : Rows (fun r : Id × List Id => r.1) (fun v r => IdsAt H v r.2) kvs x) : SiteAt C W (upd H A.un (.dT kvs)) A { m with undone := x } ∧ Gw (fun b => b ∈ A.fp) H (upd H A.un (.dT kvs)) := by
  have e := h.ne
  obtain ⟨k0, h0, _⟩ := h.un
  have g : Gw (fun b => b = A.un) H (upd H A.un (.dT kvs)) := Gw.refl.put rfl h0 (fun _ z => by cases z) (fun _ z => by cases z)
  refine ⟨⟨(by rw [upd_ne (e.p_un)]; exact h.ins), (by obtain ⟨kv, h1, h2⟩ := h.kn; exact ⟨kv, by rw [upd_ne (e.kn_un)]; exact h1, h2.mono fun _ _ z => z.gw g⟩), ⟨kvs, upd_same, r.mono fun _ _ z => z.gw g⟩, (h.ct.gw g (e.un_ct.symm)), (by obtain ⟨u, h1, h2⟩ := h.od; exact ⟨u, by rw [upd_ne (e.un_od.symm)]; exact h1, h2.mono fun _ _ z => z.gw g⟩), (by rw [upd_ne (e.un_cn.symm)]; exact h.cn), (h.wt.gw g (e.un_wt.symm) (e.un_rw.symm)), h.n1, h.n2, h.n3, h.n4, h.n5, h.n6, h.n7⟩, g.mono fun b z => ?_⟩
  rw [show b = A.un from z]
  unfold SA.fp
  simp
theorem SiteAt.set_ct (h : SiteAt C W H A m) {kvs : List (List L2.Key × V)} {x : Tab} (r : Rows (fun r : Id × List Id => r.1) (fun v r => IdsAt H v r.2) kvs x) : SiteAt C W (upd H A.ct (.dT kvs)) A { m with cuts := x } ∧ Gw (fun b => b ∈ A.fp) H (upd H A.ct (.dT kvs)) := by
  have e := h.ne
  obtain ⟨k0, h0, _⟩ := h.ct
  have g : Gw (fun b => b = A.ct) H (upd H A.ct (.dT kvs)) := Gw.refl.put rfl h0 (fun _ z => by cases z) (fun _ z => by cases z)
  refine ⟨⟨(by rw [upd_ne (e.p_ct)]; exact h.ins), (by obtain ⟨kv, h1, h2⟩ := h.kn; exact ⟨kv, by rw [upd_ne (e.kn_ct)]; exact h1, h2.mono fun _ _ z => z.gw g⟩), (h.un.gw g (e.un_ct)), ⟨kvs, upd_same, r.mono fun _ _ z => z.gw g⟩, (by obtain ⟨u, h1, h2⟩ := h.od; exact ⟨u, by rw [upd_ne (e.ct_od.symm)]; exact h1, h2.mono fun _ _ z => z.gw g⟩), (by rw [upd_ne (e.ct_cn.symm)]; exact h.cn), (h.wt.gw g (e.ct_wt.symm) (e.ct_rw.symm)), h.n1, h.n2, h.n3, h.n4, h.n5, h.n6, h.n7⟩, g.mono fun b z => ?_⟩
  rw [show b = A.ct from z]
  unfold SA.fp
  simp
theorem SiteAt.set_od (h : SiteAt C W H A m) {us : List V} {x : List Id} (r : All2 (IdAt H) us x) : SiteAt C W (upd H A.od (.lst us)) A { m with order := x } ∧ Gw (fun b => b ∈ A.fp) H (upd H A.od (.lst us)) := by
  have e := h.ne
  obtain ⟨k0, h0, _⟩ := h.od
  have g : Gw (fun b => b = A.od) H (upd H A.od (.lst us)) := Gw.refl.put rfl h0 (fun _ z => by cases z) (fun _ z => by cases z)
  refine ⟨⟨(by rw [upd_ne (e.p_od)]; exact h.ins), (by obtain ⟨kv, h1, h2⟩ := h.kn; exact ⟨kv, by rw [upd_ne (e.kn_od)]; exact h1, h2.mono fun _ _ z => z.gw g⟩), (h.un.gw g (e.un_od)), (h.ct.gw g (e.ct_od)), ⟨us, upd_same, r.mono fun _ _ z => z.gw g⟩, (by rw [upd_ne (e.od_cn.symm)]; exact h.cn), (h.wt.gw g (e.od_wt.symm) (e.od_rw.symm)), h.n1, h.n2, h.n3, h.n4, h.n5, h.n6, h.n7⟩, g.mono fun b z => ?_⟩
  rw [show b = A.od from z]
  unfold SA.fp
  simp
theorem SiteAt.set_cn (h : SiteAt C W H A m) {x : Cnt} : SiteAt C W (upd H A.cn (.dK (cntV x))) A { m with counts := x } ∧ Gw (fun b => b ∈ A.fp) H (upd H A.cn (.dK (cntV x))) := by
  have e := h.ne
  have h0 := h.cn
  have g : Gw (fun b => b = A.cn) H (upd H A.cn (.dK (cntV x))) := Gw.refl.put rfl h0 (fun _ z => by cases z) (fun _ z => by cases z)
  refine ⟨⟨(by rw [upd_ne (e.p_cn)]; exact h.ins), (by obtain ⟨kv, h1, h2⟩ := h.kn; exact ⟨kv, by rw [upd_ne (e.kn_cn)]; exact h1, h2.mono fun _ _ z => z.gw g⟩), (h.un.gw g (e.un_cn)), (h.ct.gw g (e.ct_cn)), (by obtain ⟨u, h1, h2⟩ := h.od; exact ⟨u, by rw [upd_ne (e.od_cn)]; exact h1, h2.mono fun _ _ z => z.gw g⟩), upd_same, (h.wt.gw g (e.cn_wt.symm) (e.cn_rw.symm)), h.n1, h.n2, h.n3, h.n4, h.n5, h.n6, h.n7⟩, g.mono fun b z => ?_⟩
  rw [show b = A.cn from z]
  unfold SA.fp
  simp
theorem clock_put {n : Nat} : putF "clock" (.int (n : Nat)) (siteF A m) = siteF A { m with clock := n } :=
  putF_in (pre := [("name", .str m.name), ("known", .ref A.kn), ("undone", .ref A.un), ("cuts", .ref A.ct), ("order", .ref A.od), ("counts", .ref A.cn)]) (post := [("waits", .ref A.wt)]) (by
    show ("clock" : Str) ∉ (["name", "known", "undone", "cuts", "order", "counts"] : List Str)
    decide +kernel)
theorem SiteAt.set_p (h : SiteAt C W H A m) {n : Nat} : SiteAt C W (upd H A.p (.ins C A.d (putF "clock" (.int (n : Nat)) (siteF A m)))) A { m with clock := n } ∧ Gw (fun b => b ∈ A.fp) H (upd H A.p (.ins C A.d (putF "clock" (.int (n : Nat)) (siteF A m)))) := by
  have e := h.ne
  have h0 := h.ins
  have g : Gw (fun b => b = A.p) H (upd H A.p (.ins C A.d (putF "clock" (.int (n : Nat)) (siteF A m)))) := Gw.refl.put rfl h0 (fun _ z => by cases z) (fun _ z => by cases z)
  refine ⟨⟨(by rw [upd_same, clock_put]), (by obtain ⟨kv, h1, h2⟩ := h.kn; exact ⟨kv, by rw [upd_ne (e.p_kn.symm)]; exact h1, h2.mono fun _ _ z => z.gw g⟩), (h.un.gw g (e.p_un.symm)), (h.ct.gw g (e.p_ct.symm)), (by obtain ⟨u, h1, h2⟩ := h.od; exact ⟨u, by rw [upd_ne (e.p_od.symm)]; exact h1, h2.mono fun _ _ z => z.gw g⟩), (by rw [upd_ne (e.p_cn.symm)]; exact h.cn), (h.wt.gw g (e.p_wt.symm) (e.p_rw.symm)), h.n1, h.n2, h.n3, h.n4, h.n5, h.n6, h.n7⟩, g.mono fun b z => ?_⟩
  rw [show b = A.p from z]
  unfold SA.fp
  simp
end
end K80
namespace K80
open PySem PySem.Spec PyProof.Rows L2 Gx GxR NdefX
section
variable {P : Program} {w : World} {K : PySem.W.Frag} {mg : Str → Option Value} {base : Heap}
variable {C W : Addr}
structure CarOk (m : Sm) (o : Op) : Prop where
  pl : o.kind = .put → PlOk m o
  some_ : o.kind ≠ .put → o.ref ≠ none
  lk : m.known.length ≤ 100000
  lu : m.undone.length ≤ 100000
  lc : m.cuts.length ≤ 100000
  ln : m.counts.length ≤ 100000
  gu : ∀ i, (getT m.undone i).length ≤ 100000
  gc : ∀ i, (getT m.cuts i).length ≤ 100000
def spCarry (C W : Addr) : Sp := fun vs H Q _ => ∃ (A : SA) (m : Sm) (v : V) (o : Op), vs = [.ref A.p, v] ∧ SiteAt C W H A m ∧ OpAt H v o ∧ CarOk m o ∧ ∀ H', SiteAt C W H' A (carry m o) → Gw (fun b => b ∈ A.fp) H H' → Q .non H'
theorem scCarry : FnScope ["self", "operation", "own", "table"] ["self", "operation"] (defScope (sSt 8)) := ⟨rfl, rfl, rfl, by decide +kernel, rfl, by decide +kernel, by decide +kernel⟩
theorem max_nat (a b : Nat) : (if ((b : Nat) : Int) > ((a : Nat) : Int) then ((b : Nat) : Int) else ((a : Nat) : Int)) = ((max a b : Nat) : Int) := by
  split <;> omega
theorem ok_carry (D : Md K C "carry_out" "Site.carry_out" (sSt 8) ["self", "operation"]) (L : KSite K mg C) (T : Bi mg) (mP : Mt P w K mg base C 1 "place_behind" ["self", "operation"] (spPlace C W)) : Mt P w K mg base C 2 "carry_out" ["self", "operation"] (spCarry C W) := by
  refine D.ok L.cl scCarry (fun vs H Q E h => ?_) (fun cdv f A0 outer s H vs Q E hr h => ?_)
  · obtain ⟨A, m, _, _, rfl, _⟩ := h
    rfl
  · obtain ⟨A, m, v, o, rfl, h, ho, ok, q⟩ := h
    have hu := hu_of hr
    -- known, counts, clock
    obtain ⟨tt, hP, hR⟩ : ∃ tt, PSs (cxOf CX0 P w K mg base ["self", "operation", "own", "table"] "Site.carry_out" (defScope (sSt 8)) f cdv A0 outer s H E).nox ((defBody (sSt 8)).drop 2) tt ∧
        ∀ (v2 v3 : V) (x3 : Option V) (H1 : Hp) (m1 : Sm) (D : Ends), SiteAt C W H1 A m1 → OpAt H1 v o → IdAt H1 v2 o.id → m1.known.length ≤ 100000 → m1.counts.length ≤ 100000 →
          (∀ σ' H', SiteAt C W H' A { m1 with known := putG Op.id m1.known o, counts := putC m1.counts o.id.2 o.id.1, clock := max m1.clock o.id.1 } → Gw (fun b => b ∈ A.fp) H1 H' → D.nx σ' H') → tt D [some (.ref A.p), some v, some v2, x3] H1 := by
      refine ⟨_, (pss_cons (ps_dput hu (pe_fld (pv 0) rfl) (pv 2) (pv 1) rfl)
      (pss_cons (ps_dput hu (pe_fld (pv 0) rfl) (pe_ix ix_tup (pv 2) (pe_int) (fun _ _ => rfl)) (pe_ix ix_tup (pv 2) (pe_int) (fun _ _ => rfl)) rfl)
      (pss_one (ps_fld (pv 0) (pe_callB (call_max2 rfl) (by rfl) T.max_ (by decide +kernel) (pa_cons ((pe_fld (pv 0) rfl)) (pa_cons ((pe_ix ix_tup (pv 2) (pe_int) (fun _ _ => rfl))) pa_nil))) rfl)))), ?_⟩
      intro v2 v3 x3 H1 m1 D h1 ho1 hi1 lk ln hD
      obtain ⟨kvs, hk, rws⟩ := h1.kn
      obtain ⟨a2, rfl, hi1⟩ := hi1
      obtain ⟨hS1, g1⟩ := h1.set_kn (rws.put (r := o) ho1)
      refine ⟨_, rfl, _, rfl, _, _, _, _, _, rfl, h1.ins, L.cl, L.known, sF_known _ _, _, rfl, _, _, rfl, DPut.t (k := idK o.id) hk hi1 (by rw [All2.len rws, sizeLine_eq]; omega), ?_⟩
      have hi2 := g1.tup _ _ hi1
      obtain ⟨hS2, g2⟩ := hS1.set_cn (x := putC m1.counts o.id.2 o.id.1)
      refine ⟨_, rfl, _, _, _, _, rfl, rfl, SqT.of hi2, idat0 _, _, rfl, _, _, _, _, _, rfl, hS1.ins, L.cl, L.counts, sF_counts _ _, _, rfl, _, _, _, _, rfl, rfl, SqT.of hi2, idat1 _, _, _, rfl, DPut.k (k := Sum.inr o.id.2) hS1.cn (by unfold cntV; rw [List.length_map, sizeLine_eq]; show m1.counts.length < _; omega), ?_⟩
      rw [show putK (cntV m1.counts) (Sum.inr o.id.2) (V.int (o.id.1 : Nat)) = cntV (putC m1.counts o.id.2 o.id.1) from putC_cnt _ _ _]
      have hi3 := g2.tup _ _ hi2
      obtain ⟨hS3, g3⟩ := hS2.set_p (n := max m1.clock o.id.1)
      refine ⟨_, rfl, _, _, _, _, _, rfl, hS2.ins, L.cl, L.clock, sF_clock _ _, _, rfl, _, _, _, _, rfl, rfl, SqT.of hi3, idat0 _, _, _, rfl, _, rfl, _, C, _, _, rfl, hS2.ins, L.cl, L.clock, by show 8 < 1000; decide, ?_⟩
      have em := max_nat m1.clock o.id.1
      refine hD _ _ ?_ ?_
      · have e : (if ((o.id.1 : Nat) : Int) > ((m1.clock : Nat) : Int) then ((o.id.1 : Nat) : Int) else ((m1.clock : Nat) : Int)) = ((max m1.clock o.id.1 : Nat) : Int) := em
        show SiteAt C W (upd _ A.p (.ins C A.d (putF "clock" (.int (if ((o.id.1 : Nat) : Int) > ((m1.clock : Nat) : Int) then ((o.id.1 : Nat) : Int) else ((m1.clock : Nat) : Int))) _))) A _
        rw [e]
        exact hS3
      · show Gw _ H1 (upd _ A.p (.ins C A.d (putF "clock" (.int (if ((o.id.1 : Nat) : Int) > ((m1.clock : Nat) : Int) then ((o.id.1 : Nat) : Int) else ((m1.clock : Nat) : Int))) _)))
        rw [em]
        exact (g1.trans g2).trans g3
    have ho' := ho
    obtain ⟨a, vi, vr, rfl, ha, ⟨ai, rfl, hi⟩, hrf⟩ := ho
    refine ⟨_, pss_cons (ps_set (i := 2) scCarry.nd rfl (Or.inl rfl) ((pe_ix ix_tup (pv 1) (pe_int) (fun _ _ => rfl)))) (pss_cons (ps_if (pt_cmpR op_eq (pe_ix ix_tup (pv 1) (pe_int) (fun _ _ => rfl)) pe_str (nomark _)) (pss_one (ps_expr (pe_bm PySem.F.plainAttrs_list PySem.F.slot_list_insert PySem.F.type_list_insert mt_insert ((pe_fld (pv 0) rfl)) (pa_cons ((pe_mth mP (by first | exact hr | exact hr.mono (by decide) | exact room_gx hr hA | exact (room_gx hr hA).mono (by decide)) (pv 0) (pa_cons (pv 1) pa_nil))) (pa_cons (pv 2) pa_nil)))))
        (pss_cons ((ps_set (i := 3) scCarry.nd rfl (Or.inl rfl) (pe_ifExp (pt_cmpR op_eq (pe_ix ix_tup (pv 1) (pe_int) (fun _ _ => rfl)) pe_str (nomark _)) (pe_fld (pv 0) rfl) (pe_fld (pv 0) rfl))))
      (pss_one (ps_dput hu (pv 3) (pe_ix ix_tup (pv 1) (pe_int) (fun _ _ => rfl)) (pe_tup (StX.pa_star (pe_dget2 (hu_of hr) (pv 3) ((pe_ix ix_tup (pv 1) (pe_int) (fun _ _ => rfl))) (pe_tup pa_nil) ⟨by rfl, by rfl, by rfl, by rfl⟩) (pa_cons (pv 2) pa_nil))) rfl)))) hP), ?_⟩
    refine ⟨_, rfl, _, _, _, _, rfl, rfl, SqT.of ha, at1 o _ _, ?_⟩
    refine ⟨_, rfl, _, _, _, _, rfl, rfl, SqT.of ha, at0 o _ _, rfl, _, rfl, ?_⟩
    rw [kd_eq]
    cases hk : o.kind with
    | put =>
      rw [decide_eq_true rfl]
      have hpl := ok.pl hk
      obtain ⟨us, hod, hus⟩ := h.od
      have lp : placeB m.order o ≤ 200001 := by
        have h1 : startB m.order o.ref ≤ 100001 := by
          cases hr2 : o.ref with
          | none => exact Nat.zero_le _
          | some r =>
            have := List.idxOf_lt_length_of_mem (hpl.ref r hr2)
            have := hpl.len
            show m.order.idxOf r + 1 ≤ _
            omega
        have h2 : ((m.order.drop (startB m.order o.ref)).takeWhile fun i => ltI o.id i).length ≤ 100000 := by
          have h3 := (List.takeWhile_sublist (p := fun i => ltI o.id i) (l := m.order.drop (startB m.order o.ref))).length_le
          rw [List.length_drop] at h3
          have := hpl.len
          omega
        unfold placeB
        omega
      refine iteT ⟨_, rfl, _, _, _, _, _, rfl, h.ins, L.cl, L.order, sF_order _ _, .inl ⟨rfl, _, SqL.of hod⟩, _, rfl, _, _, _, rfl, h.ins, sN_place_behind _ _, _, rfl, A, m, _, o, rfl, h, ho', hpl, _, rfl, A.od, us, _, _, rfl, rfl, hod, by rw [hus.len, sizeLine_eq]; have := hpl.len; omega, by omega, by omega, ?_⟩
      rw [Int.toNat_natCast]
      have hia : All2 (IdAt H) (us.take (placeB m.order o) ++ [V.ref ai] ++ us.drop (placeB m.order o)) (insAt m.order (placeB m.order o) o.id) := ((hus.take _).snoc ⟨ai, rfl, hi⟩).append (hus.drop _)
      obtain ⟨hS, g⟩ := h.set_od hia
      refine hR _ (.ref ai) _ _ _ _ hS (ho'.gw g) ⟨ai, rfl, g.tup _ _ hi⟩ ok.lk ok.ln fun σ' H' hS' g' => q _ ?_ (g.trans g')
      have : carry m o = { (({ m with order := insAt m.order (placeB m.order o) o.id } : Sm)) with known := putG Op.id m.known o, counts := putC m.counts o.id.2 o.id.1, clock := max m.clock o.id.1 } := by
        unfold carry
        rw [hk]
        rfl
      rw [this]
      exact hS'
    | cut =>
      rw [decide_eq_false (show ¬ (Kd.cut = Kd.put) by decide)]
      refine iteF ⟨_, rfl, _, _, _, _, rfl, rfl, SqT.of ha, at0 o _ _, rfl, _, rfl, ?_⟩
      rw [kd_eqc, hk, decide_eq_true rfl]
      obtain ⟨r, hrf2⟩ : ∃ r, o.ref = some r := by
        cases hr2 : o.ref with
        | none => exact absurd hr2 (ok.some_ (by rw [hk]; decide))
        | some r => exact ⟨r, rfl⟩
      have hrr := hrf
      rw [hrf2] at hrr
      obtain ⟨ra, erv, hra⟩ := hrr
      subst erv
      obtain ⟨kvs, hct, rws⟩ := h.ct
      refine iteT ⟨_, rfl, _, _, _, _, _, rfl, h.ins, L.cl, L.cuts, sF_cuts _ _, ?_⟩
      -- the row as it was
      have main : ∀ (H1 : Hp) (p : Addr) (us : List V), Gw D0 H H1 → H1 p = some (.tup us) → All2 (IdAt H1) us (getT m.cuts r) → ∀ G : TS, (∀ (v3 : V) (x3 : Option V) (H2 : Hp) (t : Addr), H1 t = none → H2 = upd (upd H1 t (.tup (us ++ [V.ref ai]))) A.ct (.dT (putK kvs (idK r) (.ref t))) → tt { nx := fun _ H' => Q .non H', rt := Q } [some (.ref A.p), some (.ref a), some (.ref ai), x3] H2) := by
        intro H1 p us g1 hp hus _ v3 x3 H2 t nt e2
        subst e2
        have g2 : Gw D0 H (upd H1 t (.tup (us ++ [V.ref ai]))) := g1.new nt
        have h2 := h.gw0 g2
        have rows2 : Rows (fun r : Id × List Id => r.1) (fun v r => IdsAt (upd H1 t (.tup (us ++ [V.ref ai]))) v r.2) kvs m.cuts := rws.mono fun _ _ z => z.gw g2
        have gt : Gw D0 H1 (upd H1 t (.tup (us ++ [V.ref ai]))) := Gw.refl.new nt
        have hv : IdsAt (upd H1 t (.tup (us ++ [V.ref ai]))) (.ref t) (getT m.cuts r ++ [o.id]) := ⟨t, _, rfl, upd_same, (hus.mono fun _ _ z => z.gw gt).snoc ⟨ai, rfl, g2.tup _ _ hi⟩⟩
        obtain ⟨hS, g3⟩ := h2.set_ct (rows2.put (r := (r, getT m.cuts r ++ [o.id])) hv)
        refine hR _ v3 _ _ _ _ hS ((ho'.gw g2).gw g3) ⟨ai, rfl, g3.tup _ _ (g2.tup _ _ hi)⟩ ok.lk ok.ln fun σ' H' hS' g' => q _ ?_ ((Gw.of0 g2).trans (g3.trans g'))
        have : carry m o = { (({ m with cuts := putG (fun r : Id × List Id => r.1) m.cuts (r, getT m.cuts r ++ [o.id]) } : Sm)) with known := putG Op.id m.known o, counts := putC m.counts o.id.2 o.id.1, clock := max m.clock o.id.1 } := by
          unfold carry addT refOf
          rw [hk, hrf2]
          rfl
        rw [this]
        exact hS'
      have lu : ∀ us : List V, us.length = (getT m.cuts r).length → (us ++ [V.ref ai]).length ≤ sizeLine := fun us e => by
        rw [List.length_append, e, sizeLine_eq]
        have := ok.gc r
        show _ + 1 ≤ _
        omega
      have lkv : kvs.length < sizeLine := by rw [All2.len rws, sizeLine_eq]; have := ok.lc; omega
      refine ⟨_, rfl, A.ct, rfl, .inr ⟨_, .of hct⟩, _, rfl, _, _, _, _, rfl, rfl, SqT.of ha, at3 o _ _, Nat.zero_le _, fun e ne => ?_⟩
      have g0 : Gw D0 H (upd H e (.tup [])) := Gw.refl.new ne
      have hct0 : upd H e (HO.tup []) A.ct = some (.dT kvs) := by rw [upd_ne (ne_of_none hct ne)]; exact hct
      have ha0 := g0.tup _ _ ha
      have hra0 := g0.tup _ _ hra
      cases hlk : lkG (fun r : Id × List Id => r.1) m.cuts r with
      | none =>
        obtain ⟨e1, e2⟩ := tab_none rws hlk
        refine ⟨none, by rw [← e1]; exact DGet.t (k := idK r) hct0 hra0, e, [], rfl, .inl (SqT.of upd_same), _, rfl, lu [] (by rw [e2]; rfl), fun t nt => ?_⟩
        have hcT : upd (upd H e (.tup [])) t (.tup ([] ++ [V.ref ai])) A.ct = some (.dT kvs) := by rw [upd_ne (ne_of_none hct0 nt)]; exact hct0
        have haT : upd (upd H e (.tup [])) t (.tup ([] ++ [V.ref ai])) a = some (.tup (opT o (.ref ai) (.ref ra))) := by rw [upd_ne (ne_of_none ha0 nt)]; exact ha0
        have hrT : upd (upd H e (.tup [])) t (.tup ([] ++ [V.ref ai])) ra = some (.tup (idT r)) := by rw [upd_ne (ne_of_none hra0 nt)]; exact hra0
        refine ⟨_, rfl, _, rfl, _, _, _, _, rfl, rfl, SqT.of haT, at3 o _ _, _, _, rfl, DPut.t (k := idK r) hcT hrT lkv, ?_⟩
        exact main _ e [] g0 upd_same (by rw [e2]; exact All2.nil) tt (.ref A.ct) _ _ t nt rfl
      | some rr =>
        obtain ⟨v, hv, ⟨p, us, ev, hp, hus⟩⟩ := Rows.some_ rws hlk
        subst ev
        have egt : getT m.cuts r = rr.2 := by unfold getT; rw [hlk]; rfl
        have hp0 := g0.tup _ _ hp
        refine ⟨some (.ref p), by rw [← hv]; exact DGet.t (k := idK r) hct0 hra0, p, us, rfl, .inl (SqT.of hp0), _, rfl, lu us (by rw [egt]; exact hus.len), fun t nt => ?_⟩
        have hcT : upd (upd H e (.tup [])) t (.tup (us ++ [V.ref ai])) A.ct = some (.dT kvs) := by rw [upd_ne (ne_of_none hct0 nt)]; exact hct0
        have haT : upd (upd H e (.tup [])) t (.tup (us ++ [V.ref ai])) a = some (.tup (opT o (.ref ai) (.ref ra))) := by rw [upd_ne (ne_of_none ha0 nt)]; exact ha0
        have hrT : upd (upd H e (.tup [])) t (.tup (us ++ [V.ref ai])) ra = some (.tup (idT r)) := by rw [upd_ne (ne_of_none hra0 nt)]; exact hra0
        refine ⟨_, rfl, _, rfl, _, _, _, _, rfl, rfl, SqT.of haT, at3 o _ _, _, _, rfl, DPut.t (k := idK r) hcT hrT lkv, ?_⟩
        exact main _ p us g0 hp0 (by rw [egt]; exact hus.mono fun _ _ z => z.gw g0) tt (.ref A.ct) _ _ t nt rfl
    | undo =>
      rw [decide_eq_false (show ¬ (Kd.undo = Kd.put) by decide)]
      refine iteF ⟨_, rfl, _, _, _, _, rfl, rfl, SqT.of ha, at0 o _ _, rfl, _, rfl, ?_⟩
      rw [kd_eqc, hk, decide_eq_false (show ¬ (Kd.undo = Kd.cut) by decide)]
      obtain ⟨r, hrf2⟩ : ∃ r, o.ref = some r := by
        cases hr2 : o.ref with
        | none => exact absurd hr2 (ok.some_ (by rw [hk]; decide))
        | some r => exact ⟨r, rfl⟩
      have hrr := hrf
      rw [hrf2] at hrr
      obtain ⟨ra, erv, hra⟩ := hrr
      subst erv
      obtain ⟨kvs, hct, rws⟩ := h.un
      refine iteF ⟨_, rfl, _, _, _, _, _, rfl, h.ins, L.cl, L.undone, sF_undone _ _, ?_⟩
      -- the row as it was
      have main : ∀ (H1 : Hp) (p : Addr) (us : List V), Gw D0 H H1 → H1 p = some (.tup us) → All2 (IdAt H1) us (getT m.undone r) → ∀ G : TS, (∀ (v3 : V) (x3 : Option V) (H2 : Hp) (t : Addr), H1 t = none → H2 = upd (upd H1 t (.tup (us ++ [V.ref ai]))) A.un (.dT (putK kvs (idK r) (.ref t))) → tt { nx := fun _ H' => Q .non H', rt := Q } [some (.ref A.p), some (.ref a), some (.ref ai), x3] H2) := by
        intro H1 p us g1 hp hus _ v3 x3 H2 t nt e2
        subst e2
        have g2 : Gw D0 H (upd H1 t (.tup (us ++ [V.ref ai]))) := g1.new nt
        have h2 := h.gw0 g2
        have rows2 : Rows (fun r : Id × List Id => r.1) (fun v r => IdsAt (upd H1 t (.tup (us ++ [V.ref ai]))) v r.2) kvs m.undone := rws.mono fun _ _ z => z.gw g2
        have gt : Gw D0 H1 (upd H1 t (.tup (us ++ [V.ref ai]))) := Gw.refl.new nt
        have hv : IdsAt (upd H1 t (.tup (us ++ [V.ref ai]))) (.ref t) (getT m.undone r ++ [o.id]) := ⟨t, _, rfl, upd_same, (hus.mono fun _ _ z => z.gw gt).snoc ⟨ai, rfl, g2.tup _ _ hi⟩⟩
        obtain ⟨hS, g3⟩ := h2.set_un (rows2.put (r := (r, getT m.undone r ++ [o.id])) hv)
        refine hR _ v3 _ _ _ _ hS ((ho'.gw g2).gw g3) ⟨ai, rfl, g3.tup _ _ (g2.tup _ _ hi)⟩ ok.lk ok.ln fun σ' H' hS' g' => q _ ?_ ((Gw.of0 g2).trans (g3.trans g'))
        have : carry m o = { (({ m with undone := putG (fun r : Id × List Id => r.1) m.undone (r, getT m.undone r ++ [o.id]) } : Sm)) with known := putG Op.id m.known o, counts := putC m.counts o.id.2 o.id.1, clock := max m.clock o.id.1 } := by
          unfold carry addT refOf
          rw [hk, hrf2]
          rfl
        rw [this]
        exact hS'
      have lu : ∀ us : List V, us.length = (getT m.undone r).length → (us ++ [V.ref ai]).length ≤ sizeLine := fun us e => by
        rw [List.length_append, e, sizeLine_eq]
        have := ok.gu r
        show _ + 1 ≤ _
        omega
      have lkv : kvs.length < sizeLine := by rw [All2.len rws, sizeLine_eq]; have := ok.lu; omega
      refine ⟨_, rfl, A.un, rfl, .inr ⟨_, .of hct⟩, _, rfl, _, _, _, _, rfl, rfl, SqT.of ha, at3 o _ _, Nat.zero_le _, fun e ne => ?_⟩
      have g0 : Gw D0 H (upd H e (.tup [])) := Gw.refl.new ne
      have hct0 : upd H e (HO.tup []) A.un = some (.dT kvs) := by rw [upd_ne (ne_of_none hct ne)]; exact hct
      have ha0 := g0.tup _ _ ha
      have hra0 := g0.tup _ _ hra
      cases hlk : lkG (fun r : Id × List Id => r.1) m.undone r with
      | none =>
        obtain ⟨e1, e2⟩ := tab_none rws hlk
        refine ⟨none, by rw [← e1]; exact DGet.t (k := idK r) hct0 hra0, e, [], rfl, .inl (SqT.of upd_same), _, rfl, lu [] (by rw [e2]; rfl), fun t nt => ?_⟩
        have hcT : upd (upd H e (.tup [])) t (.tup ([] ++ [V.ref ai])) A.un = some (.dT kvs) := by rw [upd_ne (ne_of_none hct0 nt)]; exact hct0
        have haT : upd (upd H e (.tup [])) t (.tup ([] ++ [V.ref ai])) a = some (.tup (opT o (.ref ai) (.ref ra))) := by rw [upd_ne (ne_of_none ha0 nt)]; exact ha0
        have hrT : upd (upd H e (.tup [])) t (.tup ([] ++ [V.ref ai])) ra = some (.tup (idT r)) := by rw [upd_ne (ne_of_none hra0 nt)]; exact hra0
        refine ⟨_, rfl, _, rfl, _, _, _, _, rfl, rfl, SqT.of haT, at3 o _ _, _, _, rfl, DPut.t (k := idK r) hcT hrT lkv, ?_⟩
        exact main _ e [] g0 upd_same (by rw [e2]; exact All2.nil) tt (.ref A.un) _ _ t nt rfl
      | some rr =>
        obtain ⟨v, hv, ⟨p, us, ev, hp, hus⟩⟩ := Rows.some_ rws hlk
        subst ev
        have egt : getT m.undone r = rr.2 := by unfold getT; rw [hlk]; rfl
        have hp0 := g0.tup _ _ hp
        refine ⟨some (.ref p), by rw [← hv]; exact DGet.t (k := idK r) hct0 hra0, p, us, rfl, .inl (SqT.of hp0), _, rfl, lu us (by rw [egt]; exact hus.len), fun t nt => ?_⟩
        have hcT : upd (upd H e (.tup [])) t (.tup (us ++ [V.ref ai])) A.un = some (.dT kvs) := by rw [upd_ne (ne_of_none hct0 nt)]; exact hct0
        have haT : upd (upd H e (.tup [])) t (.tup (us ++ [V.ref ai])) a = some (.tup (opT o (.ref ai) (.ref ra))) := by rw [upd_ne (ne_of_none ha0 nt)]; exact ha0
        have hrT : upd (upd H e (.tup [])) t (.tup (us ++ [V.ref ai])) ra = some (.tup (idT r)) := by rw [upd_ne (ne_of_none hra0 nt)]; exact hra0
        refine ⟨_, rfl, _, rfl, _, _, _, _, rfl, rfl, SqT.of haT, at3 o _ _, _, _, rfl, DPut.t (k := idK r) hcT hrT lkv, ?_⟩
        exact main _ p us g0 hp0 (by rw [egt]; exact hus.mono fun _ _ z => z.gw g0) tt (.ref A.un) _ _ t nt rfl
end
end K80
namespace K80
open PySem PySem.Spec PyProof.Rows L2 Gx GxR NdefX
section
variable {P : Program} {w : World} {K : PySem.W.Frag} {mg : Str → Option Value} {base : Heap}
variable {C W : Addr}
def spNextId (C W : Addr) : Sp := fun vs H Q _ => ∃ (A : SA) (m : Sm), vs = [.ref A.p] ∧ SiteAt C W H A m ∧ ∀ H' v, IdAt H' v (m.clock + 1, m.name) → Gw D0 H H' → Q v H'
theorem scNextId : FnScope ["self"] ["self"] (defScope (sSt 9)) := ⟨rfl, rfl, rfl, by decide +kernel, rfl, by decide +kernel, by decide +kernel⟩
theorem ok_nextId (D : Md K C "next_id" "Site.next_id" (sSt 9) ["self"]) (L : KSite K mg C) : Mt P w K mg base C 1 "next_id" ["self"] (spNextId C W) := by
  refine D.ok L.cl scNextId (fun vs H Q E h => ?_) (fun cdv f A0 outer s H vs Q E hr h => ?_)
  · obtain ⟨A, m, rfl, _⟩ := h
    rfl
  · obtain ⟨A, m, rfl, h, q⟩ := h
    refine ⟨_, (pss_one (ps_ret (pe_tup (pa_cons (pe_op op_add (pe_fld (pv 0) rfl) pe_int) (pa_cons ((pe_fld (pv 0) rfl)) pa_nil))))), ?_⟩
    refine ⟨_, rfl, _, _, _, _, _, rfl, h.ins, L.cl, L.clock, sF_clock _ _, _, _, rfl, rfl, _, rfl, _, _, _, _, _, rfl, h.ins, L.cl, L.name, sF_name _ _, by rw [sizeLine_eq]; show 2 ≤ _; omega, fun p np => q _ _ ⟨p, rfl, ?_⟩ (Gw.refl.new np)⟩
    rw [upd_same]
    rfl
def spMake (C W : Addr) : Sp := fun vs H Q _ => ∃ (A : SA) (m : Sm) (k : Kd) (rp : Addr) (vr : V) (r : Option Id) (c : Nat), vs = [.ref A.p, .str k.s, .ref rp] ∧ H rp = some (.tup (restT k vr c)) ∧ RefAt H vr r ∧ SiteAt C W H A m ∧ CarOk m (makeO m k r c) ∧
  ∀ H' u, OpAt H' u (makeO m k r c) → SiteAt C W H' A (carry m (makeO m k r c)) → Gw (fun b => b ∈ A.fp) H H' → Q u H'
theorem scMake : FnScope ["self", "kind", "rest", "operation"] ["self", "kind", "rest"] (defScope (sSt 10)) := ⟨rfl, rfl, rfl, by decide +kernel, rfl, by decide +kernel, by decide +kernel⟩
theorem ok_make (D : Md K C "make" "Site.make" (sSt 10) ["self", "kind", "rest"]) (L : KSite K mg C) (mN : Mt P w K mg base C 1 "next_id" ["self"] (spNextId C W)) (mC : Mt P w K mg base C 2 "carry_out" ["self", "operation"] (spCarry C W)) :
    Mt P w K mg base C 3 "make" ["self", "kind", "rest"] (spMake C W) := by
  refine D.ok L.cl scMake (fun vs H Q E h => ?_) (fun cdv f A0 outer s H vs Q E hr h => ?_)
  · obtain ⟨A, m, _, _, _, _, _, rfl, _⟩ := h
    rfl
  · obtain ⟨A, m, k, rp, vr, r, c, rfl, hrp, hrf, h, ok, q⟩ := h
    refine ⟨_, (pss_cons ((ps_set (i := 3) scMake.nd rfl (Or.inl rfl) (pe_tup (pa_cons (pv 1) (pa_cons (pe_mth0 mN (by first | exact hr | exact hr.mono (by decide) | exact room_gx hr hA | exact (room_gx hr hA).mono (by decide)) (pv 0)) (pa_cons (pe_dget2 (hu_of hr) ((pe_fld (pv 0) rfl)) ((pe_fld (pv 0) rfl)) (pe_int) ⟨by rfl, by rfl, by rfl, by rfl⟩) (StX.pa_star (pv 2) pa_nil)))))))
      (pss_cons (ps_expr (pe_mth mC (by first | exact hr | exact hr.mono (by decide) | exact room_gx hr hA | exact (room_gx hr hA).mono (by decide)) (pv 0) (pa_cons (pv 3) pa_nil)))
      (pss_one (ps_ret (pv 3))))), ?_⟩
    refine ⟨_, rfl, _, rfl, _, _, _, rfl, h.ins, sN_next_id _ _, A, m, rfl, h, fun H1 v1 hid g1 => ?_⟩
    have h1 := h.gw0 g1
    refine ⟨_, rfl, _, _, _, _, _, rfl, h1.ins, L.cl, L.counts, sF_counts _ _, _, rfl, .inl ⟨_, .of h1.cn⟩, _, rfl, _, _, _, _, _, rfl, h1.ins, L.cl, L.name, sF_name _ _, _, DGet.k (k := Sum.inr m.name) h1.cn, ?_⟩
    rw [valV_cnt]
    have hrp1 := g1.tup _ _ hrp
    refine ⟨_, rfl, rp, _, rfl, .inl (SqT.of hrp1), ?_, fun t nt => ?_⟩
    · rw [sizeLine_eq]
      unfold restT
      cases k <;> (simp)
    · have eL : (V.str k.s :: v1 :: V.int ((cnt m.counts m.name : Nat)) :: (restT k vr c ++ [])) = opT (makeO m k r c) v1 vr := by rw [List.append_nil]; rfl
      have g2 : Gw D0 H (upd H1 t (.tup (V.str k.s :: v1 :: V.int ((cnt m.counts m.name : Nat)) :: (restT k vr c ++ [])))) := g1.new nt
      have gt : Gw D0 H1 (upd H1 t (.tup (V.str k.s :: v1 :: V.int ((cnt m.counts m.name : Nat)) :: (restT k vr c ++ [])))) := Gw.refl.new nt
      have ho : OpAt (upd H1 t (.tup (V.str k.s :: v1 :: V.int ((cnt m.counts m.name : Nat)) :: (restT k vr c ++ [])))) (.ref t) (makeO m k r c) := ⟨t, v1, vr, rfl, by rw [upd_same, eL], hid.gw gt, hrf.gw g2⟩
      refine ⟨_, rfl, _, _, _, rfl, (h.gw0 g2).ins, sN_carry_out _ _, _, rfl, A, m, _, _, rfl, h.gw0 g2, ho, ok, fun H3 hS g3 => ?_⟩
      exact ⟨_, rfl, q _ _ (ho.gw g3) hS ((Gw.of0 g2).trans g3)⟩
def spRoom (C W : Addr) : Sp := fun vs H Q _ => ∃ (A : SA) (m : Sm) (n : Int), vs = [.ref A.p, .int n] ∧ SiteAt C W H A m ∧ ((m.known.length : Nat) : Int) + ((m.waits.length : Nat) : Int) + n ≤ 6000 ∧ Q .non H
theorem scRoom : FnScope ["self", "many"] ["self", "many"] (defScope (sSt 11)) := ⟨rfl, rfl, rfl, by decide +kernel, rfl, by decide +kernel, by decide +kernel⟩
theorem ok_room (D : Md K C "check_room" "Site.check_room" (sSt 11) ["self", "many"]) (L : KSite K mg C) (T : Bi mg) (mM : Mt P w K mg base W 1 "many" ["self"] (spWtMany W)) : Mt P w K mg base C 2 "check_room" ["self", "many"] (spRoom C W) := by
  refine D.ok L.cl scRoom (fun vs H Q E h => ?_) (fun cdv f A0 outer s H vs Q E hr h => ?_)
  · obtain ⟨A, m, n, rfl, _⟩ := h
    rfl
  · obtain ⟨A, m, n, rfl, h, hl, q⟩ := h
    obtain ⟨t1, m1⟩ := T.mOps
    obtain ⟨kvs, hk, rws⟩ := h.kn
    refine ⟨_, (pss_one (ps_if (pt_cmpR op_gt (pe_op op_add (pe_op op_add (pe_callB call_len_dT (by rfl) T.len_ PySem.boot_len (pa_cons ((pe_fld (pv 0) rfl)) pa_nil)) (pe_mth0 mM (by first | exact hr | exact hr.mono (by decide) | exact room_gx hr hA | exact (room_gx hr hA).mono (by decide)) ((pe_fld (pv 0) rfl)))) (pv 1)) (pe_glob (v := .int 6000) (by rfl) m1 ⟨_, rfl⟩) (nomark _)) (pss_one ps_never) pss_nil)), ?_⟩
    refine ⟨_, rfl, _, _, _, _, _, rfl, h.ins, L.cl, L.known, sF_known _ _, _, _, rfl, hk, _, rfl, _, _, _, _, _, rfl, h.ins, L.cl, L.waits, sF_waits _ _, _, _, _, rfl, h.wt.ins, wtF_no _ (by decide +kernel), _, _, _, _, rfl, h.wt, _, _, rfl, rfl, _, rfl, _, _, rfl, rfl, _, _, rfl, rfl, _, rfl, ?_⟩
    rw [All2.len rws, decide_eq_false (show ¬ ((m.known.length : Nat) : Int) + ((m.waits.length : Nat) : Int) + n > 6000 by omega)]
    exact iteF q
def spUndoS (C W : Addr) : Sp := fun vs H Q _ => ∃ (A : SA) (m : Sm) (v : V) (i : Id), vs = [.ref A.p, v] ∧ IdAt H v i ∧ SiteAt C W H A m ∧ (lkG Op.id m.known i).isSome = true ∧ m.known.length + m.waits.length + 1 ≤ 6000 ∧ CarOk m (makeO m .undo (some i) 0) ∧
  ∀ H' u, OpAt H' u (makeO m .undo (some i) 0) → SiteAt C W H' A (carry m (makeO m .undo (some i) 0)) → Gw (fun b => b ∈ A.fp) H H' → Q u H'
theorem scUndoS : FnScope ["self", "own"] ["self", "own"] (defScope (sSt 14)) := ⟨rfl, rfl, rfl, by decide +kernel, rfl, by decide +kernel, by decide +kernel⟩
theorem ok_undoS (D : Md K C "undo" "Site.undo" (sSt 14) ["self", "own"]) (L : KSite K mg C) (mR : Mt P w K mg base C 2 "check_room" ["self", "many"] (spRoom C W)) (mM : Mt P w K mg base C 3 "make" ["self", "kind", "rest"] (spMake C W)) :
    Mt P w K mg base C 4 "undo" ["self", "own"] (spUndoS C W) := by
  refine D.ok L.cl scUndoS (fun vs H Q E h => ?_) (fun cdv f A0 outer s H vs Q E hr h => ?_)
  · obtain ⟨A, m, _, _, rfl, _⟩ := h
    rfl
  · obtain ⟨A, m, v, i, rfl, ⟨a, rfl, ha⟩, h, hi, hl, ok, q⟩ := h
    obtain ⟨kvs, hk, rws⟩ := h.kn
    have hu := hu_of hr
    refine ⟨_, (pss_cons (ps_if (pt_cmp (pc_dnotin hu (pv 1) (pe_fld (pv 0) rfl))) (pss_one ps_never) pss_nil)
      (pss_cons (ps_expr (pe_mth mR (by first | exact hr | exact hr.mono (by decide) | exact room_gx hr hA | exact (room_gx hr hA).mono (by decide)) (pv 0) (pa_cons (pe_int) pa_nil)))
      (pss_one (ps_ret (pe_mth mM (by first | exact hr | exact hr.mono (by decide) | exact room_gx hr hA | exact (room_gx hr hA).mono (by decide)) (pv 0) (pa_cons (pe_str) (pa_cons (pe_tup (pa_cons (pv 1) pa_nil)) pa_nil))))))), ?_⟩
    refine ⟨_, rfl, _, rfl, _, _, _, _, _, rfl, h.ins, L.cl, L.known, sF_known _ _, _, _, rfl, DGet.t (k := idK i) hk ha, _, rfl, ?_⟩
    have e : (valV kvs (idK i)).isSome = true := by
      cases hlk : lkG Op.id m.known i with
      | none => rw [hlk] at hi; cases hi
      | some o =>
        obtain ⟨v, hv, _⟩ := Rows.some_ rws hlk
        rw [hv]
        rfl
    rw [e]
    refine iteF ⟨_, rfl, _, _, _, rfl, h.ins, sN_check_room _ _, A, m, 1, rfl, h, by omega, ?_⟩
    refine ⟨_, rfl, _, _, _, rfl, h.ins, sN_make _ _, _, rfl, by rw [sizeLine_eq]; show 1 ≤ _; omega, fun t nt => ?_⟩
    have g : Gw D0 H (upd H t (.tup [.ref a])) := Gw.refl.new nt
    exact ⟨A, m, .undo, t, .ref a, some i, 0, rfl, upd_same, ⟨a, rfl, g.tup _ _ ha⟩, h.gw0 g, ok, fun H' u ho hS g' => q _ _ ho hS ((Gw.of0 g).trans g')⟩
end
end K80
namespace K80
open PySem PySem.Spec PyProof.Rows L2 Gx GxR NdefX
/-- one sign, many times -/
theorem rep_sign (c : Nat) : ∀ (n : Nat) (acc : Array Nat), (List.replicate n (#[c] : Array Nat)).foldl (· ++ ·) acc = acc ++ (List.replicate n c).toArray
  | 0, acc => by simp
  | n + 1, acc => by
    rw [List.replicate_succ, List.foldl_cons, rep_sign c n]
    apply Array.ext'
    simp [List.replicate_succ]
theorem op_mulS {X : Cx} : OpR X (binaryOp .Mult) (fun x y H Q => ∃ (c n : Nat), x = .str (S [c]) ∧ y = .int (n : Nat) ∧ n ≤ 100000 ∧ Q (.str (S (List.replicate n c))) H) := by
  intro pins s σ H x y v u Q I rx ry h
  obtain ⟨c, n, rfl, rfl, hn, q⟩ := h
  obtain ⟨t, rfl⟩ := rx
  obtain ⟨t', rfl⟩ := ry
  have l1 : (S [c]).length = 1 := rfl
  refine P.mul_str ?_ (fun h1 _ => ?_) (fun h1 _ => ?_) ?_
  · rw [decide_eq_false (by omega), decide_eq_false (by omega)]
    rfl
  · rw [l1]
    have h2 : (2 ^ 63 - 1 : Int) / (n : Int) ≥ 1 := by
      rw [ge_iff_le, Int.le_ediv_iff_mul_le (by omega)]
      omega
    omega
  · rw [l1, Int.toNat_natCast, Nat.one_mul]
    unfold Builtin.Str.tooLong
    rw [sizeLine_eq]
    exact decide_eq_false (by omega)
  · split
    · have e : n = 0 := by omega
      subst e
      exact ⟨by decide, .str (S (List.replicate 0 c)), H, I.tok _, ⟨_, rfl⟩, q⟩
    · split
      · rename_i h1 h2
        have e : n = 1 := by
          rw [l1] at h2
          simp at h2
          omega
        subst e
        exact ⟨.str (S (List.replicate 1 c)), H, I, ⟨_, rfl⟩, q⟩
      · rw [Int.toNat_natCast]
        show (Made.str ⟨(List.replicate n (#[c] : Array Nat)).foldl (· ++ ·) #[]⟩).post _ s
        rw [rep_sign]
        have e : (#[] ++ (List.replicate n c).toArray : Array Nat) = (List.replicate n c).toArray := by simp
        rw [e]
        exact ⟨by rw [show (Str.mk (List.replicate n c).toArray).length = (List.replicate n c).length from rfl, List.length_replicate, sizeLine_eq]; omega, .str (S (List.replicate n c)), H, I.tok _, ⟨_, rfl⟩, q⟩
end K80
namespace K80
open PySem PySem.Spec PyProof.Rows L2 Gx GxR NdefX
def cutsF : Sm → List Id → Sm × List Op
  | m, [] => (m, [])
  | m, i :: is => ((cutsF (carry m (makeO m .cut (some i) 0)) is).1, makeO m .cut (some i) 0 :: (cutsF (carry m (makeO m .cut (some i) 0)) is).2)
def putsF : Sm → Option Id → List Nat → Sm × List Op
  | m, _, [] => (m, [])
  | m, a, c :: cs => ((putsF (carry m (makeO m .put a c)) (some (makeO m .put a c).id) cs).1, makeO m .put a c :: (putsF (carry m (makeO m .put a c)) (some (makeO m .put a c).id) cs).2)
def lastId (a : Option Id) (ops : List Op) : Option Id := match ops.getLast? with
  | none => a
  | some o => some o.id
theorem cutsF_snoc (i : Id) : ∀ (is : List Id) (m : Sm), cutsF m (is ++ [i]) = (carry (cutsF m is).1 (makeO (cutsF m is).1 .cut (some i) 0), (cutsF m is).2 ++ [makeO (cutsF m is).1 .cut (some i) 0])
  | [], m => rfl
  | j :: is, m => by
    show ((cutsF _ (is ++ [i])).1, _ :: (cutsF _ (is ++ [i])).2) = _
    rw [cutsF_snoc i is]
    rfl
theorem putsF_snoc (c : Nat) : ∀ (cs : List Nat) (m : Sm) (a : Option Id), putsF m a (cs ++ [c]) = (carry (putsF m a cs).1 (makeO (putsF m a cs).1 .put (lastId a (putsF m a cs).2) c), (putsF m a cs).2 ++ [makeO (putsF m a cs).1 .put (lastId a (putsF m a cs).2) c])
  | [], m, a => rfl
  | d :: cs, m, a => by
    show ((putsF _ _ (cs ++ [c])).1, _ :: (putsF _ _ (cs ++ [c])).2) = _
    rw [putsF_snoc c cs]
    have e : ∀ (o : Op) (l : List Op) (a : Option Id), lastId a (o :: l) = lastId (some o.id) l := fun o l a => by
      unfold lastId
      rw [List.getLast?_cons]
      cases l.getLast? <;> rfl
    show _ = (carry (putsF _ _ cs).1 (makeO (putsF _ _ cs).1 .put (lastId a (makeO m .put a d :: (putsF _ _ cs).2)) c), makeO m .put a d :: (putsF _ _ cs).2 ++ [makeO (putsF _ _ cs).1 .put (lastId a (makeO m .put a d :: (putsF _ _ cs).2)) c])
    rw [e]
    rfl
def cutIds (m : Sm) (e : Ed) : List Id := ((showing m).drop e.1).take e.2.1
def afterE (m : Sm) (e : Ed) : Option Id := if e.1 = 0 then none else (showing m)[e.1 - 1]?
/-- an edit at a site: the site behind it, the operations -/
def editM (m : Sm) (e : Ed) : Sm × List Op := ((putsF (cutsF m (cutIds m e)).1 (afterE m e) e.2.2).1, (cutsF m (cutIds m e)).2 ++ (putsF (cutsF m (cutIds m e)).1 (afterE m e) e.2.2).2)
structure EdFit (m : Sm) (e : Ed) : Prop where
  ed : EdOk (showing m).length e
  room : m.known.length + m.waits.length + e.2.1 + e.2.2.length ≤ 6000
  len : (showing m).length ≤ 100000
  lu : m.undone.length ≤ 100000
  lo : m.order.length ≤ 100000
  cuts : ∀ (i : Nat) (x : Id), (cutIds m e)[i]? = some x → CarOk (cutsF m ((cutIds m e).take i)).1 (makeO (cutsF m ((cutIds m e).take i)).1 .cut (some x) 0)
  puts : ∀ (i c : Nat), e.2.2[i]? = some c → CarOk (putsF (cutsF m (cutIds m e)).1 (afterE m e) (e.2.2.take i)).1 (makeO (putsF (cutsF m (cutIds m e)).1 (afterE m e) (e.2.2.take i)).1 .put (lastId (afterE m e) (putsF (cutsF m (cutIds m e)).1 (afterE m e) (e.2.2.take i)).2) c)
def OpsAt (H : Hp) (v : V) (ops : List Op) : Prop := ∃ a us, v = .ref a ∧ H a = some (.tup us) ∧ All2 (OpAt H) us ops
theorem OpsAt.gw {D : Addr → Prop} {H H' : Hp} {v : V} {ops : List Op} (h : OpsAt H v ops) (g : Gw D H H') : OpsAt H' v ops := let ⟨a, us, e1, e2, e3⟩ := h; ⟨a, us, e1, g.tup _ _ e2, e3.mono fun _ _ z => z.gw g⟩
theorem cutsF_len : ∀ (is : List Id) (m : Sm), (cutsF m is).2.length = is.length
  | [], _ => rfl
  | _ :: is, _ => by show (cutsF _ is).2.length + 1 = is.length + 1; rw [cutsF_len is]
theorem putsF_len : ∀ (cs : List Nat) (m : Sm) (a : Option Id), (putsF m a cs).2.length = cs.length
  | [], _, _ => rfl
  | _ :: cs, _, _ => by show (putsF _ _ cs).2.length + 1 = cs.length + 1; rw [putsF_len cs]
theorem fp_live {C W : Addr} {H : Hp} {A : SA} {m : Sm} (h : SiteAt C W H A m) {b : Addr} (hb : b ∈ A.fp) : H b ≠ none := by
  obtain ⟨k1, hk, _⟩ := h.kn
  obtain ⟨k2, hu, _⟩ := h.un
  obtain ⟨k3, hc, _⟩ := h.ct
  obtain ⟨us, ho, _⟩ := h.od
  obtain ⟨k4, hr, _⟩ := h.wt.rows
  unfold SA.fp at hb
  simp only [List.mem_cons, List.not_mem_nil, or_false] at hb
  rcases hb with e | e | e | e | e | e | e | e
  · rw [e, h.ins]; simp
  · rw [e, hk]; simp
  · rw [e, hu]; simp
  · rw [e, hc]; simp
  · rw [e, ho]; simp
  · rw [e, h.cn]; simp
  · rw [e, h.wt.ins]; simp
  · rw [e, hr]; simp
theorem fp_not {C W : Addr} {H : Hp} {A : SA} {m : Sm} (h : SiteAt C W H A m) {b : Addr} (hb : H b = none) : ¬ b ∈ A.fp := fun z => fp_live h z hb
theorem cutV_mid (us : List V) (p g : Nat) (h : p + g ≤ us.length) : cutV us (some ((p : Nat) : Int)) (some (((p : Nat) : Int) + ((g : Nat) : Int))) = (us.drop p).take g := by
  unfold cutV
  rw [← Int.natCast_add, HT.sIx_nat, HT.sIx_nat, Nat.min_eq_left (by omega), Nat.min_eq_left (by omega)]
  congr 1
  omega
section
variable {P : Program} {w : World} {K : PySem.W.Frag} {mg : Str → Option Value} {base : Heap}
variable {C W : Addr}
def spEdit (C W : Addr) (t : Tbs) : Sp := fun vs H Q _ => ∃ (A : SA) (m : Sm) (v : V) (e : Ed), vs = [.ref A.p, v] ∧ EdAt H v e ∧ SiteAt C W H A m ∧ EdFit m e ∧ Tb t H ∧
  ∀ H' u, OpsAt H' u (editM m e).2 → SiteAt C W H' A (editM m e).1 → Gw (fun b => b ∈ A.fp) H H' → Q u H'
theorem scEditS : FnScope ["self", "edit", "showing", "place", "gone", "come", "found", "after", "sign", "own"] ["self", "edit"] (defScope (sSt 13)) := ⟨rfl, rfl, rfl, by decide +kernel, rfl, by decide +kernel, by decide +kernel⟩
theorem ok_editS {t : Tbs} (D : Md K C "edit" "Site.edit" (sSt 13) ["self", "edit"]) (L : KSite K mg C) (T : Bi mg) (mS : Mt P w K mg base C 3 "showing" ["self"] (spShowing C W t)) (mR : Mt P w K mg base C 2 "check_room" ["self", "many"] (spRoom C W)) (mM : Mt P w K mg base C 3 "make" ["self", "kind", "rest"] (spMake C W))
    (fE : Fn P w K mg base 2 "is_site_edit" ["text", "value"] (spSiteEdit t)) : Mt P w K mg base C 4 "edit" ["self", "edit"] (spEdit C W t) := by
  refine D.ok L.cl scEditS (fun vs H Q E h => ?_) (fun cdv f A0 outer s H vs Q E hr h => ?_)
  · obtain ⟨A, m, _, _, rfl, _⟩ := h
    rfl
  · obtain ⟨A, m, v, ⟨pl, gn, cm⟩, rfl, he, h, fit, tb, q⟩ := h
    have hu := hu_of hr
    obtain ⟨tt, hP, hR⟩ : ∃ tt, PSs (cxOf CX0 P w K mg base ["self", "edit", "showing", "place", "gone", "come", "found", "after", "sign", "own"] "Site.edit" (defScope (sSt 13)) f cdv A0 outer s H E).nox ((defBody (sSt 13)).drop 6) tt ∧
        ∀ (v1 v2 v3 v4 : V) (cm : List Nat) (va : V) (x8 x9 : Option V) (H3 : Hp) (m1 : Sm) (a : Option Id) (ops : List Op) (d : Addr) (ws : List V), SiteAt C W H3 A m1 → RefAt H3 va a → H3 d = some (.lst ws) → All2 (OpAt H3) ws ops → ¬ d ∈ A.fp → ops.length ≤ 100000 →
          (∀ (i c : Nat), cm[i]? = some c → CarOk (putsF m1 a (cm.take i)).1 (makeO (putsF m1 a (cm.take i)).1 .put (lastId a (putsF m1 a (cm.take i)).2) c)) →
          (∀ H' u, OpsAt H' u (ops ++ (putsF m1 a cm).2) → SiteAt C W H' A (putsF m1 a cm).1 → Gw (fun b => b ∈ A.fp ∨ b = d) H3 H' → Q u H') →
          cm.length ≤ 2000 → tt { nx := fun _ H' => Q .non H', rt := Q } [some (.ref A.p), some v1, some v2, some v3, some v4, some (.str (S cm)), some (.ref d), some va, x8, x9] H3 := by
      refine ⟨_, (pss_cons (ps_for PassesOwn.never rfl (pi_str (pv 5)) (pg_name (i := 8) scEditS.nd rfl (Or.inl rfl)) (pss_cons (ps_expr (pe_bm PySem.F.plainAttrs_list PySem.F.slot_list_append PySem.F.type_list_append mt_append (pv 6) (pa_cons ((pe_mth mM (by first | exact hr | exact hr.mono (by decide) | exact room_gx hr hA | exact (room_gx hr hA).mono (by decide)) (pv 0) (pa_cons (pe_str) (pa_cons (pe_tup (pa_cons (pv 7) (pa_cons (pv 8) pa_nil))) pa_nil)))) pa_nil)))
      (pss_one ((ps_set (i := 7) scEditS.nd rfl (Or.inl rfl) ((pe_ix ix_tup ((pe_ix ix_list (pv 6) (pe_un un_neg pe_int) (fun _ _ => rfl))) (pe_int) (fun _ _ => rfl))))))))
      (pss_one (ps_ret (pe_callTy call_tuple_of (by rfl) T.tuple_ (by decide +kernel) (pa_cons (pv 6) pa_nil))))), ?_⟩
      intro v1 v2 v3 v4 cm va x8 x9 H3 m1 a ops d ws hS hva hd hws nfd lops puts hQ lcm
      refine ⟨_, rfl, S cm, rfl, ?_⟩
      refine for_it (walk_str (z := S cm)) (fun i σ H' => (∃ va' y8, σ = [some (.ref A.p), some v1, some v2, some v3, some v4, some (.str (S cm)), some (.ref d), some va', y8, x9] ∧ RefAt H' va' (lastId a (putsF m1 a (cm.take i)).2)) ∧ Gw (fun b => b ∈ A.fp ∨ b = d) H3 H' ∧ SiteAt C W H' A (putsF m1 a (cm.take i)).1 ∧ ∃ us, H' d = some (.lst us) ∧ All2 (OpAt H') us (ops ++ (putsF m1 a (cm.take i)).2))
        ⟨⟨va, x8, rfl, hva⟩, Gw.refl, hS, ws, hd, by show All2 _ _ (ops ++ []); rw [List.append_nil]; exact hws⟩ (fun _ _ _ _ _ => trivial) ?_ ?_
      · rintro i y σ H4 H4' hi ⟨⟨va', y8, rfl, hva'⟩, g, hS4, us, hd4, hus⟩ ⟨rfl, c, hc, rfl⟩
        have hcm : cm[i]? = some c := by simpa using hc
        have et : cm.take (i + 1) = cm.take i ++ [c] := by rw [List.take_add_one, hcm]; rfl
        have lus : us.length < sizeLine := by
          rw [hus.len, List.length_append, putsF_len, List.length_take, sizeLine_eq]
          omega
        refine ⟨_, rfl, .inl ⟨rfl, _, SqL.of hd4⟩, _, rfl, _, _, _, rfl, hS4.ins, sN_make _ _, _, rfl, _, rfl, by rw [sizeLine_eq]; show 2 ≤ _; omega, fun t nt => ?_⟩
        have gt : Gw D0 H4' (upd H4' t (.tup [va', .str ⟨#[c]⟩])) := Gw.refl.new nt
        refine ⟨A, _, .put, t, va', lastId a (putsF m1 a (cm.take i)).2, c, rfl, upd_same, hva'.gw gt, hS4.gw0 gt, puts i c hcm, fun H5 u ho hS5 g5 => ?_⟩
        have g45 : Gw (fun b => b ∈ A.fp) H4' H5 := (Gw.of0 gt).trans g5
        have hd5 : H5 d = some (.lst us) := g45.oth _ _ hd4 (fun _ z => by cases z) nfd
        refine ⟨d, us, u, rfl, rfl, hd5, lus, ?_⟩
        have gd : Gw (fun b => b = d) H5 (upd H5 d (.lst (us ++ [u]))) := Gw.refl.put rfl hd5 (fun _ z => by cases z) (fun _ z => by cases z)
        have ho6 := ho.gw gd
        have ho7 := ho6
        obtain ⟨ua, vi, vr, rfl, hua, hvi, _⟩ := ho6
        refine ⟨_, rfl, _, rfl, _, _, _, _, rfl, rfl, SqL.of upd_same, atI_last us _, _, _, _, _, rfl, rfl, SqT.of hua, at1 _ _ _, ?_⟩
        refine ⟨⟨vi, _, rfl, ?_⟩, (g.trans (g45.mono fun _ z => .inl z)).trans (gd.mono fun _ z => .inr z), ?_, _, upd_same, ?_⟩
        · rw [et, putsF_snoc]
          have : lastId a ((putsF m1 a (cm.take i)).2 ++ [makeO (putsF m1 a (cm.take i)).1 .put (lastId a (putsF m1 a (cm.take i)).2) c]) = some (makeO (putsF m1 a (cm.take i)).1 .put (lastId a (putsF m1 a (cm.take i)).2) c).id := by
            unfold lastId
            rw [List.getLast?_append]
            rfl
          show RefAt _ vi (lastId a ((putsF m1 a (cm.take i)).2 ++ [_]))
          rw [this]
          exact hvi
        · rw [et, putsF_snoc]
          exact hS5.gw gd fun b hb z => nfd (z ▸ hb)
        · rw [et, putsF_snoc]
          show All2 _ _ (ops ++ ((putsF m1 a (cm.take i)).2 ++ [_]))
          rw [← List.append_assoc]
          exact (hus.mono fun _ _ z => (z.gw g45).gw gd).snoc ho7
      · rintro σ H4 ⟨⟨va', y8, rfl, hva'⟩, g, hS4, us, hd4, hus⟩
        have el : cm.take (S cm).cps.size = cm := List.take_of_length_le (by show cm.length ≤ cm.toArray.size; simp)
        rw [el] at hS4 hus
        refine ⟨_, rfl, d, us, rfl, .inl ⟨SqL.of hd4, fun p np => ?_⟩⟩
        have gp : Gw D0 H4 (upd H4 p (.tup us)) := Gw.refl.new np
        exact hQ _ _ ⟨p, us, rfl, upd_same, hus.mono fun _ _ z => z.gw gp⟩ (hS4.gw0 gp) (g.pure gp)
    refine ⟨_, (pss_cons ((ps_set (i := 2) scEditS.nd rfl (Or.inl rfl) ((pe_mth0 mS (by first | exact hr | exact hr.mono (by decide) | exact room_gx hr hA | exact (room_gx hr hA).mono (by decide)) (pv 0)))))
      (pss_cons (ps_if (pt_not (pt_val (pe_fn fE (by first | exact hr | exact hr.mono (by decide) | exact room_gx hr hA | exact (room_gx hr hA).mono (by decide)) (pa_cons (pe_op op_mulS pe_str (pe_callB call_len_seq (by rfl) T.len_ PySem.boot_len (pa_cons (pv 2) pa_nil))) (pa_cons (pv 1) pa_nil))))) (pss_one ps_never) pss_nil)
      (pss_cons (ps_asg (pv 1) (pg_tup (by rfl) (pgs_cons (pg_name (i := 3) scEditS.nd rfl (Or.inl rfl)) (pgs_cons (pg_name (i := 4) scEditS.nd rfl (Or.inl rfl)) (pgs_cons (pg_name (i := 5) scEditS.nd rfl (Or.inl rfl)) pgs_nil)))))
      (pss_cons (ps_expr (pe_mth mR (by first | exact hr | exact hr.mono (by decide) | exact room_gx hr hA | exact (room_gx hr hA).mono (by decide)) (pv 0) (pa_cons (pe_op op_add (pv 4) (pe_callB call_len_str (by rfl) T.len_ PySem.boot_len (pa_cons (pv 5) pa_nil))) pa_nil)))
      (pss_cons (ps_setLc (i := 6) (own := [("own", 9)]) (g := (gName 9)) (by rfl) scEditS.nd rfl rfl (sw_true rfl rfl rfl (by decide +kernel)) (pi_list (pe_slice sl_list (pv 2) (po_some (pv 3)) (po_some (pe_op op_add (pv 3) (pv 4))))) (blkOk_by (own := [("own", 9)]) (N := ["self", "edit", "showing", "place", "gone", "come", "found", "after", "sign", "own"]) (sc := defScope (sSt 13)) (by decide +kernel))
        (fun _ _ _ _ _ => (pg_name (i := 9) scEditS.nd rfl (Or.inl rfl))) (fun _ _ _ _ _ => pts_nil) (fun _ _ _ _ _ => (pe_mth mM (by first | exact hr | exact hr.mono (by decide) | exact room_gx hr hA | exact (room_gx hr hA).mono (by decide)) (pv 0) (pa_cons (pe_str) (pa_cons (pe_tup (pa_cons (pv 9) pa_nil)) pa_nil)))))
      (pss_cons ((ps_set (i := 7) scEditS.nd rfl (Or.inl rfl) (pe_ifExp (pt_cmpR op_gt (pv 3) pe_int (nomark _)) (pe_ix ix_list (pv 2) (pe_op op_sub (pv 3) pe_int) (fun _ _ => rfl)) pe_non)))
      hP)))))), ?_⟩
    refine ⟨_, rfl, _, _, _, rfl, h.ins, sN_showing _ _, A, m, rfl, h, fit.lu, fit.lo, tb, fun H1 sp us hsp hus nsp g1 => ?_⟩
    have h1 := h.gw0 g1
    obtain ⟨ea, rfl, hea⟩ := he
    have lsh := fit.len
    have edok : pl + gn ≤ (showing m).length := fit.ed.1
    have lcm : cm.length ≤ 2000 := fit.ed.2.2
    have room : m.known.length + m.waits.length + gn + cm.length ≤ 6000 := fit.room
    refine ⟨_, rfl, _, _, rfl, .inl (SqL.of hsp), 46, us.length, by decide +kernel, rfl, by rw [hus.len]; exact lsh, _, rfl, List.replicate us.length 46, _, (pl, gn, cm), rfl, ⟨ea, rfl, g1.tup _ _ hea⟩, by rw [List.length_replicate, hus.len]; exact fit.ed, by rw [List.length_replicate, hus.len]; exact lsh, tb.gw g1, fun H2 g2 => ⟨_, rfl, iteF ?_⟩⟩
    have g12 := g1.trans g2
    have h2 := h.gw0 g12
    have hsp2 : H2 sp = some (.lst us) := g2.oth _ _ hsp (fun _ z => by cases z) (fun z => z)
    refine ⟨_, rfl, ea, _, rfl, SqT.of (g12.tup _ _ hea), rfl, _, _, rfl, _, _, rfl, _, _, rfl, rfl, ?_⟩
    refine ⟨_, rfl, _, _, _, rfl, h2.ins, sN_check_room _ _, _, rfl, _, rfl, _, rfl, le_sizeLine (by show cm.length ≤ _; omega), _, _, rfl, rfl, A, m, _, rfl, h2, by show ((m.known.length : Nat) : Int) + ((m.waits.length : Nat) : Int) + (((gn : Nat) : Int) + ((cm.length : Nat) : Int)) ≤ 6000; omega, ?_⟩
    -- the cuts
    refine ⟨_, rfl, _, rfl, _, rfl, _, rfl, _, rfl, _, _, rfl, rfl, _, rfl, sp, us, rfl, SqL.of hsp2, fun p2 np2 => ?_⟩
    rw [cutV_mid us pl gn (by rw [hus.len]; exact edok)]
    have g3 : Gw D0 H (upd H2 p2 (.lst ((us.drop pl).take gn))) := g12.new np2
    have hids : All2 (IdAt H1) ((us.drop pl).take gn) (cutIds m (pl, gn, cm)) := (hus.drop pl).take gn
    have np2H := g12.non _ np2
    have nspp : sp ≠ p2 := ne_of_none hsp2 np2
    refine ⟨p2, rfl, ⟨_, SqL.of upd_same⟩, fun d nd => ?_⟩
    have ndH := g3.non _ nd
    have ndp : p2 ≠ d := ne_of_none upd_same nd
    have ndsp : sp ≠ d := ne_of_none (show upd H2 p2 (HO.lst ((us.drop pl).take gn)) sp = some (.lst us) by rw [upd_ne nspp]; exact hsp2) nd
    have nf : ∀ {b : Addr}, H b = none → ¬ b ∈ A.fp := fun z => fp_not h z
    refine lc_it (walk_list (xs := (us.drop pl).take gn)) (fun i H' => Gw (fun b => b ∈ A.fp) H H' ∧ Gw (fun b => b ∈ A.fp ∨ b = d) H1 H' ∧ H' sp = some (.lst us) ∧ H' p2 = some (.lst ((us.drop pl).take gn)) ∧ SiteAt C W H' A (cutsF m ((cutIds m (pl, gn, cm)).take i)).1 ∧ ∃ ws, H' d = some (.lst ws) ∧ All2 (OpAt H') ws (cutsF m ((cutIds m (pl, gn, cm)).take i)).2)
      ⟨(Gw.of0 g3).new nd, ((Gw.of0 g2).new np2).new nd, by rw [upd_ne ndsp, upd_ne nspp]; exact hsp2, by rw [upd_ne ndp]; exact upd_same, h.gw0 (g3.new nd), [], upd_same, All2.nil⟩ (fun i H' _ z => SqL.of z.2.2.2.1) ?_ ?_
    · rintro i y H3 H3' hi ⟨g, gb, hs3, hp3, hS, ws, hd, hws⟩ ⟨rfl, hy⟩
      obtain ⟨x, hx, xa, rfl, hxa⟩ := hids.get hy
      have et : (cutIds m (pl, gn, cm)).take (i + 1) = (cutIds m (pl, gn, cm)).take i ++ [x] := by rw [List.take_add_one, hx]; rfl
      refine ⟨rfl, _, rfl, _, _, _, rfl, hS.ins, sN_make _ _, _, rfl, by rw [sizeLine_eq]; show 1 ≤ _; omega, fun t nt => ?_⟩
      have gt : Gw D0 H3' (upd H3' t (.tup [.ref xa])) := Gw.refl.new nt
      refine ⟨A, _, .cut, t, .ref xa, some x, 0, rfl, upd_same, ⟨xa, rfl, gt.tup _ _ (gb.tup _ _ hxa)⟩, hS.gw0 gt, fit.cuts i x hx, fun H4 u ho hS4 g4 => ?_⟩
      have g34 : Gw (fun b => b ∈ A.fp) H3' H4 := (Gw.of0 gt).trans g4
      have hd4 : H4 d = some (.lst ws) := g34.oth _ _ hd (fun _ z => by cases z) (nf ndH)
      have hs4 : H4 sp = some (.lst us) := g34.oth _ _ hs3 (fun _ z => by cases z) (nf nsp)
      have hp4 : H4 p2 = some (.lst ((us.drop pl).take gn)) := g34.oth _ _ hp3 (fun _ z => by cases z) (nf np2H)
      have hl : ws.length < sizeLine := by
        rw [hws.len, cutsF_len, List.length_take, sizeLine_eq]
        have : (cutIds m (pl, gn, cm)).length ≤ gn := by unfold cutIds; rw [List.length_take]; exact Nat.min_le_left gn _
        omega
      have gd : Gw (fun b => b = d) H4 (upd H4 d (.lst (ws ++ [u]))) := Gw.refl.put rfl hd4 (fun _ z => by cases z) (fun _ z => by cases z)
      refine ⟨ws, hd4, hl, (g.trans g34).fresh ndH, (gb.trans (g34.mono fun _ z => .inl z)).trans (gd.mono fun _ z => .inr z), by rw [upd_ne ndsp]; exact hs4, by rw [upd_ne ndp]; exact hp4, ?_, _, upd_same, ?_⟩
      · rw [et, cutsF_snoc]
        exact hS4.gw gd fun b hb z => nf ndH (z ▸ hb)
      · rw [et, cutsF_snoc]
        exact (hws.mono fun _ _ z => (z.gw g34).gw gd).snoc (ho.gw gd)
    · rintro H3 ⟨g, gb, hs3, hp3, hS, ws, hd, hws⟩
      rw [hids.len, List.take_length] at hS hws
      have hcl : (cutsF m (cutIds m (pl, gn, cm))).2.length ≤ 100000 := by
        rw [cutsF_len]
        unfold cutIds
        rw [List.length_take]
        show min gn _ ≤ _
        omega
      -- what the signs come behind
      refine ⟨_, rfl, _, _, rfl, rfl, _, rfl, ?_⟩
      have fin : ∀ (va : V), RefAt H3 va (afterE m (pl, gn, cm)) → tt { nx := fun _ H' => Q .non H', rt := Q } [some (.ref A.p), some (.ref ea), some (.ref sp), some (.int ((pl : Nat))), some (.int ((gn : Nat))), some (.str (S cm)), some (.ref d), some va, none, none] H3 := fun va hva =>
        hR _ _ _ _ _ va none none H3 _ _ _ d ws hS hva hd hws (nf ndH) hcl fit.puts (fun H' u hu hS' g' => q _ _ hu hS' ((g.go g' fun b z hb => z.elim (fun y => y) fun y => absurd (y ▸ ndH) hb))) lcm
      by_cases p0 : pl = 0
      · rw [decide_eq_false (show ¬ ((((pl, gn, cm) : Ed).1 : Nat) : Int) > 0 by show ¬ ((pl : Nat) : Int) > 0; omega)]
        refine iteF (fin .non ?_)
        unfold afterE
        rw [if_pos (show pl = 0 from p0)]
        rfl
      · rw [decide_eq_true (show ((((pl, gn, cm) : Ed).1 : Nat) : Int) > 0 by show ((pl : Nat) : Int) > 0; omega)]
        have hlt : pl - 1 < us.length := by rw [hus.len]; omega
        have e2 : us[pl - 1]? = some us[pl - 1] := List.getElem?_eq_getElem hlt
        obtain ⟨x, hx, hxa⟩ := hus.get e2
        refine iteT ⟨_, rfl, _, rfl, _, _, rfl, rfl, sp, us, _, us[pl - 1], rfl, rfl, SqL.of hs3, ?_, fin _ ?_⟩
        · rw [show ((((pl, gn, cm) : Ed).1 : Nat) : Int) - 1 = ((pl - 1 : Nat) : Int) by show ((pl : Nat) : Int) - 1 = _; omega]
          exact atI_nat e2
        · unfold afterE
          rw [if_neg (show ¬ pl = 0 from p0)]
          show RefAt H3 _ ((showing m)[pl - 1]?)
          rw [hx]
          exact hxa.gw gb
end
end K80
namespace K80
open PySem PySem.Spec PyProof.Rows L2 Gx GxR NdefX
theorem seen_congr {cs ds : Cnt} (h : ∀ x, cnt cs x = cnt ds x) : hasSeen cs = hasSeen ds := funext fun i => by unfold hasSeen; rw [h]
theorem ready_congr {cs ds : Cnt} (h : ∀ x, cnt cs x = cnt ds x) : ready cs = ready ds := funext fun o => by unfold ready; rw [h, seen_congr h]
theorem next_congr {cs ds : Cnt} (h : ∀ x, cnt cs x = cnt ds x) (ws : List Op) : nextReady cs ws = nextReady ds ws := by unfold nextReady; rw [ready_congr h]
theorem forget_congr {cs ds : Cnt} (h : ∀ x, cnt cs x = cnt ds x) (ws : List Op) : forgetW cs ws = forgetW ds ws := by unfold forgetW; rw [seen_congr h]
theorem SiteAt.reW {C W : Addr} {H H' : Hp} {A : SA} {m : Sm} {rw' : Addr} {ws : List Op} {D : Addr → Prop} (h : SiteAt C W H A m) (hw : WtAt W H' A.wt A.wd rw' ws) (g : Gw D H H') (hD : ∀ b, D b → b = A.wt ∨ b = A.rw) (n : rw' = A.rw ∨ H rw' = none) :
    SiteAt C W H' { A with rw := rw' } { m with waits := ws } := by
  have e := h.ne
  have nD : ∀ b, b ≠ A.wt → b ≠ A.rw → ¬ D b := fun b h1 h2 z => (hD b z).elim h1 h2
  have nr : ∀ {b : Addr} {o : HO}, H b = some o → b ≠ A.rw → rw' ≠ b := fun hb hn z => n.elim (fun q => hn (by rw [← z, q])) fun q => by rw [z] at q; rw [q] at hb; cases hb
  obtain ⟨k1, hk, r1⟩ := h.kn
  obtain ⟨k2, hu, r2⟩ := h.un
  obtain ⟨k3, hc, r3⟩ := h.ct
  obtain ⟨us, ho, r4⟩ := h.od
  refine ⟨g.oth _ _ h.ins (fun _ z => by cases z) (nD _ e.p_wt e.p_rw), ⟨k1, g.oth _ _ hk (fun _ z => by cases z) (nD _ e.kn_wt e.kn_rw), r1.mono fun _ _ z => z.gw g⟩, ⟨k2, g.oth _ _ hu (fun _ z => by cases z) (nD _ e.un_wt e.un_rw), r2.mono fun _ _ z => z.gw g⟩,
    ⟨k3, g.oth _ _ hc (fun _ z => by cases z) (nD _ e.ct_wt e.ct_rw), r3.mono fun _ _ z => z.gw g⟩, ⟨us, g.oth _ _ ho (fun _ z => by cases z) (nD _ e.od_wt e.od_rw), r4.mono fun _ _ z => z.gw g⟩, g.oth _ _ h.cn (fun _ z => by cases z) (nD _ e.cn_wt e.cn_rw), hw, h.n1, h.n2, h.n3, nr hk e.kn_rw, nr hu e.un_rw, nr hc e.ct_rw, h.n7⟩
def drainN : Nat → Sm → Sm
  | 0, m => m
  | n + 1, m => match nextReady m.counts m.waits with
    | none => m
    | some r => drainN n (carry { m with waits := dropG Op.id m.waits r.id } r)
def DrainOk : Nat → Sm → Prop
  | 0, m => (m.counts.map (·.1)).Nodup ∧ nextReady m.counts m.waits = none ∧ (m.waits.map Op.id).Nodup ∧ m.waits.length ≤ 100000
  | n + 1, m => (m.counts.map (·.1)).Nodup ∧ ((nextReady m.counts m.waits = none ∧ (m.waits.map Op.id).Nodup ∧ m.waits.length ≤ 100000) ∨ ∃ r, nextReady m.counts m.waits = some r ∧ CarOk { m with waits := dropG Op.id m.waits r.id } r ∧ DrainOk n (carry { m with waits := dropG Op.id m.waits r.id } r))
def settle (m : Sm) : Sm := { m with waits := forgetW m.counts m.waits }
/-- an operation taken -/
def takeM (m : Sm) (o : Op) : Sm :=
  if hasSeen m.counts o.id = true then m
  else if ready m.counts o = true then settle (drainN m.waits.length (carry m o))
  else { m with waits := wput m.waits o }
structure TakeFit (m : Sm) (o : Op) : Prop where
  op : OpOk o
  nd : (m.counts.map (·.1)).Nodup
  room : hasSeen m.counts o.id = false → m.known.length + m.waits.length + 1 ≤ 6000
  wl : m.waits.length ≤ 100000
  dr : hasSeen m.counts o.id = false → ready m.counts o = true → CarOk m o ∧ DrainOk m.waits.length (carry m o)
section
variable {P : Program} {w : World} {K : PySem.W.Frag} {mg : Str → Option Value} {base : Heap}
variable {C W : Addr}
def spCheckNew (C W : Addr) : Sp := fun vs H Q _ => ∃ (A : SA) (m : Sm) (tp : Addr) (v : V) (o : Op), vs = [.ref A.p, .ref tp] ∧ H tp = some (.tup [v]) ∧ OpAt H v o ∧ SiteAt C W H A m ∧ (m.counts.map (·.1)).Nodup ∧ m.known.length + m.waits.length + 1 ≤ 6000 ∧ ∀ H', Gw D0 H H' → Q .non H'
theorem scCheckNew : FnScope ["self", "operations", "seen", "waits", "one"] ["self", "operations"] (defScope (sSt 12)) := ⟨rfl, rfl, rfl, by decide +kernel, rfl, by decide +kernel, by decide +kernel⟩
theorem ok_checkNew (D : Md K C "check_new" "Site.check_new" (sSt 12) ["self", "operations"]) (L : KSite K mg C) (LW : Kl K mg W "Waiting" ["rows"]) (T : Bi mg) (mS : Mt P w K mg base C 1 "seen" ["self"] (spSeen C W)) (mR : Mt P w K mg base C 2 "check_room" ["self", "many"] (spRoom C W)) (fH : Fn P w K mg base 1 "has_seen" ["seen", "own"] spHasSeen) :
    Mt P w K mg base C 3 "check_new" ["self", "operations"] (spCheckNew C W) := by
  refine D.ok L.cl scCheckNew (fun vs H Q E h => ?_) (fun cdv f A0 outer s H vs Q E hr h => ?_)
  · obtain ⟨A, m, _, _, _, rfl, _⟩ := h
    rfl
  · obtain ⟨A, m, tp, v, o, rfl, htp, ho, h, nd, room, q⟩ := h
    have hu := hu_of hr
    refine ⟨_, (pss_cons (ps_asg (pe_tup (pa_cons ((pe_mth0 mS (by first | exact hr | exact hr.mono (by decide) | exact room_gx hr hA | exact (room_gx hr hA).mono (by decide)) (pv 0))) (pa_cons ((pe_fld ((pe_fld (pv 0) rfl)) rfl)) pa_nil))) (pg_tup (by rfl) (pgs_cons (pg_name (i := 2) scCheckNew.nd rfl (Or.inr rfl)) (pgs_cons (pg_name (i := 3) scCheckNew.nd rfl (Or.inr rfl)) pgs_nil))))
      (pss_one (ps_expr (pe_mth mR (by first | exact hr | exact hr.mono (by decide) | exact room_gx hr hA | exact (room_gx hr hA).mono (by decide)) (pv 0) (pa_cons ((pe_callB call_len_dT (by rfl) T.len_ PySem.boot_len (pa_cons ((pe_dcT (own := [("one", 4)]) (g := (gName 4)) hr.units0 rfl scCheckNew.nd (pi_tup (pv 1)) (blkOk_by (own := [("one", 4)]) (N := ["self", "operations", "seen", "waits", "one"]) (sc := defScope (sSt 12)) (by decide +kernel))
        (fun _ _ _ _ _ => (pg_name (i := 4) scCheckNew.nd rfl (Or.inl rfl))) (fun _ _ _ _ _ => pts_one (PW.pt (pw_and (pt_not (pt_val (pe_fn fH (by first | exact hr | exact hr.mono (by decide) | exact room_gx hr hA | exact (room_gx hr hA).mono (by decide)) (pa_cons (pv 2) (pa_cons ((pe_ix (ixtK (K := K)) (pv 4) (pe_int) (fun _ _ => rfl))) pa_nil))))) (pw_and1 (pt_cmp (pc_dnotin hu (pe_ix (ixtK (K := K)) (pv 4) (pe_int) (fun _ _ => rfl)) (pv 3))))))) (fun _ _ _ _ _ => (pe_ix (ixtK (K := K)) (pv 4) (pe_int) (fun _ _ => rfl))) (fun _ _ _ _ _ => pe_bl))) pa_nil))) pa_nil))))), ?_⟩
    refine ⟨_, rfl, _, _, _, rfl, h.ins, sN_seen _ _, A, m, rfl, h, nd, fun H1 sv cs pcs hsv g1 => ?_⟩
    have h1 := h.gw0 g1
    refine ⟨_, rfl, _, _, _, _, _, rfl, h1.ins, L.cl, L.waits, sF_waits _ _, A.wt, W, _, _, _, rfl, h1.wt.ins, LW.cl, LW.no _ List.mem_cons_self, wtF_rows _, by rw [sizeLine_eq]; show 2 ≤ _; omega, fun t nt => ?_⟩
    have gt : Gw D0 H1 (upd H1 t (.tup [sv, .ref A.rw])) := Gw.refl.new nt
    have g2 := g1.trans gt
    refine ⟨t, _, rfl, SqT.of upd_same, rfl, _, _, rfl, _, _, rfl, rfl, ?_⟩
    have h2 := h.gw0 g2
    obtain ⟨wk, hwk, hwr⟩ := h2.wt.rows
    have hsv2 := hsv.gw gt
    refine ⟨_, rfl, _, _, _, rfl, h2.ins, sN_check_room _ _, _, rfl, tp, rfl, ⟨[v], SqT.of (g2.tup _ _ htp)⟩, fun d ndd => ?_⟩
    have ndH := g2.non _ ndd
    refine dc_it (walk_tup (xs := [v])) (fun i H' => Gw D0 (upd H1 t (.tup [sv, .ref A.rw])) H' ∧ ∃ acc, H' d = some (.dT acc) ∧ acc.length ≤ i) ⟨Gw.refl.new ndd, [], upd_same, Nat.le_refl _⟩ (fun i H' _ z => SqT.of (z.1.tup _ _ (g2.tup _ _ htp))) ?_ ?_
    · rintro i y H3 H3' hi ⟨g, acc, hd, hl⟩ ⟨rfl, hy⟩
      have ei : i = 0 := by
        have : i < 1 := hi
        omega
      subst ei
      cases Option.some.inj hy
      obtain ⟨a, vi, vr, rfl, ha, ⟨ai, rfl, hi2⟩, _⟩ := (ho.gw g2).gw g
      refine ⟨rfl, _, rfl, _, rfl, _, _, _, _, rfl, rfl, SqT.of ha, at1 o _ _, _, _, cs, o.id, rfl, hsv2.gw g, ⟨ai, rfl, hi2⟩, fun H4 g4 => ⟨_, rfl, ?_⟩⟩
      have gg := g.trans g4
      have hd4 := g4.oth _ _ hd (fun _ z => by cases z) (fun z => z)
      cases hasSeen cs o.id with
      | true => exact iteF ⟨gg, acc, hd4, by omega⟩
      | false =>
        have hw4 := gg.oth _ _ hwk (fun _ z => by cases z) (fun z => z)
        refine iteT ⟨_, rfl, _, _, _, _, rfl, rfl, SqT.of (g4.tup _ _ ha), at1 o _ _, _, rfl, _, _, rfl, DGet.t (k := idK o.id) hw4 (g4.tup _ _ hi2), _, rfl, ?_⟩
        cases (valV wk (idK o.id)).isSome with
        | true => exact ⟨gg, acc, hd4, by omega⟩
        | false =>
          refine ⟨_, rfl, _, _, _, _, rfl, rfl, SqT.of (g4.tup _ _ ha), at1 o _ _, acc, idK o.id, ai, rfl, g4.tup _ _ hi2, hd4, by rw [sizeLine_eq]; omega, gg.fresh (g2.non _ ndd |> fun _ => ndd), _, upd_same, ?_⟩
          have := length_putK acc (idK o.id) (V.bl true)
          omega
    · rintro H3 ⟨g, acc, hd, hl⟩
      have hl : acc.length ≤ 1 := hl
      refine ⟨_, _, rfl, hd, A, m, _, rfl, h2.gw0 g, by omega, q _ (g2.trans g)⟩
end
end K80
namespace K80
open PySem PySem.Spec PyProof.Rows L2 Gx GxR NdefX
theorem drain_end {k : Nat} {m : Sm} (h : nextReady m.counts m.waits = none) : drainN k m = m := by
  cases k with
  | zero => rfl
  | succ k => unfold drainN; rw [h]
section
variable {P : Program} {w : World} {K : PySem.W.Frag} {mg : Str → Option Value} {base : Heap}
variable {C W : Addr}
/-- where the draining stands: nothing more to carry out, or the next one, k more at most -/
def Dr (C W : Addr) (A : SA) (mf : Sm) (k : Nat) (v : V) (H' : Hp) : Prop :=
  (v = .non ∧ SiteAt C W H' A mf ∧ (mf.counts.map (·.1)).Nodup ∧ (mf.waits.map Op.id).Nodup ∧ mf.waits.length ≤ 100000) ∨
  ∃ j r m1, j < k ∧ OpAt H' v r ∧ v ≠ .non ∧ SiteAt C W H' A m1 ∧ CarOk m1 r ∧ DrainOk j (carry m1 r) ∧ drainN j (carry m1 r) = mf
theorem next_read {t : Tbs} (L : KSite K mg C) {A : SA} {mm mf : Sm} {k : Nat} {H : Hp} {xs : List (Option V)} {Q : VK} (h : SiteAt C W H A mm) (tb : Tb t H) (dr : DrainOk k mm) (ef : drainN k mm = mf)
    (q : ∀ v H', Dr C W A mf k v H' → Gw (fun b => b ∈ A.fp) H H' → Q v H') :
    tMeth W "next_ready" (spWtNext W t) [] E0 (tFld K (tVar 0) "waits") (tCons (tMeth C "seen" (spSeen C W) [] E0 (tVar 0) tNil) tNil) (some (.ref A.p) :: xs) H Q := by
  have nd : (mm.counts.map (·.1)).Nodup := by
    cases k with
    | zero => exact dr.1
    | succ k => exact dr.1
  refine ⟨_, rfl, _, _, _, _, _, rfl, h.ins, L.cl, L.waits, sF_waits _ _, _, _, _, rfl, h.wt.ins, wtF_no _ (by decide +kernel), _, rfl, _, _, _, rfl, h.ins, sN_seen _ _, A, mm, rfl, h, nd, fun H1 sv cs pcs hsv g1 => ?_⟩
  have h1 := h.gw0 g1
  have ce : ∀ x, cnt cs x = cnt mm.counts x := fun x => cnt_perm pcs nd x
  refine ⟨_, _, _, _, _, cs, rfl, h1.wt, hsv, tb.gw g1, fun hn H2 g2 => ?_, fun r hn H2 u hu hw g2 => ?_⟩
  · rw [next_congr ce] at hn
    have em : mm = mf := by rw [← ef, drain_end hn]
    have fin : (mm.waits.map Op.id).Nodup ∧ mm.waits.length ≤ 100000 := by
      cases k with
      | zero => exact dr.2.2
      | succ k =>
        rcases dr.2 with z | ⟨r, hr, _⟩
        · exact z.2
        · rw [hn] at hr; cases hr
    refine q _ _ (.inl ⟨rfl, ?_, ?_, ?_, ?_⟩) (Gw.of0 (g1.trans g2))
    · rw [← em]; exact h1.gw0 g2
    · rw [← em]; exact nd
    · rw [← em]; exact fin.1
    · rw [← em]; exact fin.2
  · rw [next_congr ce] at hn
    cases k with
    | zero =>
      have := dr.2.1
      rw [hn] at this
      cases this
    | succ k =>
      rcases dr.2 with z | ⟨r', hr, ok, dr'⟩
      · rw [hn] at z; cases z.1
      · rw [hn] at hr
        cases hr
        have hS := h1.reW hw g2 (fun b z => .inr z) (.inl rfl)
        refine q _ _ (.inr ⟨k, r, { mm with waits := dropG Op.id mm.waits r.id }, Nat.lt_succ_self k, hu, ?_, hS, ok, dr', ?_⟩) ((Gw.of0 g1).trans (g2.mono fun b z => ?_))
        · intro z
          obtain ⟨a, _, _, e, _⟩ := hu
          rw [z] at e
          cases e
        · rw [← ef]
          show _ = (match nextReady mm.counts mm.waits with
            | none => mm
            | some r => drainN k (carry { mm with waits := dropG Op.id mm.waits r.id } r))
          rw [hn]
        · rw [show b = A.rw from z]
          unfold SA.fp
          simp
def spTake (C W : Addr) (t : Tbs) : Sp := fun vs H Q _ => ∃ (A : SA) (m : Sm) (v : V) (o : Op), vs = [.ref A.p, v] ∧ OpAt H v o ∧ SiteAt C W H A m ∧ TakeFit m o ∧ Tb t H ∧
  ∀ H' rw' u, (rw' = A.rw ∨ H rw' = none) → SiteAt C W H' { A with rw := rw' } (takeM m o) → Gw (fun b => b ∈ A.fp) H H' → Q u H'
theorem scTake : FnScope ["self", "operation", "ready"] ["self", "operation"] (defScope (sSt 15)) := ⟨rfl, rfl, rfl, by decide +kernel, rfl, by decide +kernel, by decide +kernel⟩
theorem fp_mem (A : SA) : A.wt ∈ A.fp ∧ A.rw ∈ A.fp := by unfold SA.fp; simp
theorem ok_take {t : Tbs} (D : Md K C "take" "Site.take" (sSt 15) ["self", "operation"]) (L : KSite K mg C) (T : Bi mg) (fO : Fn P w K mg base 4 "is_operation" ["value"] (spIsOp t)) (fH : Fn P w K mg base 1 "has_seen" ["seen", "own"] spHasSeen)
    (fR : Fn P w K mg base 3 "is_ready" ["seen", "operation"] (spReady t)) (mS : Mt P w K mg base C 1 "seen" ["self"] (spSeen C W)) (mN : Mt P w K mg base C 3 "check_new" ["self", "operations"] (spCheckNew C W)) (mC : Mt P w K mg base C 2 "carry_out" ["self", "operation"] (spCarry C W))
    (mP : Mt P w K mg base W 1 "put" ["self", "operation"] (spWtPut W)) (mX : Mt P w K mg base W 4 "next_ready" ["self", "seen"] (spWtNext W t)) (mF : Mt P w K mg base W 2 "forget" ["self", "seen"] (spWtForget W)) :
    Mt P w K mg base C 5 "take" ["self", "operation"] (spTake C W t) := by
  refine D.ok L.cl scTake (fun vs H Q E h => ?_) (fun cdv f A0 outer s H vs Q E hr h => ?_)
  · obtain ⟨A, m, _, _, rfl, _⟩ := h
    rfl
  · obtain ⟨A, m, v, o, rfl, ho, h, fit, tb, q⟩ := h
    refine ⟨_, (pss_cons (ps_if (pt_not (pt_val (pe_fn fO (by first | exact hr | exact hr.mono (by decide) | exact room_gx hr hA | exact (room_gx hr hA).mono (by decide)) (pa_cons (pv 1) pa_nil)))) (pss_one ps_never) pss_nil)
      (pss_cons (ps_if (pt_val (pe_fn fH (by first | exact hr | exact hr.mono (by decide) | exact room_gx hr hA | exact (room_gx hr hA).mono (by decide)) (pa_cons ((pe_mth0 mS (by first | exact hr | exact hr.mono (by decide) | exact room_gx hr hA | exact (room_gx hr hA).mono (by decide)) (pv 0))) (pa_cons ((pe_ix ix_tup (pv 1) (pe_int) (fun _ _ => rfl))) pa_nil)))) (pss_one (ps_ret pe_bl)) pss_nil)
      (pss_cons (ps_expr (pe_mth mN (by first | exact hr | exact hr.mono (by decide) | exact room_gx hr hA | exact (room_gx hr hA).mono (by decide)) (pv 0) (pa_cons (pe_tup (pa_cons (pv 1) pa_nil)) pa_nil)))
      (pss_cons (ps_if (pt_not (pt_val (pe_fn fR (by first | exact hr | exact hr.mono (by decide) | exact room_gx hr hA | exact (room_gx hr hA).mono (by decide)) (pa_cons ((pe_mth0 mS (by first | exact hr | exact hr.mono (by decide) | exact room_gx hr hA | exact (room_gx hr hA).mono (by decide)) (pv 0))) (pa_cons (pv 1) pa_nil))))) (pss_cons (ps_expr (pe_mth mP (by first | exact hr | exact hr.mono (by decide) | exact room_gx hr hA | exact (room_gx hr hA).mono (by decide)) ((pe_fld (pv 0) rfl)) (pa_cons (pv 1) pa_nil)))
      (pss_one (ps_ret pe_bl))) pss_nil)
      (pss_cons (ps_expr (pe_mth mC (by first | exact hr | exact hr.mono (by decide) | exact room_gx hr hA | exact (room_gx hr hA).mono (by decide)) (pv 0) (pa_cons (pv 1) pa_nil)))
      (pss_cons ((ps_set (i := 2) scTake.nd rfl (Or.inl rfl) ((pe_mth mX (by first | exact hr | exact hr.mono (by decide) | exact room_gx hr hA | exact (room_gx hr hA).mono (by decide)) ((pe_fld (pv 0) rfl)) (pa_cons ((pe_mth0 mS (by first | exact hr | exact hr.mono (by decide) | exact room_gx hr hA | exact (room_gx hr hA).mono (by decide)) (pv 0))) pa_nil)))))
      (pss_cons (ps_while PassesOwn.never (pt_cmpR op_notN (pv 2) pe_non (nomark _)) (pss_cons (ps_expr (pe_mth mC (by first | exact hr | exact hr.mono (by decide) | exact room_gx hr hA | exact (room_gx hr hA).mono (by decide)) (pv 0) (pa_cons (pv 2) pa_nil)))
      (pss_one ((ps_set (i := 2) scTake.nd rfl (Or.inl rfl) ((pe_mth mX (by first | exact hr | exact hr.mono (by decide) | exact room_gx hr hA | exact (room_gx hr hA).mono (by decide)) ((pe_fld (pv 0) rfl)) (pa_cons ((pe_mth0 mS (by first | exact hr | exact hr.mono (by decide) | exact room_gx hr hA | exact (room_gx hr hA).mono (by decide)) (pv 0))) pa_nil))))))))
      (pss_cons (ps_expr (pe_mth mF (by first | exact hr | exact hr.mono (by decide) | exact room_gx hr hA | exact (room_gx hr hA).mono (by decide)) ((pe_fld (pv 0) rfl)) (pa_cons ((pe_mth0 mS (by first | exact hr | exact hr.mono (by decide) | exact room_gx hr hA | exact (room_gx hr hA).mono (by decide)) (pv 0))) pa_nil)))
      (pss_one (ps_ret pe_bl)))))))))), ?_⟩
    have ho0 := ho
    refine ⟨_, rfl, _, o, rfl, ho, fit.op, tb, fun H1 g1 => ⟨_, rfl, iteF ?_⟩⟩
    have h1 := h.gw0 g1
    have ho1 := ho.gw g1
    refine ⟨_, rfl, _, _, _, rfl, h1.ins, sN_seen _ _, A, m, rfl, h1, fit.nd, fun H2 sv cs pcs hsv g2 => ?_⟩
    have g12 := g1.trans g2
    obtain ⟨a, vi, vr, rfl, ha, hi, hrf⟩ := ho0
    refine ⟨_, rfl, _, _, _, _, rfl, rfl, SqT.of (g12.tup _ _ ha), at1 o _ _, _, _, cs, o.id, rfl, hsv, hi.gw g12, fun H3 g3 => ⟨_, rfl, ?_⟩⟩
    have g13 := g12.trans g3
    have ce : ∀ x, cnt cs x = cnt m.counts x := fun x => cnt_perm pcs fit.nd x
    rw [seen_congr ce]
    cases hsn : hasSeen m.counts o.id with
    | true =>
      refine iteT (q _ A.rw _ (.inl rfl) ?_ (Gw.of0 g13))
      unfold takeM
      rw [if_pos hsn]
      exact h.gw0 g13
    | false =>
      have h3 := h.gw0 g13
      refine iteF ⟨_, rfl, _, _, _, rfl, h3.ins, sN_check_new _ _, _, rfl, by rw [sizeLine_eq]; show 1 ≤ _; omega, fun tp ntp => ?_⟩
      have gt : Gw D0 H3 (upd H3 tp (.tup [.ref a])) := Gw.refl.new ntp
      have g14 := g13.trans gt
      refine ⟨A, m, tp, _, o, rfl, upd_same, ho.gw g14, h.gw0 g14, fit.nd, fit.room hsn, fun H4 g4 => ?_⟩
      have g15 := g14.trans g4
      have h5 := h.gw0 g15
      refine ⟨_, rfl, _, _, _, rfl, h5.ins, sN_seen _ _, A, m, rfl, h5, fit.nd, fun H6 sv6 cs6 pcs6 hsv6 g6 => ?_⟩
      have g16 := g15.trans g6
      refine ⟨_, rfl, _, _, cs6, o, rfl, hsv6, ho.gw g16, tb.gw g16, fun H7 g7 => ⟨_, rfl, ?_⟩⟩
      have g17 := g16.trans g7
      have h7 := h.gw0 g17
      rw [ready_congr fun x => cnt_perm pcs6 fit.nd x]
      cases hrd : ready m.counts o with
      | false =>
        refine iteT ⟨_, rfl, _, _, _, _, _, rfl, h7.ins, L.cl, L.waits, sF_waits _ _, _, _, _, rfl, h7.wt.ins, wtF_no _ (by decide +kernel), _, rfl, _, _, _, _, _, o, rfl, h7.wt, ho.gw g17, fit.wl, fun H8 hw8 g8 => ?_⟩
        have hS := h7.reW hw8 g8 (fun b z => .inr z) (.inl rfl)
        refine q _ A.rw _ (.inl rfl) ?_ ((Gw.of0 g17).trans (g8.mono fun b z => by rw [show b = A.rw from z]; exact (fp_mem A).2))
        unfold takeM
        rw [if_neg (by rw [hsn]; exact Bool.false_ne_true), if_neg (by rw [hrd]; exact Bool.false_ne_true)]
        exact hS
      | true =>
        obtain ⟨cok, dok⟩ := fit.dr hsn hrd
        refine iteF ⟨_, rfl, _, _, _, rfl, h7.ins, sN_carry_out _ _, _, rfl, A, m, _, o, rfl, h7, ho.gw g17, cok, fun H8 h8 g8 => ?_⟩
        have g18 : Gw (fun b => b ∈ A.fp) H H8 := (Gw.of0 g17).trans g8
        have tb8 := tb.gw g18
        refine next_read L h8 tb8 dok rfl fun v9 H9 dr9 g9 => ?_
        have g19 := g18.trans g9
        refine ⟨fun n σ H' => ∃ v2, σ = [some (.ref A.p), some (.ref a), some v2] ∧ Gw (fun b => b ∈ A.fp) H H' ∧ Dr C W A (drainN m.waits.length (carry m o)) n v2 H', ⟨_, v9, rfl, g19, dr9⟩, ?_⟩
        rintro n σ H' ⟨v2, rfl, g, dr⟩
        refine ⟨_, rfl, rfl, _, rfl, ?_⟩
        rcases dr with ⟨rfl, hS, nd1, nd2, wl⟩ | ⟨j, r, m1, hj, hr1, nv, hS, ok1, dr1, ef⟩
        · refine iteF ⟨_, rfl, _, _, _, _, _, rfl, hS.ins, L.cl, L.waits, sF_waits _ _, _, _, _, rfl, hS.wt.ins, wtF_no _ (by decide +kernel), _, rfl, _, _, _, rfl, hS.ins, sN_seen _ _, A, _, rfl, hS, nd1, fun H10 sv10 cs10 pcs10 hsv10 g10 => ?_⟩
          have hS10 := hS.gw0 g10
          refine ⟨_, _, _, _, _, cs10, rfl, hS10.wt, hsv10, nd2, wl, fun H11 rw' nrw hw11 g11 => ?_⟩
          have hf := hS10.reW hw11 g11 (fun b z => z) (.inr nrw)
          refine q _ rw' _ (.inr (g.non _ (g10.non _ nrw))) ?_ ((g.pure g10).trans (g11.mono fun b z => by
            rcases z with z | z
            · rw [z]; exact (fp_mem A).1
            · rw [z]; exact (fp_mem A).2))
          unfold takeM settle
          rw [if_neg (by rw [hsn]; exact Bool.false_ne_true), if_pos hrd]
          rw [forget_congr (fun x => cnt_perm pcs10 nd1 x)] at hf
          exact hf
        · have e : (!decide (v2 = V.non)) = true := by rw [decide_eq_false nv]; rfl
          rw [e]
          refine iteT ⟨fun σ2 H2 => ∃ v2, σ2 = [some (.ref A.p), some (.ref a), some v2] ∧ Gw (fun b => b ∈ A.fp) H H2 ∧ Dr C W A (drainN m.waits.length (carry m o)) j v2 H2, fun σ2 H2 z => ⟨j, hj, z⟩, ?_⟩
          refine ⟨_, rfl, _, _, _, rfl, hS.ins, sN_carry_out _ _, _, rfl, A, m1, _, r, rfl, hS, hr1, ok1, fun H12 h12 g12' => ?_⟩
          have g112 := g.trans g12'
          refine next_read L h12 (tb.gw g112) dr1 ef fun v13 H13 dr13 g13' => ?_
          exact ⟨v13, rfl, g112.trans g13', dr13⟩
end
end K80
namespace K80
open PySem PySem.Spec PyProof.Rows L2 Gx GxR NdefX
/-- a class that makes objects -/
structure Cr (K : PySem.W.Frag) (C : Addr) : Prop where
  makes : PySem.W.makesIn K C = true
  kp : PySem.W.keepIn K (.ref C) = true
section
variable {X : Cx}
theorem pe_new {C : Addr} {k : Nat} {x : Str} {ps : List Str} {sp : Sp} {e : Expr} {es : List Expr} {t : TA} {p pos : Pos} (h : Mt X.prog X.w X.K X.mg X.base C k "__init__" ps sp) (cr : Cr X.K C) (hm : X.mg x = some (.ref C)) (hr : Room (k + 1) X.A) (ha : PA X (e :: es) t) (hg : Gl X x := by rfl)
    (hdb : (x == ("__debug__" : Str)) = false := by decide) (he : starEach (e :: es) X.env = (false, eval e X.env) :: starEach es X.env := by rfl) (hpl : (backTo pos (starEach es X.env)).any (·.1) = false := by rfl) :
    PE X (.Call (.Name x p) (e :: es) [] pos) (tMake C sp [] E0 t) := by
  obtain ⟨f, fd, G, c, m, b⟩ := h.ex
  exact pe_make ⟨cr.makes, m.at_, m.fn, cr.kp⟩ G hr hg hm b .nil pass0 ha hdb he hpl
theorem pe_new0 {C : Addr} {k : Nat} {x : Str} {ps : List Str} {sp : Sp} {p pos : Pos} (h : Mt X.prog X.w X.K X.mg X.base C k "__init__" ps sp) (cr : Cr X.K C) (hm : X.mg x = some (.ref C)) (hr : Room (k + 1) X.A) (hg : Gl X x := by rfl)
    (hdb : (x == ("__debug__" : Str)) = false := by decide) : PE X (.Call (.Name x p) [] [] pos) (tMake C sp [] E0 tNil) := by
  obtain ⟨f, fd, G, c, m, b⟩ := h.ex
  exact pe_make0 ⟨cr.makes, m.at_, m.fn, cr.kp⟩ G hr hg hm b .nil pass0 hdb
end
/-- a new site -/
def sm0 (x : Str) : Sm := ⟨x, [], [], [], [], [], 0, []⟩
section
variable {P : Program} {w : World} {K : PySem.W.Frag} {mg : Str → Option Value} {base : Heap}
variable {C W : Addr}
def spSiteInit (C W : Addr) (t : Tbs) : Sp := fun vs H Q _ => ∃ (p d : Addr) (x : Str), vs = [.ref p, .str x] ∧ H p = some (.ins C d []) ∧ Nm x ∧ Tb t H ∧ ∀ H' A, A.p = p → SiteAt C W H' A (sm0 x) → Gw (fun b => b = p) H H' → (∀ b ∈ A.fp, b = p ∨ H b = none) → Q .non H'
theorem scSiteInit : FnScope ["self", "name"] ["self", "name"] (defScope (sSt 0)) := ⟨rfl, rfl, rfl, by decide +kernel, rfl, by decide +kernel, by decide +kernel⟩
theorem ok_siteInit {t : Tbs} (D : Md K C "__init__" "Site.__init__" (sSt 0) ["self", "name"]) (L : KSite K mg C) (LW : Kl K mg W "Waiting" ["rows"]) (cw : Cr K W) (fM : Fn P w K mg base 1 "is_name" ["value"] (spName t)) (mI : Mt P w K mg base W 1 "__init__" ["self"] (spWtInit W)) :
    Mt P w K mg base C 3 "__init__" ["self", "name"] (spSiteInit C W t) := by
  refine D.ok L.cl scSiteInit (fun vs H Q E h => ?_) (fun cdv f A0 outer s H vs Q E hr h => ?_)
  · obtain ⟨p, d, x, rfl, _⟩ := h
    rfl
  · obtain ⟨p, dx, x, rfl, hp, nm, tb, q⟩ := h
    refine ⟨_, (pss_cons (ps_if (pt_not (pt_val (pe_fn fM (by first | exact hr | exact hr.mono (by decide) | exact room_gx hr hA | exact (room_gx hr hA).mono (by decide)) (pa_cons (pv 1) pa_nil)))) (pss_one ps_never) pss_nil)
      (pss_cons (ps_fld (pv 0) (pv 1) rfl)
      (pss_cons (ps_fld (pv 0) pe_dnewT rfl)
      (pss_cons (ps_fld (pv 0) pe_dnewT rfl)
      (pss_cons (ps_fld (pv 0) pe_dnewT rfl)
      (pss_cons (ps_fld (pv 0) (pe_lst pa_nil) rfl)
      (pss_cons (ps_fld (pv 0) pe_dnewK rfl)
      (pss_cons (ps_fld (pv 0) pe_int rfl)
      (pss_one (ps_fld (pv 0) (pe_new0 mI cw LW.mgC hr) rfl)))))))))), ?_⟩
    refine ⟨_, rfl, x, rfl, nm, tb, fun H0 g0 => ⟨_, rfl, iteF ?_⟩⟩
    have hp0 : H0 p = some (.ins C dx []) := g0.oth _ _ hp (fun _ z => by cases z) (fun z => z)
    have G0 : Gw (fun b => b = p) H H0 := Gw.of0 g0
    have wr : ∀ {H1 : Hp} {fs : List (Str × V)} {o : HO}, H1 p = some (.ins C dx fs) → Gw (fun b => b = p) H1 (upd H1 p o) := fun e => Gw.refl.put rfl e (fun _ z => by cases z) (fun _ z => by cases z)
    refine ⟨_, rfl, _, rfl, p, C, dx, _, rfl, hp0, L.cl, L.name, by show 0 < 1000; decide, ?_⟩
    have hp1 : upd H0 p (.ins C dx (putF "name" (.str x) [])) p = some (.ins C dx [("name", .str x)]) := upd_same
    have G1 := G0.trans (wr (o := .ins C dx (putF "name" (.str x) [])) hp0)
    generalize upd H0 p (.ins C dx (putF "name" (.str x) [])) = H1 at hp1 G1 ⊢
    intro kn nkn
    have nekn : p ≠ kn := ne_of_none hp1 nkn
    have hq1 : upd H1 kn (.dT []) p = some (.ins C dx [(("name" : Str), V.str x)]) := by rw [upd_ne nekn]; exact hp1
    refine ⟨_, rfl, p, C, dx, _, rfl, hq1, L.cl, L.known, by show 1 < 1000; decide, ?_⟩
    have pf1 : putF ("known" : Str) (V.ref kn) [(("name" : Str), V.str x)] = [(("name" : Str), V.str x)] ++ [(("known" : Str), V.ref kn)] := putF_new (by show ("known" : Str) ∉ (["name"] : List Str); decide +kernel)
    have st1 : Gw (fun b => b = p) H1 (upd (upd H1 kn (.dT [])) p (.ins C dx (putF ("known" : Str) (V.ref kn) [(("name" : Str), V.str x)]))) := (Gw.refl.new nkn).trans (wr hq1)
    have hp2 : upd (upd H1 kn (.dT [])) p (.ins C dx (putF ("known" : Str) (V.ref kn) [(("name" : Str), V.str x)])) p = some (.ins C dx ([(("name" : Str), V.str x)] ++ [(("known" : Str), V.ref kn)])) := by rw [upd_same, pf1]
    have hxkn : upd (upd H1 kn (.dT [])) p (.ins C dx (putF ("known" : Str) (V.ref kn) [(("name" : Str), V.str x)])) kn = some (.dT []) := by rw [upd_ne nekn.symm]; exact upd_same
    have nknH : H kn = none := G1.non _ nkn
    have G2 := G1.trans st1
    generalize upd (upd H1 kn (.dT [])) p (.ins C dx (putF ("known" : Str) (V.ref kn) [(("name" : Str), V.str x)])) = H2 at hp2 st1 hxkn G2 ⊢
    intro un nun
    have neun : p ≠ un := ne_of_none hp2 nun
    have hq2 : upd H2 un (.dT []) p = some (.ins C dx [(("name" : Str), V.str x), ("known", V.ref kn)]) := by rw [upd_ne neun]; exact hp2
    refine ⟨_, rfl, p, C, dx, _, rfl, hq2, L.cl, L.undone, by show 2 < 1000; decide, ?_⟩
    have pf2 : putF ("undone" : Str) (V.ref un) [(("name" : Str), V.str x), ("known", V.ref kn)] = [(("name" : Str), V.str x), ("known", V.ref kn)] ++ [(("undone" : Str), V.ref un)] := putF_new (by show ("undone" : Str) ∉ (["name", "known"] : List Str); decide +kernel)
    have st2 : Gw (fun b => b = p) H2 (upd (upd H2 un (.dT [])) p (.ins C dx (putF ("undone" : Str) (V.ref un) [(("name" : Str), V.str x), ("known", V.ref kn)]))) := (Gw.refl.new nun).trans (wr hq2)
    have hp3 : upd (upd H2 un (.dT [])) p (.ins C dx (putF ("undone" : Str) (V.ref un) [(("name" : Str), V.str x), ("known", V.ref kn)])) p = some (.ins C dx ([(("name" : Str), V.str x), ("known", V.ref kn)] ++ [(("undone" : Str), V.ref un)])) := by rw [upd_same, pf2]
    have hxun : upd (upd H2 un (.dT [])) p (.ins C dx (putF ("undone" : Str) (V.ref un) [(("name" : Str), V.str x), ("known", V.ref kn)])) un = some (.dT []) := by rw [upd_ne neun.symm]; exact upd_same
    have nunH : H un = none := G2.non _ nun
    have G3 := G2.trans st2
    generalize upd (upd H2 un (.dT [])) p (.ins C dx (putF ("undone" : Str) (V.ref un) [(("name" : Str), V.str x), ("known", V.ref kn)])) = H3 at hp3 st2 hxun G3 ⊢
    intro ct nct
    have nect : p ≠ ct := ne_of_none hp3 nct
    have hq3 : upd H3 ct (.dT []) p = some (.ins C dx [(("name" : Str), V.str x), ("known", V.ref kn), ("undone", V.ref un)]) := by rw [upd_ne nect]; exact hp3
    refine ⟨_, rfl, p, C, dx, _, rfl, hq3, L.cl, L.cuts, by show 3 < 1000; decide, ?_⟩
    have pf3 : putF ("cuts" : Str) (V.ref ct) [(("name" : Str), V.str x), ("known", V.ref kn), ("undone", V.ref un)] = [(("name" : Str), V.str x), ("known", V.ref kn), ("undone", V.ref un)] ++ [(("cuts" : Str), V.ref ct)] := putF_new (by show ("cuts" : Str) ∉ (["name", "known", "undone"] : List Str); decide +kernel)
    have st3 : Gw (fun b => b = p) H3 (upd (upd H3 ct (.dT [])) p (.ins C dx (putF ("cuts" : Str) (V.ref ct) [(("name" : Str), V.str x), ("known", V.ref kn), ("undone", V.ref un)]))) := (Gw.refl.new nct).trans (wr hq3)
    have hp4 : upd (upd H3 ct (.dT [])) p (.ins C dx (putF ("cuts" : Str) (V.ref ct) [(("name" : Str), V.str x), ("known", V.ref kn), ("undone", V.ref un)])) p = some (.ins C dx ([(("name" : Str), V.str x), ("known", V.ref kn), ("undone", V.ref un)] ++ [(("cuts" : Str), V.ref ct)])) := by rw [upd_same, pf3]
    have hxct : upd (upd H3 ct (.dT [])) p (.ins C dx (putF ("cuts" : Str) (V.ref ct) [(("name" : Str), V.str x), ("known", V.ref kn), ("undone", V.ref un)])) ct = some (.dT []) := by rw [upd_ne nect.symm]; exact upd_same
    have nctH : H ct = none := G3.non _ nct
    have G4 := G3.trans st3
    generalize upd (upd H3 ct (.dT [])) p (.ins C dx (putF ("cuts" : Str) (V.ref ct) [(("name" : Str), V.str x), ("known", V.ref kn), ("undone", V.ref un)])) = H4 at hp4 st3 hxct G4 ⊢
    refine ⟨Nat.zero_le _, fun od nod => ?_⟩
    have neod : p ≠ od := ne_of_none hp4 nod
    have hq4 : upd H4 od (.lst []) p = some (.ins C dx [(("name" : Str), V.str x), ("known", V.ref kn), ("undone", V.ref un), ("cuts", V.ref ct)]) := by rw [upd_ne neod]; exact hp4
    refine ⟨_, rfl, p, C, dx, _, rfl, hq4, L.cl, L.order, by show 4 < 1000; decide, ?_⟩
    have pf4 : putF ("order" : Str) (V.ref od) [(("name" : Str), V.str x), ("known", V.ref kn), ("undone", V.ref un), ("cuts", V.ref ct)] = [(("name" : Str), V.str x), ("known", V.ref kn), ("undone", V.ref un), ("cuts", V.ref ct)] ++ [(("order" : Str), V.ref od)] := putF_new (by show ("order" : Str) ∉ (["name", "known", "undone", "cuts"] : List Str); decide +kernel)
    have st4 : Gw (fun b => b = p) H4 (upd (upd H4 od (.lst [])) p (.ins C dx (putF ("order" : Str) (V.ref od) [(("name" : Str), V.str x), ("known", V.ref kn), ("undone", V.ref un), ("cuts", V.ref ct)]))) := (Gw.refl.new nod).trans (wr hq4)
    have hp5 : upd (upd H4 od (.lst [])) p (.ins C dx (putF ("order" : Str) (V.ref od) [(("name" : Str), V.str x), ("known", V.ref kn), ("undone", V.ref un), ("cuts", V.ref ct)])) p = some (.ins C dx ([(("name" : Str), V.str x), ("known", V.ref kn), ("undone", V.ref un), ("cuts", V.ref ct)] ++ [(("order" : Str), V.ref od)])) := by rw [upd_same, pf4]
    have hxod : upd (upd H4 od (.lst [])) p (.ins C dx (putF ("order" : Str) (V.ref od) [(("name" : Str), V.str x), ("known", V.ref kn), ("undone", V.ref un), ("cuts", V.ref ct)])) od = some (.lst []) := by rw [upd_ne neod.symm]; exact upd_same
    have nodH : H od = none := G4.non _ nod
    have G5 := G4.trans st4
    generalize upd (upd H4 od (.lst [])) p (.ins C dx (putF ("order" : Str) (V.ref od) [(("name" : Str), V.str x), ("known", V.ref kn), ("undone", V.ref un), ("cuts", V.ref ct)])) = H5 at hp5 st4 hxod G5 ⊢
    intro cn ncn
    have necn : p ≠ cn := ne_of_none hp5 ncn
    have hq5 : upd H5 cn (.dK []) p = some (.ins C dx [(("name" : Str), V.str x), ("known", V.ref kn), ("undone", V.ref un), ("cuts", V.ref ct), ("order", V.ref od)]) := by rw [upd_ne necn]; exact hp5
    refine ⟨_, rfl, p, C, dx, _, rfl, hq5, L.cl, L.counts, by show 5 < 1000; decide, ?_⟩
    have pf5 : putF ("counts" : Str) (V.ref cn) [(("name" : Str), V.str x), ("known", V.ref kn), ("undone", V.ref un), ("cuts", V.ref ct), ("order", V.ref od)] = [(("name" : Str), V.str x), ("known", V.ref kn), ("undone", V.ref un), ("cuts", V.ref ct), ("order", V.ref od)] ++ [(("counts" : Str), V.ref cn)] := putF_new (by show ("counts" : Str) ∉ (["name", "known", "undone", "cuts", "order"] : List Str); decide +kernel)
    have st5 : Gw (fun b => b = p) H5 (upd (upd H5 cn (.dK [])) p (.ins C dx (putF ("counts" : Str) (V.ref cn) [(("name" : Str), V.str x), ("known", V.ref kn), ("undone", V.ref un), ("cuts", V.ref ct), ("order", V.ref od)]))) := (Gw.refl.new ncn).trans (wr hq5)
    have hp6 : upd (upd H5 cn (.dK [])) p (.ins C dx (putF ("counts" : Str) (V.ref cn) [(("name" : Str), V.str x), ("known", V.ref kn), ("undone", V.ref un), ("cuts", V.ref ct), ("order", V.ref od)])) p = some (.ins C dx ([(("name" : Str), V.str x), ("known", V.ref kn), ("undone", V.ref un), ("cuts", V.ref ct), ("order", V.ref od)] ++ [(("counts" : Str), V.ref cn)])) := by rw [upd_same, pf5]
    have hxcn : upd (upd H5 cn (.dK [])) p (.ins C dx (putF ("counts" : Str) (V.ref cn) [(("name" : Str), V.str x), ("known", V.ref kn), ("undone", V.ref un), ("cuts", V.ref ct), ("order", V.ref od)])) cn = some (.dK []) := by rw [upd_ne necn.symm]; exact upd_same
    have ncnH : H cn = none := G5.non _ ncn
    have G6 := G5.trans st5
    generalize upd (upd H5 cn (.dK [])) p (.ins C dx (putF ("counts" : Str) (V.ref cn) [(("name" : Str), V.str x), ("known", V.ref kn), ("undone", V.ref un), ("cuts", V.ref ct), ("order", V.ref od)])) = H6 at hp6 st5 hxcn G6 ⊢
    have hq6 : H6 p = some (.ins C dx [(("name" : Str), V.str x), ("known", V.ref kn), ("undone", V.ref un), ("cuts", V.ref ct), ("order", V.ref od), ("counts", V.ref cn)]) := hp6
    refine ⟨_, rfl, p, C, dx, _, rfl, hq6, L.cl, L.clock, by show 6 < 1000; decide, ?_⟩
    have pf6 : putF ("clock" : Str) (V.int 0) ([(("name" : Str), V.str x), ("known", V.ref kn), ("undone", V.ref un), ("cuts", V.ref ct), ("order", V.ref od), ("counts", V.ref cn)]) = [(("name" : Str), V.str x), ("known", V.ref kn), ("undone", V.ref un), ("cuts", V.ref ct), ("order", V.ref od), ("counts", V.ref cn)] ++ [(("clock" : Str), V.int 0)] := putF_new (by show ("clock" : Str) ∉ (["name", "known", "undone", "cuts", "order", "counts"] : List Str); decide +kernel)
    have st6 : Gw (fun b => b = p) H6 (upd H6 p (.ins C dx (putF ("clock" : Str) (V.int 0) ([(("name" : Str), V.str x), ("known", V.ref kn), ("undone", V.ref un), ("cuts", V.ref ct), ("order", V.ref od), ("counts", V.ref cn)])))) := wr hp6
    have hp7 : upd H6 p (.ins C dx (putF ("clock" : Str) (V.int 0) ([(("name" : Str), V.str x), ("known", V.ref kn), ("undone", V.ref un), ("cuts", V.ref ct), ("order", V.ref od), ("counts", V.ref cn)]))) p = some (.ins C dx ([(("name" : Str), V.str x), ("known", V.ref kn), ("undone", V.ref un), ("cuts", V.ref ct), ("order", V.ref od), ("counts", V.ref cn)] ++ [(("clock" : Str), V.int 0)])) := by rw [upd_same, pf6]
    have G7 := G6.trans st6
    generalize hH7 : upd H6 p (.ins C dx (putF ("clock" : Str) (V.int 0) ([(("name" : Str), V.str x), ("known", V.ref kn), ("undone", V.ref un), ("cuts", V.ref ct), ("order", V.ref od), ("counts", V.ref cn)]))) = H7 at hp7 st6 G7
    have hH7' : upd H6 p (.ins C dx (putF ("clock" : Str) (V.int 0) ([(("name" : Str), V.str x), ("known", V.ref kn), ("undone", V.ref un), ("cuts", V.ref ct), ("order", V.ref od), ("counts", V.ref cn)]))) = H7 := hH7
    intro wt wd nwt nwd nww
    have s7 : Gw D0 H7 (upd (upd H7 wd (.own wt)) wt (.ins W wd [])) := (Gw.refl.new nwd).new (by rw [upd_ne nww.symm]; exact nwt)
    refine ⟨wt, wd, rfl, upd_same, fun H9 rw' nrw hw g9 => ⟨rfl, ?_⟩⟩
    have npw : p ≠ wt := ne_of_none hp7 nwt
    have hp8 : upd (upd H7 wd (.own wt)) wt (.ins W wd []) p = some (.ins C dx ([(("name" : Str), V.str x), ("known", V.ref kn), ("undone", V.ref un), ("cuts", V.ref ct), ("order", V.ref od), ("counts", V.ref cn), ("clock", V.int 0)])) := s7.oth _ _ hp7 (fun _ z => by cases z) (fun z => z)
    have hp9 := g9.oth _ _ hp8 (fun _ z => by cases z) npw
    refine ⟨_, rfl, p, C, dx, _, rfl, hp9, L.cl, L.waits, by show 7 < 1000; decide, ?_⟩
    have pf9 : putF ("waits" : Str) (V.ref wt) ([(("name" : Str), V.str x), ("known", V.ref kn), ("undone", V.ref un), ("cuts", V.ref ct), ("order", V.ref od), ("counts", V.ref cn), ("clock", V.int 0)]) = [(("name" : Str), V.str x), ("known", V.ref kn), ("undone", V.ref un), ("cuts", V.ref ct), ("order", V.ref od), ("counts", V.ref cn), ("clock", V.int 0)] ++ [(("waits" : Str), V.ref wt)] := putF_new (by show ("waits" : Str) ∉ (["name", "known", "undone", "cuts", "order", "counts", "clock"] : List Str); decide +kernel)
    have st9 : Gw (fun b => b = p) H9 (upd H9 p (.ins C dx (putF ("waits" : Str) (V.ref wt) ([(("name" : Str), V.str x), ("known", V.ref kn), ("undone", V.ref un), ("cuts", V.ref ct), ("order", V.ref od), ("counts", V.ref cn), ("clock", V.int 0)])))) := wr hp9
    have g79 : Gw (fun b => b = wt) H7 H9 := (Gw.of0 s7).trans g9
    have ekn : H7 kn = some (.dT []) := (st6.oth _ _ (st5.oth _ _ (st4.oth _ _ (st3.oth _ _ (st2.oth _ _ hxkn (fun _ z => by cases z) nekn.symm) (fun _ z => by cases z) nekn.symm) (fun _ z => by cases z) nekn.symm) (fun _ z => by cases z) nekn.symm) (fun _ z => by cases z) nekn.symm)
    have nwkn : kn ≠ wt := ne_of_none ekn nwt
    have fkn : upd H9 p (.ins C dx (putF ("waits" : Str) (V.ref wt) ([(("name" : Str), V.str x), ("known", V.ref kn), ("undone", V.ref un), ("cuts", V.ref ct), ("order", V.ref od), ("counts", V.ref cn), ("clock", V.int 0)]))) kn = some (.dT []) := st9.oth _ _ (g79.oth _ _ ekn (fun _ z => by cases z) nwkn) (fun _ z => by cases z) nekn.symm
    have eun : H7 un = some (.dT []) := (st6.oth _ _ (st5.oth _ _ (st4.oth _ _ (st3.oth _ _ hxun (fun _ z => by cases z) neun.symm) (fun _ z => by cases z) neun.symm) (fun _ z => by cases z) neun.symm) (fun _ z => by cases z) neun.symm)
    have nwun : un ≠ wt := ne_of_none eun nwt
    have fun_ : upd H9 p (.ins C dx (putF ("waits" : Str) (V.ref wt) ([(("name" : Str), V.str x), ("known", V.ref kn), ("undone", V.ref un), ("cuts", V.ref ct), ("order", V.ref od), ("counts", V.ref cn), ("clock", V.int 0)]))) un = some (.dT []) := st9.oth _ _ (g79.oth _ _ eun (fun _ z => by cases z) nwun) (fun _ z => by cases z) neun.symm
    have ect : H7 ct = some (.dT []) := (st6.oth _ _ (st5.oth _ _ (st4.oth _ _ hxct (fun _ z => by cases z) nect.symm) (fun _ z => by cases z) nect.symm) (fun _ z => by cases z) nect.symm)
    have nwct : ct ≠ wt := ne_of_none ect nwt
    have fct : upd H9 p (.ins C dx (putF ("waits" : Str) (V.ref wt) ([(("name" : Str), V.str x), ("known", V.ref kn), ("undone", V.ref un), ("cuts", V.ref ct), ("order", V.ref od), ("counts", V.ref cn), ("clock", V.int 0)]))) ct = some (.dT []) := st9.oth _ _ (g79.oth _ _ ect (fun _ z => by cases z) nwct) (fun _ z => by cases z) nect.symm
    have eod : H7 od = some (.lst []) := (st6.oth _ _ (st5.oth _ _ hxod (fun _ z => by cases z) neod.symm) (fun _ z => by cases z) neod.symm)
    have nwod : od ≠ wt := ne_of_none eod nwt
    have fod : upd H9 p (.ins C dx (putF ("waits" : Str) (V.ref wt) ([(("name" : Str), V.str x), ("known", V.ref kn), ("undone", V.ref un), ("cuts", V.ref ct), ("order", V.ref od), ("counts", V.ref cn), ("clock", V.int 0)]))) od = some (.lst []) := st9.oth _ _ (g79.oth _ _ eod (fun _ z => by cases z) nwod) (fun _ z => by cases z) neod.symm
    have ecn : H7 cn = some (.dK []) := (st6.oth _ _ hxcn (fun _ z => by cases z) necn.symm)
    have nwcn : cn ≠ wt := ne_of_none ecn nwt
    have fcn : upd H9 p (.ins C dx (putF ("waits" : Str) (V.ref wt) ([(("name" : Str), V.str x), ("known", V.ref kn), ("undone", V.ref un), ("cuts", V.ref ct), ("order", V.ref od), ("counts", V.ref cn), ("clock", V.int 0)]))) cn = some (.dK []) := st9.oth _ _ (g79.oth _ _ ecn (fun _ z => by cases z) nwcn) (fun _ z => by cases z) necn.symm
    have kun : kn ≠ un := ne_of_none hxkn nun
    have kct : kn ≠ ct := ne_of_none (st2.oth _ _ hxkn (fun _ z => by cases z) nekn.symm) nct
    have uct : un ≠ ct := ne_of_none hxun nct
    have hrw0 : H7 rw' = none := by
      have z : upd (upd H7 wd (.own wt)) wt (.ins W wd []) rw' = none := nrw
      exact s7.non _ z
    have G9 := (Gw.go (D := fun b => b = p) G7 g79 (fun b z hb => absurd (z ▸ G7.non _ nwt) hb)).trans st9
    refine q _ ⟨p, dx, kn, un, ct, od, cn, wt, wd, rw'⟩ rfl ⟨?_, ⟨[], fkn, All2.nil⟩, ⟨[], fun_, All2.nil⟩, ⟨[], fct, All2.nil⟩, ⟨[], fod, All2.nil⟩, fcn, hw.gw st9 npw.symm ?_, kun, kct, uct, (ne_of_none ekn hrw0).symm, (ne_of_none eun hrw0).symm, (ne_of_none ect hrw0).symm, npw⟩ G9 ?_
    · rw [upd_same, pf9]
      rfl
    · exact (ne_of_none hp7 hrw0).symm
    · intro b hb
      have hb : b ∈ [p, kn, un, ct, od, cn, wt, rw'] := hb
      simp only [List.mem_cons, List.not_mem_nil, or_false] at hb
      rcases hb with e | e | e | e | e | e | e | e
      · exact .inl e
      · exact .inr (by rw [e]; exact nknH)
      · exact .inr (by rw [e]; exact nunH)
      · exact .inr (by rw [e]; exact nctH)
      · exact .inr (by rw [e]; exact nodH)
      · exact .inr (by rw [e]; exact ncnH)
      · exact .inr (by rw [e]; exact G7.non _ nwt)
      · exact .inr (by rw [e]; exact G7.non _ hrw0)
end
end K80
namespace K80
open PySem PySem.Spec PyProof.Rows L2 Gx GxR NdefX
/-! ### hands -/
abbrev Rw := List Id × List Id × Bool
structure Hm where
  site : Sm
  edits : List Rw
structure HA where
  p : Addr
  d : Addr
  S : SA
  ed : Addr
  ba : Addr
  fl : Addr
def RowAt (H : Hp) (v : V) (r : Rw) : Prop := ∃ a vo vl, v = .ref a ∧ H a = some (.tup [vo, vl, .bl r.2.2]) ∧ IdsAt H vo r.1 ∧ IdsAt H vl r.2.1
theorem RowAt.gw {D : Addr → Prop} {H H' : Hp} {v : V} {r : Rw} (h : RowAt H v r) (g : Gw D H H') : RowAt H' v r := let ⟨a, vo, vl, e1, e2, e3, e4⟩ := h; ⟨a, vo, vl, e1, g.tup _ _ e2, e3.gw g, e4.gw g⟩
def handF (B : HA) : List (Str × V) := [("site", .ref B.S.p), ("edits", .ref B.ed), ("back", .ref B.ba), ("floor", .ref B.fl)]
theorem handF_nd (B : HA) : ((handF B).map (·.1)).Nodup := by
  show (["site", "edits", "back", "floor"] : List Str).Nodup
  decide +kernel
theorem hF_no (B : HA) {x : Str} (h : x ∉ (["site", "edits", "back", "floor"] : List Str)) : (handF B).lookup x = none := lookup_no h
theorem hF_site (B : HA) : (handF B).lookup ("site" : Str) = some (V.ref B.S.p) := lookup_of 0 rfl (handF_nd B)
theorem hF_edits (B : HA) : (handF B).lookup ("edits" : Str) = some (V.ref B.ed) := lookup_of 1 rfl (handF_nd B)
theorem hF_back (B : HA) : (handF B).lookup ("back" : Str) = some (V.ref B.ba) := lookup_of 2 rfl (handF_nd B)
theorem hF_floor (B : HA) : (handF B).lookup ("floor" : Str) = some (V.ref B.fl) := lookup_of 3 rfl (handF_nd B)
theorem hN_do (B : HA) : (handF B).lookup ("do" : Str) = none := hF_no B (by decide +kernel)
theorem hN_history (B : HA) : (handF B).lookup ("history" : Str) = none := hF_no B (by decide +kernel)
theorem hN_can_turn (B : HA) : (handF B).lookup ("can_turn" : Str) = none := hF_no B (by decide +kernel)
theorem hN_turn (B : HA) : (handF B).lookup ("turn" : Str) = none := hF_no B (by decide +kernel)
structure KHand (K : PySem.W.Frag) (mg : Str → Option Value) (C : Addr) : Prop where
  cl : Cls K C
  site : NoAttr K C "site"
  edits : NoAttr K C "edits"
  back : NoAttr K C "back"
  floor : NoAttr K C "floor"
  mgC : mg "Hand" = some (.ref C)
structure HandAt (C CS CW : Addr) (H : Hp) (B : HA) (m : Hm) : Prop where
  ins : H B.p = some (.ins C B.d (handF B))
  site : SiteAt CS CW H B.S m.site
  ed : ∃ us, H B.ed = some (.lst us) ∧ All2 (RowAt H) us m.edits
  fl : H B.fl = some (tupP B.fl [])
  np : B.p ∉ B.S.fp
  ne : B.ed ∉ B.S.fp
  nf : B.fl ∉ B.S.fp
def HA.fp (B : HA) : List Addr := B.p :: B.ed :: B.fl :: B.S.fp
theorem HandAt.gw {C CS CW : Addr} {D : Addr → Prop} {H H' : Hp} {B : HA} {m : Hm} (h : HandAt C CS CW H B m) (g : Gw D H H') (n : ∀ b ∈ B.fp, ¬ D b) : HandAt C CS CW H' B m := by
  have n1 : ¬ D B.p := n _ (List.mem_cons_self)
  have n2 : ¬ D B.ed := n _ (by unfold HA.fp; simp)
  have n3 : ¬ D B.fl := n _ (by unfold HA.fp; simp)
  have n4 : ∀ b ∈ B.S.fp, ¬ D b := fun b hb => n b (List.mem_cons_of_mem _ (List.mem_cons_of_mem _ (List.mem_cons_of_mem _ hb)))
  obtain ⟨us, h1, h2⟩ := h.ed
  exact ⟨g.oth _ _ h.ins (fun _ z => by cases z) n1, h.site.gw g n4, ⟨us, g.oth _ _ h1 (fun _ z => by cases z) n2, h2.mono fun _ _ z => z.gw g⟩, g.oth _ _ h.fl (fun _ z => by cases z) n3, h.np, h.ne, h.nf⟩
theorem HandAt.gw0 {C CS CW : Addr} {H H' : Hp} {B : HA} {m : Hm} (h : HandAt C CS CW H B m) (g : Gw D0 H H') : HandAt C CS CW H' B m := h.gw g fun _ _ z => z
theorem hfp_live {C CS CW : Addr} {H : Hp} {B : HA} {m : Hm} (h : HandAt C CS CW H B m) {b : Addr} (hb : b ∈ B.fp) : H b ≠ none := by
  obtain ⟨us, h1, _⟩ := h.ed
  unfold HA.fp at hb
  simp only [List.mem_cons] at hb
  rcases hb with e | e | e | e
  · rw [e, h.ins]; simp
  · rw [e, h1]; simp
  · rw [e, h.fl]; simp
  · exact fp_live h.site e
theorem sub_fp (B : HA) {b : Addr} (h : b ∈ B.S.fp) : b ∈ B.fp := List.mem_cons_of_mem _ (List.mem_cons_of_mem _ (List.mem_cons_of_mem _ h))
theorem ed_fp (B : HA) : B.ed ∈ B.fp := by unfold HA.fp; simp
theorem p_fp (B : HA) : B.p ∈ B.fp := by unfold HA.fp; simp
/-- a hand whose site has changed by its own doing -/
theorem HandAt.site_to {C CS CW : Addr} {H H' : Hp} {B : HA} {m : Hm} {s' : Sm} {S' : SA} (h : HandAt C CS CW H B m) (hs : SiteAt CS CW H' S' s') (hp : S'.p = B.S.p) (hf : ∀ b ∈ S'.fp, b ∈ B.S.fp ∨ H b = none) (g : Gw (fun b => b ∈ B.S.fp) H H') :
    HandAt C CS CW H' { B with S := S' } { m with site := s' } := by
  obtain ⟨us, h1, h2⟩ := h.ed
  refine ⟨?_, hs, ⟨us, g.oth _ _ h1 (fun _ z => by cases z) h.ne, h2.mono fun _ _ z => z.gw g⟩, g.oth _ _ h.fl (fun _ z => by cases z) h.nf, fun z => ?_, fun z => ?_, fun z => ?_⟩
  · have := g.oth _ _ h.ins (fun _ z => by cases z) h.np
    rw [this]
    unfold handF
    rw [hp]
  · exact (hf _ z).elim h.np fun e => by rw [h.ins] at e; cases e
  · exact (hf _ z).elim h.ne fun e => by rw [h1] at e; cases e
  · exact (hf _ z).elim h.nf fun e => by rw [h.fl] at e; cases e
theorem HandAt.set_ed {C CS CW : Addr} {H : Hp} {B : HA} {m : Hm} {us : List V} {x : List Rw} (h : HandAt C CS CW H B m) (r : All2 (RowAt H) us x) : HandAt C CS CW (upd H B.ed (.lst us)) B { m with edits := x } ∧ Gw (fun b => b ∈ B.fp) H (upd H B.ed (.lst us)) := by
  obtain ⟨u0, h1, _⟩ := h.ed
  have g : Gw (fun b => b = B.ed) H (upd H B.ed (.lst us)) := Gw.refl.put rfl h1 (fun _ z => by cases z) (fun _ z => by cases z)
  refine ⟨⟨?_, h.site.gw g (fun b hb z => h.ne (z ▸ hb)), ⟨us, upd_same, r.mono fun _ _ z => z.gw g⟩, ?_, h.np, h.ne, h.nf⟩, g.mono fun b z => by rw [show b = B.ed from z]; exact ed_fp B⟩
  · rw [upd_ne (ne_of h.ins h1 (fun z => by cases z))]
    exact h.ins
  · rw [upd_ne (ne_of h.fl h1 (fun z => by cases z))]
    exact h.fl
theorem back_put {B : HA} {b : Addr} : putF "back" (.ref b) (handF B) = handF { B with ba := b } :=
  putF_in (pre := [("site", .ref B.S.p), ("edits", .ref B.ed)]) (post := [("floor", .ref B.fl)]) (by show ("back" : Str) ∉ (["site", "edits"] : List Str); decide +kernel)
theorem HandAt.set_ba {C CS CW : Addr} {H : Hp} {B : HA} {m : Hm} {b : Addr} (h : HandAt C CS CW H B m) : HandAt C CS CW (upd H B.p (.ins C B.d (putF "back" (.ref b) (handF B)))) { B with ba := b } m ∧ Gw (fun b => b ∈ B.fp) H (upd H B.p (.ins C B.d (putF "back" (.ref b) (handF B)))) := by
  obtain ⟨us, h1, h2⟩ := h.ed
  have g : Gw (fun b => b = B.p) H (upd H B.p (.ins C B.d (putF "back" (.ref b) (handF B)))) := Gw.refl.put rfl h.ins (fun _ z => by cases z) (fun _ z => by cases z)
  refine ⟨⟨?_, h.site.gw g (fun b hb z => h.np (z ▸ hb)), ⟨us, ?_, h2.mono fun _ _ z => z.gw g⟩, ?_, h.np, h.ne, h.nf⟩, g.mono fun b z => by rw [show b = B.p from z]; exact p_fp B⟩
  · rw [upd_same, back_put]
  · exact g.oth _ _ h1 (fun _ z => by cases z) (ne_of h1 h.ins (fun z => by cases z))
  · exact g.oth _ _ h.fl (fun _ z => by cases z) (ne_of h.fl h.ins (fun z => by cases z))
abbrev sHd (j : Nat) : Stmt := inClass (top 43) j
def doM (m : Hm) (e : Ed) : Hm × List Op := (⟨(editM m.site e).1, m.edits ++ [((editM m.site e).2.map Op.id, (editM m.site e).2.map Op.id, false)]⟩, (editM m.site e).2)
section
variable {P : Program} {w : World} {K : PySem.W.Frag} {mg : Str → Option Value} {base : Heap}
variable {C CS CW : Addr}
def spDo (C CS CW : Addr) (t : Tbs) : Sp := fun vs H Q _ => ∃ (B : HA) (m : Hm) (v : V) (e : Ed), vs = [.ref B.p, v] ∧ EdAt H v e ∧ HandAt C CS CW H B m ∧ EdFit m.site e ∧ m.edits.length ≤ 100000 ∧ Tb t H ∧
  ∀ H' B' u, B'.p = B.p → (∀ b ∈ B'.fp, b ∈ B.fp ∨ H b = none) → OpsAt H' u (doM m e).2 → HandAt C CS CW H' B' (doM m e).1 → Gw (fun b => b ∈ B.fp) H H' → Q u H'
theorem scDo : FnScope ["self", "edit", "found", "own", "operation"] ["self", "edit"] (defScope (sHd 2)) := ⟨rfl, rfl, rfl, by decide +kernel, rfl, by decide +kernel, by decide +kernel⟩
theorem editM_len (m : Sm) (e : Ed) : (editM m e).2.length ≤ e.2.1 + e.2.2.length := by
  unfold editM
  rw [List.length_append, cutsF_len, putsF_len]
  unfold cutIds
  rw [List.length_take]
  have := Nat.min_le_left e.2.1 ((showing m).drop e.1).length
  omega
theorem ok_do {t : Tbs} (D : Md K C "do" "Hand.do" (sHd 2) ["self", "edit"]) (L : KHand K mg C) (T : Bi mg) (mE : Mt P w K mg base CS 4 "edit" ["self", "edit"] (spEdit CS CW t)) : Mt P w K mg base C 5 "do" ["self", "edit"] (spDo C CS CW t) := by
  refine D.ok L.cl scDo (fun vs H Q E h => ?_) (fun cdv f A0 outer s H vs Q E hr h => ?_)
  · obtain ⟨B, m, _, _, rfl, _⟩ := h
    rfl
  · obtain ⟨B, m, v, e, rfl, he, h, fit, hl, tb, q⟩ := h
    refine ⟨_, (pss_cons ((ps_set (i := 2) scDo.nd rfl (Or.inl rfl) ((pe_mth mE (by first | exact hr | exact hr.mono (by decide) | exact room_gx hr hA | exact (room_gx hr hA).mono (by decide)) ((pe_fld (pv 0) rfl)) (pa_cons (pv 1) pa_nil)))))
      (pss_cons ((ps_set (i := 3) scDo.nd rfl (Or.inl rfl) ((pe_callTy call_tuple_of (by rfl) T.tuple_ (by decide +kernel) (pa_cons ((pe_lc (own := [("operation", 4)]) (g := (gName 4)) rfl scDo.nd (pi_tup (pv 2)) (blkOk_by (own := [("operation", 4)]) (N := ["self", "edit", "found", "own", "operation"]) (sc := defScope (sHd 2)) (by decide +kernel))
        (fun _ _ _ _ _ => (pg_name (i := 4) scDo.nd rfl (Or.inl rfl))) (fun _ _ _ _ _ => pts_nil) (fun _ _ _ _ _ => (pe_ix (ixtK (K := K)) (pv 4) (pe_int) (fun _ _ => rfl))))) pa_nil)))))
      (pss_cons (ps_expr (pe_bm PySem.F.plainAttrs_list PySem.F.slot_list_append PySem.F.type_list_append mt_append ((pe_fld (pv 0) rfl)) (pa_cons (pe_tup (pa_cons (pv 3) (pa_cons (pv 3) (pa_cons (pe_bl) pa_nil)))) pa_nil)))
      (pss_cons (ps_fld (pv 0) (pe_lst pa_nil) rfl)
      (pss_one (ps_ret (pv 2))))))), ?_⟩
    have hf : ∀ {H' : Hp} {B' : HA}, HandAt C CS CW H' B' m → True := fun _ => trivial
    refine ⟨_, rfl, _, _, _, _, _, rfl, h.ins, L.cl, L.site, hF_site _, _, _, _, rfl, h.site.ins, sN_edit _ _, _, rfl, B.S, m.site, _, e, rfl, he, h.site, fit, tb, fun H1 u hu hS g1 => ?_⟩
    have h1 : HandAt C CS CW H1 B { m with site := (editM m.site e).1 } := h.site_to (S' := B.S) hS rfl (fun b hb => .inl hb) g1
    have hu0 := hu
    obtain ⟨ua, us, rfl, hua, hus⟩ := hu
    have lops : (editM m.site e).2.length ≤ 100000 := by
      have := editM_len m.site e
      have := fit.room
      omega
    refine ⟨_, rfl, ua, rfl, ⟨us, SqT.of hua⟩, fun d nd => ?_⟩
    refine lc_it (walk_tup (xs := us)) (fun i H' => Gw D0 H1 H' ∧ ∃ ws, H' d = some (.lst ws) ∧ All2 (IdAt H') ws (((editM m.site e).2.take i).map Op.id)) ⟨Gw.refl.new nd, [], upd_same, All2.nil⟩ (fun i H' _ z => SqT.of (z.1.tup _ _ hua)) ?_ ?_
    · rintro i y H2 H2' hi ⟨g, ws, hd, hws⟩ ⟨rfl, hy⟩
      obtain ⟨o, ho, ha⟩ := hus.get hy
      obtain ⟨a, vi, vr, rfl, hat, hid, _⟩ := ha.gw g
      have gd : Gw (fun b => b = d) H2' (upd H2' d (.lst (ws ++ [vi]))) := Gw.refl.put rfl hd (fun _ z => by cases z) (fun _ z => by cases z)
      refine ⟨rfl, _, rfl, _, _, _, _, rfl, rfl, SqT.of hat, at1 o _ _, ws, hd, ?_, g.fresh nd, _, upd_same, ?_⟩
      · rw [hws.len, List.length_map, List.length_take, sizeLine_eq]
        omega
      · rw [List.take_add_one, ho, List.map_append]
        exact (hws.mono fun _ _ z => z.gw gd).snoc (hid.gw gd)
    · rintro H2 ⟨g, ws, hd, hws⟩
      rw [hus.len, List.take_length] at hws
      refine ⟨d, ws, rfl, .inl ⟨SqL.of hd, fun ow now => ?_⟩⟩
      have g2 : Gw D0 H1 (upd H2 ow (.tup ws)) := g.new now
      have h2 := h1.gw0 g2
      have hids : IdsAt (upd H2 ow (.tup ws)) (.ref ow) ((editM m.site e).2.map Op.id) := ⟨ow, ws, rfl, upd_same, hws.mono fun _ _ z => z.gw ((Gw.refl (D := D0)).new now)⟩
      obtain ⟨es, hes, her⟩ := h2.ed
      refine ⟨_, rfl, _, _, _, _, _, rfl, h2.ins, L.cl, L.edits, hF_edits _, .inl ⟨rfl, _, SqL.of hes⟩, _, rfl, _, rfl, by rw [sizeLine_eq]; show 3 ≤ _; omega, fun r nr => ?_⟩
      have gr : Gw D0 (upd H2 ow (.tup ws)) (upd (upd H2 ow (.tup ws)) r (.tup [.ref ow, .ref ow, .bl false])) := Gw.refl.new nr
      have h3 := h2.gw0 gr
      have hrow : RowAt (upd (upd H2 ow (.tup ws)) r (.tup [.ref ow, .ref ow, .bl false])) (.ref r) ((editM m.site e).2.map Op.id, (editM m.site e).2.map Op.id, false) := ⟨r, _, _, rfl, upd_same, hids.gw gr, hids.gw gr⟩
      have hes3 := gr.oth _ _ hes (fun _ z => by cases z) (fun z => z)
      obtain ⟨h4, g4⟩ := h3.set_ed ((her.mono fun _ _ z => z.gw gr).snoc hrow)
      refine ⟨B.ed, es, _, rfl, rfl, hes3, by rw [her.len, sizeLine_eq]; show m.edits.length < _; omega, ?_⟩
      refine ⟨Nat.zero_le _, fun b nb => ?_⟩
      have g5 : Gw D0 (upd (upd (upd H2 ow (.tup ws)) r (.tup [.ref ow, .ref ow, .bl false])) B.ed (.lst (es ++ [.ref r]))) _ := Gw.refl.new (o := .lst []) nb
      have h5 := h4.gw0 g5
      obtain ⟨h6, g6⟩ := h5.set_ba (b := b)
      refine ⟨_, rfl, B.p, C, B.d, _, rfl, h5.ins, L.cl, L.back, by show 4 < 1000; decide, ?_⟩
      have gall : Gw (fun b => b ∈ B.fp) H1 _ := (Gw.of0 (g2.trans gr)).trans ((g4.pure g5).trans g6)
      refine ⟨_, rfl, q _ { B with ba := b } _ rfl (fun b hb => .inl hb) (hu0.gw gall) h6 ((g1.mono fun b z => sub_fp B z).trans gall)⟩
end
end K80
namespace K80
open PySem PySem.Spec PyProof.Rows L2 Gx GxR NdefX
def undosF : Sm → List Id → Sm × List Op
  | m, [] => (m, [])
  | m, i :: is => ((undosF (carry m (makeO m .undo (some i) 0)) is).1, makeO m .undo (some i) 0 :: (undosF (carry m (makeO m .undo (some i) 0)) is).2)
theorem undosF_snoc (i : Id) : ∀ (is : List Id) (m : Sm), undosF m (is ++ [i]) = (carry (undosF m is).1 (makeO (undosF m is).1 .undo (some i) 0), (undosF m is).2 ++ [makeO (undosF m is).1 .undo (some i) 0])
  | [], m => rfl
  | j :: is, m => by
    show ((undosF _ (is ++ [i])).1, _ :: (undosF _ (is ++ [i])).2) = _
    rw [undosF_snoc i is]
    rfl
theorem undosF_len : ∀ (is : List Id) (m : Sm), (undosF m is).2.length = is.length
  | [], _ => rfl
  | _ :: is, _ => by show (undosF _ is).2.length + 1 = is.length + 1; rw [undosF_len is]
def turnM (m : Hm) (n : Nat) (r : Rw) : Hm × List Op := (⟨(undosF m.site r.2.1).1, m.edits.set n (r.1, (undosF m.site r.2.1).2.map Op.id, !r.2.2)⟩, (undosF m.site r.2.1).2)
structure TurnFit (m : Hm) (n : Nat) (r : Rw) : Prop where
  at_ : m.edits[n]? = some r
  pos1 : ∀ i ∈ r.1, 1 ≤ i.1
  pos2 : ∀ i ∈ r.2.1, 1 ≤ i.1
  len : r.2.1.length ≤ 6000
  elen : m.edits.length ≤ 100000
  room : m.site.known.length + m.site.waits.length + r.2.1.length ≤ 6000
  undos : ∀ (k : Nat) (i : Id), r.2.1[k]? = some i → (lkG Op.id (undosF m.site (r.2.1.take k)).1.known i).isSome = true ∧ (undosF m.site (r.2.1.take k)).1.known.length + (undosF m.site (r.2.1.take k)).1.waits.length + 1 ≤ 6000 ∧ CarOk (undosF m.site (r.2.1.take k)).1 (makeO (undosF m.site (r.2.1.take k)).1 .undo (some i) 0)
section
variable {P : Program} {w : World} {K : PySem.W.Frag} {mg : Str → Option Value} {base : Heap}
variable {C CS CW : Addr}
def hm0 (x : Str) : Hm := ⟨sm0 x, []⟩
def spHandInit (C CS CW : Addr) (t : Tbs) : Sp := fun vs H Q _ => ∃ (p d : Addr) (x : Str), vs = [.ref p, .str x] ∧ H p = some (.ins C d []) ∧ Nm x ∧ Tb t H ∧ ∀ H' B, B.p = p → HandAt C CS CW H' B (hm0 x) → Gw (fun b => b = p) H H' → (∀ b ∈ B.fp, b = p ∨ H b = none) → Q .non H'
theorem scHandInit : FnScope ["self", "name"] ["self", "name"] (defScope (sHd 0)) := ⟨rfl, rfl, rfl, by decide +kernel, rfl, by decide +kernel, by decide +kernel⟩
theorem ok_handInit {t : Tbs} (D : Md K C "__init__" "Hand.__init__" (sHd 0) ["self", "name"]) (L : KHand K mg C) (LS : KSite K mg CS) (cs : Cr K CS) (mI : Mt P w K mg base CS 3 "__init__" ["self", "name"] (spSiteInit CS CW t)) : Mt P w K mg base C 5 "__init__" ["self", "name"] (spHandInit C CS CW t) := by
  refine D.ok L.cl scHandInit (fun vs H Q E h => ?_) (fun cdv f A0 outer s H vs Q E hr h => ?_)
  · obtain ⟨p, d, x, rfl, _⟩ := h
    rfl
  · obtain ⟨p, dx, x, rfl, hp, nm, tb, q⟩ := h
    refine ⟨_, (pss_cons (ps_fld (pv 0) (pe_new mI cs LS.mgC hr (pa_cons (pv 1) pa_nil)) rfl)
      (pss_cons (ps_fld (pv 0) (pe_lst pa_nil) rfl)
      (pss_cons (ps_fld (pv 0) (pe_lst pa_nil) rfl)
      (pss_one (ps_fld (pv 0) pe_tup0P rfl))))), ?_⟩
    refine ⟨_, rfl, fun sp sd nsp nsd nss => ?_⟩
    have g0 : Gw D0 H (upd (upd H sd (.own sp)) sp (.ins CS sd [])) := (Gw.refl.new nsd).new (by rw [upd_ne nss.symm]; exact nsp)
    have nps : p ≠ sp := ne_of_none hp nsp
    refine ⟨sp, sd, x, rfl, upd_same, nm, tb.gw g0, fun H1 A eA hS g1 hfp => ⟨rfl, ?_⟩⟩
    have g01 : Gw D0 H H1 := g0.go g1 fun b z hb => absurd (z ▸ nsp) hb
    have hp1 : H1 p = some (.ins C dx []) := g01.oth _ _ hp (fun _ z => by cases z) (fun z => z)
    have fpN : ∀ b ∈ A.fp, H b = none := fun b hb => (hfp b hb).elim (fun e => e ▸ nsp) fun e => g0.non _ e
    have pA : p ∉ A.fp := fun z => by rw [fpN p z] at hp; cases hp
    have wr : ∀ {H1 : Hp} {fs : List (Str × V)} {o : HO}, H1 p = some (.ins C dx fs) → Gw (fun b => b = p) H1 (upd H1 p o) := fun e => Gw.refl.put rfl e (fun _ z => by cases z) (fun _ z => by cases z)
    refine ⟨_, rfl, p, C, dx, _, rfl, hp1, L.cl, L.site, by show 0 < 1000; decide, Nat.zero_le _, fun ed ned => ?_⟩
    have hp2 : upd H1 p (.ins C dx (putF "site" (.ref sp) [])) p = some (.ins C dx [(("site" : Str), V.ref sp)]) := upd_same
    have s2 : Gw (fun b => b = p) H1 (upd H1 p (.ins C dx (putF "site" (.ref sp) []))) := wr hp1
    generalize upd H1 p (.ins C dx (putF "site" (.ref sp) [])) = H2 at hp2 s2 ned ⊢
    have ped : p ≠ ed := ne_of_none hp2 ned
    have hq2 : upd H2 ed (.lst []) p = some (.ins C dx [(("site" : Str), V.ref sp)]) := by rw [upd_ne ped]; exact hp2
    refine ⟨_, rfl, p, C, dx, _, rfl, hq2, L.cl, L.edits, by show 1 < 1000; decide, Nat.zero_le _, fun ba nba => ?_⟩
    have pf2 : putF ("edits" : Str) (V.ref ed) ([(("site" : Str), V.ref sp)] : List (Str × V)) = [(("site" : Str), V.ref sp), ("edits", V.ref ed)] := putF_new (by show ("edits" : Str) ∉ (["site"] : List Str); decide +kernel)
    have hp3 : upd (upd H2 ed (.lst [])) p (.ins C dx (putF ("edits" : Str) (V.ref ed) ([(("site" : Str), V.ref sp)] : List (Str × V)))) p = some (.ins C dx [(("site" : Str), V.ref sp), ("edits", V.ref ed)]) := by rw [upd_same, pf2]
    have s3 : Gw (fun b => b = p) H2 (upd (upd H2 ed (.lst [])) p (.ins C dx (putF ("edits" : Str) (V.ref ed) ([(("site" : Str), V.ref sp)] : List (Str × V))))) := (Gw.refl.new ned).trans (wr hq2)
    have xed : upd (upd H2 ed (.lst [])) p (.ins C dx (putF ("edits" : Str) (V.ref ed) ([(("site" : Str), V.ref sp)] : List (Str × V)))) ed = some (.lst []) := by rw [upd_ne ped.symm]; exact upd_same
    generalize upd (upd H2 ed (.lst [])) p (.ins C dx (putF ("edits" : Str) (V.ref ed) ([(("site" : Str), V.ref sp)] : List (Str × V)))) = H3 at hp3 s3 xed nba ⊢
    have pba : p ≠ ba := ne_of_none hp3 nba
    have hq3 : upd H3 ba (.lst []) p = some (.ins C dx [(("site" : Str), V.ref sp), ("edits", V.ref ed)]) := by rw [upd_ne pba]; exact hp3
    refine ⟨_, rfl, p, C, dx, _, rfl, hq3, L.cl, L.back, by show 2 < 1000; decide, fun fl nfl => ?_⟩
    have pf3 : putF ("back" : Str) (V.ref ba) ([(("site" : Str), V.ref sp), ("edits", V.ref ed)] : List (Str × V)) = [(("site" : Str), V.ref sp), ("edits", V.ref ed), ("back", V.ref ba)] := putF_new (by show ("back" : Str) ∉ (["site", "edits"] : List Str); decide +kernel)
    have hp4 : upd (upd H3 ba (.lst [])) p (.ins C dx (putF ("back" : Str) (V.ref ba) ([(("site" : Str), V.ref sp), ("edits", V.ref ed)] : List (Str × V)))) p = some (.ins C dx [(("site" : Str), V.ref sp), ("edits", V.ref ed), ("back", V.ref ba)]) := by rw [upd_same, pf3]
    have s4 : Gw (fun b => b = p) H3 (upd (upd H3 ba (.lst [])) p (.ins C dx (putF ("back" : Str) (V.ref ba) ([(("site" : Str), V.ref sp), ("edits", V.ref ed)] : List (Str × V))))) := (Gw.refl.new nba).trans (wr hq3)
    generalize upd (upd H3 ba (.lst [])) p (.ins C dx (putF ("back" : Str) (V.ref ba) ([(("site" : Str), V.ref sp), ("edits", V.ref ed)] : List (Str × V)))) = H4 at hp4 s4 nfl ⊢
    have pfl : p ≠ fl := ne_of_none hp4 nfl
    have hq4 : upd H4 fl (tupP fl []) p = some (.ins C dx [(("site" : Str), V.ref sp), ("edits", V.ref ed), ("back", V.ref ba)]) := by rw [upd_ne pfl]; exact hp4
    have pf4 : putF ("floor" : Str) (V.ref fl) ([(("site" : Str), V.ref sp), ("edits", V.ref ed), ("back", V.ref ba)] : List (Str × V)) = [(("site" : Str), V.ref sp), ("edits", V.ref ed), ("back", V.ref ba)] ++ [(("floor" : Str), V.ref fl)] := putF_new (by show ("floor" : Str) ∉ (["site", "edits", "back"] : List Str); decide +kernel)
    refine ⟨_, rfl, p, C, dx, _, rfl, hq4, L.cl, L.floor, by show 3 < 1000; decide, ?_⟩
    have s5 : Gw (fun b => b = p) H4 (upd (upd H4 fl (tupP fl [])) p (.ins C dx (putF ("floor" : Str) (V.ref fl) ([(("site" : Str), V.ref sp), ("edits", V.ref ed), ("back", V.ref ba)] : List (Str × V))))) := (Gw.refl.new nfl).trans (wr hq4)
    have G1 : Gw (fun b => b = p) H H1 := Gw.of0 g01
    have G2 := G1.trans s2
    have G3 := G2.trans s3
    have G4 := G3.trans s4
    have G15 : Gw (fun b => b = p) H1 (upd (upd H4 fl (tupP fl [])) p (.ins C dx (putF ("floor" : Str) (V.ref fl) ([(("site" : Str), V.ref sp), ("edits", V.ref ed), ("back", V.ref ba)] : List (Str × V))))) := ((s2.trans s3).trans s4).trans s5
    have nedH := G2.non _ ned
    have nflH := G4.non _ nfl
    have liveF : ∀ b ∈ A.fp, H1 b ≠ none := fun b hb => fp_live hS hb
    have ned1 : H1 ed = none := s2.non _ ned
    have nfl1 : H1 fl = none := (((s2.trans s3).trans s4)).non _ nfl
    refine q _ ⟨p, dx, A, ed, ba, fl⟩ rfl ⟨?_, hS.gw G15 (fun b hb z => pA (z ▸ hb)), ⟨[], ?_, All2.nil⟩, ?_, pA, fun z => liveF _ z ned1, fun z => liveF _ z nfl1⟩ (G4.trans s5) fun b hb => ?_
    · rw [upd_same, pf4]
      unfold handF
      rw [eA]
      rfl
    · exact s5.oth _ _ (s4.oth _ _ xed (fun _ z => by cases z) ped.symm) (fun _ z => by cases z) ped.symm
    · rw [upd_ne pfl.symm]
      exact upd_same
    · have hb : b ∈ p :: ed :: fl :: A.fp := hb
      simp only [List.mem_cons] at hb
      rcases hb with e | e | e | e
      · exact .inl e
      · exact .inr (e ▸ nedH)
      · exact .inr (e ▸ nflH)
      · exact .inr (fpN b e)
end
end K80
namespace K80
open PySem PySem.Spec PyProof.Rows L2 Gx GxR NdefX
section
variable {P : Program} {w : World} {K : PySem.W.Frag} {mg : Str → Option Value} {base : Heap}
variable {C CS CW : Addr}
def spHist (C CS CW : Addr) : Sp := fun vs H Q _ => ∃ (B : HA) (m : Hm), vs = [.ref B.p] ∧ HandAt C CS CW H B m ∧ m.edits.length ≤ 100000 ∧ ∀ H' a us, H' a = some (.tup us) → us.length = m.edits.length → Gw D0 H H' → Q (.ref a) H'
theorem scHist : FnScope ["self", "own", "_", "off"] ["self"] (defScope (sHd 3)) := ⟨rfl, rfl, rfl, by decide +kernel, rfl, by decide +kernel, by decide +kernel⟩
theorem ok_hist (D : Md K C "history" "Hand.history" (sHd 3) ["self"]) (L : KHand K mg C) (T : Bi mg) : Mt P w K mg base C 1 "history" ["self"] (spHist C CS CW) := by
  refine D.ok L.cl scHist (fun vs H Q E h => ?_) (fun cdv f A0 outer s H vs Q E hr h => ?_)
  · obtain ⟨B, m, rfl, _⟩ := h
    rfl
  · obtain ⟨B, m, rfl, h, hl, q⟩ := h
    refine ⟨_, (pss_one (ps_ret (pe_callTy call_tuple_of (by rfl) T.tuple_ (by decide +kernel) (pa_cons ((pe_lc (own := [("own", 1), ("_", 2), ("off", 3)]) (g := (gTup K 3 (gCons (gName 1) (gCons (gName 2) (gCons (gName 3) gNil))))) rfl scHist.nd (pi_list (pe_fld (pv 0) rfl)) (blkOk_by (own := [("own", 1), ("_", 2), ("off", 3)]) (N := ["self", "own", "_", "off"]) (sc := defScope (sHd 3)) (by decide +kernel))
        (fun _ _ _ _ _ => (pg_tup (by rfl) (pgs_cons (pg_name (i := 1) scHist.nd rfl (Or.inl rfl)) (pgs_cons (pg_name (i := 2) scHist.nd rfl (Or.inl rfl)) (pgs_cons (pg_name (i := 3) scHist.nd rfl (Or.inl rfl)) pgs_nil))))) (fun _ _ _ _ _ => pts_nil) (fun _ _ _ _ _ => pe_tup (pa_cons (pv 1) (pa_cons (pv 3) pa_nil))))) pa_nil)))), ?_⟩
    obtain ⟨us, hed, hus⟩ := h.ed
    refine ⟨_, rfl, _, _, _, _, _, rfl, h.ins, L.cl, L.edits, hF_edits _, B.ed, rfl, ⟨us, SqL.of hed⟩, fun d nd => ?_⟩
    refine lc_it (walk_list (xs := us)) (fun i H' => Gw D0 H H' ∧ ∃ ws, H' d = some (.lst ws) ∧ ws.length = i) ⟨Gw.refl.new nd, [], upd_same, rfl⟩ (fun i H' _ z => SqL.of (z.1.oth _ _ hed (fun _ z => by cases z) (fun z => z))) ?_ ?_
    · rintro i y H2 H2' hi ⟨g, ws, hd, hws⟩ ⟨rfl, hy⟩
      obtain ⟨r, hr2, a, vo, vl, rfl, ha, _⟩ := hus.get hy
      refine ⟨a, _, rfl, SqT.of (g.tup _ _ ha), rfl, _, _, rfl, _, _, rfl, _, _, rfl, rfl, rfl, ?_⟩
      refine ⟨_, rfl, _, rfl, by rw [sizeLine_eq]; show 2 ≤ _; omega, fun t nt => ?_⟩
      have ndt : d ≠ t := ne_of_none hd nt
      refine ⟨ws, by rw [upd_ne ndt]; exact hd, ?_, (g.new nt).fresh nd, _, upd_same, by simp [hws]⟩
      rw [hws, sizeLine_eq]
      have := hus.len
      omega
    · rintro H2 ⟨g, ws, hd, hws⟩
      refine ⟨d, ws, rfl, .inl ⟨SqL.of hd, fun t nt => q _ t ws upd_same (by rw [hws, hus.len]) (g.new nt)⟩⟩
def spCanTurn (C CS CW : Addr) (t : Tbs) : Sp := fun vs H Q _ => ∃ (B : HA) (m : Hm) (n : Nat) (r : Rw), vs = [.ref B.p, .int (n : Nat)] ∧ HandAt C CS CW H B m ∧ m.edits[n]? = some r ∧ (∀ i ∈ r.1, 1 ≤ i.1) ∧ (∀ i ∈ r.2.1, 1 ≤ i.1) ∧ r.1.length ≤ 100000 ∧ r.2.1.length ≤ 100000 ∧ Tb t H ∧ ∀ H', Gw D0 H H' → Q (.bl true) H'
theorem scCanTurn : FnScope ["self", "number", "own", "last", "_"] ["self", "number"] (defScope (sHd 4)) := ⟨rfl, rfl, rfl, by decide +kernel, rfl, by decide +kernel, by decide +kernel⟩
theorem ok_canTurn {t : Tbs} (D : MdT K mg base C "can_turn" "Hand.can_turn" (sHd 4) ["self", "number"] t.c) (L : KHand K mg C) (T : Bi mg) (fH : Fn P w K mg base 1 "has_seen" ["seen", "own"] spHasSeen) : Mt P w K mg base C 3 "can_turn" ["self", "number"] (spCanTurn C CS CW t) := by
  refine D.ok L.cl scCanTurn (fun vs H Q E h => ?_) (fun c f A0 outer s H vs Q E TB hr h => ?_)
  · obtain ⟨B, m, _, _, rfl, _⟩ := h
    rfl
  · obtain ⟨B, m, n, r, rfl, h, hn, p1, p2, l1, l2, tb, q⟩ := h
    obtain ⟨us, hed, hus⟩ := h.ed
    obtain ⟨v, hv, a, vo, vl, rfl, ha, ⟨oa, ous, rfl, hoa, hous⟩, ⟨la, lus, rfl, hla, hlus⟩⟩ := hus.get' hn
    refine ⟨_, (pss_cons (ps_asg (pe_ix ix_list ((pe_fld (pv 0) rfl)) (pv 1) (fun _ _ => rfl)) (pg_tup (by rfl) (pgs_cons (pg_name (i := 2) scCanTurn.nd rfl (Or.inl rfl)) (pgs_cons (pg_name (i := 3) scCanTurn.nd rfl (Or.inl rfl)) (pgs_cons (pg_name (i := 4) scCanTurn.nd rfl (Or.inl rfl)) pgs_nil)))))
      (pss_one (ps_ret (pe_not (pe_anyG (x := "one") (fr := ["self"]) (js := [0]) hr (by rfl) T.any_ TB rfl (gxs_by (by decide +kernel)) (caps_by (x := "one") (sc := defScope (sHd 4)) (gxs_by (by decide +kernel)) rfl (by decide +kernel) rfl) (pi_tup (pe_tup (StX.pa_star (pv 2) (StX.pa_star (pv 3) pa_nil))))
        (fun r hA => (pe_fn fH (by first | exact hr | exact hr.mono (by decide) | exact room_gx hr hA | exact (room_gx hr hA).mono (by decide)) (pa_cons ((fldK (K := K) (pv 1) rfl)) (pa_cons (pv 0) pa_nil))))))))), ?_⟩
    refine ⟨_, rfl, _, _, _, _, _, rfl, h.ins, L.cl, L.edits, hF_edits _, _, rfl, _, _, _, _, rfl, rfl, SqL.of hed, atI_nat hv, a, _, rfl, SqT.of ha, rfl, _, _, rfl, _, _, rfl, _, _, rfl, rfl, ?_⟩
    refine ⟨_, rfl, oa, ous, rfl, .inl (SqT.of hoa), _, rfl, la, lus, rfl, .inl (SqT.of hla), by rw [List.append_nil, List.length_append, hous.len, hlus.len, sizeLine_eq]; omega, fun e ne => ?_⟩
    have g0 : Gw D0 H (upd H e (.tup (ous ++ (lus ++ [])))) := Gw.refl.new ne
    have tb0 := tb.gw g0
    have hall : All2 (IdAt H) (ous ++ (lus ++ [])) (r.1 ++ r.2.1) := by rw [List.append_nil]; exact hous.append hlus
    refine ⟨e, rfl, ⟨_, SqT.of upd_same⟩, tb0.c, fun H2 t2 => gx_it (walk_tup (xs := ous ++ (lus ++ []))) (fun i H' => Gw D0 (upd H e (.tup (ous ++ (lus ++ [])))) H') (Gw.refl.tbl t2 tb0.c) (fun i H' _ g => SqT.of (g.tup _ _ upd_same)) ?_ fun H3 g3 => ⟨_, rfl, q _ (g0.trans g3)⟩⟩
    rintro i y H3 H3' N hi g ⟨rfl, hy⟩ hN
    obtain ⟨x, hx, hxa⟩ := hall.get hy
    have gg := g0.trans g
    have h3 := h.gw0 gg
    refine ⟨_, rfl, _, _, _, _, _, rfl, h3.ins, L.cl, L.floor, hF_floor _, _, rfl, _, y, [], x, rfl, ⟨B.fl, [], rfl, h3.fl, .nil, List.nodup_nil⟩, hxa.gw gg, fun H4 g4 => ⟨_, rfl, ?_⟩⟩
    have hx1 : 1 ≤ x.1 := by
      rcases List.mem_append.mp (List.mem_of_getElem? hx) with z | z
      · exact p1 x z
      · exact p2 x z
    have e0 : hasSeen [] x = false := decide_eq_false (by show ¬ x.1 ≤ 0; omega)
    rw [e0]
    exact iteF (hN _ (g.trans g4))
def spTurn (C CS CW : Addr) (t : Tbs) : Sp := fun vs H Q _ => ∃ (B : HA) (m : Hm) (n : Nat) (r : Rw), vs = [.ref B.p, .int (n : Nat)] ∧ HandAt C CS CW H B m ∧ TurnFit m n r ∧ r.1.length ≤ 100000 ∧ Tb t H ∧
  ∀ H' u, OpsAt H' u (turnM m n r).2 → HandAt C CS CW H' B (turnM m n r).1 → Gw (fun b => b ∈ B.fp) H H' → Q u H'
theorem scTurn : FnScope ["self", "number", "own", "last", "off", "found", "one", "operation"] ["self", "number"] (defScope (sHd 5)) := ⟨rfl, rfl, rfl, by decide +kernel, rfl, by decide +kernel, by decide +kernel⟩
theorem ok_turn {t : Tbs} (D : Md K C "turn" "Hand.turn" (sHd 5) ["self", "number"]) (L : KHand K mg C) (T : Bi mg) (fN : Fn P w K mg base 1 "is_number" ["value", "least", "most"] spNum) (mT : Mt P w K mg base C 3 "can_turn" ["self", "number"] (spCanTurn C CS CW t))
    (mR : Mt P w K mg base CS 2 "check_room" ["self", "many"] (spRoom CS CW)) (mU : Mt P w K mg base CS 4 "undo" ["self", "own"] (spUndoS CS CW)) : Mt P w K mg base C 5 "turn" ["self", "number"] (spTurn C CS CW t) := by
  refine D.ok L.cl scTurn (fun vs H Q E h => ?_) (fun cdv f A0 outer s H vs Q E hr h => ?_)
  · obtain ⟨B, m, _, _, rfl, _⟩ := h
    rfl
  · obtain ⟨B, m, n, ⟨ro, rl, rf⟩, rfl, h, fit, lo, tb, q⟩ := h
    have hn : m.edits[n]? = some (ro, rl, rf) := fit.at_
    obtain ⟨us, hed, hus⟩ := h.ed
    have hlt : n < m.edits.length := (List.getElem?_eq_some_iff.mp hn).1
    have lel := fit.elen
    refine ⟨_, (pss_cons (ps_if (pt_not (pt_val (pe_fn fN (by first | exact hr | exact hr.mono (by decide) | exact room_gx hr hA | exact (room_gx hr hA).mono (by decide)) (pa_cons (pv 1) (pa_cons (pe_int) (pa_cons (pe_op op_sub (pe_callB call_len_seq (by rfl) T.len_ PySem.boot_len (pa_cons ((pe_fld (pv 0) rfl)) pa_nil)) pe_int) pa_nil)))))) (pss_one ps_never) pss_nil)
      (pss_cons (ps_if (pt_not (pt_val (pe_mth mT (by first | exact hr | exact hr.mono (by decide) | exact room_gx hr hA | exact (room_gx hr hA).mono (by decide)) (pv 0) (pa_cons (pv 1) pa_nil)))) (pss_one ps_never) pss_nil)
      (pss_cons (ps_asg (pe_ix ix_list ((pe_fld (pv 0) rfl)) (pv 1) (fun _ _ => rfl)) (pg_tup (by rfl) (pgs_cons (pg_name (i := 2) scTurn.nd rfl (Or.inl rfl)) (pgs_cons (pg_name (i := 3) scTurn.nd rfl (Or.inl rfl)) (pgs_cons (pg_name (i := 4) scTurn.nd rfl (Or.inl rfl)) pgs_nil)))))
      (pss_cons (ps_expr (pe_mth mR (by first | exact hr | exact hr.mono (by decide) | exact room_gx hr hA | exact (room_gx hr hA).mono (by decide)) ((pe_fld (pv 0) rfl)) (pa_cons ((pe_callB call_len_seq (by rfl) T.len_ PySem.boot_len (pa_cons (pv 3) pa_nil))) pa_nil)))
      (pss_cons ((ps_set (i := 5) scTurn.nd rfl (Or.inl rfl) ((pe_callTy call_tuple_of (by rfl) T.tuple_ (by decide +kernel) (pa_cons ((pe_lc (own := [("one", 6)]) (g := (gName 6)) rfl scTurn.nd (pi_tup (pv 3)) (blkOk_by (own := [("one", 6)]) (N := ["self", "number", "own", "last", "off", "found", "one", "operation"]) (sc := defScope (sHd 5)) (by decide +kernel))
        (fun _ _ _ _ _ => (pg_name (i := 6) scTurn.nd rfl (Or.inl rfl))) (fun _ _ _ _ _ => pts_nil) (fun _ _ _ _ _ => (pe_mth mU (by first | exact hr | exact hr.mono (by decide) | exact room_gx hr hA | exact (room_gx hr hA).mono (by decide)) ((fldK (K := K) (pv 0) rfl)) (pa_cons (pv 6) pa_nil))))) pa_nil)))))
      (pss_cons (ps_asg (pe_tup (pa_cons (pv 2) (pa_cons ((pe_callTy call_tuple_of (by rfl) T.tuple_ (by decide +kernel) (pa_cons ((pe_lc (own := [("operation", 7)]) (g := (gName 7)) rfl scTurn.nd (pi_tup (pv 5)) (blkOk_by (own := [("operation", 7)]) (N := ["self", "number", "own", "last", "off", "found", "one", "operation"]) (sc := defScope (sHd 5)) (by decide +kernel))
        (fun _ _ _ _ _ => (pg_name (i := 7) scTurn.nd rfl (Or.inl rfl))) (fun _ _ _ _ _ => pts_nil) (fun _ _ _ _ _ => (pe_ix (ixtK (K := K)) (pv 7) (pe_int) (fun _ _ => rfl))))) pa_nil))) (pa_cons (pe_not (pv 4)) pa_nil)))) (pg_sub (pe_fld (pv 0) rfl) (pv 1) set_list (fun _ => rfl)))
      (pss_one (ps_ret (pv 5))))))))), ?_⟩
    refine ⟨_, rfl, _, rfl, _, _, _, _, _, rfl, h.ins, L.cl, L.edits, hF_edits _, B.ed, us, rfl, .inl (SqL.of hed), _, _, rfl, rfl, _, _, _, rfl, by omega, by rw [hus.len]; omega, _, rfl, iteF ?_⟩
    refine ⟨_, rfl, _, _, _, rfl, h.ins, hN_can_turn _, _, rfl, B, m, n, _, rfl, h, hn, fit.pos1, fit.pos2, lo, Nat.le_trans fit.len (by decide), tb, fun H1 g1 => ⟨_, rfl, iteF ?_⟩⟩
    have h1 := h.gw0 g1
    obtain ⟨us1, hed1, hus1⟩ := h1.ed
    obtain ⟨v, hv, a, vo, vl, rfl, ha, hvo, ⟨la, lus, rfl, hla, hlus⟩⟩ := hus1.get' hn
    have room : m.site.known.length + m.site.waits.length + rl.length ≤ 6000 := fit.room
    refine ⟨_, rfl, _, _, _, _, _, rfl, h1.ins, L.cl, L.edits, hF_edits _, _, rfl, _, _, _, _, rfl, rfl, SqL.of hed1, atI_nat hv, a, _, rfl, SqT.of ha, rfl, _, _, rfl, _, _, rfl, _, _, rfl, rfl, ?_⟩
    refine ⟨_, rfl, _, _, _, _, _, rfl, h1.ins, L.cl, L.site, hF_site _, _, _, _, rfl, h1.site.ins, sN_check_room _ _, _, rfl, la, lus, rfl, .inr (SqT.of hla), B.S, m.site, _, rfl, h1.site, by rw [hlus.len]; show _ + _ + ((rl.length : Nat) : Int) ≤ 6000; omega, ?_⟩
    refine ⟨_, rfl, la, rfl, ⟨lus, SqT.of hla⟩, fun d nd => ?_⟩
    have ndS : ∀ {b : Addr}, H1 b = none → b ∉ B.S.fp := fun z => fp_not h1.site z
    refine lc_it (walk_tup (xs := lus)) (fun i H' => Gw (fun b => b ∈ B.S.fp) H1 H' ∧ SiteAt CS CW H' B.S (undosF m.site (rl.take i)).1 ∧ ∃ ws, H' d = some (.lst ws) ∧ All2 (OpAt H') ws (undosF m.site (rl.take i)).2) ⟨(Gw.refl).new nd, h1.site.gw0 (Gw.refl.new nd), [], upd_same, All2.nil⟩ (fun i H' _ z => SqT.of (z.1.tup _ _ hla)) ?_ ?_
    · rintro i y H2 H2' hi ⟨g, hS, ws, hd, hws⟩ ⟨rfl, hy⟩
      obtain ⟨x, hx, hxa⟩ := hlus.get hy
      have hx : rl[i]? = some x := hx
      have et : rl.take (i + 1) = rl.take i ++ [x] := by rw [List.take_add_one, hx]; rfl
      obtain ⟨f1, f2, f3⟩ := fit.undos i x hx
      have hin2 : H2' B.p = some (.ins C B.d (handF B)) := g.oth _ _ h1.ins (fun _ z => by cases z) h1.np
      refine ⟨rfl, _, rfl, _, _, _, _, _, rfl, hin2, L.cl, L.site, hF_site _, _, _, _, rfl, hS.ins, sN_undo _ _, _, rfl, B.S, _, y, x, rfl, hxa.gw g, hS, f1, f2, f3, fun H3 u ho hS3 g3 => ?_⟩
      have hd3 := g3.oth _ _ hd (fun _ z => by cases z) (ndS nd)
      have gd : Gw (fun b => b = d) H3 (upd H3 d (.lst (ws ++ [u]))) := Gw.refl.put rfl hd3 (fun _ z => by cases z) (fun _ z => by cases z)
      refine ⟨ws, hd3, ?_, (g.trans g3).fresh nd, ?_, _, upd_same, ?_⟩
      · rw [hws.len, undosF_len, List.length_take, sizeLine_eq]
        have : rl.length ≤ 6000 := fit.len
        omega
      · rw [et, undosF_snoc]
        exact hS3.gw gd fun b hb z => ndS nd (z ▸ hb)
      · rw [et, undosF_snoc]
        exact (hws.mono fun _ _ z => (z.gw g3).gw gd).snoc (ho.gw gd)
    · rintro H2 ⟨g, hS, ws, hd, hws⟩
      rw [hlus.len, List.take_length] at hS hws
      refine ⟨d, ws, rfl, .inl ⟨SqL.of hd, fun fo nfo => ?_⟩⟩
      have gf : Gw D0 H2 (upd H2 fo (.tup ws)) := Gw.refl.new nfo
      have hops : OpsAt (upd H2 fo (.tup ws)) (.ref fo) (undosF m.site rl).2 := ⟨fo, ws, rfl, upd_same, hws.mono fun _ _ z => z.gw gf⟩
      have hwf := hws.mono fun _ _ z => z.gw gf
      have h3 : HandAt C CS CW (upd H2 fo (.tup ws)) B { m with site := (undosF m.site rl).1 } := (h1.site_to (S' := B.S) hS rfl (fun b hb => .inl hb) g).gw0 gf
      have lw : ws.length ≤ 6000 := by rw [hws.len, undosF_len]; exact fit.len
      refine ⟨_, rfl, _, rfl, fo, rfl, ⟨ws, SqT.of upd_same⟩, fun d2 nd2 => ?_⟩
      refine lc_it (walk_tup (xs := ws)) (fun i H' => Gw D0 (upd H2 fo (.tup ws)) H' ∧ ∃ zs, H' d2 = some (.lst zs) ∧ All2 (IdAt H') zs (((undosF m.site rl).2.take i).map Op.id)) ⟨Gw.refl.new nd2, [], upd_same, All2.nil⟩ (fun i H' _ z => SqT.of (z.1.tup _ _ upd_same)) ?_ ?_
      · rintro i y H4 H4' hi ⟨g4, zs, hd4, hzs⟩ ⟨rfl, hy⟩
        obtain ⟨o, ho, hoa⟩ := hwf.get hy
        obtain ⟨oa, vi, vr, rfl, hoat, hid, _⟩ := hoa.gw g4
        have gd : Gw (fun b => b = d2) H4' (upd H4' d2 (.lst (zs ++ [vi]))) := Gw.refl.put rfl hd4 (fun _ z => by cases z) (fun _ z => by cases z)
        refine ⟨rfl, _, rfl, _, _, _, _, rfl, rfl, SqT.of hoat, at1 o _ _, zs, hd4, ?_, g4.fresh nd2, _, upd_same, ?_⟩
        · rw [hzs.len, List.length_map, List.length_take, sizeLine_eq]
          omega
        · rw [List.take_add_one, ho, List.map_append]
          exact (hzs.mono fun _ _ z => z.gw gd).snoc (hid.gw gd)
      · rintro H4 ⟨g4, zs, hd4, hzs⟩
        rw [hws.len, List.take_length] at hzs
        refine ⟨d2, zs, rfl, .inl ⟨SqL.of hd4, fun nl nnl => ?_⟩⟩
        have gn : Gw D0 H4 (upd H4 nl (.tup zs)) := Gw.refl.new nnl
        have hnl : IdsAt (upd H4 nl (.tup zs)) (.ref nl) ((undosF m.site rl).2.map Op.id) := ⟨nl, zs, rfl, upd_same, hzs.mono fun _ _ z => z.gw gn⟩
        refine ⟨_, rfl, _, rfl, by rw [sizeLine_eq]; show 3 ≤ _; omega, fun r nr => ?_⟩
        have gr : Gw D0 (upd H4 nl (.tup zs)) (upd (upd H4 nl (.tup zs)) r (.tup [vo, .ref nl, .bl (!rf)])) := Gw.refl.new nr
        have g35 := (g4.trans gn).trans gr
        have h5 := h3.gw0 g35
        have g15 : Gw (fun b => b ∈ B.S.fp) H1 (upd (upd H4 nl (.tup zs)) r (.tup [vo, .ref nl, .bl (!rf)])) := (g.pure gf).pure g35
        have hrow : RowAt (upd (upd H4 nl (.tup zs)) r (.tup [vo, .ref nl, .bl (!rf)])) (.ref r) (ro, (undosF m.site rl).2.map Op.id, !rf) := ⟨r, vo, .ref nl, rfl, upd_same, hvo.gw g15, hnl.gw gr⟩
        obtain ⟨us5, hed5, hus5⟩ := h5.ed
        have hset : All2 (RowAt (upd (upd H4 nl (.tup zs)) r (.tup [vo, .ref nl, .bl (!rf)]))) (us5.set n (.ref r)) (m.edits.set n (ro, (undosF m.site rl).2.map Op.id, !rf)) := by
          refine ⟨by rw [List.length_set, List.length_set]; exact hus5.len, fun k x y hx hy => ?_⟩
          by_cases e : n = k
          · subst e
            rw [List.getElem?_set_self (by rw [hus5.len]; exact hlt)] at hx
            rw [List.getElem?_set_self hlt] at hy
            cases hx
            cases hy
            exact hrow
          · rw [List.getElem?_set_ne e] at hx hy
            exact hus5.at_ k x y hx hy
        obtain ⟨h6, g6⟩ := h5.set_ed hset
        refine ⟨_, rfl, _, _, _, _, _, rfl, h5.ins, L.cl, L.edits, hF_edits _, _, rfl, B.ed, us5, _, n, rfl, rfl, hed5, ?_, ?_⟩
        · unfold ixN
          rw [if_pos (by omega), if_pos (by rw [hus5.len]; show ((n : Nat) : Int) < ((m.edits.length : Nat) : Int); omega), Int.toNat_natCast]
        · refine ⟨_, rfl, q _ _ ((hops.gw g35).gw g6) h6 (((Gw.of0 g1).trans (g15.mono fun b z => sub_fp B z)).trans g6)⟩
end
end K80
namespace K80
open PySem PySem.Spec PyProof.Rows L2 Gx GxR NdefX
open RT
/-! list(reversed(l)) -/
section
variable {prog : Program} {w : World} {A : Around} {E : Value → Shared → Prop} {s : Shared}
theorem call_list_rev {it l : Addr} {items : Array Value} {Q : Value → Shared → Prop} (hh : A.handled = none) (hit : s.heap.IsRevIter it l ((items.size : Int) - 1)) (hl : s.heap.IsList l items) (hne : l ≠ it) (hn : items.size ≤ sizeLine)
    (hQ : ∀ (h' : Heap) (tk : Nat) (acc : Array Value) (c : Nat), (∀ b o, b ≠ it → s.heap.get? b = some o → h'.get? b = some o) → h'.get? s.heap.objs.size = some { cls := .type "list", data := .seq acc c } → ItemsOf (fun i v => items[items.size - 1 - i]? = some v) acc items.size →
      Q (.ref s.heap.objs.size) { s with heap := h', toks := tk }) :
    wpAny (model prog w) A (call (.type "list") [.ref it]) Q E s := by
  refine callType_codes (Q₁ := fun obj s₁ => obj = .ref s.heap.objs.size ∧ s₁ = { s with heap := s.heap.push { cls := .type "list", data := .seq #[] } }) F.called_list (F.typeCall_list_1 _) F.entry_list_init
    (code_list_new _ ⟨rfl, rfl⟩) fun obj s₁ h₁ => ?_
  obtain ⟨rfl, rfl⟩ := h₁
  generalize hS0 : s.heap.objs.size = S
  have hS : (s.heap.push { cls := .type "list", data := .seq #[] }).get? S = some { cls := .type "list", data := .seq #[] } := by rw [← hS0]; exact Heap.get?_push_size _ rfl
  have old : ∀ b o, s.heap.get? b = some o → b ≠ S := fun b o e => by rw [← hS0]; exact Nat.ne_of_lt (Heap.lt_size e)
  have W := (Walks.listRev (prog := prog) (w := w) (A := A.in1.in1) hh it l hne items).toS
  obtain ⟨oi, hoi, _⟩ := id hit
  obtain ⟨ol, hol, _⟩ := id hl
  have hSi : S ≠ it := (old _ _ hoi).symm
  have hSl : S ≠ l := (old _ _ hol).symm
  have hSf : S ∉ [it, l] := by simp only [List.mem_cons, List.not_mem_nil, or_false, not_or]; exact ⟨hSi, hSl⟩
  refine ⟨⟨_, hS, rfl⟩, F.args_list_init_2 _ _, ?_⟩
  show wpAny _ A.in1.in1 (do let old ← Builtin.List.listItems (.ref S); Builtin.List.listUpdate (.ref S) (fun _ => #[]); letGo old.toList.reverse; Builtin.List.listExtendWith (.ref S) (.ref it) .none) _ _ _
  refine wpAny_bind ?_
  unfold Builtin.List.listItems
  refine wpAny_bind (wpAny_seqItems hS rfl (wpAny_pure ?_))
  show wpAny _ A.in1.in1 (updateSeq S (fun _ => #[]) >>= fun _ => letGo (#[] : Array Value).toList.reverse >>= fun _ => Builtin.List.listExtendWith (.ref S) (.ref it) .none) _ _ _
  refine wpAny_bind (wpAny_updateSeq hS rfl ?_)
  have hS₂ := Heap.get?_update_self (Obj.mapSeq (fun _ => (#[] : Array Value))) hS rfl
  have oth : ∀ b o, s.heap.get? b = some o → ((s.heap.push { cls := .type "list", data := .seq #[] }).update S (Obj.mapSeq (fun _ => (#[] : Array Value)))).get? b = some o :=
    fun b o e => (Heap.get?_update_other _ _ (Ne.symm (old b o e))).trans (Heap.get?_push_of_some _ e)
  refine wpAny_bind (wpAny_letGo ?_)
  generalize hh2 : (s.heap.push { cls := .type "list", data := .seq #[] }).update S (Obj.mapSeq (fun _ => (#[] : Array Value))) = h2 at hS₂ oth ⊢
  have hit1 : h2.IsRevIter it l ((items.size : Int) - 1) := hit.at fun o e => oth _ _ e
  have hl1 : h2.IsList l items := hl.at fun o e => oth _ _ e
  have hT : ({ s with heap := h2 } : Shared).TypeIs (.ref it) "list_reverseiterator" := Heap.IsRevIter.typeIs (s := { s with heap := h2 }) hit1
  have h1 : Builtin.List.listSameRef (.ref S) (.ref it) = false := by simp [Builtin.List.listSameRef, hSi]
  unfold Builtin.List.listExtendWith
  refine wpAny_bind (wpAny_typeOf hT ?_)
  rw [if_neg (by rw [h1]; decide)]
  refine wpAny_bind (wpAny_pyIter_revIter (s := { s with heap := h2 }) hit1 ?_)
  refine wpAny_bind (wpAny_holding ?_)
  unfold Builtin.List.listLengthHint
  refine wpAny_bind (wpAny_specialOf hT nolen_lri ?_)
  show wpAny _ A.in1.in1 (specialOf (Value.ref it) (Str.ofString "__length_hint__") >>= _) _ _ _
  refine wpAny_bind (wpAny_specialOf hT hint_lri ?_)
  generalize hid : ("list_reverseiterator.__length_hint__" : String) = id0
  wp_delta
  rw [show splitId id0 = some ("list_reverseiterator", "__length_hint__") from by subst hid; decide +kernel]
  subst hid
  refine wpAny_bind (wpAny_isInstance (b := true) hT (by rw [isSubtype_type]; kernel_rfl) ?_)
  refine wpAny_pure ?_
  rw [if_neg (by decide)]
  have e0 : ((items.size : Nat) : Int) - 1 - ((0 : Nat) : Int) = (items.size : Int) - 1 := by omega
  refine wpAny_pure ⟨plainId_quiet F.plain_extend_loop _, codeAny_extend_loopS W hn _ hSf _ items.size 0 _ _ _ rfl (Nat.zero_le _) ⟨Nat.zero_le _, by rw [e0]; exact hit1, hl1⟩ hS₂ (ItemsOf.nil _) fun s' acc' c' hm hS' hacc => ?_⟩
  have es : s' = { ({ s with heap := h2 } : Shared) with heap := s'.heap, toks := s'.toks } := Moved.eq_with hm
  rw [es]
  subst hS0
  refine ⟨rfl, hQ s'.heap s'.toks acc' c' (fun b o hb e => hm.heap b o (fun hmem => ?_) (oth b o e)) hS' hacc⟩
  rcases List.mem_cons.mp hmem with e' | hmem
  · exact old b o e e'
  · exact hb (List.mem_singleton.mp hmem)
end
section
variable {X : Cx}
def tLstRev (K : PySem.W.Frag) (te : TE) : TE := fun σ H Q => te σ H fun v H1 => ∃ (a : Addr) (xs : List V), v = .ref a ∧ SqL K H1 a xs ∧ ∀ q, H1 q = none → Q (.ref q) (upd H1 q (.lst xs.reverse))
theorem pe_lstRev {e : Expr} {te : TE} {p p2 pos pos2 : Pos} (hc : X.calm = true) (hg : Gl X "list") (hm : X.mg "list" = none) (hg2 : Gl X "reversed") (hm2 : X.mg "reversed" = none) (he : PE X e te)
    (hs : starEach [e] X.env = (false, eval e X.env) :: starEach [] X.env := by rfl)
    (hs2 : starEach [.Call (.Name "reversed" p2) [e] [] pos2] X.env = (false, eval (.Call (.Name "reversed" p2) [e] [] pos2) X.env) :: starEach [] X.env := by rfl) :
    PE X (.Call (.Name "list" p) [.Call (.Name "reversed" p2) [e] [] pos2] [] pos) (tLstRev X.K te) := by
  refine ⟨fun pins s σ H Q I h => ?_⟩
  refine Call_ (ld_blt I hg hm (by decide +kernel : bootBuiltins "list" = some (.type "list")) (PyProof.Rows.callWith_type1 (args_cons (Call_ (ld_blt I hg2 hm2 PyProof.Rows.boot_reversed (PyProof.Rows.callWith_type1 (args_cons (thn (he.run pins s σ H _ I h) fun u s1 ⟨v, H1, I1, r1, q1⟩ => args_nil ?_) hs) hs rfl))) hs2) hs2 rfl))
  obtain ⟨a, xs, ev, hq, q⟩ := q1
  subst ev
  obtain rfl : u = Value.ref a := r1
  obtain ⟨its, rv, p', hz⟩ := I1.list hq
  refine call_reversed_list p'.isList (args_nil ?_)
  have k0 : ∀ b o, s1.heap.get? b = some o → (s1.heap.push (revObj a ((its.toArray.size : Int) - 1))).get? b = some o := fun b o e => Heap.get?_push_of_some _ e
  have I2 : Inv X pins σ H1 { s1 with heap := s1.heap.push (revObj a ((its.toArray.size : Int) - 1)) } := I1.kept (t' := s1.toks) k0
  obtain ⟨f0, f1, f2, f3, f4, f5⟩ := I1.fpOk (H' := H1) (b := s1.heap.objs.size) (Nat.le_refl _) (I1.hok.fresh (Nat.le_refl _))
  have hl := p'.isList
  obtain ⟨ol, hol, _⟩ := id hl
  have hne : a ≠ s1.heap.objs.size := Nat.ne_of_lt (Heap.lt_size hol)
  have hn : its.toArray.size ≤ sizeLine := by rw [List.size_toArray, ← rv.length]; exact hz
  refine call_list_rev (s := { s1 with heap := s1.heap.push (revObj a ((its.toArray.size : Int) - 1)) }) (I1.ok.hd hc) ⟨_, Heap.get?_push_size _ rfl, rfl, rfl⟩ (hl.push _) hne hn fun h' tk acc c hk ho hi => ?_
  have I3 : Inv X pins σ H1 { s1 with heap := h', toks := tk } := I2.turned (t' := tk) (fun b o hb e => hk b o hb e) f0 f1 f3 f4 f5
  have hS : H1 (s1.heap.push (revObj a ((its.toArray.size : Int) - 1))).objs.size = none := I2.hok.fresh (Nat.le_refl _)
  have I4 := I3.take (h' := h') (t' := tk) (fun b ob _ e => e) (I2.fpOk (Nat.le_refl _) hS) (o := .lst xs.reverse) (show ObjOk X.prog X.w _ _ _ (.lst xs.reverse) from ⟨by rw [List.length_reverse]; exact hz, acc.toList, c, vals_rev rv hi, by rw [Array.toArray_toList]; exact ho⟩)
  exact ⟨.ref _, _, I4, rfl, q _ hS⟩
end
end K80
namespace K80
open PySem PySem.Spec PyProof.Rows L2 Gx GxR NdefX
/-- a list of whole numbers, none below 0 -/
structure Ns (H : Hp) (a : Addr) (ns : List Int) : Prop where
  at_ : H a = some (.lst (ns.map V.int))
  pos : ∀ n ∈ ns, 0 ≤ n
def DrAt (H : Hp) (a : Addr) : Prop := ∃ ns, Ns H a ns
theorem Ns.gw {D : Addr → Prop} {H H' : Hp} {a : Addr} {ns : List Int} (h : Ns H a ns) (g : Gw D H H') (n : ¬ D a) : Ns H' a ns := ⟨g.oth _ _ h.at_ (fun _ z => by cases z) n, h.pos⟩
theorem DrAt.gw {D : Addr → Prop} {H H' : Hp} {a : Addr} (h : DrAt H a) (g : Gw D H H') (n : ¬ D a) : DrAt H' a := let ⟨ns, x⟩ := h; ⟨ns, x.gw g n⟩
theorem Ns.add {H : Hp} {a : Addr} {ns : List Int} {v : Int} (h : Ns H a ns) (hv : 0 ≤ v) : Ns (upd H a (.lst (ns.map V.int ++ [V.int v]))) a (ns ++ [v]) := by
  refine ⟨by rw [upd_same, List.map_append]; rfl, fun n hn => ?_⟩
  rcases List.mem_append.mp hn with z | z
  · exact h.pos n z
  · rw [List.mem_singleton.mp z]; exact hv
theorem nsLt {ns : List Int} (h : ns.length ≤ 1000000) : (ns.map V.int).length < sizeLine := by
  rw [List.length_map, sizeLine_eq]
  omega
theorem fmod_range {n : Int} {k : Nat} (h : 0 ≤ n) (hk : 1 ≤ k) : ∃ r : Nat, n.fmod (k : Int) = (r : Nat) ∧ r < k := by
  have e : n.fmod (k : Int) = n % (k : Int) := Int.fmod_eq_emod_of_nonneg _ (by omega)
  have h1 := Int.emod_nonneg n (show (k : Int) ≠ 0 by omega)
  have h2 := Int.emod_lt_of_pos n (show (0 : Int) < k by omega)
  exact ⟨(n % (k : Int)).toNat, by rw [e, Int.toNat_of_nonneg h1], by omega⟩
section
variable {P : Program} {w : World} {K : PySem.W.Frag} {mg : Str → Option Value} {base : Heap}
/-- one draw: any number below the limit -/
def spLTake : Sp := fun vs H Q _ => ∃ (a : Addr) (k : Nat), vs = [.ref a, .int (k : Nat)] ∧ DrAt H a ∧ 1 ≤ k ∧ ∀ H' (r : Nat), r < k → DrAt H' a → Gw (fun b => b = a) H H' → Q (.int (r : Nat)) H'
theorem scLTake : FnScope ["draws", "limit"] ["draws", "limit"] (defScope (top 46)) := ⟨rfl, rfl, rfl, by decide +kernel, rfl, by decide +kernel, by decide +kernel⟩
theorem ok_lTake (D : Df K mg "_law_take" (top 46) ["draws", "limit"]) (T : Bi mg) : Fn P w K mg base 1 "_law_take" ["draws", "limit"] spLTake := by
  refine D.ok scLTake (fun vs H Q E h => ?_) (fun cdv f A outer s H vs Q E hr h => ?_)
  · obtain ⟨a, k, rfl, _⟩ := h
    rfl
  · obtain ⟨a, k, rfl, ⟨ns, hn⟩, hk, q⟩ := h
    refine ⟨_, (pss_cons (ps_if (pt_cmpR op_eq (pe_callB call_len_seq (by rfl) T.len_ PySem.boot_len (pa_cons (pv 0) pa_nil)) pe_int (nomark _)) (pss_one (ps_ret pe_int)) pss_nil)
      (pss_one (ps_ret (pe_op op_modN (pe_callTy call_int1 (by rfl) T.int_ (by decide +kernel) (pa_cons ((pe_bm0 PySem.F.plainAttrs_list PySem.F.slot_list_pop PySem.F.type_list_pop mt_pop (pv 0))) pa_nil)) (pv 1))))), ?_⟩
    refine ⟨_, rfl, a, _, rfl, .inl (SqL.of hn.at_), rfl, _, rfl, ?_⟩
    by_cases e : ns = []
    · subst e
      refine iteT ?_
      exact q _ 0 hk ⟨[], hn⟩ Gw.refl
    · have l1 : ns.length ≠ 0 := fun z => e (List.length_eq_zero_iff.mp z)
      rw [decide_eq_false (show ¬ V.int (((ns.map V.int).length : Nat) : Int) = V.int 0 from fun z => l1 (by have := V.int.inj z; rw [List.length_map] at this; omega))]
      have hlt : ns.length - 1 < ns.length := by omega
      have hx : (ns.map V.int)[(ns.map V.int).length - 1]? = some (.int ns[ns.length - 1]) := by
        rw [List.length_map, List.getElem?_map, List.getElem?_eq_getElem hlt]
        rfl
      obtain ⟨r, er, hrk⟩ := fmod_range (n := ns[ns.length - 1]) (hn.pos _ (List.getElem_mem hlt)) hk
      refine iteF ⟨_, rfl, .inl ⟨rfl, _, SqL.of hn.at_⟩, a, _, _, rfl, rfl, hn.at_, hx, .inl ⟨_, rfl, _, rfl, _, _, rfl, rfl, by omega, ?_⟩⟩
      show Q (.int (ns[ns.length - 1].fmod (k : Int))) _
      rw [er]
      refine q _ r hrk ⟨ns.dropLast, by rw [upd_same, List.map_dropLast], fun n hm => hn.pos n (List.dropLast_subset _ hm)⟩ (Gw.refl.put rfl hn.at_ (fun _ z => by cases z) (fun _ z => by cases z))
def spLDraws (K : PySem.W.Frag) : Sp := fun vs H Q _ => ∃ (a : Addr) (ns : List Int), vs = [.ref a] ∧ SqL K H a (ns.map V.int) ∧ ns.length ≤ 63 ∧ ∀ H' p ds, Ns H' p ds → ds ≠ [] → ds.length ≤ 100000 → H p = none → Gw D0 H H' → Q (.ref p) H'
theorem scLDraws : FnScope ["script", "draws", "cell", "number", "first", "k", "seed"] ["script"] (defScope (top 45)) := ⟨rfl, rfl, rfl, by decide +kernel, rfl, by decide +kernel, by decide +kernel⟩
theorem gw_sq {H H' : Hp} {a : Addr} {xs : List V} (h : SqL K H a xs) (g : Gw D0 H H') : SqL K H' a xs := by
  rcases h with (h | ⟨o, h⟩) | h
  · exact .inl (.inl (g.oth _ _ h (fun _ z => by cases z) (fun z => z)))
  · exact .inl (.inr ⟨o, g.oth _ _ h (fun _ z => by cases z) (fun z => z)⟩)
  · exact .inr h
theorem abs_nn (n : Int) : 0 ≤ (if n < 0 then -n else n) := by split <;> omega
theorem ok_lDraws (D : Df K mg "_law_draws" (top 45) ["script"]) (T : Bi mg) : Fn P w K mg base 1 "_law_draws" ["script"] (spLDraws K) := by
  refine D.ok scLDraws (fun vs H Q E h => ?_) (fun cdv f A outer s H vs Q E hr h => ?_)
  · obtain ⟨a, k, rfl, _⟩ := h
    rfl
  · obtain ⟨a, ns, rfl, hns, hl, q⟩ := h
    refine ⟨_, (pss_cons ((ps_set (i := 1) scLDraws.nd rfl (Or.inl rfl) (pe_lst pa_nil)))
      (pss_cons (ps_for PassesOwn.never rfl (pi_list (pv 0)) (pg_name (i := 2) scLDraws.nd rfl (Or.inl rfl)) (pss_cons ((ps_set (i := 3) scLDraws.nd rfl (Or.inl rfl) ((pe_callB call_abs (by rfl) T.abs_ (by decide +kernel) (pa_cons (pv 2) pa_nil)))))
      (pss_cons (ps_if (pt_cmpR op_lt (pv 3) (pe_op op_pow pe_int pe_int) (nomark _)) (pss_cons ((ps_set (i := 4) scLDraws.nd rfl (Or.inl rfl) (pe_op op_mod (pe_callTy call_int1 (by rfl) T.int_ (by decide +kernel) (pa_cons (pe_op op_add (pe_op op_mul (pv 3) pe_int) pe_int) pa_nil)) pe_int)))
      (pss_cons (ps_expr (pe_bm PySem.F.plainAttrs_list PySem.F.slot_list_append PySem.F.type_list_append mt_append (pv 1) (pa_cons (pe_op op_mod (pe_callTy call_int1 (by rfl) T.int_ (by decide +kernel) (pa_cons (pe_op op_add (pe_op op_mul (pv 4) pe_int) (pv 3)) pa_nil)) pe_int) pa_nil)))
      (pss_cons (ps_expr (pe_bm PySem.F.plainAttrs_list PySem.F.slot_list_append PySem.F.type_list_append mt_append (pv 1) (pa_cons (pe_op op_mod (pe_callTy call_int1 (by rfl) T.int_ (by decide +kernel) (pa_cons (pe_op op_add (pv 4) (pe_op op_fdiv (pv 3) pe_int)) pa_nil)) pe_int) pa_nil)))
      (pss_one ((ps_set (i := 3) scLDraws.nd rfl (Or.inl rfl) (pe_int))))))) pss_nil)
      (pss_one (ps_for PassesOwn.never rfl (pi_range1 rfl T.range_ (pa_cons (pe_int) pa_nil)) (pg_name (i := 5) scLDraws.nd rfl (Or.inl rfl)) (pss_one (ps_if (pt_cmpR op_gt (pv 3) pe_int (nomark _)) (pss_cons (ps_expr (pe_bm PySem.F.plainAttrs_list PySem.F.slot_list_append PySem.F.type_list_append mt_append (pv 1) (pa_cons (pe_op op_mod (pe_callTy call_int1 (by rfl) T.int_ (by decide +kernel) (pa_cons (pv 3) pa_nil)) pe_int) pa_nil)))
      (pss_one ((ps_set (i := 3) scLDraws.nd rfl (Or.inl rfl) (pe_op op_fdiv (pv 3) pe_int))))) pss_nil)))))))
      (pss_cons ((ps_set (i := 6) scLDraws.nd rfl (Or.inl rfl) (pe_int)))
      (pss_cons (ps_if (pt_cmpR op_gt (pe_callB call_len_seq (by rfl) T.len_ PySem.boot_len (pa_cons (pv 0) pa_nil)) pe_int (nomark _)) (pss_one ((ps_set (i := 6) scLDraws.nd rfl (Or.inl rfl) (pe_op op_add pe_int (pe_callB call_abs (by rfl) T.abs_ (by decide +kernel) (pa_cons ((pe_ix ix_list (pv 0) (pe_int) (fun _ _ => rfl))) pa_nil)))))) pss_nil)
      (pss_cons (ps_for PassesOwn.never rfl (pi_range1 rfl T.range_ (pa_cons (pe_int) pa_nil)) (pg_name (i := 5) scLDraws.nd rfl (Or.inl rfl)) (pss_cons ((ps_set (i := 6) scLDraws.nd rfl (Or.inl rfl) (pe_op op_mod (pe_callTy call_int1 (by rfl) T.int_ (by decide +kernel) (pa_cons (pe_op op_add (pe_op op_mul (pv 6) pe_int) pe_int) pa_nil)) pe_int)))
      (pss_one (ps_expr (pe_bm PySem.F.plainAttrs_list PySem.F.slot_list_append PySem.F.type_list_append mt_append (pv 1) (pa_cons (pe_op op_fdiv (pv 6) pe_int) pa_nil))))))
      (pss_one (ps_ret (pe_lstRev rfl rfl T.list_ rfl T.rev_ (pv 1))))))))), ?_⟩
    refine ⟨Nat.zero_le _, fun d nd => ?_⟩
    have g0 : Gw D0 H (upd H d (.lst [])) := Gw.refl.new nd
    refine ⟨_, rfl, a, rfl, ⟨_, gw_sq hns g0⟩, for_it (walk_list (K := K) (a := a) (xs := ns.map V.int)) (fun i σ H' => (∃ x2 x3 x4 x5 x6, σ = [some (.ref a), some (.ref d), x2, x3, x4, x5, x6]) ∧ Gw D0 H H' ∧ ∃ ds, Ns H' d ds ∧ ds.length ≤ i * 62) ⟨⟨_, _, _, _, _, rfl⟩, g0, [], ⟨upd_same, fun n z => by cases z⟩, Nat.le_refl _⟩ (fun i σ H' _ z => gw_sq hns z.2.1) ?_ ?_⟩
    · rintro i y σ H2 H2' hi ⟨⟨x2, x3, x4, x5, x6, rfl⟩, g, ds, hds, hdl⟩ ⟨rfl, hy⟩
      have hi63 : i < 63 := by
        rw [List.length_map] at hi
        omega
      obtain ⟨n, rfl⟩ : ∃ n : Int, y = .int n := by
        rw [List.getElem?_map] at hy
        cases hq : ns[i]? with
        | none => rw [hq] at hy; cases hy
        | some n => rw [hq] at hy; exact ⟨n, (Option.some.inj hy).symm⟩
      have hnn := abs_nn n
      refine ⟨_, rfl, _, rfl, ?_⟩
      generalize (if n < 0 then -n else n) = num at hnn ⊢
      refine ⟨_, rfl, _, _, rfl, rfl, ⟨by decide, by decide, by decide⟩, _, _, rfl, rfl, _, rfl, ite2 (fun _ => ?_) fun _ => ?_⟩
      · refine ⟨_, rfl, _, _, rfl, rfl, .inr ⟨by decide, by decide⟩, _, _, rfl, rfl, .inl ⟨_, rfl, _, _, rfl, rfl, (by show (0 : Int) < 2147483647; decide), ?_⟩⟩
        have hf : (0 : Int) ≤ (num * 48271 + 11) % 2147483647 := Int.emod_nonneg _ (by decide)
        refine ⟨_, rfl, .inl ⟨rfl, _, SqL.of hds.at_⟩, _, rfl, _, _, rfl, rfl, .inr ⟨by decide, by decide⟩, _, rfl, _, _, rfl, rfl, .inl ⟨_, rfl, _, _, rfl, rfl, (by show (0 : Int) < 2147483629; decide), d, _, _, rfl, rfl, hds.at_, nsLt (by omega), ?_⟩⟩
        have n1 := hds.add (v := (((num * 48271 + 11) % 2147483647) * 69621 + num) % 2147483629) (Int.emod_nonneg _ (by decide))
        refine ⟨_, rfl, .inl ⟨rfl, _, SqL.of n1.at_⟩, _, rfl, _, rfl, _, _, rfl, rfl, ⟨by decide, by decide⟩, _, _, rfl, rfl, .inl ⟨_, rfl, _, _, rfl, rfl, (by show (0 : Int) < 1000003; decide), d, _, _, rfl, rfl, n1.at_, nsLt (by rw [List.length_append, List.length_singleton]; omega), ?_⟩⟩
        have n2 := n1.add (v := (((num * 48271 + 11) % 2147483647) + num / 7) % 1000003) (Int.emod_nonneg _ (by decide))
        have gg : Gw D0 H _ := (g.fresh (o := .lst (ds.map V.int ++ [V.int ((((num * 48271 + 11) % 2147483647) * 69621 + num) % 2147483629)])) nd).fresh (o := .lst ((ds ++ [(((num * 48271 + 11) % 2147483647) * 69621 + num) % 2147483629]).map V.int ++ [V.int ((((num * 48271 + 11) % 2147483647) + num / 7) % 1000003)])) nd
        have hp9 : 0 ≤ (0 : Int) := Int.le_refl _
        refine ⟨60, rfl, by decide, by decide, for_it walk_range (fun k σ H' => (∃ x2 num x4 x5 x6, σ = [some (.ref a), some (.ref d), x2, some (.int num), x4, x5, x6] ∧ (0 : Int) ≤ num) ∧ Gw D0 H H' ∧ ∃ ds, Ns H' d ds ∧ ds.length ≤ i * 62 + 2 + k) ⟨⟨_, _, _, _, _, rfl, hp9⟩, gg, _, n2, by rw [List.length_append, List.length_append, List.length_singleton, List.length_singleton]; omega⟩ (fun _ _ _ _ _ => trivial) ?_ ?_⟩
        · rintro k y σ H3 H3' hk ⟨⟨x2, num, x4, x5, x6, rfl, hnum⟩, g3, ds, hds, hdl⟩ ⟨rfl, rfl⟩
          refine ⟨_, rfl, _, _, rfl, rfl, _, rfl, ite2 (fun _ => ?_) fun _ => ⟨⟨_, _, _, _, _, rfl, hnum⟩, g3, ds, hds, by omega⟩⟩
          refine ⟨_, rfl, .inl ⟨rfl, _, SqL.of hds.at_⟩, _, rfl, .inl ⟨_, rfl, _, _, rfl, rfl, (by show (0 : Int) < 997; decide), d, _, _, rfl, rfl, hds.at_, nsLt (by omega), ?_⟩⟩
          have hv : (0 : Int) ≤ num % 997 := Int.emod_nonneg _ (by decide)
          refine ⟨_, rfl, _, _, rfl, rfl, ⟨by decide, by decide⟩, ⟨_, _, _, _, _, rfl, Int.ediv_nonneg hnum (by decide)⟩, g3.fresh nd, _, hds.add hv, by rw [List.length_append, List.length_singleton]; omega⟩
        · rintro σ H3 ⟨⟨x2, num, x4, x5, x6, rfl, hnum⟩, g3, ds, hds, hdl⟩
          exact ⟨⟨_, _, _, _, _, rfl⟩, g3, ds, hds, by omega⟩
      · have hp9 : 0 ≤ num := hnn
        refine ⟨60, rfl, by decide, by decide, for_it walk_range (fun k σ H' => (∃ x2 num x4 x5 x6, σ = [some (.ref a), some (.ref d), x2, some (.int num), x4, x5, x6] ∧ (0 : Int) ≤ num) ∧ Gw D0 H H' ∧ ∃ ds, Ns H' d ds ∧ ds.length ≤ i * 62 + 2 + k) ⟨⟨_, _, _, _, _, rfl, hp9⟩, g, _, hds, by omega⟩ (fun _ _ _ _ _ => trivial) ?_ ?_⟩
        · rintro k y σ H3 H3' hk ⟨⟨x2, num, x4, x5, x6, rfl, hnum⟩, g3, ds, hds, hdl⟩ ⟨rfl, rfl⟩
          refine ⟨_, rfl, _, _, rfl, rfl, _, rfl, ite2 (fun _ => ?_) fun _ => ⟨⟨_, _, _, _, _, rfl, hnum⟩, g3, ds, hds, by omega⟩⟩
          refine ⟨_, rfl, .inl ⟨rfl, _, SqL.of hds.at_⟩, _, rfl, .inl ⟨_, rfl, _, _, rfl, rfl, (by show (0 : Int) < 997; decide), d, _, _, rfl, rfl, hds.at_, nsLt (by omega), ?_⟩⟩
          have hv : (0 : Int) ≤ num % 997 := Int.emod_nonneg _ (by decide)
          refine ⟨_, rfl, _, _, rfl, rfl, ⟨by decide, by decide⟩, ⟨_, _, _, _, _, rfl, Int.ediv_nonneg hnum (by decide)⟩, g3.fresh nd, _, hds.add hv, by rw [List.length_append, List.length_singleton]; omega⟩
        · rintro σ H3 ⟨⟨x2, num, x4, x5, x6, rfl, hnum⟩, g3, ds, hds, hdl⟩
          exact ⟨⟨_, _, _, _, _, rfl⟩, g3, ds, hds, by omega⟩
    · rintro σ H2 ⟨⟨x2, x3, x4, x5, x6, rfl⟩, g, ds, hds, hdl⟩
      rw [List.length_map] at hdl
      have tail : ∀ sd : Int, 0 ≤ sd → True := fun _ _ => trivial
      refine ⟨_, rfl, a, _, rfl, .inl (gw_sq hns g), _, _, rfl, rfl, _, rfl, ite2 (fun hc => ?_) fun _ => ?_⟩
      · have l0 : 0 < ns.length := by
          rw [List.length_map] at hc
          have hc : (0 : Int) < ((ns.length : Nat) : Int) := of_decide_eq_true hc
          omega
        refine ⟨_, rfl, _, _, _, _, rfl, rfl, gw_sq hns g, atI_nat (j := 0) (v := .int ns[0]) (by rw [List.getElem?_map, List.getElem?_eq_getElem l0]; rfl), _, rfl, _, _, rfl, rfl, ?_⟩
        refine ⟨900, rfl, by decide, by decide, for_it walk_range (fun k σ H' => (∃ x2 x3 x4 x5 sd, σ = [some (.ref a), some (.ref d), x2, x3, x4, x5, some (.int sd)]) ∧ Gw D0 H H' ∧ ∃ ds, Ns H' d ds ∧ ds.length ≤ 3906 + k ∧ (0 < k → ds ≠ [])) ⟨⟨_, _, _, _, _, rfl⟩, g, ds, hds, by omega, fun z => absurd z (Nat.lt_irrefl _)⟩ (fun _ _ _ _ _ => trivial) ?_ ?_⟩
        · rintro k y σ H3 H3' hk ⟨⟨x2, x3, x4, x5, sd, rfl⟩, g3, ds, hds, hdl, _⟩ ⟨rfl, rfl⟩
          refine ⟨_, rfl, _, _, rfl, rfl, .inr ⟨by decide, by decide⟩, _, _, rfl, rfl, .inl ⟨_, rfl, _, _, rfl, rfl, (by show (0 : Int) < 2147483647; decide), ?_⟩⟩
          have hf : (0 : Int) ≤ (sd * 48271 + 69621) % 2147483647 := Int.emod_nonneg _ (by decide)
          refine ⟨_, rfl, .inl ⟨rfl, _, SqL.of hds.at_⟩, _, rfl, _, _, rfl, rfl, ⟨by decide, by decide⟩, d, _, _, rfl, rfl, hds.at_, nsLt (by omega), ⟨_, _, _, _, _, rfl⟩, g3.fresh nd, _, hds.add (Int.ediv_nonneg hf (by decide)), by rw [List.length_append, List.length_singleton]; omega, fun _ => by simp⟩
        · rintro σ H3 ⟨⟨x2, x3, x4, x5, sd, rfl⟩, g3, ds, hds, hdl, hne⟩
          refine ⟨_, rfl, d, _, rfl, SqL.of hds.at_, fun p np => ?_⟩
          exact q _ p ds.reverse ⟨by rw [upd_same, List.map_reverse], fun n hn => hds.pos n (List.mem_reverse.mp hn)⟩ (fun z => hne (by decide) (List.reverse_eq_nil_iff.mp z)) (by rw [List.length_reverse]; omega) (g3.non _ np) (g3.new np)
      · refine ⟨900, rfl, by decide, by decide, for_it walk_range (fun k σ H' => (∃ x2 x3 x4 x5 sd, σ = [some (.ref a), some (.ref d), x2, x3, x4, x5, some (.int sd)]) ∧ Gw D0 H H' ∧ ∃ ds, Ns H' d ds ∧ ds.length ≤ 3906 + k ∧ (0 < k → ds ≠ [])) ⟨⟨_, _, _, _, _, rfl⟩, g, ds, hds, by omega, fun z => absurd z (Nat.lt_irrefl _)⟩ (fun _ _ _ _ _ => trivial) ?_ ?_⟩
        · rintro k y σ H3 H3' hk ⟨⟨x2, x3, x4, x5, sd, rfl⟩, g3, ds, hds, hdl, _⟩ ⟨rfl, rfl⟩
          refine ⟨_, rfl, _, _, rfl, rfl, .inr ⟨by decide, by decide⟩, _, _, rfl, rfl, .inl ⟨_, rfl, _, _, rfl, rfl, (by show (0 : Int) < 2147483647; decide), ?_⟩⟩
          have hf : (0 : Int) ≤ (sd * 48271 + 69621) % 2147483647 := Int.emod_nonneg _ (by decide)
          refine ⟨_, rfl, .inl ⟨rfl, _, SqL.of hds.at_⟩, _, rfl, _, _, rfl, rfl, ⟨by decide, by decide⟩, d, _, _, rfl, rfl, hds.at_, nsLt (by omega), ⟨_, _, _, _, _, rfl⟩, g3.fresh nd, _, hds.add (Int.ediv_nonneg hf (by decide)), by rw [List.length_append, List.length_singleton]; omega, fun _ => by simp⟩
        · rintro σ H3 ⟨⟨x2, x3, x4, x5, sd, rfl⟩, g3, ds, hds, hdl, hne⟩
          refine ⟨_, rfl, d, _, rfl, SqL.of hds.at_, fun p np => ?_⟩
          exact q _ p ds.reverse ⟨by rw [upd_same, List.map_reverse], fun n hn => hds.pos n (List.mem_reverse.mp hn)⟩ (fun z => hne (by decide) (List.reverse_eq_nil_iff.mp z)) (by rw [List.length_reverse]; omega) (g3.non _ np) (g3.new np)
end
end K80
namespace K80
open PySem PySem.Spec PyProof.Rows L2 Gx GxR NdefX
section
variable {P : Program} {w : World} {K : PySem.W.Frag} {mg : Str → Option Value} {base : Heap}
def spLLong : Sp := fun vs H Q _ => ∃ (a : Addr) (ds : List Int), vs = [.ref a] ∧ Ns H a ds ∧ ds ≠ [] ∧ ds.length ≤ 100000 ∧ ∀ H' p, DrAt H' p → H p = none → Gw D0 H H' → Q (.ref p) H'
theorem scLLong : FnScope ["draws", "seed", "found", "k"] ["draws"] (defScope (top 53)) := ⟨rfl, rfl, rfl, by decide +kernel, rfl, by decide +kernel, by decide +kernel⟩
theorem ok_lLong (D : Df K mg "_law_long" (top 53) ["draws"]) (T : Bi mg) : Fn P w K mg base 1 "_law_long" ["draws"] spLLong := by
  refine D.ok scLLong (fun vs H Q E h => ?_) (fun cdv f A outer s H vs Q E hr h => ?_)
  · obtain ⟨a, ds, rfl, _⟩ := h
    rfl
  · obtain ⟨a, ds, rfl, hds, hne, hl, q⟩ := h
    refine ⟨_, (pss_cons (ps_par (i := 1) (j := 2) (by rfl) scLLong.nd rfl rfl (by decide) rfl rfl (pa_cons (pe_op op_add pe_int (pe_op op_mod (pe_callTy call_int1 (by rfl) T.int_ (by decide +kernel) (pa_cons ((pe_ix ix_list (pv 0) (pe_un un_neg pe_int) (fun _ _ => rfl))) pa_nil)) pe_int)) (pa_cons (pe_lst pa_nil) pa_nil)) (by rfl))
      (pss_cons (ps_for PassesOwn.never rfl (pi_range1 rfl T.range_ (pa_cons (pe_int) pa_nil)) (pg_name (i := 3) scLLong.nd rfl (Or.inl rfl)) (pss_cons ((ps_set (i := 1) scLLong.nd rfl (Or.inl rfl) (pe_op op_mod (pe_callTy call_int1 (by rfl) T.int_ (by decide +kernel) (pa_cons (pe_op op_add (pe_op op_mul (pv 1) pe_int) pe_int) pa_nil)) pe_int)))
      (pss_one (ps_expr (pe_bm PySem.F.plainAttrs_list PySem.F.slot_list_append PySem.F.type_list_append mt_append (pv 2) (pa_cons (pe_op op_fdiv (pv 1) pe_int) pa_nil))))))
      (pss_one (ps_ret (pe_op op_cat (pv 2) (pv 0)))))), ?_⟩
    have el : atI (ds.map V.int) (-1) = some (V.int (ds.getLast hne)) := by
      conv => lhs; rw [← List.dropLast_concat_getLast hne, List.map_append]
      exact atI_last _ _
    refine ⟨_, rfl, _, rfl, _, _, _, _, rfl, rfl, SqL.of hds.at_, el, .inl ⟨_, rfl, _, _, rfl, rfl, (by show (0 : Int) < 1000003; decide), _, _, rfl, rfl, Nat.zero_le _, fun d nd => ⟨_, _, rfl, ?_⟩⟩⟩
    have nad : a ≠ d := ne_of_none hds.at_ nd
    refine ⟨6000, rfl, by decide, by decide, for_it walk_range (fun k σ H' => (∃ sd x3, σ = [some (.ref a), some (.int sd), some (.ref d), x3]) ∧ Gw D0 H H' ∧ ∃ es, Ns H' d es ∧ es.length ≤ k) ⟨⟨_, _, rfl⟩, Gw.refl.new nd, [], ⟨upd_same, fun n z => by cases z⟩, Nat.le_refl _⟩ (fun _ _ _ _ _ => trivial) ?_ ?_⟩
    · rintro k y σ H3 H3' hk ⟨⟨sd, x3, rfl⟩, g3, es, hes, hel⟩ ⟨rfl, rfl⟩
      have hf : (0 : Int) ≤ (sd * 48271 + 69621) % 2147483647 := Int.emod_nonneg _ (by decide)
      refine ⟨_, rfl, _, _, rfl, rfl, .inr ⟨by decide, by decide⟩, _, _, rfl, rfl, .inl ⟨_, rfl, _, _, rfl, rfl, (by show (0 : Int) < 2147483647; decide), ?_⟩⟩
      refine ⟨_, rfl, .inl ⟨rfl, _, SqL.of hes.at_⟩, _, rfl, _, _, rfl, rfl, ⟨by decide, by decide⟩, d, _, _, rfl, rfl, hes.at_, nsLt (by omega), ⟨_, _, rfl⟩, g3.fresh nd, _, hes.add (Int.ediv_nonneg hf (by decide)), by rw [List.length_append, List.length_singleton]; omega⟩
    · rintro σ H3 ⟨⟨sd, x3, rfl⟩, g3, es, hes, hel⟩
      have ha3 := g3.oth _ _ hds.at_ (fun _ z => by cases z) (fun z => z)
      refine ⟨_, rfl, _, rfl, _, _, _, _, rfl, rfl, hes.at_, ha3, by rw [List.length_map, List.length_map, sizeLine_eq]; omega, fun p np => ?_⟩
      refine q _ p ⟨es ++ ds, by rw [upd_same, List.map_append], fun n hn => ?_⟩ (g3.non _ np) (g3.new np)
      rcases List.mem_append.mp hn with z | z
      · exact hes.pos n z
      · exact hds.pos n z
def spLPut : Sp := fun vs H Q _ => ∃ (l : List Nat) (v : V) (e : Ed), vs = [.str (S l), v] ∧ EdAt H v e ∧ l.length ≤ 1000000 ∧ e.2.2.length ≤ 100000 ∧ Q (.str (S (putIn l e))) H
theorem scLPut : FnScope ["text", "edit"] ["text", "edit"] (defScope (top 52)) := ⟨rfl, rfl, rfl, by decide +kernel, rfl, by decide +kernel, by decide +kernel⟩
theorem ok_lPut (D : Df K mg "_law_put_in" (top 52) ["text", "edit"]) : Fn P w K mg base 1 "_law_put_in" ["text", "edit"] spLPut := by
  refine D.ok scLPut (fun vs H Q E h => ?_) (fun cdv f A outer s H vs Q E hr h => ?_)
  · obtain ⟨l, v, e, rfl, _⟩ := h
    rfl
  · obtain ⟨l, v, e, rfl, ⟨a, rfl, ha⟩, hl, hc, q⟩ := h
    refine ⟨_, (pss_one (ps_ret (pe_op op_add_str (pe_op op_add_str (pe_slice sl_str (pv 0) po_none (po_some (pe_ix ix_tup (pv 1) (pe_int) (fun _ _ => rfl)))) (pe_ix ix_tup (pv 1) (pe_int) (fun _ _ => rfl))) (pe_slice sl_str (pv 0) (po_some (pe_op op_add (pe_ix ix_tup (pv 1) (pe_int) (fun _ _ => rfl)) (pe_ix ix_tup (pv 1) (pe_int) (fun _ _ => rfl)))) po_none)))), ?_⟩
    have ll : (S l).length ≤ sizeLine := by rw [S_len, sizeLine_eq]; omega
    have z1 : (cutS (S l) none (some ((e.1 : Nat) : Int))).length ≤ l.length := cutS_length _ _ _
    have z2 : (cutS (S l) (some (((e.1 : Nat) : Int) + ((e.2.1 : Nat) : Int))) none).length ≤ l.length := cutS_length _ _ _
    have z3 : (cutS (S l) none (some ((e.1 : Nat) : Int)) ++ S e.2.2 : Str).length ≤ l.length + e.2.2.length := by
      rw [cutS_take, S_add, S_len, List.length_append]
      have : (l.take e.1).length ≤ l.length := by rw [List.length_take]; omega
      omega
    have st := SqT.of (K := K) ha
    refine ⟨_, rfl, _, rfl, _, _, _, _, rfl, rfl, st, rfl, _, rfl, _, rfl, ll, _, rfl, _, _, _, _, rfl, rfl, st, rfl, _, _, rfl, rfl, ?_, _, rfl, _, rfl, _, _, _, _, rfl, rfl, st, rfl, _, rfl, _, _, _, _, rfl, rfl, st, rfl, _, _, rfl, rfl, _, rfl, _, rfl, ll, _, _, rfl, rfl, ?_, ?_⟩
    · rw [sizeLine_eq]
      show (cutS (S l) none (some ((e.1 : Nat) : Int))).length + e.2.2.length ≤ 16777216
      omega
    · rw [sizeLine_eq]
      show (cutS (S l) none (some ((e.1 : Nat) : Int)) ++ S e.2.2 : Str).length + (cutS (S l) (some (((e.1 : Nat) : Int) + ((e.2.1 : Nat) : Int))) none).length ≤ 16777216
      omega
    · show Q (.str ((cutS (S l) none (some ((e.1 : Nat) : Int)) ++ S e.2.2 : Str) ++ cutS (S l) (some (((e.1 : Nat) : Int) + ((e.2.1 : Nat) : Int))) none)) H
      rw [putIn_read]
      exact q
end
end K80
namespace K80
open PySem PySem.Spec PyProof.Rows L2 Gx GxR NdefX
theorem txt8 : ("abc \n\\x;" : Str).cps.toList = [97, 98, 99, 32, 10, 92, 120, 59] := by decide +kernel
theorem txt3 : ("xyz" : Str).cps.toList = [120, 121, 122] := by decide +kernel
theorem txth : ("abcdefgh" : Str).cps.toList = [97, 98, 99, 100, 101, 102, 103, 104] := by decide +kernel
theorem pick_sgn {l : List Nat} (h : ∀ c ∈ l, sgn c) {r : Nat} (hr : r < l.length) : ∃ c, l[r]? = some c ∧ sgn c := ⟨l[r], List.getElem?_eq_getElem hr, h _ (List.getElem_mem hr)⟩
theorem sgn8 : ∀ c ∈ [97, 98, 99, 32, 10, 92, 120, 59], sgn c := by unfold sgn; decide
theorem sgn3 : ∀ c ∈ [120, 121, 122], sgn c := by unfold sgn; decide
theorem sgnh : ∀ c ∈ [97, 98, 99, 100, 101, 102, 103, 104], sgn c := by unfold sgn; decide
def Sgs (l : List Nat) : Prop := ∀ c ∈ l, sgn c
theorem Sgs.sg {l : List Nat} (h : Sgs l) : Sg (S l) := fun c hc => h c (by simpa using hc)
theorem Sgs.snoc {l : List Nat} {c : Nat} (h : Sgs l) (hc : sgn c) : Sgs (l ++ [c]) := fun x hx => by
  rcases List.mem_append.mp hx with z | z
  · exact h x z
  · rw [List.mem_singleton.mp z]; exact hc
theorem join_sizes (l : List Nat) (h : l.length ≤ 100000) : ((l.map fun c => S [c]).map (·.length)).sum + (l.map fun c => S [c]).length * ("" : Str).length ≤ 16777216 := by
  have l0 : ("" : Str).length = 0 := by decide +kernel
  rw [l0, Nat.mul_zero, Nat.add_zero, List.map_map]
  have : ∀ l : List Nat, (l.map ((fun x : Str => x.length) ∘ fun c => S [c])).sum = l.length := fun l => by
    induction l with
    | nil => rfl
    | cons a l ih =>
      rw [List.map_cons, List.sum_cons, ih]
      show 1 + l.length = l.length + 1
      omega
  rw [this]
  omega
section
variable {P : Program} {w : World} {K : PySem.W.Frag} {mg : Str → Option Value} {base : Heap}
def spLEdit : Sp := fun vs H Q _ => ∃ (a n : Nat), vs = [.ref a, .int (n : Nat)] ∧ DrAt H a ∧ n ≤ 100000 ∧ ∀ H' v (e : Ed), EdAt H' v e → e.1 + e.2.1 ≤ n → e.2.1 ≤ 5 → e.2.2.length ≤ 6 → Sgs e.2.2 → DrAt H' a → Gw (fun b => b = a) H H' → Q v H'
theorem scLEdit : FnScope ["draws", "long", "place", "gone", "come", "sign"] ["draws", "long"] (defScope (top 51)) := ⟨rfl, rfl, rfl, by decide +kernel, rfl, by decide +kernel, by decide +kernel⟩
theorem five {r : Nat} (hr : r < 5) : ∃ g : Nat, atI [V.int 0, V.int 0, V.int 1, V.int 2, V.int 5] ((r : Nat) : Int) = some (.int (g : Nat)) ∧ g ≤ 5 := by
  match r, hr with
  | 0, _ => exact ⟨0, rfl, by decide⟩
  | 1, _ => exact ⟨0, rfl, by decide⟩
  | 2, _ => exact ⟨1, rfl, by decide⟩
  | 3, _ => exact ⟨2, rfl, by decide⟩
  | 4, _ => exact ⟨5, rfl, by decide⟩
theorem fiveB {r : Nat} (hr : r < 5) : ∃ g : Nat, atI [V.int 0, V.int 1, V.int 1, V.int 2, V.int 6] ((r : Nat) : Int) = some (.int (g : Nat)) ∧ g ≤ 6 := by
  match r, hr with
  | 0, _ => exact ⟨0, rfl, by decide⟩
  | 1, _ => exact ⟨1, rfl, by decide⟩
  | 2, _ => exact ⟨1, rfl, by decide⟩
  | 3, _ => exact ⟨2, rfl, by decide⟩
  | 4, _ => exact ⟨6, rfl, by decide⟩
theorem min_nat (n p g : Nat) (h : p ≤ n) : (if ((g : Nat) : Int) < ((n : Nat) : Int) - ((p : Nat) : Int) then ((g : Nat) : Int) else ((n : Nat) : Int) - ((p : Nat) : Int)) = ((min (n - p) g : Nat) : Int) := by
  split <;> omega
theorem ok_lEdit (D : Df K mg "_law_edit" (top 51) ["draws", "long"]) (T : Bi mg) (fT : Fn P w K mg base 1 "_law_take" ["draws", "limit"] spLTake) : Fn P w K mg base 2 "_law_edit" ["draws", "long"] spLEdit := by
  refine D.ok scLEdit (fun vs H Q E h => ?_) (fun cdv f A outer s H vs Q E hr h => ?_)
  · obtain ⟨a, n, rfl, _⟩ := h
    rfl
  · obtain ⟨a, n, rfl, hd, hn, q⟩ := h
    refine ⟨_, (pss_cons ((ps_set (i := 2) scLEdit.nd rfl (Or.inl rfl) ((pe_fn fT (by first | exact hr | exact hr.mono (by decide) | exact room_gx hr hA | exact (room_gx hr hA).mono (by decide)) (pa_cons (pv 0) (pa_cons (pe_op op_add (pv 1) pe_int) pa_nil))))))
      (pss_cons ((ps_set (i := 3) scLEdit.nd rfl (Or.inl rfl) ((pe_callB (call_min2 rfl) (by rfl) T.min_ (by decide +kernel) (pa_cons (pe_op op_sub (pv 1) (pv 2)) (pa_cons ((pe_ix ix_list (pe_lst (pa_cons (pe_int) (pa_cons (pe_int) (pa_cons (pe_int) (pa_cons (pe_int) (pa_cons (pe_int) pa_nil)))))) ((pe_fn fT (by first | exact hr | exact hr.mono (by decide) | exact room_gx hr hA | exact (room_gx hr hA).mono (by decide)) (pa_cons (pv 0) (pa_cons (pe_int) pa_nil)))) (fun _ _ => rfl))) pa_nil))))))
      (pss_cons ((ps_set (i := 4) scLEdit.nd rfl (Or.inl rfl) (pe_join pe_str (pe_lc (own := [("sign", 5)]) (g := (gName 5)) rfl scLEdit.nd (pi_range1 rfl T.range_ (pa_cons ((pe_ix ix_list (pe_lst (pa_cons (pe_int) (pa_cons (pe_int) (pa_cons (pe_int) (pa_cons (pe_int) (pa_cons (pe_int) pa_nil)))))) ((pe_fn fT (by first | exact hr | exact hr.mono (by decide) | exact room_gx hr hA | exact (room_gx hr hA).mono (by decide)) (pa_cons (pv 0) (pa_cons (pe_int) pa_nil)))) (fun _ _ => rfl))) pa_nil)) (blkOk_by (own := [("sign", 5)]) (N := ["draws", "long", "place", "gone", "come", "sign"]) (sc := defScope (top 51)) (by decide +kernel))
        (fun _ _ _ _ _ => (pg_name (i := 5) scLEdit.nd rfl (Or.inl rfl))) (fun _ _ _ _ _ => pts_nil) (fun _ _ _ _ _ => pe_ix ix_str pe_str (pe_fn fT (by first | exact hr | exact hr.mono (by decide) | exact room_gx hr hA | exact (room_gx hr hA).mono (by decide)) (pa_cons (pv 0) (pa_cons (pe_int) pa_nil))) (fun _ _ => rfl))))))
      (pss_one (ps_ret (pe_tup (pa_cons (pv 2) (pa_cons (pv 3) (pa_cons (pv 4) pa_nil))))))))), ?_⟩
    refine ⟨_, rfl, _, rfl, _, _, rfl, rfl, a, n + 1, rfl, hd, by omega, fun H1 pl hpl hd1 g1 => ?_⟩
    refine ⟨_, rfl, _, rfl, _, _, rfl, rfl, by rw [sizeLine_eq]; show 5 ≤ _; omega, fun l5 nl5 => ?_⟩
    have g5 : Gw D0 H1 (upd H1 l5 (.lst [.int 0, .int 0, .int 1, .int 2, .int 5])) := Gw.refl.new nl5
    have na5 : ∀ {H' : Hp}, DrAt H1 a → l5 ≠ a := fun ⟨ns, z⟩ e => by rw [e] at nl5; rw [z.at_] at nl5; cases nl5
    refine ⟨_, rfl, a, 5, rfl, hd1.gw g5 (fun z => z), by decide, fun H2 r2 hr2 hd2 g2 => ?_⟩
    obtain ⟨gn, hgn, hg5⟩ := five hr2
    have hl5 : H2 l5 = some (.lst [.int 0, .int 0, .int 1, .int 2, .int 5]) := g2.oth _ _ upd_same (fun _ z => by cases z) (na5 (H' := H2) hd1)
    refine ⟨_, _, _, _, rfl, rfl, SqL.of hl5, hgn, _, _, rfl, ?_⟩
    have em := min_nat n pl gn (by omega)
    have G2 : Gw (fun b => b = a) H H2 := (g1.pure g5).trans g2
    refine ⟨⟨_, rfl⟩, by rw [sizeLine_eq]; show 5 ≤ _; omega, fun l6 nl6 => ?_⟩
    have g6 : Gw D0 H2 (upd H2 l6 (.lst [.int 0, .int 1, .int 1, .int 2, .int 6])) := Gw.refl.new nl6
    have na6 : l6 ≠ a := fun e => by
      obtain ⟨ns, z⟩ := hd2
      rw [e] at nl6; rw [z.at_] at nl6; cases nl6
    refine ⟨_, rfl, a, 5, rfl, hd2.gw g6 (fun z => z), by decide, fun H3 r3 hr3 hd3 g3 => ?_⟩
    obtain ⟨cn, hcn, hc6⟩ := fiveB hr3
    have hl6 : H3 l6 = some (.lst [.int 0, .int 1, .int 1, .int 2, .int 6]) := g3.oth _ _ upd_same (fun _ z => by cases z) na6
    have G3 : Gw (fun b => b = a) H H3 := (G2.pure g6).trans g3
    refine ⟨_, _, _, _, rfl, rfl, SqL.of hl6, hcn, _, rfl, by omega, by omega, fun d nd => ?_⟩
    have nda : d ≠ a := fun e => by
      obtain ⟨ns, z⟩ := hd3
      rw [e] at nd; rw [z.at_] at nd; cases nd
    refine lc_it (walk_range (lo := 0) (n := (((cn : Nat) : Int)).toNat)) (fun i H' => Gw (fun b => b = a) H H' ∧ DrAt H' a ∧ ∃ cs, H' d = some (.lst ((cs.map fun c => S [c]).map V.str)) ∧ cs.length = i ∧ Sgs cs) ⟨G3.new nd, hd3.gw (Gw.refl.new nd : Gw D0 _ _) (fun z => z), [], upd_same, rfl, fun c z => by cases z⟩ (fun _ _ _ _ => trivial) ?_ ?_
    · rintro i y H4 H4' hi ⟨g, hd4, cs, hcs, hlen, hsg⟩ ⟨rfl, rfl⟩
      rw [Int.toNat_natCast] at hi
      refine ⟨rfl, _, rfl, a, 8, rfl, hd4, by decide, fun H5 r5 hr5 hd5 g5' => ?_⟩
      obtain ⟨c, hc, hcg⟩ := pick_sgn sgn8 (r := r5) hr5
      have hcs5 := g5'.oth _ _ hcs (fun _ z => by cases z) nda
      refine ⟨_, _, c, rfl, rfl, le_sizeLine (by decide +kernel), ?_, _, hcs5, ?_, (g.trans g5').fresh (G3.non _ nd), hd5.gw (Gw.refl.put (D := fun b => b = d) rfl hcs5 (fun _ z => by cases z) (fun _ z => by cases z)) (fun z => nda z.symm), cs ++ [c], ?_, by rw [List.length_append, hlen]; rfl, hsg.snoc hcg⟩
      · rw [txt8]
        exact atI_nat hc
      · rw [List.length_map, List.length_map, hlen, sizeLine_eq]
        omega
      · rw [upd_same, List.map_append, List.map_append]
        rfl
    · rintro H4 ⟨g, hd4, cs, hcs, hlen, hsg⟩
      rw [Int.toNat_natCast] at hlen
      refine ⟨_, d, _, rfl, rfl, .inl (SqL.of hcs), join_sizes cs (by omega), ?_⟩
      rw [join_signs]
      refine ⟨_, rfl, _, rfl, _, rfl, by rw [sizeLine_eq]; show 3 ≤ _; omega, fun t nt => ?_⟩
      refine q _ _ (pl, min (n - pl) gn, cs) ⟨t, rfl, ?_⟩ ?_ ?_ ?_ hsg (hd4.gw (Gw.refl.new nt : Gw D0 _ _) (fun z => z)) (g.new nt)
      · rw [upd_same]
        show some (HO.tup [V.int ((pl : Nat)), V.int (if ((gn : Nat) : Int) < ((n : Nat) : Int) - ((pl : Nat) : Int) then ((gn : Nat) : Int) else ((n : Nat) : Int) - ((pl : Nat) : Int)), _]) = _
        rw [em]
        rfl
      · show pl + min (n - pl) gn ≤ n
        omega
      · show min (n - pl) gn ≤ 5
        omega
      · show cs.length ≤ 6
        omega
end
end K80
namespace K80
open PySem PySem.Spec PyProof.Rows L2 Gx GxR NdefX
structure EdsFine (n : Nat) (es : List Ed) : Prop where
  len : es.length ≤ 6
  each : ∀ e ∈ es, e.1 + e.2.1 ≤ n ∧ e.2.1 ≤ 3 ∧ e.2.2.length ≤ 3 ∧ Sgs e.2.2
  apart : ∀ (i : Nat) (e e' : Ed), es[i]? = some e → es[i + 1]? = some e' → e.1 + e.2.1 < e'.1
theorem EdsFine.snoc {n : Nat} {es : List Ed} {e : Ed} (h : EdsFine n es) (l : es.length < 6) (he : e.1 + e.2.1 ≤ n ∧ e.2.1 ≤ 3 ∧ e.2.2.length ≤ 3 ∧ Sgs e.2.2) (hb : ∀ d ∈ es, d.1 + d.2.1 < e.1) : EdsFine n (es ++ [e]) := by
  refine ⟨by rw [List.length_append, List.length_singleton]; omega, fun d hd => ?_, fun i d d' h1 h2 => ?_⟩
  · rcases List.mem_append.mp hd with z | z
    · exact h.each d z
    · rw [List.mem_singleton.mp z]; exact he
  · by_cases c : i + 1 < es.length
    · rw [List.getElem?_append_left (by omega)] at h1 h2
      exact h.apart i d d' h1 h2
    · have hi2 := (List.getElem?_eq_some_iff.mp h2).1
      rw [List.length_append, List.length_singleton] at hi2
      have e1 : i + 1 = es.length := by omega
      rw [List.getElem?_append_left (by omega)] at h1
      rw [List.getElem?_append_right (by omega), e1, Nat.sub_self] at h2
      cases h2
      exact hb d (List.mem_of_getElem? h1)
theorem EdsFine.nil (n : Nat) : EdsFine n [] := ⟨by decide, (fun e z => by cases z), (fun i e e' z => by simp at z)⟩
section
variable {P : Program} {w : World} {K : PySem.W.Frag} {mg : Str → Option Value} {base : Heap}
def spLEdits : Sp := fun vs H Q _ => ∃ (a : Addr) (l : List Nat), vs = [.ref a, .str (S l)] ∧ DrAt H a ∧ l.length ≤ 100000 ∧ ∀ H' v (es : List Ed), EdsAt H' v es → EdsFine l.length es → DrAt H' a → Gw (fun b => b = a) H H' → Q v H'
theorem scLEdits : FnScope ["draws", "text", "found", "place", "gone", "sign"] ["draws", "text"] (defScope (top 54)) := ⟨rfl, rfl, rfl, by decide +kernel, rfl, by decide +kernel, by decide +kernel⟩
theorem ok_lEdits (D : Df K mg "_law_edits" (top 54) ["draws", "text"]) (T : Bi mg) (fT : Fn P w K mg base 1 "_law_take" ["draws", "limit"] spLTake) : Fn P w K mg base 2 "_law_edits" ["draws", "text"] spLEdits := by
  refine D.ok scLEdits (fun vs H Q E h => ?_) (fun cdv f A outer s H vs Q E hr h => ?_)
  · obtain ⟨a, n, rfl, _⟩ := h
    rfl
  · obtain ⟨a, l, rfl, hd, hn, q⟩ := h
    refine ⟨_, (pss_cons (ps_par (i := 2) (j := 3) (by rfl) scLEdits.nd rfl rfl (by decide) rfl rfl (pa_cons (pe_lst pa_nil) (pa_cons ((pe_fn fT (by first | exact hr | exact hr.mono (by decide) | exact room_gx hr hA | exact (room_gx hr hA).mono (by decide)) (pa_cons (pv 0) (pa_cons (pe_int) pa_nil)))) pa_nil)) (by rfl))
      (pss_cons (ps_while PassesOwn.never (PW.pt (pw_and (pt_cmpR op_le (pv 3) (pe_callB call_len_str (by rfl) T.len_ PySem.boot_len (pa_cons (pv 1) pa_nil)) (nomark _)) (pw_and1 (pt_cmpR op_lt (pe_callB call_len_seq (by rfl) T.len_ PySem.boot_len (pa_cons (pv 2) pa_nil)) pe_int (nomark _))))) (pss_cons ((ps_set (i := 4) scLEdits.nd rfl (Or.inl rfl) ((pe_callB (call_min2 rfl) (by rfl) T.min_ (by decide +kernel) (pa_cons (pe_op op_sub (pe_callB call_len_str (by rfl) T.len_ PySem.boot_len (pa_cons (pv 1) pa_nil)) (pv 3)) (pa_cons ((pe_fn fT (by first | exact hr | exact hr.mono (by decide) | exact room_gx hr hA | exact (room_gx hr hA).mono (by decide)) (pa_cons (pv 0) (pa_cons (pe_int) pa_nil)))) pa_nil))))))
      (pss_cons (ps_expr (pe_bm PySem.F.plainAttrs_list PySem.F.slot_list_append PySem.F.type_list_append mt_append (pv 2) (pa_cons (pe_tup (pa_cons (pv 3) (pa_cons (pv 4) (pa_cons (pe_join pe_str (pe_lc (own := [("sign", 5)]) (g := (gName 5)) rfl scLEdits.nd (pi_range1 rfl T.range_ (pa_cons ((pe_fn fT (by first | exact hr | exact hr.mono (by decide) | exact room_gx hr hA | exact (room_gx hr hA).mono (by decide)) (pa_cons (pv 0) (pa_cons (pe_int) pa_nil)))) pa_nil)) (blkOk_by (own := [("sign", 5)]) (N := ["draws", "text", "found", "place", "gone", "sign"]) (sc := defScope (top 54)) (by decide +kernel))
        (fun _ _ _ _ _ => (pg_name (i := 5) scLEdits.nd rfl (Or.inl rfl))) (fun _ _ _ _ _ => pts_nil) (fun _ _ _ _ _ => pe_ix ix_str pe_str (pe_fn fT (by first | exact hr | exact hr.mono (by decide) | exact room_gx hr hA | exact (room_gx hr hA).mono (by decide)) (pa_cons (pv 0) (pa_cons (pe_int) pa_nil))) (fun _ _ => rfl)))) pa_nil)))) pa_nil)))
      (pss_one ((ps_set (i := 3) scLEdits.nd rfl (Or.inl rfl) (pe_op op_add (pe_op op_add (pe_op op_add (pv 3) (pv 4)) pe_int) (pe_fn fT (by first | exact hr | exact hr.mono (by decide) | exact room_gx hr hA | exact (room_gx hr hA).mono (by decide)) (pa_cons (pv 0) (pa_cons (pe_int) pa_nil))))))))))
      (pss_one (ps_ret (pe_callTy call_tuple_of (by rfl) T.tuple_ (by decide +kernel) (pa_cons (pv 2) pa_nil)))))), ?_⟩
    have ll : (S l).length ≤ sizeLine := by rw [S_len, sizeLine_eq]; omega
    refine ⟨Nat.zero_le _, fun fo nfo => ?_⟩
    have nfa : fo ≠ a := fun e => by
      obtain ⟨ns, z⟩ := hd
      rw [e] at nfo; rw [z.at_] at nfo; cases nfo
    have g0 : Gw D0 H (upd H fo (.lst [])) := Gw.refl.new nfo
    refine ⟨_, rfl, a, 4, rfl, hd.gw g0 (fun z => z), by decide, fun H1 p0 hp0 hd1 g1 => ⟨_, _, rfl, ?_⟩⟩
    have G1 : Gw (fun b => b = a) H H1 := (Gw.of0 g0).trans g1
    have hf1 : H1 fo = some (.lst []) := g1.oth _ _ upd_same (fun _ z => by cases z) nfa
    refine ⟨fun n σ H' => ∃ (pl : Nat) (x4 x5 : Option V), σ = [some (.ref a), some (.str (S l)), some (.ref fo), some (.int (pl : Nat)), x4, x5] ∧ Gw (fun b => b = a) H H' ∧ DrAt H' a ∧ ∃ us es, H' fo = some (.lst us) ∧ All2 (EdAt H') us es ∧ EdsFine l.length es ∧ (∀ d ∈ es, d.1 + d.2.1 < pl) ∧ n + es.length = 6, ⟨6, p0, none, none, rfl, G1, hd1, [], [], hf1, All2.nil, EdsFine.nil _, (fun d z => by cases z), rfl⟩, ?_⟩
    rintro n σ H2 ⟨pl, x4, x5, rfl, g, hd2, us, es, hfo, hus, fine, hb, hn6⟩
    refine ⟨_, rfl, _, rfl, _, rfl, ll, _, _, rfl, rfl, _, rfl, ?_⟩
    by_cases c1 : pl ≤ l.length
    · rw [decide_eq_true (show ((pl : Nat) : Int) ≤ (((S l).length : Nat) : Int) by rw [S_len]; omega)]
      refine iteT ⟨_, rfl, fo, us, rfl, .inl (SqL.of hfo), _, _, rfl, rfl, _, rfl, ?_⟩
      by_cases c2 : us.length < 6
      · rw [decide_eq_true (show ((us.length : Nat) : Int) < 6 by omega)]
        have les : es.length < 6 := by rw [← hus.len]; exact c2
        refine iteT ⟨fun σ2 H2 => ∃ (pl : Nat) (x4 x5 : Option V), σ2 = [some (.ref a), some (.str (S l)), some (.ref fo), some (.int (pl : Nat)), x4, x5] ∧ Gw (fun b => b = a) H H2 ∧ DrAt H2 a ∧ ∃ us es, H2 fo = some (.lst us) ∧ All2 (EdAt H2) us es ∧ EdsFine l.length es ∧ (∀ d ∈ es, d.1 + d.2.1 < pl) ∧ (n - 1) + es.length = 6, fun σ2 H2 z => ⟨n - 1, by omega, z⟩, ?_⟩
        refine ⟨_, rfl, _, rfl, ll, _, rfl, _, _, rfl, rfl, _, rfl, a, 4, rfl, hd2, by decide, fun H3 gn hgn hd3 g3 => ?_⟩
        have hfo3 := g3.oth _ _ hfo (fun _ z => by cases z) nfa
        refine ⟨_, _, rfl, ?_⟩
        have em := min_nat l.length pl gn c1
        refine ⟨_, rfl, .inl ⟨rfl, _, SqL.of hfo3⟩, _, rfl, _, rfl, ⟨_, rfl⟩, _, rfl, a, 4, rfl, hd3, by decide, fun H4 cn hcn hd4 g4 => ?_⟩
        have hfo4 := g4.oth _ _ hfo3 (fun _ z => by cases z) nfa
        have G4 := (g.trans g3).trans g4
        refine ⟨_, rfl, by omega, by omega, fun d nd => ?_⟩
        have nda : d ≠ a := fun e => by
          obtain ⟨ns, z⟩ := hd4
          rw [e] at nd; rw [z.at_] at nd; cases nd
        have nfd : fo ≠ d := ne_of_none hfo4 nd
        have g24 : Gw (fun b => b = a) H2 H4 := g3.trans g4
        refine lc_it (walk_range (lo := 0) (n := (((cn : Nat) : Int)).toNat)) (fun i H' => Gw (fun b => b = a) H H' ∧ Gw (fun b => b = a ∨ b = d) H2 H' ∧ DrAt H' a ∧ H' fo = some (.lst us) ∧ ∃ cs, H' d = some (.lst ((cs.map fun c => S [c]).map V.str)) ∧ cs.length = i ∧ Sgs cs) ⟨G4.new nd, (g24.mono fun _ z => .inl z).new nd, hd4.gw (Gw.refl.new nd : Gw D0 _ _) (fun z => z), by rw [upd_ne nfd]; exact hfo4, [], upd_same, rfl, fun c z => by cases z⟩ (fun _ _ _ _ => trivial) ?_ ?_
        · rintro i y H5 H5' hi ⟨g5, gb, hd5, hfo5, cs, hcs, hlen, hsg⟩ ⟨rfl, rfl⟩
          rw [Int.toNat_natCast] at hi
          refine ⟨rfl, _, rfl, a, 3, rfl, hd5, by decide, fun H6 r6 hr6 hd6 g6 => ?_⟩
          obtain ⟨c, hc, hcg⟩ := pick_sgn sgn3 (r := r6) hr6
          have hcs6 := g6.oth _ _ hcs (fun _ z => by cases z) nda
          have hfo6 := g6.oth _ _ hfo5 (fun _ z => by cases z) nfa
          have gd : Gw (fun b => b = d) H6 (upd H6 d (.lst ((cs.map fun c => S [c]).map V.str ++ [.str (S [c])]))) := Gw.refl.put rfl hcs6 (fun _ z => by cases z) (fun _ z => by cases z)
          refine ⟨_, _, c, rfl, rfl, le_sizeLine (by decide +kernel), ?_, _, hcs6, ?_, (g5.trans g6).fresh (G4.non _ nd), (gb.trans (g6.mono fun _ z => .inl z)).trans (gd.mono fun _ z => .inr z), hd6.gw gd (fun z => nda z.symm), by rw [upd_ne nfd]; exact hfo6, cs ++ [c], ?_, by rw [List.length_append, hlen]; rfl, hsg.snoc hcg⟩
          · rw [txt3]
            exact atI_nat hc
          · rw [List.length_map, List.length_map, hlen, sizeLine_eq]
            omega
          · rw [upd_same, List.map_append, List.map_append]
            rfl
        · rintro H5 ⟨g5, gb, hd5, hfo5, cs, hcs, hlen, hsg⟩
          rw [Int.toNat_natCast] at hlen
          refine ⟨_, d, _, rfl, rfl, .inl (SqL.of hcs), join_sizes cs (by omega), ?_⟩
          rw [join_signs]
          refine ⟨by rw [sizeLine_eq]; show 3 ≤ _; omega, fun t nt => ?_⟩
          have nft : fo ≠ t := ne_of_none hfo5 nt
          have e3 : [V.int ((pl : Nat)), V.int (if ((gn : Nat) : Int) < (((S l).length : Nat) : Int) - ((pl : Nat) : Int) then ((gn : Nat) : Int) else (((S l).length : Nat) : Int) - ((pl : Nat) : Int)), V.str (S cs)] = edV (pl, min (l.length - pl) gn, cs) := by
            rw [S_len, em]
            rfl
          refine ⟨fo, us, _, rfl, rfl, by rw [upd_ne nft]; exact hfo5, by rw [sizeLine_eq]; omega, ?_⟩
          have gt : Gw D0 H5 (upd H5 t (.tup (edV (pl, min (l.length - pl) gn, cs)))) := Gw.refl.new nt
          have gf : Gw (fun b => b = fo) (upd H5 t (.tup (edV (pl, min (l.length - pl) gn, cs)))) (upd (upd H5 t (.tup (edV (pl, min (l.length - pl) gn, cs)))) fo (.lst (us ++ [.ref t]))) := Gw.refl.put rfl (by rw [upd_ne nft]; exact hfo5) (fun _ z => by cases z) (fun _ z => by cases z)
          rw [← e3] at gt gf
          have hus7 := ((hus.mono fun _ _ z => (z.gw gb).gw gt).mono fun _ _ z => z.gw gf).snoc (show EdAt _ (.ref t) (pl, min (l.length - pl) gn, cs) from ⟨t, rfl, by rw [upd_ne nft.symm, upd_same, e3]⟩)
          refine ⟨_, rfl, _, rfl, _, _, rfl, rfl, _, _, rfl, rfl, _, rfl, a, 5, rfl, (hd5.gw gt (fun z => z)).gw gf (fun z => nfa z.symm), by decide, fun H8 r8 hr8 hd8 g8 => ?_⟩
          refine ⟨_, _, rfl, rfl, pl + min (l.length - pl) gn + 1 + r8, some (.int (if ((gn : Nat) : Int) < (((S l).length : Nat) : Int) - ((pl : Nat) : Int) then ((gn : Nat) : Int) else (((S l).length : Nat) : Int) - ((pl : Nat) : Int))), x5, ?_, ((g5.pure gt).fresh nfo).trans g8, hd8, us ++ [.ref t], es ++ [(pl, min (l.length - pl) gn, cs)], g8.oth _ _ upd_same (fun _ z => by cases z) nfa, hus7.mono fun _ _ z => z.gw g8, ?_, ?_, ?_⟩
          · have e8 : ((pl : Nat) : Int) + (if ((gn : Nat) : Int) < (((S l).length : Nat) : Int) - ((pl : Nat) : Int) then ((gn : Nat) : Int) else (((S l).length : Nat) : Int) - ((pl : Nat) : Int)) + 1 + ((r8 : Nat) : Int) = ((pl + min (l.length - pl) gn + 1 + r8 : Nat) : Int) := by
              rw [S_len, em]
              omega
            rw [← e8]
            rfl
          · refine fine.snoc les ⟨?_, ?_, ?_, hsg⟩ hb
            · show pl + min (l.length - pl) gn ≤ l.length
              omega
            · show min (l.length - pl) gn ≤ 3
              omega
            · show cs.length ≤ 3
              omega
          · intro d hd9
            rcases List.mem_append.mp hd9 with z | z
            · have := hb d z
              omega
            · rw [List.mem_singleton.mp z]
              show pl + min (l.length - pl) gn < _
              omega
          · rw [List.length_append, List.length_singleton]
            omega
      · rw [decide_eq_false (show ¬ ((us.length : Nat) : Int) < 6 by omega)]
        refine iteF ⟨_, rfl, fo, us, rfl, .inl ⟨SqL.of hfo, fun p np => ?_⟩⟩
        have gp : Gw D0 H2 (upd H2 p (.tup us)) := Gw.refl.new np
        exact q _ _ es ⟨p, us, rfl, upd_same, hus.mono fun _ _ z => z.gw gp⟩ fine (hd2.gw gp (fun z => z)) (g.pure gp)
    · rw [decide_eq_false (show ¬ ((pl : Nat) : Int) ≤ (((S l).length : Nat) : Int) by rw [S_len]; omega)]
      refine iteF ⟨_, rfl, fo, us, rfl, .inl ⟨SqL.of hfo, fun p np => ?_⟩⟩
      have gp : Gw D0 H2 (upd H2 p (.tup us)) := Gw.refl.new np
      exact q _ _ es ⟨p, us, rfl, upd_same, hus.mono fun _ _ z => z.gw gp⟩ fine (hd2.gw gp (fun z => z)) (g.pure gp)
end
end K80
namespace K80
open PySem PySem.Spec PyProof.Rows L2 Gx GxR NdefX
open PySem.SeqAt
/-! ### operations as data; several hands -/
def dR : Option Id → PyData
  | none => .none
  | some i => dI i
def dO (o : Op) : PyData := .tuple (.str o.kind.s :: dI o.id :: .int (o.prev : Nat) :: (match o.kind with
  | .put => [dR o.ref, .str (S [o.sign])]
  | _ => [dR o.ref]))
structure OpS (o : Op) : Prop where
  id : PyData.strOk o.id.2 = true
  ref : ∀ r, o.ref = some r → PyData.strOk r.2 = true
  sign : PyData.strOk (S [o.sign]) = true
theorem dR_at {K : PySem.W.Frag} {H : Hp} {v : V} : ∀ {r : Option Id}, RefAt H v r → Dp K H v (dR r)
  | none, h => by rw [show v = .non from h]; exact .non
  | some _, h => dI_at h
theorem dO_at {K : PySem.W.Frag} {H : Hp} {v : V} {o : Op} (h : OpAt H v o) : Dp K H v (dO o) := by
  obtain ⟨a, vi, vr, rfl, ha, hi, hr⟩ := h
  refine .tup (SqT.of ha) ?_
  unfold opT restT
  cases hk : o.kind with
  | put => exact .cons (.str _) (.cons (dI_at hi) (.cons (.int _) (.cons (dR_at hr) (.cons (.str _) .nil))))
  | cut => exact .cons (.str _) (.cons (dI_at hi) (.cons (.int _) (.cons (dR_at hr) .nil)))
  | undo => exact .cons (.str _) (.cons (dI_at hi) (.cons (.int _) (.cons (dR_at hr) .nil)))
theorem kd_ok (k : Kd) : PyData.strOk k.s = true := by cases k <;> decide +kernel
theorem lay_dR {r : Option Id} (h : ∀ i, r = some i → PyData.strOk i.2 = true) : PyData.canLay0 (dR r) = true ∧ (dR r).depth ≤ 1 := by
  cases r with
  | none => exact ⟨by simp [dR, PyData.canLay0], by simp [dR, PyData.depth]⟩
  | some i =>
    have := h i rfl
    unfold dR dI
    exact ⟨by simp [PyData.canLay0, PyData.canLayAll0, this], by simp [PyData.depth, PyData.depthAll]⟩
theorem lay_dO {o : Op} (h : OpS o) : PyData.canLay0 (dO o) = true ∧ (dO o).depth ≤ 2 := by
  obtain ⟨h1, h2⟩ := lay_dR (r := o.ref) h.ref
  have h3 := h.id
  have h4 := h.sign
  have h5 := kd_ok o.kind
  unfold dO
  cases hk : o.kind with
  | put =>
    rw [hk] at h5
    refine ⟨?_, ?_⟩
    · simp only [PyData.canLay0, PyData.canLayAll0, h5, h1, h4]
      unfold dI
      simp [PyData.canLay0, PyData.canLayAll0, h3]
    · simp only [PyData.depth, PyData.depthAll]
      unfold dI
      simp [PyData.depth, PyData.depthAll]
      omega
  | cut =>
    rw [hk] at h5
    refine ⟨?_, ?_⟩
    · simp only [PyData.canLay0, PyData.canLayAll0, h5, h1]
      unfold dI
      simp [PyData.canLay0, PyData.canLayAll0, h3]
    · simp only [PyData.depth, PyData.depthAll]
      unfold dI
      simp [PyData.depth, PyData.depthAll]
      omega
  | undo =>
    rw [hk] at h5
    refine ⟨?_, ?_⟩
    · simp only [PyData.canLay0, PyData.canLayAll0, h5, h1]
      unfold dI
      simp [PyData.canLay0, PyData.canLayAll0, h3]
    · simp only [PyData.depth, PyData.depthAll]
      unfold dI
      simp [PyData.depth, PyData.depthAll]
      omega
theorem dpOps {K : PySem.W.Frag} {H : Hp} : ∀ {us : List V} {l : List Op}, All2 (OpAt H) us l → DpAll K H us (l.map dO)
  | [], l, h => by rw [All2.nil_inv h]; exact .nil
  | u :: us, l, h => by
    obtain ⟨i, l', rfl, h1, t⟩ := All2.uncons h
    exact .cons (dO_at h1) (dpOps t)
theorem shaped_ops {l : List Op} (h : ∀ o ∈ l, OpS o) : shaped (.list (l.map dO)) = true := by
  have a : ∀ l : List Op, (∀ o ∈ l, OpS o) → PyData.canLayAll0 (l.map dO) = true ∧ PyData.depthAll (l.map dO) ≤ 2 := by
    intro l
    induction l with
    | nil => intro _; exact ⟨rfl, Nat.zero_le _⟩
    | cons o l ih =>
      intro h
      obtain ⟨h1, h2⟩ := ih fun j hj => h j (List.mem_cons_of_mem _ hj)
      obtain ⟨h3, h4⟩ := lay_dO (h o List.mem_cons_self)
      refine ⟨?_, ?_⟩
      · rw [List.map_cons, PyData.canLayAll0, h1, h3]
        rfl
      · rw [List.map_cons, PyData.depthAll]
        exact Nat.max_le.mpr ⟨h4, h2⟩
  obtain ⟨h1, h2⟩ := a l h
  unfold shaped
  rw [PyData.canLay0, h1, PyData.depth]
  simp
  omega
theorem shaped_nil : shaped (.list []) = true := by
  unfold shaped
  simp [PyData.canLay0, PyData.canLayAll0, PyData.depth, PyData.depthAll]
theorem eqv_nil (ds : List PyData) : PyData.eqv (.list ds) (.list []) = ds.isEmpty := by
  cases ds <;> simp [PyData.eqv, PyData.eqvAll]
/-- the hands of a list, apart from one another -/
structure Hands (C CS CW : Addr) (H : Hp) (Bs : List HA) (ms : List Hm) : Prop where
  at_ : All2 (HandAt C CS CW H) Bs ms
  apart : ∀ (i j : Nat) (B B' : HA), i ≠ j → Bs[i]? = some B → Bs[j]? = some B' → ∀ b ∈ B.fp, b ∉ B'.fp
def inFp (Bs : List HA) (b : Addr) : Prop := ∃ B ∈ Bs, b ∈ B.fp
theorem Hands.gw {C CS CW : Addr} {D : Addr → Prop} {H H' : Hp} {Bs : List HA} {ms : List Hm} (h : Hands C CS CW H Bs ms) (g : Gw D H H') (n : ∀ b, inFp Bs b → ¬ D b) : Hands C CS CW H' Bs ms :=
  ⟨⟨h.at_.len, fun i B m e1 e2 => (h.at_.at_ i B m e1 e2).gw g fun b hb => n b ⟨B, List.mem_of_getElem? e1, hb⟩⟩, h.apart⟩
theorem Hands.gw0 {C CS CW : Addr} {H H' : Hp} {Bs : List HA} {ms : List Hm} (h : Hands C CS CW H Bs ms) (g : Gw D0 H H') : Hands C CS CW H' Bs ms := h.gw g fun _ _ z => z
theorem Hands.live {C CS CW : Addr} {H : Hp} {Bs : List HA} {ms : List Hm} (h : Hands C CS CW H Bs ms) {b : Addr} (hb : inFp Bs b) : H b ≠ none := by
  obtain ⟨B, hB, hb⟩ := hb
  obtain ⟨i, hi⟩ := List.mem_iff_getElem?.mp hB
  obtain ⟨m, hm, h1⟩ := h.at_.get hi
  exact hfp_live h1 hb
/-- one hand has changed -/
theorem Hands.set {C CS CW : Addr} {H H' : Hp} {Bs : List HA} {ms : List Hm} {i : Nat} {B B' : HA} {m' : Hm} (h : Hands C CS CW H Bs ms) (hi : Bs[i]? = some B) (hB : HandAt C CS CW H' B' m') (hf : ∀ b ∈ B'.fp, b ∈ B.fp ∨ H b = none) (g : Gw (fun b => b ∈ B.fp) H H') :
    Hands C CS CW H' (Bs.set i B') (ms.set i m') := by
  obtain ⟨hl, _⟩ := List.getElem?_eq_some_iff.mp hi
  have hlm : i < ms.length := by rw [← h.at_.len]; exact hl
  refine ⟨⟨by rw [List.length_set, List.length_set]; exact h.at_.len, fun j X m e1 e2 => ?_⟩, fun j k X Y hjk e1 e2 b hb hb2 => ?_⟩
  · by_cases e : i = j
    · subst e
      rw [List.getElem?_set_self hl] at e1
      rw [List.getElem?_set_self hlm] at e2
      cases e1
      cases e2
      exact hB
    · rw [List.getElem?_set_ne e] at e1 e2
      exact (h.at_.at_ j X m e1 e2).gw g fun b hb z => h.apart i j B X e hi e1 b z hb
  · have live : ∀ {j : Nat} {X : HA}, Bs[j]? = some X → b ∈ X.fp → H b ≠ none := fun e z => h.live ⟨_, List.mem_of_getElem? e, z⟩
    by_cases ej : i = j
    · by_cases ek : i = k
      · exact hjk (ej.symm.trans ek)
      · rw [← ej, List.getElem?_set_self hl] at e1
        rw [List.getElem?_set_ne ek] at e2
        cases e1
        rcases hf b hb with z | z
        · exact h.apart i k B Y ek hi e2 b z hb2
        · exact live e2 hb2 z
    · rw [List.getElem?_set_ne ej] at e1
      by_cases ek : i = k
      · rw [← ek, List.getElem?_set_self hl] at e2
        cases e2
        rcases hf b hb2 with z | z
        · exact h.apart i j B X ej hi e1 b z hb
        · exact live e1 hb z
      · rw [List.getElem?_set_ne ek] at e2
        exact h.apart j k X Y hjk e1 e2 b hb hb2
theorem fp_set {Bs : List HA} {i : Nat} {B B' : HA} {H : Hp} (hi : Bs[i]? = some B) (hf : ∀ b ∈ B'.fp, b ∈ B.fp ∨ H b = none) {b : Addr} (hb : inFp (Bs.set i B') b) : inFp Bs b ∨ H b = none := by
  obtain ⟨X, hX, hb⟩ := hb
  obtain ⟨j, hj⟩ := List.mem_iff_getElem?.mp hX
  obtain ⟨hl, _⟩ := List.getElem?_eq_some_iff.mp hi
  by_cases e : i = j
  · subst e
    rw [List.getElem?_set_self hl] at hj
    cases hj
    exact (hf b hb).imp (fun z => ⟨B, List.mem_of_getElem? hi, z⟩) id
  · rw [List.getElem?_set_ne e] at hj
    exact .inl ⟨X, List.mem_of_getElem? hj, hb⟩
end K80
namespace K80
open PySem PySem.Spec PyProof.Rows L2 Gx GxR NdefX
open PySem.SeqAt
def Heard (m m' : Hm) (ops : List Op) : Prop := ∃ L : List Op, L.Perm ops ∧ m' = { m with site := L.foldl takeM m.site }
def HeardFit (m : Hm) (ops : List Op) : Prop := ∀ L : List Op, L.Perm ops → ∀ (k : Nat) (o : Op), L[k]? = some o → TakeFit ((L.take k).foldl takeM m.site) o
theorem seqI {r n : Nat} (h : r < n) : PySem.seqIndex? ((r : Nat) : Int) n = some r := (ixN_seq (by
  unfold ixN
  rw [if_pos (by omega), if_pos (by omega), Int.toNat_natCast])).1
theorem All2.erase {α β : Type} {R : α → β → Prop} {xs : List α} {ys : List β} (h : All2 R xs ys) (k : Nat) : All2 R (xs.eraseIdx k) (ys.eraseIdx k) := by
  rw [List.eraseIdx_eq_take_drop_succ, List.eraseIdx_eq_take_drop_succ]
  exact (h.take k).append (h.drop (k + 1))
theorem perm_erase {α : Type} {l : List α} {k : Nat} {x : α} (h : l[k]? = some x) : (x :: l.eraseIdx k).Perm l := by
  obtain ⟨hk, e⟩ := List.getElem?_eq_some_iff.mp h
  rw [List.eraseIdx_eq_take_drop_succ]
  have e2 : l = l.take k ++ x :: l.drop (k + 1) := by
    conv => lhs; rw [← List.take_append_drop k l, List.drop_eq_getElem_cons hk, e]
  conv => rhs; rw [e2]
  exact List.perm_middle.symm
section
variable {P : Program} {w : World} {K : PySem.W.Frag} {mg : Str → Option Value} {base : Heap}
variable {C CS CW : Addr}
def spHeard (C CS CW : Addr) (t : Tbs) : Sp := fun vs H Q _ => ∃ (a hl ol : Addr) (Bs : List HA) (ms : List Hm) (us : List V) (ops : List Op), vs = [.ref a, .ref hl, .ref ol] ∧ DrAt H a ∧ H hl = some (.lst (Bs.map fun B => V.ref B.p)) ∧ H ol = some (.lst us) ∧ All2 (OpAt H) us ops ∧
  Hands C CS CW H Bs ms ∧ (∀ o ∈ ops, OpS o) ∧ ops.length ≤ 100000 ∧ (∀ m ∈ ms, HeardFit m ops) ∧ hl ≠ a ∧ ol ≠ a ∧ (∀ b, inFp Bs b → b ≠ a ∧ b ≠ hl ∧ b ≠ ol) ∧ Tb t H ∧
  ∀ H' Bs' ms', Hands C CS CW H' Bs' ms' → Bs'.map HA.p = Bs.map HA.p → (∀ b, inFp Bs' b → inFp Bs b ∨ H b = none) → All2 (fun m m' => Heard m m' ops) ms ms' → DrAt H' a → Gw (fun b => b = a ∨ inFp Bs b) H H' → Q .non H'
theorem scHeard : FnScope ["draws", "hands", "operations", "hand", "left"] ["draws", "hands", "operations"] (defScope (top 55)) := ⟨rfl, rfl, rfl, by decide +kernel, rfl, by decide +kernel, by decide +kernel⟩
theorem ok_heard {t : Tbs} (D : Df K mg "_law_heard" (top 55) ["draws", "hands", "operations"]) (L : KHand K mg C) (LS : KSite K mg CS) (T : Bi mg) (fT : Fn P w K mg base 1 "_law_take" ["draws", "limit"] spLTake) (mT : Mt P w K mg base CS 5 "take" ["self", "operation"] (spTake CS CW t)) :
    Fn P w K mg base 6 "_law_heard" ["draws", "hands", "operations"] (spHeard C CS CW t) := by
  refine D.ok scHeard (fun vs H Q E h => ?_) (fun cdv f A0 outer s H vs Q E hr h => ?_)
  · obtain ⟨a, _, _, _, _, _, _, rfl, _⟩ := h
    rfl
  · obtain ⟨a, hl, ol, Bs, ms, us, ops, rfl, hd, hhl, hol, hus, hh, os, lops, fit, nha, noa, sep, tb, q⟩ := h
    refine ⟨_, (pss_one (ps_for PassesOwn.never rfl (pi_list (pv 1)) (pg_name (i := 3) scHeard.nd rfl (Or.inl rfl)) (pss_cons ((ps_set (i := 4) scHeard.nd rfl (Or.inl rfl) ((pe_callTy call_list_of (by rfl) T.list_ (by decide +kernel) (pa_cons (pv 2) pa_nil)))))
      (pss_one (ps_while PassesOwn.never (pt_cmpR (op_neD hr.units) (pv 4) (pe_lst pa_nil) (nomark _)) (pss_one (ps_expr (pe_mth mT (by first | exact hr | exact hr.mono (by decide) | exact room_gx hr hA | exact (room_gx hr hA).mono (by decide)) ((pe_fld (pv 3) rfl)) (pa_cons ((pe_bm PySem.F.plainAttrs_list PySem.F.slot_list_pop PySem.F.type_list_pop mt_popAt (pv 4) (pa_cons ((pe_fn fT (by first | exact hr | exact hr.mono (by decide) | exact room_gx hr hA | exact (room_gx hr hA).mono (by decide)) (pa_cons (pv 0) (pa_cons ((pe_callB (call_min2 rfl) (by rfl) T.min_ (by decide +kernel) (pa_cons (pe_int) (pa_cons ((pe_callB call_len_seq (by rfl) T.len_ PySem.boot_len (pa_cons (pv 4) pa_nil))) pa_nil)))) pa_nil)))) pa_nil))) pa_nil))))))))), ?_⟩
    have lB : (Bs.map fun B => V.ref B.p).length = Bs.length := List.length_map ..
    refine ⟨_, rfl, hl, rfl, ⟨_, SqL.of hhl⟩, for_it (walk_list (xs := Bs.map fun B => V.ref B.p)) (fun j σ H' => (∃ x3 x4, σ = [some (.ref a), some (.ref hl), some (.ref ol), x3, x4]) ∧ Gw (fun b => b = a ∨ inFp Bs b) H H' ∧ DrAt H' a ∧ ∃ Bs' ms', Hands C CS CW H' Bs' ms' ∧ Bs'.map HA.p = Bs.map HA.p ∧ (∀ b, inFp Bs' b → inFp Bs b ∨ H b = none) ∧ ms'.length = ms.length ∧ (∀ k m m', k < j → ms[k]? = some m → ms'[k]? = some m' → Heard m m' ops) ∧ (∀ k, j ≤ k → ms'[k]? = ms[k]?)) ⟨⟨_, _, rfl⟩, Gw.refl, hd, Bs, ms, hh, rfl, (fun b z => .inl z), rfl, (fun k m m' z => absurd z (Nat.not_lt_zero _)), fun k _ => rfl⟩ (fun j σ H' _ z => SqL.of (z.2.1.oth _ _ hhl (fun _ z => by cases z) (fun z => z.elim nha fun y => (sep _ y).2.1 rfl))) ?_ ?_⟩
    · rintro j y σ H1 H1' hj ⟨⟨x3, x4, rfl⟩, g, hd1, Bs1, ms1, hh1, ep, ef, em, hdone, htodo⟩ ⟨rfl, hy⟩
      have hol1 : H1' ol = some (.lst us) := g.oth _ _ hol (fun _ z => by cases z) (fun z => z.elim noa fun y => (sep _ y).2.2 rfl)
      have hus1 : All2 (OpAt H1') us ops := hus.mono fun _ _ z => z.gw g
      have hjB : j < Bs.length := by rw [← lB]; exact hj
      have hjm : j < ms.length := by
        have e1 : Bs1.length = Bs.length := by have := congrArg List.length ep; simpa using this
        have := hh1.at_.len
        omega
      obtain ⟨m0, hm0⟩ : ∃ m0, ms[j]? = some m0 := ⟨_, List.getElem?_eq_getElem hjm⟩
      have hm1 : ms1[j]? = some m0 := by rw [htodo j (Nat.le_refl _), hm0]
      obtain ⟨B1, hB1, hBm⟩ := hh1.at_.get' hm1
      have ey : y = V.ref B1.p := by
        have e1 : (Bs1.map HA.p)[j]? = (Bs.map HA.p)[j]? := by rw [ep]
        rw [List.getElem?_map, List.getElem?_map, hB1] at e1
        rw [List.getElem?_map] at hy
        cases hq : Bs[j]? with
        | none => rw [hq] at hy; cases hy
        | some X =>
          rw [hq] at hy e1
          have e2 : B1.p = X.p := Option.some.inj e1
          rw [e2]
          exact (Option.some.inj hy).symm
      subst ey
      have fit0 := fit m0 (List.mem_of_getElem? hm0)
      refine ⟨_, rfl, ol, us, rfl, .inl (SqL.of hol1), fun lf nlf => ?_⟩
      have g1 : Gw D0 H1' (upd H1' lf (.lst us)) := Gw.refl.new nlf
      have nlfH := g.non _ nlf
      have nlfa : lf ≠ a := fun e => by
        obtain ⟨ns, z⟩ := hd1
        rw [e] at nlf; rw [z.at_] at nlf; cases nlf
      have nlffp : ¬ inFp Bs lf := fun z => hh.live z nlfH
      refine ⟨fun n σ H' => ∃ (Bs2 : List HA) (ms2 : List Hm) (B2 : HA) (L0 rest : List Op) (vs2 : List V), σ = [some (.ref a), some (.ref hl), some (.ref ol), some (.ref B1.p), some (.ref lf)] ∧ Gw (fun b => b = a ∨ inFp Bs b) H H' ∧ DrAt H' a ∧ Hands C CS CW H' Bs2 ms2 ∧ Bs2.map HA.p = Bs.map HA.p ∧ (∀ b, inFp Bs2 b → inFp Bs b ∨ H b = none) ∧ ¬ inFp Bs2 lf ∧ ms2.length = ms.length ∧ (∀ k m m', k < j → ms[k]? = some m → ms2[k]? = some m' → Heard m m' ops) ∧ (∀ k, j < k → ms2[k]? = ms[k]?) ∧
          Bs2[j]? = some B2 ∧ B2.p = B1.p ∧ ms2[j]? = some { m0 with site := L0.foldl takeM m0.site } ∧ H' lf = some (.lst vs2) ∧ All2 (OpAt H') vs2 rest ∧ (L0 ++ rest).Perm ops ∧ n = rest.length,
        ⟨ops.length, Bs1, ms1, B1, [], ops, us, rfl, (g.pure g1), hd1.gw g1 (fun z => z), hh1.gw0 g1, ep, ef, (fun z => hh1.live z nlf), em, hdone, (fun k hk => htodo k (by omega)), hB1, rfl, hm1, upd_same, hus1.mono fun _ _ z => z.gw g1, List.Perm.refl _, rfl⟩, ?_⟩
      rintro n σ H2 ⟨Bs2, ms2, B2, L0, rest, vs2, rfl, g2, hd2, hh2, ep2, ef2, nlf2, em2, hdone2, htodo2, hB2, eB2, hm2, hlf2, hvs2, perm, rfl⟩
      have os2 : ∀ o ∈ rest, OpS o := fun o ho => os o (perm.mem_iff.mp (List.mem_append_right _ ho))
      refine ⟨_, rfl, Nat.zero_le _, fun e ne => ?_⟩
      have ge : Gw D0 H2 (upd H2 e (.lst [])) := Gw.refl.new ne
      have hlfe := ge.oth _ _ hlf2 (fun _ z => by cases z) (fun z => z)
      have hvse : All2 (OpAt (upd H2 e (.lst []))) vs2 rest := hvs2.mono fun _ _ z => z.gw ge
      refine ⟨.list (rest.map dO), .list [], .lst (SqL.of hlfe) (dpOps hvse), .lst (SqL.of upd_same) .nil, shaped_ops os2, shaped_nil, _, rfl, ?_⟩
      rw [eqv_nil]
      cases rest with
      | nil =>
        refine iteF ?_
        rw [List.append_nil] at perm
        refine ⟨⟨_, _, rfl⟩, g2.pure ge, hd2.gw ge (fun z => z), Bs2, ms2, hh2.gw0 ge, ep2, ef2, em2, fun k m m' hk h1 h2 => ?_, fun k hk => htodo2 k (by omega)⟩
        by_cases e : k = j
        · subst e
          rw [hm0] at h1
          rw [hm2] at h2
          cases h1
          cases h2
          exact ⟨L0, perm, rfl⟩
        · exact hdone2 k m m' (by omega) h1 h2
      | cons o0 rest0 =>
        have h2e := hh2.gw0 ge
        have hB2e := h2e.at_.at_ j B2 _ hB2 hm2
        refine iteT ⟨fun σ' H' => ∃ (Bs2 : List HA) (ms2 : List Hm) (B2 : HA) (L0 rest : List Op) (vs2 : List V), σ' = [some (.ref a), some (.ref hl), some (.ref ol), some (.ref B1.p), some (.ref lf)] ∧ Gw (fun b => b = a ∨ inFp Bs b) H H' ∧ DrAt H' a ∧ Hands C CS CW H' Bs2 ms2 ∧ Bs2.map HA.p = Bs.map HA.p ∧ (∀ b, inFp Bs2 b → inFp Bs b ∨ H b = none) ∧ ¬ inFp Bs2 lf ∧ ms2.length = ms.length ∧ (∀ k m m', k < j → ms[k]? = some m → ms2[k]? = some m' → Heard m m' ops) ∧ (∀ k, j < k → ms2[k]? = ms[k]?) ∧
          Bs2[j]? = some B2 ∧ B2.p = B1.p ∧ ms2[j]? = some { m0 with site := L0.foldl takeM m0.site } ∧ H' lf = some (.lst vs2) ∧ All2 (OpAt H') vs2 rest ∧ (L0 ++ rest).Perm ops ∧ rest0.length = rest.length, fun σ' H' z => ⟨rest0.length, Nat.lt_succ_self _, z⟩, ?_⟩
        have hlen : vs2.length = rest0.length + 1 := hvs2.len
        have eB2' : B1.p = B2.p := eB2.symm
        rw [eB2']
        refine ⟨_, rfl, _, _, _, _, _, rfl, hB2e.ins, L.cl, L.site, hF_site _, _, _, _, rfl, hB2e.site.ins, sN_take _ _, ?_⟩
        have emn : (if ((vs2.length : Nat) : Int) < 6 then ((vs2.length : Nat) : Int) else 6) = ((min 6 vs2.length : Nat) : Int) := by split <;> omega
        refine ⟨_, rfl, .inl ⟨rfl, _, SqL.of hlfe⟩, _, rfl, _, rfl, lf, vs2, rfl, .inl (SqL.of hlfe), _, _, rfl, a, min 6 vs2.length, ?_, hd2.gw ge (fun z => z), by omega, fun H3 r hr3 hd3 g3 => ?_⟩
        · rw [emn]
          rfl
        have hrl : r < vs2.length := by omega
        have hlf3 := g3.oth _ _ hlfe (fun _ z => by cases z) nlfa
        obtain ⟨o, ho, hoa⟩ := hvs2.get (List.getElem?_eq_getElem hrl)
        have ge3 : Gw (fun b => b = a) H2 H3 := (Gw.of0 ge).trans g3
        refine ⟨lf, vs2, _, r, _, rfl, rfl, hlf3, by omega, by omega, seqI hrl, List.getElem?_eq_getElem hrl, ?_⟩
        have g4 : Gw (fun b => b = lf) H3 (upd H3 lf (.lst (vs2.eraseIdx r))) := Gw.refl.put rfl hlf3 (fun _ z => by cases z) (fun _ z => by cases z)
        have afp2 : ∀ b, inFp Bs2 b → b ≠ a := fun b z e => by
          rcases ef2 b z with y | y
          · exact (sep _ y).1 e
          · rw [e] at y
            obtain ⟨ns, z⟩ := hd
            rw [z.at_] at y; cases y
        have hh4 : Hands C CS CW (upd H3 lf (.lst (vs2.eraseIdx r))) Bs2 ms2 := (hh2.gw ge3 fun b z e => afp2 b z e).gw g4 fun b z e => nlf2 (e ▸ z)
        have hB4 := hh4.at_.at_ j B2 _ hB2 hm2
        have ho4 := (hoa.gw ge3).gw g4
        have hk : (L0 ++ o :: (o0 :: rest0).eraseIdx r).Perm ops := ((perm_erase ho).append_left L0).trans perm
        have fitk : TakeFit (L0.foldl takeM m0.site) o := by
          have := fit0 _ hk L0.length o (by rw [List.getElem?_append_right (Nat.le_refl _), Nat.sub_self]; rfl)
          rwa [List.take_left' rfl] at this
        refine ⟨B2.S, _, _, o, rfl, ho4, hB4.site, fitk, ?_, fun H5 rw' u5 nrw hS5 g5 => ?_⟩
        · exact ((tb.gw g2).gw ge3).gw g4
        have hsfp : ∀ b ∈ ({ B2.S with rw := rw' } : SA).fp, b ∈ B2.S.fp ∨ upd H3 lf (.lst (vs2.eraseIdx r)) b = none := fun b hb => by
          unfold SA.fp at hb ⊢
          simp only [List.mem_cons, List.not_mem_nil, or_false] at hb ⊢
          rcases hb with e | e | e | e | e | e | e | e
          · exact .inl (.inl e)
          · exact .inl (.inr (.inl e))
          · exact .inl (.inr (.inr (.inl e)))
          · exact .inl (.inr (.inr (.inr (.inl e))))
          · exact .inl (.inr (.inr (.inr (.inr (.inl e)))))
          · exact .inl (.inr (.inr (.inr (.inr (.inr (.inl e))))))
          · exact .inl (.inr (.inr (.inr (.inr (.inr (.inr (.inl e)))))))
          · rcases nrw with z | z
            · exact .inl (.inr (.inr (.inr (.inr (.inr (.inr (.inr (e.trans z))))))))
            · exact .inr (e ▸ z)
        have hB5 := hB4.site_to (S' := { B2.S with rw := rw' }) hS5 rfl hsfp g5
        have hfp5 : ∀ b ∈ ({ B2 with S := { B2.S with rw := rw' } } : HA).fp, b ∈ B2.fp ∨ upd H3 lf (.lst (vs2.eraseIdx r)) b = none := fun b hb => by
          unfold HA.fp at hb ⊢
          simp only [List.mem_cons] at hb ⊢
          rcases hb with e | e | e | e
          · exact .inl (.inl e)
          · exact .inl (.inr (.inl e))
          · exact .inl (.inr (.inr (.inl e)))
          · exact (hsfp b e).imp (fun z => .inr (.inr (.inr z))) id
        have g5' : Gw (fun b => b ∈ B2.fp) (upd H3 lf (.lst (vs2.eraseIdx r))) H5 := g5.mono fun b z => sub_fp B2 z
        have hh5 := hh4.set hB2 hB5 hfp5 g5'
        have g25 : Gw (fun b => b = a ∨ inFp Bs b) H (upd H3 lf (.lst (vs2.eraseIdx r))) := (g2.trans (ge3.mono fun _ z => .inl z)).fresh nlfH
        have G5 : Gw (fun b => b = a ∨ inFp Bs b) H H5 := g25.go g5' fun b z hb => by
          rcases ef2 b ⟨B2, List.mem_of_getElem? hB2, z⟩ with y | y
          · exact .inr y
          · exact absurd y hb
        have hlf5 : H5 lf = some (.lst (vs2.eraseIdx r)) := g5'.oth _ _ upd_same (fun _ z => by cases z) (fun z => nlf2 ⟨B2, List.mem_of_getElem? hB2, z⟩)
        have hjl2 : j < ms2.length := (List.getElem?_eq_some_iff.mp hm2).1
        have hjB2 : j < Bs2.length := (List.getElem?_eq_some_iff.mp hB2).1
        refine ⟨Bs2.set j { B2 with S := { B2.S with rw := rw' } }, ms2.set j { m0 with site := takeM (L0.foldl takeM m0.site) o }, { B2 with S := { B2.S with rw := rw' } }, L0 ++ [o], (o0 :: rest0).eraseIdx r, vs2.eraseIdx r, rfl, G5, ?_, hh5, ?_, ?_, ?_, by rw [List.length_set]; exact em2, ?_, ?_, List.getElem?_set_self hjB2, rfl, ?_, hlf5, ?_, ?_, ?_⟩
        · have : DrAt (upd H3 lf (.lst (vs2.eraseIdx r))) a := hd3.gw g4 (fun z => nlfa z.symm)
          exact this.gw g5' fun z => afp2 a ⟨B2, List.mem_of_getElem? hB2, z⟩ rfl
        · rw [List.map_set]
          show (Bs2.map HA.p).set j B2.p = _
          rw [← ep2]
          apply List.ext_getElem?
          intro k
          by_cases e : j = k
          · subst e
            rw [List.getElem?_set_self (by rw [List.length_map]; exact hjB2), List.getElem?_map, hB2]
            rfl
          · rw [List.getElem?_set_ne e]
        · intro b hb
          rcases fp_set hB2 hfp5 hb with y | y
          · exact ef2 b y
          · exact .inr (g25.non _ y)
        · intro hb
          rcases fp_set hB2 hfp5 hb with y | y
          · exact nlf2 y
          · rw [upd_same] at y; cases y
        · intro k m m' hk2 h1 h2
          rw [List.getElem?_set_ne (by omega)] at h2
          exact hdone2 k m m' hk2 h1 h2
        · intro k hk2
          rw [List.getElem?_set_ne (by omega)]
          exact htodo2 k hk2
        · rw [List.getElem?_set_self hjl2, List.foldl_append]
          rfl
        · exact (hvs2.erase r).mono fun _ _ z => ((z.gw ge3).gw g4).gw g5'
        · rw [List.append_assoc]
          exact hk
        · have : ((o0 :: rest0).eraseIdx r).length = rest0.length := by
            rw [List.length_eraseIdx_of_lt (by show r < rest0.length + 1; omega)]
            rfl
          exact this.symm
    · rintro σ H1 ⟨⟨x3, x4, rfl⟩, g, hd1, Bs1, ms1, hh1, ep, ef, em, hdone, htodo⟩
      rw [lB] at hdone
      refine q _ Bs1 ms1 hh1 ep ef ⟨em.symm, fun k m m' h1 h2 => hdone k m m' ?_ h1 h2⟩ hd1 g
      have := (List.getElem?_eq_some_iff.mp h1).1
      have := hh.at_.len
      omega
end
end K80
namespace K80
open PySem PySem.Spec PyProof.Rows L2 Gx GxR NdefX
open PySem.SeqAt
/-! dicts whose keys are None or tuples -/
abbrev OKey := Option (List L2.Key)
def kvO (k : OKey) (a : Addr) : Value := match k with | none => .none | some _ => .ref a
def isO (P : Program) (w : World) (h : Heap) : OKey → Addr → Prop
  | none, _ => True
  | some ks, a => (tupleKind (mixKind P w)).is h ks a
def hashO (P : Program) (w : World) : OKey → Int
  | none => NestedKey.hash w .none
  | some ks => (tupleKind (mixKind P w)).hash ks
def drawsO (P : Program) (w : World) : OKey → Nat
  | none => NestedKey.draws .none
  | some ks => (tupleKind (mixKind P w)).draws ks
def entO (P : Program) (w : World) (x : OKey × Addr × Value) : DictEntry := ⟨hashO P w x.1, kvO x.1 x.2.1, x.2.2⟩
section
variable {P : Program} {w : World} {A : Around} {E : Value → Shared → Prop} {s : Shared}
theorem tk_tuple {h : Heap} {ks : List L2.Key} {a : Addr} (x : (tupleKind (mixKind P w)).is h ks a) : ∃ items, h.IsTuple a items := by
  obtain ⟨o, items, n, ho, hc, hd, _⟩ := (show IsTupleKey (mixKind P w) h ks a from x)
  exact ⟨items, o, ho, hc, n, hd⟩
theorem injO {h : Heap} {x y : OKey} {a b : Addr} (hx : isO P w h x a) (hy : isO P w h y b) (e : kvO x a = kvO y b) : x = y := by
  cases x with
  | none =>
    cases y with
    | none => rfl
    | some ks => cases e
  | some ks =>
    cases y with
    | none => cases e
    | some ks' =>
      cases e
      rw [(tupleKind (mixKind P w)).inj hx hy]
theorem pyHashO {k : OKey} {a : Addr} {Q : Int → Shared → Prop} (hu : A.units + 1 < cLine) (hk : isO P w s.heap k a) (h : Q (hashO P w k) { s with toks := s.toks + drawsO P w k }) : wpAny (model P w) A (pyHash (kvO k a)) Q E s := by
  cases k with
  | none => exact pyHash_key .none _ A s Q .none (by show A.units + 0 < cLine; omega) h
  | some ks => exact (tupleKind (mixKind P w)).pyHash (show A.units < cLine by omega) hk h
theorem eqBoolO {x y : OKey} {a b : Addr} {Q : Bool → Shared → Prop} (hu : A.units + 1 < cLine) (hx : isO P w s.heap x a) (hy : isO P w s.heap y b) (h : Q (decide (x = y)) s) : wpAny (model P w) A (eqBool (kvO x a) (kvO y b)) Q E s := by
  cases x with
  | none =>
    cases y with
    | none =>
      rw [decide_eq_true rfl] at h
      exact EqAt.same (A := A) (s := s) Value.none P w E Q h
    | some ks =>
      rw [decide_eq_false (fun e => nomatch e)] at h
      obtain ⟨items, ht⟩ := tk_tuple hy
      exact EqAt.none_tuple ht (by omega) P w E Q h
  | some ks =>
    cases y with
    | none =>
      rw [decide_eq_false (fun e => nomatch e)] at h
      obtain ⟨items, ht⟩ := tk_tuple hx
      exact EqAt.tuple_none ht (by omega) P w E Q h
    | some ks' =>
      refine (tupleKind (mixKind P w)).eqBool (show A.units < cLine by omega) hx hy ?_
      have e : decide (some ks = some ks') = decide (ks = ks') := decide_eq_decide.mpr ⟨fun z => Option.some.inj z, fun z => by rw [z]⟩
      rw [e] at h
      exact h
theorem quietO {k : OKey} {a : Addr} {Q : Bool → Shared → Prop} (hk : isO P w s.heap k a) (h : Q true s) : wpAny (model P w) A (eqIsQuiet 8 (kvO k a)) Q E s := by
  cases k with
  | none =>
    show wpAny _ _ (eqIsQuiet 8 Value.none) _ _ _
    rw [eqIsQuiet_byValue 8 rfl]
    exact wpAny_pure h
  | some ks => exact (tupleKind (mixKind P w)).quiet hk h
theorem entO_at {es : Array DictEntry} {xs : List (OKey × Addr × Value)} (he : es.toList = xs.map (entO P w)) (j : Nat) : es[j]? = (xs[j]?).map (entO P w) := by
  rw [← Array.getElem?_toList, he, List.getElem?_map]
theorem sizeO {es : Array DictEntry} {xs : List (OKey × Addr × Value)} (he : es.toList = xs.map (entO P w)) : es.size = xs.length := by
  rw [← Array.length_toList, he, List.length_map]
theorem tellO {k : OKey} {a : Addr} {stored : List Value} {Q : Bool → Shared → Prop} (hkey : isO P w s.heap k a) (hst : ∀ v ∈ stored, ∃ k' b, v = kvO k' b ∧ isO P w s.heap k' b) (h : Q false s) : wpAny (model P w) A (tableMayTell (kvO k a) stored) Q E s := by
  unfold tableMayTell
  split
  · exact wpAny_pure h
  · refine wpAny_bind (quietO hkey ?_)
    simp only [Bool.not_true, Bool.false_eq_true, if_false]
    refine wpAny_bind ?_
    refine wpAny_forIn_list _ (fun rest r s' => s' = s ∧ r = (none, ()) ∧ ∀ v ∈ rest, ∃ k' b, v = kvO k' b ∧ isO P w s.heap k' b) _ ?_ ?_ _ _ ⟨rfl, rfl, hst⟩
    · rintro x rest r s' ⟨rfl, rfl, hr⟩
      obtain ⟨k', b, rfl, hb⟩ := hr x List.mem_cons_self
      refine wpAny_bind (quietO hb ?_)
      simp only [Bool.not_true, Bool.false_eq_true, if_false]
      exact wpAny_pure ⟨rfl, rfl, fun v hv => hr v (List.mem_cons_of_mem _ hv)⟩
    · rintro r s' ⟨rfl, rfl, _⟩
      exact wpAny_pure h
theorem plainO {d a : Addr} {o : Obj} {es ep} {xs : List (OKey × Addr × Value)} {k : OKey} {Q : Option Nat → Shared → Prop} (hu : A.units + 1 < cLine) (hkey : isO P w s.heap k a)
    (ho : s.heap.get? d = some o) (hd : o.data = .dict es ep) (he : es.toList = xs.map (entO P w)) (his : ∀ x ∈ xs, isO P w s.heap x.1 x.2.1)
    (hnone : (∀ (j : Nat) (p : Addr × Value), xs[j]? ≠ some (k, p)) → Q none s) (hsome : ∀ (j : Nat) (p : Addr × Value), xs[j]? = some (k, p) → Q (some j) s) :
    wpAny (model P w) A (dictWalkPlain d (kvO k a) (hashO P w k) es (placesWithHash es.size (fun i => es[i]?.map (·.hash)) (hashO P w k))) Q E s := by
  have hsz : es.size = xs.length := sizeO he
  have haskey : ∀ (j : Nat) (p : Addr × Value), xs[j]? = some (k, p) → ((es[j]?.map (·.hash)) == some (hashO P w k)) = true := by
    intro j p hj
    rw [entO_at he j, hj]
    simp [entO]
  unfold dictWalkPlain
  refine wpAny_bind ?_
  refine wpAny_forIn_list _
    (fun rest b s' => s' = s ∧ b = (none, ()) ∧ ∃ i, rest = (List.range' i (es.size - i)).filter (fun i => (es[i]?.map (·.hash)) == some (hashO P w k)) ∧ i ≤ es.size ∧
      ∀ j p, j < i → xs[j]? ≠ some (k, p)) _ ?_ ?_ _ _
    ⟨rfl, rfl, 0, by rw [placesWithHash, List.range_eq_range', Nat.sub_zero], Nat.zero_le _, fun _ _ h => absurd h (Nat.not_lt_zero _)⟩
  · rintro x rest b s' ⟨rfl, rfl, i, hr, hi, hno⟩
    obtain ⟨hix, hxn, hpx, hskip, hrest⟩ := filter_range'_cons _ _ _ _ _ hr.symm
    have hlt : x < es.size := by omega
    have hrest' : rest = (List.range' (x + 1) (es.size - (x + 1))).filter (fun i => (es[i]?.map (·.hash)) == some (hashO P w k)) := by rw [hrest]; congr 2; omega
    obtain ⟨⟨k', b, v'⟩, hkv⟩ : ∃ y, xs[x]? = some y := ⟨xs[x]'(by rw [← hsz]; exact hlt), List.getElem?_eq_getElem _⟩
    have hib : isO P w s'.heap k' b := his _ (List.mem_of_getElem? hkv)
    have hex : es[x]? = some ⟨hashO P w k', kvO k' b, v'⟩ := by rw [entO_at he x, hkv]; rfl
    have hstay : ¬ k' = k → ∀ j p, j < x + 1 → xs[j]? ≠ some (k, p) := by
      intro hne j p hjx hj
      rcases Nat.lt_or_ge j i with h | h
      · exact hno j p h hj
      · rcases Nat.lt_or_ge j x with h' | h'
        · have := hskip j h h'
          rw [haskey j p hj] at this
          exact absurd this (by decide)
        · have hjx' : j = x := by omega
          subst hjx'
          rw [hkv] at hj
          injection hj with hj
          injection hj with hj
          exact hne hj
    rw [hex]
    dsimp only
    by_cases hh : (hashO P w k' == hashO P w k) = true
    · rw [if_pos hh]
      refine wpAny_bind (wpAny_dictEpoch ho hd (wpAny_bind (eqBoolO (x := k') (y := k) hu hib hkey (wpAny_bind (wpAny_dictEpoch ho hd ?_)))))
      show wpAny _ _ (if (ep != ep) = true then _ else _) _ E _
      rw [if_neg (by simp)]
      by_cases hkk : k' = k
      · rw [decide_eq_true hkk]
        subst hkk
        exact wpAny_bind (wpAny_rule (wpAny_pure (wpAny_pure (hsome x _ hkv))))
      · rw [decide_eq_false hkk]
        exact wpAny_bind (wpAny_rule (wpAny_pure ⟨rfl, rfl, x + 1, hrest', hlt, hstay hkk⟩))
    · rw [if_neg hh]
      refine wpAny_pure ⟨rfl, rfl, x + 1, hrest', hlt, hstay ?_⟩
      intro hkk
      rw [hkk] at hh; simp at hh
  · rintro b s' ⟨rfl, rfl, i, hr, hi, hno⟩
    have hall : ∀ j, i ≤ j → j < es.size → ((es[j]?.map (·.hash)) == some (hashO P w k)) = false := by
      intro j h1 h2
      have := List.filter_eq_nil_iff.mp hr.symm j (List.mem_range'_1.mpr ⟨h1, by omega⟩)
      simpa using this
    refine wpAny_pure (hnone fun j p hj => ?_)
    rcases Nat.lt_or_ge j i with h | h
    · exact hno j p h hj
    · have hjl : j < es.size := by
        rw [hsz]
        rcases Nat.lt_or_ge j xs.length with h' | h'
        · exact h'
        · rw [List.getElem?_eq_none h'] at hj; exact nomatch hj
      have := hall j h hjl
      rw [haskey j p hj] at this
      exact absurd this (by decide)
end
end K80
namespace K80
open PySem PySem.Spec PyProof.Rows L2 Gx GxR NdefX
open PySem.SeqAt
/-- what stands in a dict with keys None or tuples -/
def DictO (P : Program) (w : World) (h : Heap) (d : Addr) (xs : List (OKey × Addr × Value)) : Prop :=
  ∃ o es ep, h.get? d = some o ∧ o.ExactDict ∧ o.data = .dict es ep ∧ es.toList = xs.map (entO P w) ∧ (∀ x ∈ xs, isO P w h x.1 x.2.1) ∧ (xs.map (·.1)).Nodup
section
variable {P : Program} {w : World} {A : Around} {E : Value → Shared → Prop} {s : Shared}
theorem findO {d a : Addr} {o : Obj} {es ep} {xs : List (OKey × Addr × Value)} {k : OKey} {Q : Option Nat → Shared → Prop} (hu : A.units + 1 < cLine) (hkey : isO P w s.heap k a)
    (ho : s.heap.get? d = some o) (hd : o.data = .dict es ep) (he : es.toList = xs.map (entO P w)) (his : ∀ x ∈ xs, isO P w s.heap x.1 x.2.1) (hn : (xs.map (·.1)).Nodup)
    (hnone : (∀ (j : Nat) (p : Addr × Value), xs[j]? ≠ some (k, p)) → Q none s) (hsome : ∀ (j : Nat) (p : Addr × Value), xs[j]? = some (k, p) → Q (some j) s) :
    wpAny (model P w) A (dictFind d (kvO k a) (hashO P w k)) Q E s := by
  have hsz : es.size = xs.length := sizeO he
  have haskey : ∀ (j : Nat) (p : Addr × Value), xs[j]? = some (k, p) → ((es[j]?.map (·.hash)) == some (hashO P w k)) = true := by
    intro j p hj
    rw [entO_at he j, hj]
    simp [entO]
  have hmem : ∀ e ∈ es, ∃ x ∈ xs, e = entO P w x := by
    intro e hin
    have : e ∈ xs.map (entO P w) := he ▸ Array.mem_toList_iff.mpr hin
    obtain ⟨x, hx, rfl⟩ := List.mem_map.mp this
    exact ⟨x, hx, rfl⟩
  have hany : ¬ (es.any fun e => e.key == kvO k a && e.hash != hashO P w k) = true := by
    rw [← Array.any_toList, List.any_eq_true]
    rintro ⟨e, hin, hc⟩
    obtain ⟨x, hx, rfl⟩ := hmem e (Array.mem_toList_iff.mp hin)
    simp only [entO, Bool.and_eq_true, beq_iff_eq, bne_iff_ne, ne_eq] at hc
    obtain ⟨hxa, hne⟩ := hc
    exact hne (by rw [injO (his x hx) hkey hxa])
  have hst : ∀ v ∈ (placesWithHash es.size (fun i => es[i]?.map (·.hash)) (hashO P w k)).filterMap (fun i => es[i]?.map (·.key)), ∃ k' b, v = kvO k' b ∧ isO P w s.heap k' b := by
    intro v hv
    obtain ⟨i, _, hi⟩ := List.mem_filterMap.mp hv
    cases hei : es[i]? with
    | none => rw [hei] at hi; cases hi
    | some e =>
      rw [hei] at hi
      obtain rfl : e.key = v := by simpa using hi
      obtain ⟨x, hx, rfl⟩ := hmem e (Array.mem_of_getElem? hei)
      exact ⟨x.1, x.2.1, rfl, his x hx⟩
  cases k with
  | none =>
    show wpAny (model P w) A (dictFind d .none (hashO P w none)) Q E s
    unfold dictFind
    try with_reducible refine wpAny_holding ?_
    refine wpAny_bind (wpAny_dictEntries ho hd ?_)
    dsimp only
    by_cases hall : ((Value.none :: (placesWithHash es.size (fun i => es[i]?.map (·.hash)) (hashO P w none)).filterMap (fun i => es[i]?.map (·.key))).all carriedByValue) = true
    · rw [if_pos hall]
      exact plainO (k := none) (a := a) hu hkey ho hd he his hnone hsome
    · rw [if_neg hall]
      by_cases hone : (((placesWithHash es.size (fun i => es[i]?.map (·.hash)) (hashO P w none)).filterMap (fun i => es[i]?.map (·.key))) == [Value.none]) = true <;>
      (first | rw [if_pos hone] | rw [if_neg hone]) <;> (first | refine wpAny_bind (wpAny_pure ?_) | refine wpAny_bind (tellO (k := none) (a := a) hkey hst ?_)) <;> (
        rw [if_neg (by simp)]
        refine wpAny_bind ?_
        refine wpAny_forIn_list _
          (fun rest b s' => s' = s ∧ ∃ i hit, b = (none, hit) ∧ rest = (List.range' i (es.size - i)).filter (fun i => (es[i]?.map (·.hash)) == some (hashO P w none)) ∧ i ≤ es.size ∧
            ((hit = none ∧ ∀ j p, j < i → xs[j]? ≠ some (none, p)) ∨ ∃ j p, hit = some j ∧ j < i ∧ xs[j]? = some (none, p))) _ ?_ ?_ _ _
          ⟨rfl, 0, none, rfl, by rw [placesWithHash, List.range_eq_range', Nat.sub_zero], Nat.zero_le _, .inl ⟨rfl, fun _ _ h => absurd h (Nat.not_lt_zero _)⟩⟩
        · rintro x rest b s' ⟨rfl, i, hit, rfl, hr, hi, hH⟩
          obtain ⟨hix, hxn, hpx, hskip, hrest⟩ := filter_range'_cons _ _ _ _ _ hr.symm
          have hlt : x < es.size := by omega
          have hrest' : rest = (List.range' (x + 1) (es.size - (x + 1))).filter (fun i => (es[i]?.map (·.hash)) == some (hashO P w none)) := by rw [hrest]; congr 2; omega
          obtain ⟨⟨k', b, v'⟩, hkv⟩ : ∃ y, xs[x]? = some y := ⟨xs[x]'(by rw [← hsz]; exact hlt), List.getElem?_eq_getElem _⟩
          have hib : isO P w s'.heap k' b := his _ (List.mem_of_getElem? hkv)
          have hex : es[x]? = some ⟨hashO P w k', kvO k' b, v'⟩ := by rw [entO_at he x, hkv]; rfl
          have hHx : (hit = none ∧ ∀ j p, j < x → xs[j]? ≠ some (none, p)) ∨ ∃ j p, hit = some j ∧ j < x ∧ xs[j]? = some (none, p) := by
            rcases hH with ⟨h0, hno⟩ | ⟨j, p, h1, hji, hj⟩
            · refine .inl ⟨h0, fun j p hjx hj => ?_⟩
              rcases Nat.lt_or_ge j i with h | h
              · exact hno j p h hj
              · have := hskip j h hjx
                rw [haskey j p hj] at this
                exact absurd this (by decide)
            · exact .inr ⟨j, p, h1, by omega, hj⟩
          have hstay : ¬ k' = none → ((hit = none ∧ ∀ j p, j < x + 1 → xs[j]? ≠ some (none, p)) ∨ ∃ j p, hit = some j ∧ j < x + 1 ∧ xs[j]? = some (none, p)) := by
            intro hne
            rcases hHx with ⟨h0, hno⟩ | ⟨j, p, h1, hjx, hj⟩
            · refine .inl ⟨h0, fun j p hjx hj => ?_⟩
              rcases Nat.lt_or_ge j x with h | h
              · exact hno j p h hj
              · have hjx' : j = x := by omega
                subst hjx'
                rw [hkv] at hj
                injection hj with hj
                injection hj with hj
                exact hne hj
            · exact .inr ⟨j, p, h1, by omega, hj⟩
          rw [hex]
          dsimp only
          by_cases hh : (hashO P w k' == hashO P w none) = true
          · rw [if_pos hh]
            refine wpAny_bind (wpAny_dictEpoch ho hd (wpAny_bind (eqBoolO (x := k') (y := none) hu hib hkey (wpAny_bind (wpAny_dictEpoch ho hd ?_)))))
            show wpAny _ _ (if (ep != ep) = true then _ else _) _ E _
            rw [if_neg (by simp)]
            by_cases hkk : k' = none
            · rw [decide_eq_true hkk]
              subst hkk
              rcases hHx with ⟨rfl, _⟩ | ⟨j, p, _, hjx, hj⟩
              · first | rw [if_pos rfl] | skip
                simp only [Option.isSome_none, Bool.false_eq_true, if_false]
                first | refine wpAny_bind (wpAny_pure ?_) | skip
                refine wpAny_bind (wpAny_rule ?_)
                split
                · exact wpAny_pure (wpAny_pure (hsome x _ hkv))
                · exact wpAny_pure ⟨rfl, x + 1, some x, rfl, hrest', hlt, .inr ⟨x, _, rfl, Nat.lt_succ_self x, hkv⟩⟩
              · exact absurd (idxH_unique hn hj hkv) (by omega)
            · rw [decide_eq_false hkk]
              simp only [Bool.false_eq_true, if_false]
              refine wpAny_bind (wpAny_rule ?_)
              first | rw [if_neg (by simp)] | skip
              first
                | exact wpAny_pure ⟨rfl, x + 1, hit, rfl, hrest', hlt, hstay hkk⟩
                | exact wpAny_bind (wpAny_pure (wpAny_pure ⟨rfl, x + 1, hit, rfl, hrest', hlt, hstay hkk⟩))
          · rw [if_neg hh]
            refine wpAny_pure ⟨rfl, x + 1, hit, rfl, hrest', hlt, hstay ?_⟩
            intro hkk
            rw [hkk] at hh; simp at hh
        · rintro b s' ⟨rfl, i, hit, rfl, hr, hi, hH⟩
          have hall : ∀ j, i ≤ j → j < es.size → ((es[j]?.map (·.hash)) == some (hashO P w none)) = false := by
            intro j h1 h2
            have := List.filter_eq_nil_iff.mp hr.symm j (List.mem_range'_1.mpr ⟨h1, by omega⟩)
            simpa using this
          rcases hH with ⟨rfl, hno⟩ | ⟨j, p, rfl, _, hj⟩
          · refine wpAny_pure (hnone fun j p hj => ?_)
            rcases Nat.lt_or_ge j i with h | h
            · exact hno j p h hj
            · have hjl : j < es.size := by
                rw [hsz]
                rcases Nat.lt_or_ge j xs.length with h' | h'
                · exact h'
                · rw [List.getElem?_eq_none h'] at hj; exact nomatch hj
              have := hall j h hjl
              rw [haskey j p hj] at this
              exact absurd this (by decide)
          · exact wpAny_pure (hsome j p hj))
  | some ks =>
    show wpAny (model P w) A (dictFind d (.ref a) (hashO P w (some ks))) Q E s
    unfold dictFind
    try with_reducible refine wpAny_holding ?_
    refine wpAny_bind (wpAny_dictEntries ho hd ?_)
    dsimp only
    have hany2 : ¬ (es.any fun e => e.key == Value.ref a && e.hash != hashO P w (some ks)) = true := hany
    rw [if_neg (show ¬ ((Value.ref a :: (placesWithHash es.size (fun i => es[i]?.map (·.hash)) (hashO P w (some ks))).filterMap (fun i => es[i]?.map (·.key))).all carriedByValue) = true by simp [carriedByValue])]
    rw [if_neg hany2]
    by_cases hone : (((placesWithHash es.size (fun i => es[i]?.map (·.hash)) (hashO P w (some ks))).filterMap (fun i => es[i]?.map (·.key))) == [Value.ref a]) = true <;>
    (first | rw [if_pos hone] | rw [if_neg hone]) <;> (first | refine wpAny_bind (wpAny_pure ?_) | refine wpAny_bind (tellO (k := some ks) (a := a) hkey hst ?_)) <;> (
      rw [if_neg (by simp)]
      refine wpAny_bind ?_
      refine wpAny_forIn_list _
        (fun rest b s' => s' = s ∧ ∃ i hit, b = (none, hit) ∧ rest = (List.range' i (es.size - i)).filter (fun i => (es[i]?.map (·.hash)) == some (hashO P w (some ks))) ∧ i ≤ es.size ∧
          ((hit = none ∧ ∀ j p, j < i → xs[j]? ≠ some (some ks, p)) ∨ ∃ j p, hit = some j ∧ j < i ∧ xs[j]? = some (some ks, p))) _ ?_ ?_ _ _
        ⟨rfl, 0, none, rfl, by rw [placesWithHash, List.range_eq_range', Nat.sub_zero], Nat.zero_le _, .inl ⟨rfl, fun _ _ h => absurd h (Nat.not_lt_zero _)⟩⟩
      · rintro x rest b s' ⟨rfl, i, hit, rfl, hr, hi, hH⟩
        obtain ⟨hix, hxn, hpx, hskip, hrest⟩ := filter_range'_cons _ _ _ _ _ hr.symm
        have hlt : x < es.size := by omega
        have hrest' : rest = (List.range' (x + 1) (es.size - (x + 1))).filter (fun i => (es[i]?.map (·.hash)) == some (hashO P w (some ks))) := by rw [hrest]; congr 2; omega
        obtain ⟨⟨k', b, v'⟩, hkv⟩ : ∃ y, xs[x]? = some y := ⟨xs[x]'(by rw [← hsz]; exact hlt), List.getElem?_eq_getElem _⟩
        have hib : isO P w s'.heap k' b := his _ (List.mem_of_getElem? hkv)
        have hex : es[x]? = some ⟨hashO P w k', kvO k' b, v'⟩ := by rw [entO_at he x, hkv]; rfl
        have hHx : (hit = none ∧ ∀ j p, j < x → xs[j]? ≠ some (some ks, p)) ∨ ∃ j p, hit = some j ∧ j < x ∧ xs[j]? = some (some ks, p) := by
          rcases hH with ⟨h0, hno⟩ | ⟨j, p, h1, hji, hj⟩
          · refine .inl ⟨h0, fun j p hjx hj => ?_⟩
            rcases Nat.lt_or_ge j i with h | h
            · exact hno j p h hj
            · have := hskip j h hjx
              rw [haskey j p hj] at this
              exact absurd this (by decide)
          · exact .inr ⟨j, p, h1, by omega, hj⟩
        have hstay : ¬ k' = some ks → ((hit = none ∧ ∀ j p, j < x + 1 → xs[j]? ≠ some (some ks, p)) ∨ ∃ j p, hit = some j ∧ j < x + 1 ∧ xs[j]? = some (some ks, p)) := by
          intro hne
          rcases hHx with ⟨h0, hno⟩ | ⟨j, p, h1, hjx, hj⟩
          · refine .inl ⟨h0, fun j p hjx hj => ?_⟩
            rcases Nat.lt_or_ge j x with h | h
            · exact hno j p h hj
            · have hjx' : j = x := by omega
              subst hjx'
              rw [hkv] at hj
              injection hj with hj
              injection hj with hj
              exact hne hj
          · exact .inr ⟨j, p, h1, by omega, hj⟩
        rw [hex]
        dsimp only
        by_cases hh : (hashO P w k' == hashO P w (some ks)) = true
        · rw [if_pos hh]
          refine wpAny_bind (wpAny_dictEpoch ho hd (wpAny_bind (eqBoolO (x := k') (y := some ks) hu hib hkey (wpAny_bind (wpAny_dictEpoch ho hd ?_)))))
          show wpAny _ _ (if (ep != ep) = true then _ else _) _ E _
          rw [if_neg (by simp)]
          by_cases hkk : k' = some ks
          · rw [decide_eq_true hkk]
            subst hkk
            rcases hHx with ⟨rfl, _⟩ | ⟨j, p, _, hjx, hj⟩
            · first | rw [if_pos rfl] | skip
              simp only [Option.isSome_none, Bool.false_eq_true, if_false]
              first | refine wpAny_bind (wpAny_pure ?_) | skip
              refine wpAny_bind (wpAny_rule ?_)
              split
              · exact wpAny_pure (wpAny_pure (hsome x _ hkv))
              · exact wpAny_pure ⟨rfl, x + 1, some x, rfl, hrest', hlt, .inr ⟨x, _, rfl, Nat.lt_succ_self x, hkv⟩⟩
            · exact absurd (idxH_unique hn hj hkv) (by omega)
          · rw [decide_eq_false hkk]
            simp only [Bool.false_eq_true, if_false]
            refine wpAny_bind (wpAny_rule ?_)
            first | rw [if_neg (by simp)] | skip
            first
              | exact wpAny_pure ⟨rfl, x + 1, hit, rfl, hrest', hlt, hstay hkk⟩
              | exact wpAny_bind (wpAny_pure (wpAny_pure ⟨rfl, x + 1, hit, rfl, hrest', hlt, hstay hkk⟩))
        · rw [if_neg hh]
          refine wpAny_pure ⟨rfl, x + 1, hit, rfl, hrest', hlt, hstay ?_⟩
          intro hkk
          rw [hkk] at hh; simp at hh
      · rintro b s' ⟨rfl, i, hit, rfl, hr, hi, hH⟩
        have hall : ∀ j, i ≤ j → j < es.size → ((es[j]?.map (·.hash)) == some (hashO P w (some ks))) = false := by
          intro j h1 h2
          have := List.filter_eq_nil_iff.mp hr.symm j (List.mem_range'_1.mpr ⟨h1, by omega⟩)
          simpa using this
        rcases hH with ⟨rfl, hno⟩ | ⟨j, p, rfl, _, hj⟩
        · refine wpAny_pure (hnone fun j p hj => ?_)
          rcases Nat.lt_or_ge j i with h | h
          · exact hno j p h hj
          · have hjl : j < es.size := by
              rw [hsz]
              rcases Nat.lt_or_ge j xs.length with h' | h'
              · exact h'
              · rw [List.getElem?_eq_none h'] at hj; exact nomatch hj
            have := hall j h hjl
            rw [haskey j p hj] at this
            exact absurd this (by decide)
        · exact wpAny_pure (hsome j p hj))
end
end K80
namespace K80
open PySem PySem.Spec PyProof.Rows L2 Gx GxR NdefX
open PySem.SeqAt
abbrev ORow := OKey × Addr × V
def relO (r : ORow) (x : OKey × Addr × Value) : Prop := r.1 = x.1 ∧ r.2.1 = x.2.1 ∧ RelV r.2.2 x.2.2
theorem pairedGet {α β : Type} {G : α → β → Prop} : ∀ {l₁ : List α} {l₂ : List β}, Paired G l₁ l₂ → ∀ {i : Nat} {b : β}, l₂[i]? = some b → ∃ a, l₁[i]? = some a ∧ G a b
  | _, _, .nil, i, b, h => by simp at h
  | _, _, .cons r t, 0, b, h => by
    cases Option.some.inj h
    exact ⟨_, rfl, r⟩
  | _, _, .cons r t, i + 1, b, h => by
    rw [List.getElem?_cons_succ] at h
    obtain ⟨a, ha, g⟩ := pairedGet t h
    exact ⟨a, by rw [List.getElem?_cons_succ]; exact ha, g⟩
/-- a dict with keys None or tuples (where the keys' tuples stand: keysO) -/
def objO (P : Program) (w : World) (a : Addr) (rows : List ORow) : HO := .ext fun h => rows.length ≤ sizeLine ∧ (a == sysModules) = false ∧ (rows.map (·.1)).Nodup ∧
  ∃ (xs : List (OKey × Addr × Value)) (o : Obj) (es : Array DictEntry) (ep : Nat), Paired relO rows xs ∧ h.get? a = some o ∧ o.ExactDict ∧ o.data = .dict es ep ∧ es.toList = xs.map (entO P w)
def keysO (H : Hp) (rows : List ORow) : Prop := ∀ r ∈ rows, ∀ ks : List L2.Key, r.1 = some ks → H r.2.1 = some (.tup (ks.map kV))
def kO (k : OKey) (a : Addr) : V := match k with | none => .non | some _ => .ref a
def keyO (H : Hp) (k : OKey) (a : Addr) : Prop := ∀ ks : List L2.Key, k = some ks → H a = some (.tup (ks.map kV))
def valO (rows : List ORow) (k : OKey) : Option V := (rows.find? fun r => decide (r.1 = k)).map (·.2.2)
def putO (rows : List ORow) (k : OKey) (a : Addr) (v : V) : List ORow := if (valO rows k).isSome then rows.map (fun r => if r.1 = k then (r.1, r.2.1, v) else r) else rows ++ [(k, a, v)]
theorem rel_kO {k : OKey} {a : Addr} {u : Value} (h : RelV (kO k a) u) : u = kvO k a := by
  cases k with
  | none => exact h
  | some ks => exact h
theorem putO_len (rows : List ORow) (k : OKey) (a : Addr) (v : V) : (putO rows k a v).length ≤ rows.length + 1 := by
  unfold putO
  split
  · rw [List.length_map]; omega
  · rw [List.length_append]; exact Nat.le_refl _
theorem relO_keys : ∀ {rows : List ORow} {xs : List (OKey × Addr × Value)}, Paired relO rows xs → rows.map (·.1) = xs.map (·.1)
  | _, _, .nil => rfl
  | _, _, .cons h t => by rw [List.map_cons, List.map_cons, h.1, relO_keys t]
theorem relO_val (k : OKey) : ∀ {rows : List ORow} {xs : List (OKey × Addr × Value)}, Paired relO rows xs → RelO (valO rows k) ((atKey xs k).map (·.2))
  | _, _, .nil => by exact True.intro
  | _, _, .cons (a := r) (b := x) (l₁ := rows) (l₂ := xs) h t => by
    unfold valO atKey
    rw [List.find?_cons, List.find?_cons, h.1]
    by_cases e : x.1 = k
    · rw [decide_eq_true e]
      exact h.2.2
    · rw [decide_eq_false e]
      exact relO_val k t
theorem relO_map (k : OKey) (v : V) (u : Value) (rv : RelV v u) : ∀ {rows : List ORow} {xs : List (OKey × Addr × Value)}, Paired relO rows xs → Paired relO (rows.map (fun r => if r.1 = k then (r.1, r.2.1, v) else r)) (xs.map (putAt k u))
  | _, _, .nil => .nil
  | _, _, .cons (a := r) (b := x) h t => by
    rw [List.map_cons, List.map_cons]
    refine .cons ?_ (relO_map k v u rv t)
    unfold putAt
    rw [h.1]
    by_cases e : x.1 = k
    · rw [if_pos e, if_pos e]
      exact ⟨rfl, h.2.1, rv⟩
    · rw [if_neg e, if_neg e]
      exact h
theorem relO_snoc {k : OKey} {a : Addr} {v : V} {u : Value} (rv : RelV v u) : ∀ {rows : List ORow} {xs : List (OKey × Addr × Value)}, Paired relO rows xs → Paired relO (rows ++ [(k, a, v)]) (xs ++ [(k, a, u)])
  | _, _, .nil => .cons ⟨rfl, rfl, rv⟩ .nil
  | _, _, .cons h t => .cons h (relO_snoc rv t)
theorem relO_put (k : OKey) (a : Addr) (v : V) (u : Value) (rv : RelV v u) {rows : List ORow} {xs : List (OKey × Addr × Value)} (h : Paired relO rows xs) : Paired relO (putO rows k a v) (storedH xs k a u) := by
  have q := (relO_val k h).isSome_eq
  rw [Option.isSome_map] at q
  unfold putO storedH
  rw [q]
  split
  · exact relO_map k v u rv h
  · exact relO_snoc rv h
theorem putO_nd {rows : List ORow} {k : OKey} {a : Addr} {v : V} (h : (rows.map (·.1)).Nodup) : ((putO rows k a v).map (·.1)).Nodup := by
  unfold putO
  cases e : valO rows k with
  | some u =>
    rw [if_pos (show (some u).isSome = true from rfl), List.map_map]
    have e2 : ((fun x : ORow => x.1) ∘ fun r : ORow => if r.1 = k then (r.1, r.2.1, v) else r) = fun r => r.1 := funext fun r => by
      show (if r.1 = k then (r.1, r.2.1, v) else r).1 = r.1
      split <;> rfl
    rw [e2]
    exact h
  | none =>
    rw [if_neg (by decide), List.map_append]
    refine List.nodup_append.mpr ⟨h, by simp, fun x hx y hy e3 => ?_⟩
    simp at hy
    subst hy
    subst e3
    obtain ⟨r, hr, er⟩ := List.mem_map.mp hx
    unfold valO at e
    rw [Option.map_eq_none_iff, List.find?_eq_none] at e
    exact e r hr (decide_eq_true er)
theorem keysO_put {H : Hp} {rows : List ORow} {k : OKey} {a : Addr} {v : V} (h : keysO H rows) (hk : keyO H k a) : keysO H (putO rows k a v) := by
  intro r hr ks e
  unfold putO at hr
  split at hr
  · obtain ⟨r0, h0, rfl⟩ := List.mem_map.mp hr
    by_cases e2 : r0.1 = k
    · rw [if_pos e2] at e ⊢
      exact h r0 h0 ks e
    · rw [if_neg e2] at e ⊢
      exact h r0 h0 ks e
  · rcases List.mem_append.mp hr with z | z
    · exact h r z ks e
    · rw [List.mem_singleton] at z
      subst z
      exact hk ks e
section
variable {X : Cx} {pins : List (Addr × Obj)} {σ : L2.St} {H : Hp} {s : Shared} {a : Addr} {rows : List ORow} {A : Around} {E : Value → Shared → Prop}
theorem isO_of (I : Inv X pins σ H s) {k : OKey} {b : Addr} (hk : keyO H k b) : isO X.prog X.w s.heap k b := by
  cases k with
  | none => exact True.intro
  | some ks => exact key_of I.hok (hk ks rfl)
theorem do_of (I : Inv X pins σ H s) (ha : H a = some (objO X.prog X.w a rows)) (hk : keysO H rows) : rows.length ≤ sizeLine ∧ (a == sysModules) = false ∧ ∃ xs, Paired relO rows xs ∧ DictO X.prog X.w s.heap a xs := by
  obtain ⟨⟨z, hd, nd, xs, o, es, ep, rel, h1, h2, h3, h4⟩, _⟩ := (show ObjOk X.prog X.w H s.heap a (objO X.prog X.w a rows) from I.hok a _ ha)
  refine ⟨z, hd, xs, rel, o, es, ep, h1, h2, h3, h4, fun x hx => ?_, by rw [← relO_keys rel]; exact nd⟩
  obtain ⟨j, hj⟩ := List.mem_iff_getElem?.mp hx
  obtain ⟨r, hr, e1, e2, _⟩ := pairedGet rel hj
  rw [← e2]
  refine isO_of I fun ks e => ?_
  exact hk r (List.mem_of_getElem? hr) ks (by rw [e1]; exact e)
theorem objO_ok {P : Program} {w : World} {H' : Hp} {h' : Heap} {xs : List (OKey × Addr × Value)} {o : Obj} {es : Array DictEntry} {ep : Nat} (z : rows.length ≤ sizeLine) (hd : (a == sysModules) = false) (nd : (rows.map (·.1)).Nodup) (rel : Paired relO rows xs) (h1 : h'.get? a = some o) (h2 : o.ExactDict) (h3 : o.data = .dict es ep) (h4 : es.toList = xs.map (entO P w)) : ObjOk P w H' h' a (objO P w a rows) :=
  ⟨⟨z, hd, nd, xs, o, es, ep, rel, h1, h2, h3, h4⟩, ⟨o, h1⟩, fun k1 k2 ⟨z, hd, nd, xs, o, es, ep, rel, h1, h2, h3, h4⟩ k => ⟨z, hd, nd, xs, o, es, ep, rel, k _ h1, h2, h3, h4⟩⟩
/-- {} -/
theorem pe_newO {pos : Pos} : PE X (.Dict [] [] pos) (fun _ H Q => ∀ p, H p = none → Q (.ref p) (upd H p (objO X.prog X.w p []))) := ⟨fun pins s σ H Q I h =>
  wpAny_Dict_empty ⟨.ref s.heap.objs.size, _, I.laid (a := s.heap.objs.size) (o := objO X.prog X.w s.heap.objs.size []) (t' := s.toks) (fun _ _ q => Heap.get?_push_of_some _ q) (Nat.le_refl _)
    (objO_ok (xs := []) (es := #[]) (ep := 0) (Nat.zero_le _) (beq_eq_false_iff_ne.mpr (Ne.symm (Nat.ne_of_lt I.big))) List.nodup_nil .nil (Heap.get?_push_size _ rfl) ⟨rfl, rfl, rfl⟩ rfl rfl), rfl, h _ (I.hok.fresh (Nat.le_refl _))⟩⟩
end
end K80
namespace K80
open PySem PySem.Spec PyProof.Rows L2 Gx GxR NdefX
open PySem.SeqAt
section
variable {P : Program} {w : World} {A : Around} {E : Value → Shared → Prop} {s : Shared}
theorem dictGetO {d a : Addr} {xs : List (OKey × Addr × Value)} {k : OKey} {Q : Option Value → Shared → Prop} (hu : A.units + 1 < cLine) (hkey : isO P w s.heap k a) (hm : DictO P w s.heap d xs)
    (h : Q ((atKey xs k).map (·.2)) { s with toks := s.toks + drawsO P w k }) : wpAny (model P w) A (dictGet d (kvO k a)) Q E s := by
  obtain ⟨o, es, ep, ho, _, hd, he, his, hn⟩ := hm
  unfold dictGet
  try with_reducible refine wpAny_holding ?_
  refine wpAny_bind (pyHashO hu hkey (wpAny_bind (findO (s := { s with toks := s.toks + drawsO P w k }) hu hkey ho hd he his hn ?_ ?_)))
  · intro hno
    rw [atKey_none_of_get hno] at h
    exact wpAny_pure h
  · intro j p hj
    rw [atKey_of_get hn hj] at h
    refine wpAny_bind (wpAny_dictEntries (s := { s with toks := s.toks + drawsO P w k }) ho hd ?_)
    rw [entO_at he j, hj]
    exact wpAny_pure h
theorem keepsO {h h' : Heap} {k : OKey} {a d : Addr} {o : Obj} {es ep} (x : isO P w h k a) (ho : h.get? d = some o) (hd : o.data = .dict es ep) (hs : Heap.SameBut d h h') : isO P w h' k a := by
  cases k with
  | none => exact True.intro
  | some ks => exact (tupleKind (mixKind P w)).keeps x ho hd hs
theorem dictSetO {d a : Addr} {xs : List (OKey × Addr × Value)} {k : OKey} {v : Value} {Q : Unit → Shared → Prop} (hu : A.units + 1 < cLine) (hkey : isO P w s.heap k a) (hm : DictO P w s.heap d xs)
    (hQ : ∀ h', DictO P w h' d (storedH xs k a v) → Heap.SameBut d s.heap h' → Q () { s with heap := h', toks := s.toks + drawsO P w k })
    (hsz : xs.length ≤ sizeLine) :
    wpAny (model P w) A (dictSet d (kvO k a) v) Q E s := by
  obtain ⟨o, es, ep, ho, hc, hd, he, his, hn⟩ := hm
  unfold dictSet
  try with_reducible refine wpAny_holding ?_
  refine wpAny_bind (pyHashO hu hkey ?_)
  unfold dictSetHashed
  try with_reducible refine wpAny_holding ?_
  refine wpAny_bind (findO (s := { s with toks := s.toks + drawsO P w k }) hu hkey ho hd he his hn ?_ ?_)
  · intro hno
    have hnot : k ∉ xs.map (·.1) := not_mem_keys_of_get hno
    refine wpAny_bind (wpAny_rule (wpAny_updateDictKeys (hz := by have e := sizeO he; omega) (s := { s with toks := s.toks + drawsO P w k }) ho hd (hQ _ ⟨_, _, ep + 1, Heap.get?_update_self _ ho (Obj.isFreed_of_dict (Obj.data_mapDictKeys hd _)),
      hc.mapDictKeys _, Obj.data_mapDictKeys hd _, ?_, ?_, ?_⟩ (Heap.SameBut.update ..))))
    · rw [storedH_new (atKey_none_of_get hno)]
      simp [he, entO]
    · rw [storedH_new (atKey_none_of_get hno)]
      intro x hx
      rcases List.mem_append.mp hx with hx | hx
      · exact keepsO (his x hx) ho hd (Heap.SameBut.update ..)
      · simp only [List.mem_singleton] at hx
        subst hx
        exact keepsO hkey ho hd (Heap.SameBut.update ..)
    · rw [storedH_new (atKey_none_of_get hno)]
      rw [List.map_append, List.nodup_append]
      refine ⟨hn, by simp, ?_⟩
      intro x hx y hy
      simp only [List.map_cons, List.map_nil, List.mem_singleton] at hy
      subst hy
      exact fun e => hnot (e ▸ hx)
  · intro j p hj
    refine wpAny_bind (wpAny_rule (wpAny_bind (wpAny_updateDict (s := { s with toks := s.toks + drawsO P w k }) ho hd (wpAny_point (hQ _ ⟨_, _, ep, Heap.get?_update_self _ ho (Obj.isFreed_of_dict (Obj.data_mapDict hd _)),
      hc.mapDict _, Obj.data_mapDict hd _, ?_, ?_, ?_⟩ (Heap.SameBut.update ..))))))
    · rw [storedH_old (atKey_of_get hn hj)]
      have := modify_map_putAt (entO P w) (fun e : DictEntry => { e with val := v }) k v (fun a v₀ => by cases k <;> rfl) hn hj
      rw [← he] at this
      obtain ⟨l⟩ := es
      simpa using this
    · rw [storedH_old (atKey_of_get hn hj)]
      intro x hx
      obtain ⟨y, hy, rfl⟩ := List.mem_map.mp hx
      unfold putAt
      split <;> exact keepsO (his y hy) ho hd (Heap.SameBut.update ..)
    · rw [storedH_old (atKey_of_get hn hj)]
      rw [keys_map_putAt]; exact hn
theorem DictO.typeIs {d : Addr} {xs : List (OKey × Addr × Value)} (hm : DictO P w s.heap d xs) : s.TypeIs (.ref d) "dict" :=
  let ⟨o, _, _, ho, hc, _⟩ := hm; ⟨o, ho, hc.1⟩
theorem meetsO_get (k : OKey) (d a : Addr) (hd : (d == sysModules) = false) (dflt : Value) :
    MeetsIn P w (Builtin.«dict.get» ⟨[.ref d, kvO k a, dflt], []⟩) (fun A R s => A.in1.units + 1 < cLine ∧ ∃ xs, isO P w s.heap k a ∧ DictO P w s.heap d xs ∧
      R (.ok (.ret (((atKey xs k).map (·.2)).getD dflt))) { s with toks := s.toks + drawsO P w k }) :=
  .of_wp fun A R s ⟨hu, xs, hkey, hm, h⟩ => by
    show wpAny _ _ (dictGet d (kvO k a) >>= _) _ _ s
    refine wpAny_bind (dictGetO hu hkey hm ?_)
    cases hf : (atKey xs k).map (·.2) with
    | some v =>
      rw [hf] at h
      exact wpAny_pure ⟨v, rfl, h⟩
    | none =>
      rw [hf] at h
      show wpAny _ _ (Builtin.Dict.missed d (kvO k a) >>= _) _ _ _
      exact wpAny_bind (wpAny_missed_other hd (wpAny_pure ⟨dflt, rfl, h⟩))
theorem setItemO {d a : Addr} {xs : List (OKey × Addr × Value)} {k : OKey} {v : Value} {Q : Unit → Shared → Prop} (hu : A.in1.units + 1 < cLine) (hkey : isO P w s.heap k a) (hm : DictO P w s.heap d xs)
    (hQ : ∀ h', DictO P w h' d (storedH xs k a v) → Heap.SameBut d s.heap h' → Q () { s with heap := h', toks := s.toks + drawsO P w k })
    (hsz : xs.length ≤ sizeLine) :
    wpAny (model P w) A (setItem (.ref d) (kvO k a) v) Q E s := by
  unfold setItem
  try with_reducible refine wpAny_holding ?_
  refine wpAny_bind (wpAny_sequenceKey hm.typeIs (by decide) ?_)
  refine wpAny_bind (wpAny_callSpecial?_slot (name := Str.ofString "__setitem__") hm.typeIs slot_dict_setitem
    (wpAny_call_entry slot_dict_setitem hm.typeIs entry_dict_setitem ?_ (args_dict_setitem _ _ _)))
  show wpAny _ _ (Builtin.Dict.notOrdered "__setitem__" ⟨[.ref d, kvO k a, v], []⟩ >>= _) _ _ s
  refine wpAny_bind (wpAny_notOrdered_dict hm.typeIs ?_)
  show wpAny _ _ (dictSet d (kvO k a) v >>= _) _ _ s
  exact wpAny_bind (dictSetO hu hkey hm (fun h' hm' hs' => wpAny_pure ⟨.none, rfl, wpAny_pure (hQ h' hm' hs')⟩) hsz)
end
section
variable {X : Cx} {o i e f value : Expr} {apos cpos pos pos' : Pos} {td ty tx tv : TE}
def tGet2O (P : Program) (w : World) (td ty tx : TE) : TE := fun σ H Q => td σ H fun x H1 => ∃ a rows, x = .ref a ∧ H1 a = some (objO P w a rows) ∧ keysO H1 rows ∧ ty σ H1 fun y H2 => tx σ H2 fun z H3 => ∃ rows' k b, H3 a = some (objO P w a rows') ∧ keysO H3 rows' ∧ y = kO k b ∧ keyO H3 k b ∧ Q ((valO rows' k).getD z) H3
theorem pe_get2O (hu : X.A.units + 2 < cLine) (ho : PE X o td) (he : PE X e ty) (hf : PE X f tx) (m : M2 X o "get" apos e f cpos) : PE X (.Call (.Attribute o "get" apos) [e, f] [] cpos) (tGet2O X.prog X.w td ty tx) := by
  refine ⟨fun pins s σ H Q I h => ?_⟩
  refine wpAny_Call_method m.base m.few m.line PySem.F.plainAttrs_dict PySem.F.slot_dict_get PySem.F.type_dict_get (thn (ho.run pins s σ H _ I h) fun u s1 ⟨x, H1, I1, rx, a, rows, ex, ha, hk, q1⟩ => ?_)
  subst ex
  obtain rfl : u = Value.ref a := rx
  obtain ⟨z, hd, xs, rel, dd⟩ := do_of I1 ha hk
  refine ⟨dd.typeIs, fun b q => ?_, ?_⟩
  · cases q
    obtain ⟨ob, _, _, h1, h2, _⟩ := dd
    exact ⟨ob, h1, h2.2.1⟩
  rw [m.trees]
  refine Calls.callWith_builtin rfl (Calls.evalArgs_plain (Calls.spliced_cons (thn (he.run pins s1 σ H1 _ I1 q1) fun iv s2 ⟨y, H2, I2, ry, q2⟩ =>
    Calls.spliced_cons (thn (hf.run pins s2 σ H2 _ I2 q2) fun fv s3 ⟨z, H3, I3, rz, rows', k, b, ha3, hk3, ey, kk, q3⟩ => Calls.spliced_nil ?_))))
  subst ey
  obtain rfl := rel_kO ry
  obtain ⟨z3, hd3, xs3, rel3, dd3⟩ := do_of I3 ha3 hk3
  refine call_meetsIn PySem.F.slot_dict_get dd3.typeIs PySem.F.entry_dict_get (PySem.F.args_dict_get_3 _ _ _) (meetsO_get k a b hd3 fv) ⟨?_, xs3, isO_of I3 kk, dd3, ⟨_, H3, I3.tok _, ?_, q3⟩⟩
  · show X.A.units + 1 + 1 < cLine
    exact hu
  · exact (relO_val k rel3).getD rz
def sPutO (P : Program) (w : World) (td ty tv : TE) : TS := fun D σ H => tv σ H fun v H1 => td σ H1 fun x H2 => ty σ H2 fun y H3 => ∃ a rows k b, x = .ref a ∧ H3 a = some (objO P w a rows) ∧ keysO H3 rows ∧ y = kO k b ∧ keyO H3 k b ∧ rows.length < sizeLine ∧ D.nx σ (upd H3 a (objO P w a (putO rows k b v)))
theorem ps_putO (hu : X.A.units + 2 < cLine) (ho : PE X o td) (hi : PE X i ty) (hv : PE X value tv) (hs : swapsWith value (some (.Subscript o i pos')) pos.line X.env = pure false) :
    PS X (.Assign [.Subscript o i pos'] value pos) (sPutO X.prog X.w td ty tv) := by
  refine ⟨fun pins s σ H D I h => ?_⟩
  refine wpAny_Assign_Subscript (thn (hv.run pins s σ H _ I h) fun r s1 ⟨v, H1, I1, rv, q1⟩ => thn (ho.run pins s1 σ H1 _ I1 q1) fun u s2 ⟨x, H2, I2, rx, q2⟩ => thn (hi.run pins s2 σ H2 _ I2 q2) fun iv s3 ⟨y, H3, I3, ry, a, rows, k, b, ex, ha, hk, ey, kk, hl, q3⟩ => ?_) hs
  subst ex ey
  obtain rfl : u = Value.ref a := rx
  obtain rfl := rel_kO ry
  obtain ⟨z, hd, xs, rel, dd⟩ := do_of I3 ha hk
  have nd : (rows.map (·.1)).Nodup := by
    obtain ⟨_, _, _, _, _, _, _, _, h5⟩ := dd
    rw [relO_keys rel]
    exact h5
  refine setItemO (show X.A.units + 1 + 1 < cLine from hu) (isO_of I3 kk) dd (fun h' dd' hs => ?_) (by rw [← Paired.length rel]; exact z)
  obtain ⟨q, es, ep, hq, h2, h3, h4, _, h5⟩ := dd'
  exact ⟨σ, _, d_write I3 (by rw [ha]; exact True.intro) hs ⟨q, hq⟩ (objO_ok (by have := putO_len rows k b v; omega) hd (putO_nd nd) (relO_put k b v r rv rel) hq h2 h3 h4), q3⟩
end
end K80
namespace K80
open PySem PySem.Spec PyProof.Rows L2 Gx GxR NdefX
open PySem.SeqAt
/-- code that is not reached -/
theorem pss_no {X : Cx} {b : List Stmt} : PSs X b (fun _ _ _ => False) := ⟨fun _ _ _ _ _ _ h => h.elim⟩
section
variable {P : Program} {w : World} {K : PySem.W.Frag} {mg : Str → Option Value} {base : Heap}
def spLOff : Sp := fun vs H Q _ => ∃ (ol : Addr) (us : List V) (ops : List Op), vs = [.ref ol] ∧ H ol = some (.lst us) ∧ All2 (OpAt H) us ops ∧ (∀ o ∈ ops, o.kind ≠ .undo) ∧
  ∀ H' d, H' d = some (.dT []) → Gw D0 H H' → H d = none → Q (.ref d) H'
theorem scLOff : FnScope ["operations", "turns", "off", "operation", "own"] ["operations"] (defScope (top 47)) := ⟨rfl, rfl, rfl, by decide +kernel, rfl, by decide +kernel, by decide +kernel⟩
theorem ok_lOff (D : Df K mg "_law_off" (top 47) ["operations"]) (T : Bi mg) : Fn P w K mg base 3 "_law_off" ["operations"] spLOff := by
  refine D.ok scLOff (fun vs H Q E h => ?_) (fun cdv f A0 outer s H vs Q E hr h => ?_)
  · obtain ⟨ol, us, ops, rfl, _⟩ := h
    rfl
  · obtain ⟨ol, us, ops, rfl, hol, hus, hnu, q⟩ := h
    refine ⟨_, (pss_cons (ps_asg (pe_tup (pa_cons (pe_dnewT) (pa_cons (pe_dnewT) pa_nil))) (pg_tup (by rfl) (pgs_cons (pg_name (i := 1) scLOff.nd rfl (Or.inl rfl)) (pgs_cons (pg_name (i := 2) scLOff.nd rfl (Or.inr rfl)) pgs_nil))))
      (pss_cons (ps_for PassesOwn.never rfl (pi_list (pv 0)) (pg_name (i := 3) scLOff.nd rfl (Or.inl rfl)) (pss_one (ps_if (pt_cmpR op_eq (pe_ix ix_tup (pv 3) (pe_int) (fun _ _ => rfl)) pe_str (nomark _)) pss_no pss_nil)))
      (pss_cons (ps_for PassesOwn.never rfl (pi_list (pe_revL (pe_callB Sx.cr_sorted2 (by rfl) T.sorted_ (by decide +kernel) (pa_cons ((pe_callTy (call_list_dT rfl) (by rfl) T.list_ (by decide +kernel) (pa_cons (pv 1) pa_nil))) pa_nil)))) (pg_name (i := 4) scLOff.nd rfl (Or.inl rfl)) pss_no)
      (pss_one (ps_ret (pv 2)))))), ?_⟩
    intro t1 n1 t2 n2
    refine ⟨(by rw [sizeLine_eq]; show 2 ≤ _; omega), fun tp ntp => ?_⟩
    refine ⟨tp, _, rfl, SqT.of upd_same, rfl, _, _, rfl, _, _, rfl, rfl, ?_⟩
    have ne12 : t1 ≠ t2 := ne_of_none upd_same n2
    have ne1p : t1 ≠ tp := ne_of_none (by rw [upd_ne ne12]; exact upd_same) ntp
    have ne2p : t2 ≠ tp := ne_of_none upd_same ntp
    have g1 : Gw D0 H (upd (upd (upd H t1 (.dT [])) t2 (.dT [])) tp (.tup [.ref t1, .ref t2])) := ((Gw.refl.new n1).trans (Gw.refl.new n2)).trans (Gw.refl.new ntp)
    have h1 : upd (upd (upd H t1 (.dT [])) t2 (.dT [])) tp (.tup [.ref t1, .ref t2]) t1 = some (.dT []) := by rw [upd_ne ne1p, upd_ne ne12]; exact upd_same
    have h2 : upd (upd (upd H t1 (.dT [])) t2 (.dT [])) tp (.tup [.ref t1, .ref t2]) t2 = some (.dT []) := by rw [upd_ne ne2p]; exact upd_same
    have n2H : H t2 = none := (Gw.refl.new n1 : Gw D0 H _).non _ n2
    generalize upd (upd (upd H t1 (.dT [])) t2 (.dT [])) tp (.tup [.ref t1, .ref t2]) = H1 at g1 h1 h2 ⊢
    have hol1 := g1.oth _ _ hol (fun _ z => by cases z) (fun z => z)
    refine ⟨_, rfl, ol, rfl, ⟨us, SqL.of hol1⟩, for_it (walk_list (xs := us)) (fun i σ H' => (∃ x3, σ = [some (.ref ol), some (.ref t1), some (.ref t2), x3, none]) ∧ H' = H1) ⟨⟨_, rfl⟩, rfl⟩ (fun i σ H' _ z => by rw [z.2]; exact SqL.of hol1) ?_ ?_⟩
    · rintro i y σ H2 H3 hi ⟨⟨x3, rfl⟩, rfl⟩ ⟨rfl, hy⟩
      obtain ⟨o, ho, a, vi, vr, rfl, hoa, _⟩ := hus.get hy
      refine ⟨_, rfl, _, _, _, _, rfl, rfl, SqT.of (g1.tup _ _ hoa), at0 o _ _, rfl, _, rfl, ?_⟩
      rw [kd_equ, decide_eq_false (hnu o (List.mem_of_getElem? ho))]
      exact iteF ⟨⟨_, rfl⟩, rfl⟩
    · rintro σ H2 ⟨⟨x3, rfl⟩, rfl⟩
      refine ⟨_, rfl, t1, [], rfl, .inl h1, fun p bs np hbs => ?_⟩
      cases hbs
      refine ⟨p, [], rfl, SqL.of upd_same, (fun x hx => by cases hx), oneKind ([] : List Id), fun L' p2 hp _ np2 => ?_⟩
      have eL : L' = [] := List.length_eq_zero_iff.mp (by rw [hp.length_eq]; rfl)
      subst eL
      refine ⟨p2, [], rfl, SqL.of upd_same, fun p3 np3 => ⟨p3, rfl, ⟨[], SqL.of (show _ = some (HO.lst []) from upd_same)⟩, ?_⟩⟩
      have g2 : Gw D0 H2 (upd (upd (upd H2 p (.lst [])) p2 (.lst [])) p3 (.lst [])) := ((Gw.refl.new np).trans (Gw.refl.new np2)).trans (Gw.refl.new np3)
      have hp3 : upd (upd (upd H2 p (.lst [])) p2 (.lst [])) p3 (.lst []) p3 = some (.lst []) := upd_same
      generalize hH3 : upd (upd (upd H2 p (.lst [])) p2 (.lst [])) p3 (.lst []) = H3 at g2 hp3
      refine for_it (tb := fun _ _ _ => False) (walk_list (K := K) (a := p3) (xs := ([] : List V))) (fun i σ H' => σ = [some (.ref ol), some (.ref t1), some (.ref t2), x3, none] ∧ H' = H3) ⟨rfl, hH3⟩ (fun i σ H' _ z => z.2 ▸ SqL.of hp3) (fun i x σ H' H'' hi => absurd hi (Nat.not_lt_zero _)) ?_
      rintro σ H' ⟨rfl, rfl⟩
      exact ⟨_, rfl, q _ t2 (g2.oth _ _ h2 (fun _ z => by cases z) (fun z => z)) (g1.trans g2) n2H⟩
end
end K80
namespace K80
open PySem PySem.Spec PyProof.Rows L2 Gx GxR NdefX
open PySem.SeqAt
def childs (ops : List Op) (r : Option Id) : List Id := (ops.filter fun o => decide (o.kind = .put) && decide (o.ref = r)).map (·.id)
theorem childs_snoc_other {ops : List Op} {o : Op} (r : Option Id) (h : o.kind ≠ .put ∨ o.ref ≠ r) : childs (ops ++ [o]) r = childs ops r := by
  unfold childs
  rw [List.filter_append, List.map_append]
  have e : (decide (o.kind = .put) && decide (o.ref = r)) = false := by
    rcases h with h | h
    · rw [decide_eq_false h]; rfl
    · rw [decide_eq_false h, Bool.and_false]
  rw [List.filter_cons, if_neg (by rw [e]; exact Bool.false_ne_true)]
  simp
theorem childs_snoc {ops : List Op} {o : Op} (h : o.kind = .put) : childs (ops ++ [o]) o.ref = childs ops o.ref ++ [o.id] := by
  unfold childs
  rw [List.filter_append, List.map_append]
  have e : (decide (o.kind = .put) && decide (o.ref = o.ref)) = true := by
    rw [decide_eq_true h, decide_eq_true rfl]; rfl
  rw [List.filter_cons, if_pos e]
  rfl
abbrev ValU (H : Hp) (ops : List Op) (rows : List ORow) (B : Addr → Prop) (r : Option Id) : Prop := (valO rows (r.map idK) = none ∧ childs ops r = []) ∨ ∃ l us, valO rows (r.map idK) = some (.ref l) ∧ H l = some (.lst us) ∧ All2 (IdAt H) us (childs ops r) ∧ ¬ B l
/-- the dict of those that stand under each; its lists are not in B -/
def UnderAt (P : Program) (w : World) (H : Hp) (d : Addr) (ops : List Op) (B : Addr → Prop) : Prop := ∃ rows : List ORow, H d = some (objO P w d rows) ∧ keysO H rows ∧ rows.length ≤ ops.length ∧ ∀ r : Option Id, ValU H ops rows B r
theorem refKO {H : Hp} {v : V} : ∀ {r : Option Id}, RefAt H v r → ∃ b, v = kO (r.map idK) b ∧ keyO H (r.map idK) b
  | none, h => ⟨0, h, fun ks e => by cases e⟩
  | some i, h => by
    obtain ⟨a, rfl, ha⟩ := h
    refine ⟨a, rfl, fun ks e => ?_⟩
    cases e
    rw [idK_map]
    exact ha
theorem valO_put (rows : List ORow) (k k' : OKey) (a : Addr) (v : V) : valO (putO rows k a v) k' = if k' = k then some v else valO rows k' := by
  unfold putO
  cases e : valO rows k with
  | none =>
    rw [if_neg (by rw [Option.isSome_none]; exact Bool.false_ne_true)]
    unfold valO at e ⊢
    rw [List.find?_append]
    by_cases ek : k' = k
    · subst ek
      rw [if_pos rfl]
      rw [Option.map_eq_none_iff] at e
      rw [e]
      simp
    · rw [if_neg ek]
      cases hf : rows.find? fun r => decide (r.1 = k') with
      | some x => rfl
      | none =>
        simp
        exact fun z => ek z.symm
  | some u =>
    rw [if_pos (by rfl)]
    have key : ∀ rows : List ORow, (valO rows k).isSome = true → valO (rows.map fun r => if r.1 = k then (r.1, r.2.1, v) else r) k' = if k' = k then some v else valO rows k' := by
      intro rows
      induction rows with
      | nil => intro z; cases z
      | cons r rows ih =>
        intro z
        unfold valO at z ih ⊢
        rw [List.map_cons, List.find?_cons, List.find?_cons]
        rw [List.find?_cons] at z
        by_cases e1 : r.1 = k
        · rw [if_pos e1]
          by_cases e2 : k' = k
          · subst e2
            rw [if_pos rfl]
            rw [decide_eq_true (show (r.1, r.2.1, v).1 = k' from e1)]
            rfl
          · rw [if_neg e2, decide_eq_false (show ¬ (r.1, r.2.1, v).1 = k' from fun z => e2 (z.symm.trans e1))]
            by_cases e3 : (valO rows k).isSome = true
            · have := ih e3
              rw [if_neg e2] at this
              exact this
            · have e4 : ∀ x ∈ rows, ¬ x.1 = k := fun x hx ex => e3 (by
                unfold valO
                rw [Option.isSome_map, List.find?_isSome]
                exact ⟨x, hx, decide_eq_true ex⟩)
              have e5 : (rows.map fun r => if r.1 = k then (r.1, r.2.1, v) else r) = rows := by
                conv => rhs; rw [← List.map_id rows]
                exact List.map_congr_left fun x hx => if_neg (e4 x hx)
              show ((rows.map fun r => if r.1 = k then (r.1, r.2.1, v) else r).find? _).map _ = _
              rw [e5]
        · rw [if_neg e1]
          rw [decide_eq_false e1] at z
          by_cases e2 : r.1 = k'
          · rw [decide_eq_true e2]
            rw [if_neg (show ¬ k' = k from fun z => e1 (e2.trans z))]
          · rw [decide_eq_false e2]
            exact ih z
    exact key rows (by rw [e]; rfl)
theorem idK_opt {r r' : Option Id} (h : r.map idK = r'.map idK) : r = r' := by
  cases r with
  | none =>
    cases r' with
    | none => rfl
    | some _ => cases h
  | some i =>
    cases r' with
    | none => cases h
    | some j => rw [idK_inj (Option.some.inj h)]
/-- the walk of the tree ends, in n turns, with res found -/
def OrdN (ops : List Op) (res : List Id) : Nat → List Id → List Id → Prop
  | 0, left, found => left = [] ∧ found = res
  | n + 1, left, found => ∃ l own, left = l ++ [own] ∧ l.length + ops.length ≤ 100000 ∧ found.length ≤ 100000 ∧ OrdN ops res n (l ++ sortI (childs ops (some own))) (found ++ [own])
theorem childs_len (ops : List Op) (r : Option Id) : (childs ops r).length ≤ ops.length := by
  unfold childs
  rw [List.length_map]
  exact List.length_filter_le _ _
end K80
namespace K80
open PySem PySem.Spec PyProof.Rows L2 Gx GxR NdefX
open PySem.SeqAt
section
variable {X : Cx} {P : Program} {w : World} {o i e f value : Expr} {apos cpos pos pos' : Pos} {td ty tx tv : TE}
theorem pe_newP (hP : X.prog = P) (hw : X.w = w) : PE X (.Dict [] [] pos) (fun _ H Q => ∀ p, H p = none → Q (.ref p) (upd H p (objO P w p []))) := by
  subst hP hw
  exact pe_newO
theorem pe_get2P (hP : X.prog = P) (hw : X.w = w) (hu : X.A.units + 64 < cLine) (ho : PE X o td) (he : PE X e ty) (hf : PE X f tx) (m : M2 X o "get" apos e f cpos) : PE X (.Call (.Attribute o "get" apos) [e, f] [] cpos) (tGet2O P w td ty tx) := by
  subst hP hw
  exact pe_get2O (by omega) ho he hf m
theorem ps_putP (hP : X.prog = P) (hw : X.w = w) (hu : X.A.units + 64 < cLine) (ho : PE X o td) (hi : PE X i ty) (hv : PE X value tv) (hs : swapsWith value (some (.Subscript o i pos')) pos.line X.env = pure false) :
    PS X (.Assign [.Subscript o i pos'] value pos) (sPutO P w td ty tv) := by
  subst hP hw
  exact ps_putO (by omega) ho hi hv hs
end
section
variable {P : Program} {w : World} {K : PySem.W.Frag} {mg : Str → Option Value} {base : Heap}
/-- a list of ids, as sorting wants it -/
theorem sortable {H : Hp} : ∀ {us : List V} {ids : List Id}, All2 (IdAt H) us ids → ∃ L : List (Addr × Sx.K2), us = L.map (fun p => V.ref p.1) ∧ Sx.Pairs H L ∧ L.map (·.2) = ids.map id2
  | [], ids, h => ⟨[], rfl, (fun p hp => by cases hp), by rw [All2.nil_inv h]; rfl⟩
  | u :: us, ids, h => by
    obtain ⟨i, ids', rfl, ⟨a, rfl, ha⟩, t⟩ := All2.uncons h
    obtain ⟨L, e1, e2, e3⟩ := sortable t
    refine ⟨(a, id2 i) :: L, by rw [List.map_cons, ← e1], fun p hp => ?_, by rw [List.map_cons, List.map_cons, e3]⟩
    rcases List.mem_cons.mp hp with e | hp
    · subst e
      exact ha
    · exact e2 p hp
theorem ValU.gw {D B B' : Addr → Prop} {H H' : Hp} {ops : List Op} {rows : List ORow} {r : Option Id} (h : ValU H ops rows B r) (g : Gw D H H') (nl : ∀ b, D b ∨ B' b → B b ∨ H b = none) : ValU H' ops rows B' r := h.imp id fun ⟨l, us, f1, f2, f3, f4⟩ => by
  have no : ∀ b, D b ∨ B' b → b ≠ l := fun b z e => by
    subst e
    rcases nl _ z with y | y
    · exact f4 y
    · rw [f2] at y; cases y
  exact ⟨l, us, f1, g.oth _ _ f2 (fun _ z => by cases z) (fun z => no l (.inl z) rfl), f3.mono fun _ _ z => z.gw g, fun z => no l (.inr z) rfl⟩
theorem UnderAt.gw {P : Program} {w : World} {D B B' : Addr → Prop} {H H' : Hp} {d : Addr} {ops : List Op} (h : UnderAt P w H d ops B) (g : Gw D H H') (nd : ¬ D d) (nl : ∀ b, D b ∨ B' b → B b ∨ H b = none) : UnderAt P w H' d ops B' := by
  obtain ⟨rows, e1, e2, e3, e4⟩ := h
  exact ⟨rows, g.oth _ _ e1 (fun _ z => by cases z) nd, fun r hr ks e => g.tup _ _ (e2 r hr ks e), e3, fun r => (e4 r).gw g nl⟩
theorem same0 {B : Addr → Prop} {H : Hp} : ∀ b, D0 b ∨ B b → B b ∨ H b = none := fun _ z => z.elim (fun z => z.elim) .inl
theorem getU {H : Hp} {e : Addr} {ops : List Op} {rows : List ORow} {B : Addr → Prop} (h : ∀ r : Option Id, ValU H ops rows B r) (he : H e = some (.lst [])) (r : Option Id) :
    ∃ l us, (valO rows (r.map idK)).getD (.ref e) = .ref l ∧ H l = some (.lst us) ∧ All2 (IdAt H) us (childs ops r) := by
  rcases h r with ⟨z1, z2⟩ | ⟨l, us, z1, z2, z3, _⟩
  · exact ⟨e, [], by rw [z1]; rfl, he, by rw [z2]; exact All2.nil⟩
  · exact ⟨l, us, by rw [z1]; rfl, z2, z3⟩
theorem sorted_ids {H : Hp} {us : List V} {ids : List Id} (h : All2 (IdAt H) us ids) : ∃ L : List (Addr × Sx.K2), us = L.map (fun p => V.ref p.1) ∧ Sx.Pairs H L ∧ Sx.OneKind (L.map (·.2)) ∧ ∀ L' : List (Addr × Sx.K2), L'.Perm L → Sx.Up L' → All2 (IdAt H) (L'.map fun p => V.ref p.1) (sortI ids) := by
  obtain ⟨L, e1, e2, e3⟩ := sortable h
  refine ⟨L, e1, e2, by rw [e3]; exact oneKind ids, fun L' hp up => ?_⟩
  have hL' : Sx.Pairs H L' := fun p hx => e2 p (hp.mem_iff.mp hx)
  obtain ⟨js, jp, e4, a4⟩ := ids_of (ids := ids) hL' (by rw [← e3]; exact hp.map _)
  rw [sortI_is (up_ids up e4) jp] at a4
  exact a4
def spLOrder : Sp := fun vs H Q _ => ∃ (ol : Addr) (us : List V) (ops : List Op) (res : List Id) (n : Nat), vs = [.ref ol] ∧ H ol = some (.lst us) ∧ All2 (OpAt H) us ops ∧ (∀ o ∈ ops, OpS o) ∧ ops.length ≤ 100000 ∧ OrdN ops res n (sortI (childs ops none)) [] ∧
  ∀ H' f fs, H' f = some (.lst fs) → All2 (IdAt H') fs res → H f = none → Gw D0 H H' → Q (.ref f) H'
theorem scLOrder : FnScope ["operations", "under", "found", "left", "operation", "own"] ["operations"] (defScope (top 48)) := ⟨rfl, rfl, rfl, by decide +kernel, rfl, by decide +kernel, by decide +kernel⟩
theorem ok_lOrder (D : Df K mg "_law_order" (top 48) ["operations"]) (T : Bi mg) : Fn P w K mg base 3 "_law_order" ["operations"] spLOrder := by
  refine D.ok scLOrder (fun vs H Q E h => ?_) (fun cdv f A0 outer s H vs Q E hr h => ?_)
  · obtain ⟨ol, us, ops, _, _, rfl, _⟩ := h
    rfl
  · obtain ⟨ol, us, ops, res, n, rfl, hol, hus, hos, hlen, hord, q⟩ := h
    refine ⟨_, (pss_cons (ps_par3 (i := 1) (j := 2) (l := 3) (by rfl) scLOrder.nd rfl rfl rfl (by decide) (by decide) (by decide) rfl rfl rfl (pa_cons (pe_newP (P := P) (w := w) rfl rfl) (pa_cons (pe_lst pa_nil) (pa_cons (pe_lst pa_nil) pa_nil))) (by rfl))
      (pss_cons (ps_for PassesOwn.never rfl (pi_list (pv 0)) (pg_name (i := 4) scLOrder.nd rfl (Or.inl rfl)) (pss_one (ps_if (pt_cmpR op_eq (pe_ix ix_tup (pv 4) (pe_int) (fun _ _ => rfl)) pe_str (nomark _))
        (pss_one (ps_putP (P := P) (w := w) rfl rfl hr.units (pv 1) (pe_ix ix_tup (pv 4) (pe_int) (fun _ _ => rfl)) (pe_op op_cat (pe_get2P (P := P) (w := w) rfl rfl hr.units (pv 1) (pe_ix ix_tup (pv 4) (pe_int) (fun _ _ => rfl)) (pe_lst pa_nil) ⟨by rfl, by rfl, by rfl, by rfl⟩) (pe_lst (pa_cons ((pe_ix ix_tup (pv 4) (pe_int) (fun _ _ => rfl))) pa_nil))) rfl)) pss_nil)))
      (pss_cons ((ps_set (i := 3) scLOrder.nd rfl (Or.inl rfl) ((pe_callB Sx.cr_sorted2 (by rfl) T.sorted_ (by decide +kernel) (pa_cons (pe_get2P (P := P) (w := w) rfl rfl hr.units (pv 1) pe_non (pe_lst pa_nil) ⟨by rfl, by rfl, by rfl, by rfl⟩) pa_nil)))))
      (pss_cons (ps_while PassesOwn.never (pt_cmpR (op_neD hr.units) (pv 3) (pe_lst pa_nil) (nomark _)) (pss_cons ((ps_set (i := 5) scLOrder.nd rfl (Or.inl rfl) ((pe_bm0 PySem.F.plainAttrs_list PySem.F.slot_list_pop PySem.F.type_list_pop mt_pop (pv 3)))))
      (pss_cons (ps_expr (pe_bm PySem.F.plainAttrs_list PySem.F.slot_list_append PySem.F.type_list_append mt_append (pv 2) (pa_cons (pv 5) pa_nil)))
      (pss_one ((ps_set (i := 3) scLOrder.nd rfl (Or.inl rfl) (pe_op op_cat (pv 3) (pe_callB Sx.cr_sorted2 (by rfl) T.sorted_ (by decide +kernel) (pa_cons (pe_get2P (P := P) (w := w) rfl rfl hr.units (pv 1) (pv 5) (pe_lst pa_nil) ⟨by rfl, by rfl, by rfl, by rfl⟩) pa_nil)))))))))
      (pss_one (ps_ret (pv 2))))))), ?_⟩
    intro d nd
    refine ⟨Nat.zero_le _, fun fo nfo => ⟨Nat.zero_le _, fun le nle => ⟨_, _, _, rfl, ?_⟩⟩⟩
    have g1 : Gw D0 H (upd (upd (upd H d (objO P w d [])) fo (.lst [])) le (.lst [])) := ((Gw.refl.new nd).trans (Gw.refl.new nfo)).trans (Gw.refl.new nle)
    have ndf : d ≠ fo := ne_of_none upd_same nfo
    have ndl : d ≠ le := ne_of_none (by rw [upd_ne ndf]; exact upd_same) nle
    have nfl : fo ≠ le := ne_of_none upd_same nle
    have hd1 : upd (upd (upd H d (objO P w d [])) fo (.lst [])) le (.lst []) d = some (objO P w d []) := by rw [upd_ne ndl, upd_ne ndf]; exact upd_same
    have hf1 : upd (upd (upd H d (objO P w d [])) fo (.lst [])) le (.lst []) fo = some (.lst []) := by rw [upd_ne nfl]; exact upd_same
    have nfH : H fo = none := (Gw.refl.new nd : Gw D0 H _).non _ nfo
    generalize upd (upd (upd H d (objO P w d [])) fo (.lst [])) le (.lst []) = H1 at g1 hd1 hf1 ⊢
    have hol1 := g1.oth _ _ hol (fun _ z => by cases z) (fun z => z)
    refine ⟨_, rfl, ol, rfl, ⟨us, SqL.of hol1⟩, for_it (walk_list (xs := us)) (fun i σ H' => (∃ x4, σ = [some (.ref ol), some (.ref d), some (.ref fo), some (.ref le), x4, none]) ∧ Gw D0 H H' ∧ H' fo = some (.lst []) ∧ UnderAt P w H' d (ops.take i) fun b => b = fo) ⟨⟨_, rfl⟩, g1, hf1, [], hd1, (fun r hr => by cases hr), Nat.le_refl _, fun r => .inl ⟨rfl, rfl⟩⟩ (fun i σ H' _ z => SqL.of (z.2.1.oth _ _ hol (fun _ z => by cases z) (fun z => z))) ?_ ?_⟩
    · rintro i y σ H2 H3 hi ⟨⟨x4, rfl⟩, g2, hf2, hu⟩ ⟨rfl, hy⟩
      obtain ⟨o, ho, a, vi, vr, rfl, hoa, hvi, hvr⟩ := hus.get hy
      have hoa2 := g2.tup _ _ hoa
      have hvi2 := hvi.gw g2
      have et : ops.take (i + 1) = ops.take i ++ [o] := by rw [List.take_add_one, ho]; rfl
      refine ⟨_, rfl, _, _, _, _, rfl, rfl, SqT.of hoa2, at0 o _ _, rfl, _, rfl, ?_⟩
      rw [kd_eq]
      by_cases hk : o.kind = .put
      · rw [decide_eq_true hk]
        obtain ⟨b, rfl, hb⟩ := refKO hvr
        obtain ⟨rows0, hd0, hk0, _⟩ := id hu
        refine iteT ⟨_, rfl, d, rows0, rfl, hd0, hk0, _, rfl, _, _, _, _, rfl, rfl, SqT.of hoa2, at3 o _ _, Nat.zero_le _, fun e ne => ?_⟩
        have ge : Gw D0 H3 (upd H3 e (.lst [])) := Gw.refl.new ne
        have hue := hu.gw ge (fun z => z) same0
        obtain ⟨rows, hd3, hk3, hrl, hval⟩ := id hue
        obtain ⟨l, us0, hv3, hl3, hus3⟩ := getU hval upd_same o.ref
        have hbe : keyO (upd H3 e (.lst [])) (o.ref.map idK) b := fun ks z => ge.tup _ _ (g2.tup _ _ (hb ks z))
        refine ⟨rows, _, b, hd3, hk3, rfl, hbe, ?_⟩
        rw [hv3]
        refine ⟨_, rfl, _, _, _, _, rfl, rfl, SqT.of (ge.tup _ _ hoa2), at1 o _ _, (by rw [sizeLine_eq]; show 1 ≤ _; omega), fun e2 ne2 => ?_⟩
        have ge2 : Gw D0 (upd H3 e (.lst [])) (upd (upd H3 e (.lst [])) e2 (.lst [vi])) := Gw.refl.new ne2
        have hl4 := ge2.oth _ _ hl3 (fun _ z => by cases z) (fun z => z)
        have hlu : us0.length ≤ i := by
          rw [hus3.len]
          exact Nat.le_trans (childs_len _ _) (by rw [List.length_take]; omega)
        have hil : i < 100000 := by have := hus.len; omega
        refine ⟨l, e2, us0, [vi], rfl, rfl, hl4, upd_same, by rw [sizeLine_eq, List.length_singleton]; omega, fun p np => ?_⟩
        have ge3 : Gw D0 (upd (upd H3 e (.lst [])) e2 (.lst [vi])) (upd (upd (upd H3 e (.lst [])) e2 (.lst [vi])) p (.lst (us0 ++ [vi]))) := Gw.refl.new np
        have gg : Gw D0 H3 (upd (upd (upd H3 e (.lst [])) e2 (.lst [vi])) p (.lst (us0 ++ [vi]))) := (ge.trans ge2).trans ge3
        have hp : upd (upd (upd H3 e (.lst [])) e2 (.lst [vi])) p (.lst (us0 ++ [vi])) p = some (.lst (us0 ++ [vi])) := upd_same
        have hd4 := (ge2.trans ge3).oth _ _ hd3 (fun _ z => by cases z) (fun z => z)
        have hpus : All2 (IdAt (upd (upd (upd H3 e (.lst [])) e2 (.lst [vi])) p (.lst (us0 ++ [vi])))) (us0 ++ [vi]) (childs (ops.take (i + 1)) o.ref) := by
          rw [et, childs_snoc hk]
          exact (hus3.mono fun _ _ z => z.gw (ge2.trans ge3)).snoc (hvi2.gw gg)
        have hf5 := (ge.trans ge2).oth _ _ hf2 (fun _ z => by cases z) (fun z => z)
        have hk4 : keysO (upd (upd (upd H3 e (.lst [])) e2 (.lst [vi])) p (.lst (us0 ++ [vi]))) rows := fun r hr ks z => (ge2.trans ge3).tup _ _ (hk3 r hr ks z)
        have hb4 : keyO (upd (upd (upd H3 e (.lst [])) e2 (.lst [vi])) p (.lst (us0 ++ [vi]))) (o.ref.map idK) b := fun ks z => (ge2.trans ge3).tup _ _ (hbe ks z)
        have hf4 := gg.oth _ _ hf2 (fun _ z => by cases z) (fun z => z)
        have g4 := g2.trans gg
        have hoa4 := gg.tup _ _ hoa2
        have hrl2 : rows.length ≤ i := Nat.le_trans hrl (by rw [List.length_take]; omega)
        have hval4 : ∀ r : Option Id, ValU (upd (upd (upd H3 e (.lst [])) e2 (.lst [vi])) p (.lst (us0 ++ [vi]))) (ops.take i) rows (fun b => b = fo) r := fun r => (hval r).gw (ge2.trans ge3) same0
        have npf : p ≠ fo := fun z => by rw [z, hf5] at np; cases np
        generalize upd (upd (upd H3 e (.lst [])) e2 (.lst [vi])) p (.lst (us0 ++ [vi])) = H5 at gg hp hd4 hpus hk4 hb4 hf4 g4 hoa4 hval4 ⊢
        refine ⟨_, rfl, _, rfl, _, _, _, _, rfl, rfl, SqT.of hoa4, at3 o _ _, d, rows, _, b, rfl, hd4, hk4, rfl, hb4, (by rw [sizeLine_eq]; omega), ?_⟩
        have gw : Gw (fun z => z = d) H5 (upd H5 d (objO P w d (putO rows (o.ref.map idK) b (.ref p)))) := Gw.refl.put rfl hd4 (fun _ z => by cases z) (fun _ z => by cases z)
        refine ⟨⟨_, rfl⟩, g4.fresh nd, by rw [upd_ne ndf.symm]; exact hf4, putO rows (o.ref.map idK) b (.ref p), upd_same, ?_, ?_, fun r => ?_⟩
        · intro r hr ks z
          exact gw.tup _ _ (keysO_put hk4 hb4 r hr ks z)
        · have := putO_len rows (o.ref.map idK) b (.ref p)
          rw [et, List.length_append, List.length_singleton]
          omega
        · unfold ValU
          rw [valO_put]
          by_cases er : r = o.ref
          · subst er
            rw [if_pos rfl]
            refine .inr ⟨p, _, rfl, gw.oth _ _ hp (fun _ z => by cases z) (fun z => by rw [z, hd4] at hp; cases hp), hpus.mono fun _ _ z => z.gw gw, npf⟩
          · rw [if_neg (fun z => er (idK_opt z)), et, childs_snoc_other r (.inr fun z => er z.symm)]
            exact (hval4 r).imp id fun ⟨l, us, z1, z2, z3, z4⟩ => ⟨l, us, z1, gw.oth _ _ z2 (fun _ z => by cases z) (fun z => by rw [z, hd4] at z2; cases z2), z3.mono fun _ _ z => z.gw gw, z4⟩
      · rw [decide_eq_false hk]
        refine iteF ⟨⟨_, rfl⟩, g2, hf2, ?_⟩
        obtain ⟨rows, z1, z2, z3, z4⟩ := hu
        refine ⟨rows, z1, z2, by rw [et, List.length_append]; omega, fun r => ?_⟩
        unfold ValU
        rw [et, childs_snoc_other r (.inl hk)]
        exact z4 r
    · rintro σ H2 ⟨⟨x4, rfl⟩, g2, hf2, hu⟩
      rw [hus.len, List.take_length] at hu
      obtain ⟨rows0, hd0, hk0, _⟩ := id hu
      refine ⟨_, rfl, d, rows0, rfl, hd0, hk0, Nat.zero_le _, fun e ne => ?_⟩
      have ge : Gw D0 H2 (upd H2 e (.lst [])) := Gw.refl.new ne
      have hue := hu.gw ge (fun z => z) same0
      obtain ⟨rows, hd3, hk3, hrl, hval⟩ := id hue
      obtain ⟨l, us0, hv3, hl3, hus3⟩ := getU hval upd_same none
      refine ⟨rows, none, 0, hd3, hk3, rfl, (fun ks z => by cases z), ?_⟩
      rw [show valO rows none = valO rows ((none : Option Id).map idK) from rfl, hv3]
      obtain ⟨L, eL, pL, kL, sL⟩ := sorted_ids hus3
      refine ⟨l, L, rfl, (by rw [← eL]; exact SqL.of hl3), pL, kL, fun L' p hp up np => ?_⟩
      have hus' := sL L' hp up
      generalize (L'.map fun p => V.ref p.1) = us' at hus' ⊢
      have ge2 : Gw D0 (upd H2 e (.lst [])) (upd (upd H2 e (.lst [])) p (.lst us')) := Gw.refl.new np
      have gg := ge.trans ge2
      have cst : ∀ r i, i ∈ childs ops r → PyData.strOk i.2 = true := fun r i hi => by
        unfold childs at hi
        obtain ⟨o, ho, rfl⟩ := List.mem_map.mp hi
        exact (hos o (List.mem_filter.mp ho).1).id
      have nfp : p ≠ fo := fun z => by
        have := ge.oth _ _ hf2 (fun _ z => by cases z) (fun z => z)
        rw [← z, np] at this
        cases this
      refine ⟨fun m σ H' => ∃ (lp : Addr) (ls fs : List V) (left found : List Id) (x5 : Option V), σ = [some (.ref ol), some (.ref d), some (.ref fo), some (.ref lp), x4, x5] ∧ Gw D0 H H' ∧ UnderAt P w H' d ops (fun b => b = fo ∨ b = lp) ∧ H' lp = some (.lst ls) ∧ All2 (IdAt H') ls left ∧ H' fo = some (.lst fs) ∧ All2 (IdAt H') fs found ∧ (lp ≠ fo ∧ H lp = none) ∧ (∀ i ∈ left, PyData.strOk i.2 = true) ∧ OrdN ops res m left found,
        ⟨n, p, us', [], _, [], none, rfl, g2.trans gg, hue.gw ge2 (fun z => z) (fun b z => by
          rcases z with z | z | z
          · exact z.elim
          · exact .inl z
          · exact .inr (z ▸ np)), upd_same, hus'.mono fun _ _ z => z.gw ge2, gg.oth _ _ hf2 (fun _ z => by cases z) (fun z => z), All2.nil, ⟨nfp, g2.non _ (ge.non _ np)⟩, (fun i hi => cst none i ((sortI_perm _).mem_iff.mp hi)), hord⟩, ?_⟩
      rintro m σ H4 ⟨lp, ls, fs, left, found, x5, rfl, g4, hu4, hlp, hls, hfo, hfs, ⟨nlf, nlH⟩, hstr, hom⟩
      refine ⟨_, rfl, Nat.zero_le _, fun e4 ne4 => ?_⟩
      have ge4 : Gw D0 H4 (upd H4 e4 (.lst [])) := Gw.refl.new ne4
      have hlp5 := ge4.oth _ _ hlp (fun _ z => by cases z) (fun z => z)
      have hfo5 := ge4.oth _ _ hfo (fun _ z => by cases z) (fun z => z)
      have hls5 := hls.mono fun _ _ z => IdAt.gw z ge4
      have hfs5 := hfs.mono fun _ _ z => IdAt.gw z ge4
      have hu5 := hu4.gw ge4 (fun z => z) same0
      have g5 := g4.trans ge4
      refine ⟨.list (left.map dI), .list [], .lst (SqL.of hlp5) (dpAll hls5), .lst (SqL.of upd_same) .nil, shaped_all hstr, shaped_nil, _, rfl, ?_⟩
      rw [eqv_nil]
      generalize upd H4 e4 (.lst []) = H5 at hlp5 hfo5 hls5 hfs5 hu5 g5 ⊢
      cases m with
      | zero =>
        obtain ⟨rfl, rfl⟩ := hom
        refine iteF ⟨_, rfl, q _ fo fs hfo5 hfs5 nfH g5⟩
      | succ m =>
        obtain ⟨l, own, rfl, hll, hfl, hom⟩ := hom
        have hne : ((l ++ [own]).map dI).isEmpty = false := by rw [List.map_append]; cases l <;> rfl
        rw [hne]
        refine iteT ⟨fun σ H' => ∃ (lp : Addr) (ls fs : List V) (left found : List Id) (x5 : Option V), σ = [some (.ref ol), some (.ref d), some (.ref fo), some (.ref lp), x4, x5] ∧ Gw D0 H H' ∧ UnderAt P w H' d ops (fun b => b = fo ∨ b = lp) ∧ H' lp = some (.lst ls) ∧ All2 (IdAt H') ls left ∧ H' fo = some (.lst fs) ∧ All2 (IdAt H') fs found ∧ (lp ≠ fo ∧ H lp = none) ∧ (∀ i ∈ left, PyData.strOk i.2 = true) ∧ OrdN ops res m left found, fun σ' H' z => ⟨m, Nat.lt_succ_self _, z⟩, ?_⟩
        have hlen1 : ls.length = l.length + 1 := by rw [hls5.len, List.length_append, List.length_singleton]
        obtain ⟨y, hy, ya, rfl, hya⟩ := hls5.get' (i := l.length) (y := own) (by rw [List.getElem?_append_right (Nat.le_refl _), Nat.sub_self]; rfl)
        refine ⟨_, rfl, .inl ⟨rfl, _, SqL.of hlp5⟩, lp, ls, .ref ya, rfl, rfl, hlp5, by rw [hlen1]; exact hy, ?_⟩
        have gp : Gw (fun b => b = lp) H5 (upd H5 lp (.lst ls.dropLast)) := Gw.refl.put rfl hlp5 (fun _ z => by cases z) (fun _ z => by cases z)
        have hfo6 : upd H5 lp (.lst ls.dropLast) fo = some (.lst fs) := by rw [upd_ne nlf.symm]; exact hfo5
        refine ⟨_, rfl, .inl ⟨rfl, _, SqL.of hfo6⟩, _, rfl, fo, fs, _, rfl, rfl, hfo6, (by have := hfs5.len; rw [sizeLine_eq]; omega), ?_⟩
        have ga : Gw (fun b => b = fo) (upd H5 lp (.lst ls.dropLast)) (upd (upd H5 lp (.lst ls.dropLast)) fo (.lst (fs ++ [.ref ya]))) := Gw.refl.put rfl hfo6 (fun _ z => by cases z) (fun _ z => by cases z)
        have ndlp : d ≠ lp := fun z => by
          obtain ⟨rows, z1, _⟩ := hu5
          rw [z, hlp5] at z1
          cases z1
        have hu7 := (hu5.gw gp ndlp (fun b z => z.elim (fun z => .inl (.inr z)) .inl)).gw ga ndf (fun b z => z.elim (fun z => .inl (.inl z)) .inl)
        have hlp7 : upd (upd H5 lp (.lst ls.dropLast)) fo (.lst (fs ++ [.ref ya])) lp = some (.lst ls.dropLast) := by rw [upd_ne nlf]; exact upd_same
        have hfo7 : upd (upd H5 lp (.lst ls.dropLast)) fo (.lst (fs ++ [.ref ya])) fo = some (.lst (fs ++ [.ref ya])) := upd_same
        have els : ls.dropLast = ls.take l.length := by rw [List.dropLast_eq_take, hlen1]; rfl
        have hls7 : All2 (IdAt (upd (upd H5 lp (.lst ls.dropLast)) fo (.lst (fs ++ [.ref ya])))) ls.dropLast l := by
          rw [els]
          have := (hls5.take l.length).mono fun _ _ z => IdAt.gw (IdAt.gw z gp) ga
          rwa [List.take_left' rfl, els] at this
        have hown7 : IdAt (upd (upd H5 lp (.lst ls.dropLast)) fo (.lst (fs ++ [.ref ya]))) (.ref ya) own := IdAt.gw (IdAt.gw ⟨ya, rfl, hya⟩ gp) ga
        have hfs7 : All2 (IdAt (upd (upd H5 lp (.lst ls.dropLast)) fo (.lst (fs ++ [.ref ya])))) (fs ++ [.ref ya]) (found ++ [own]) := (hfs5.mono fun _ _ z => IdAt.gw (IdAt.gw z gp) ga).snoc hown7
        have g7 : Gw D0 H (upd (upd H5 lp (.lst ls.dropLast)) fo (.lst (fs ++ [.ref ya]))) := (g5.fresh nlH).fresh nfH
        generalize upd (upd H5 lp (.lst ls.dropLast)) fo (.lst (fs ++ [.ref ya])) = H7 at hu7 hlp7 hfo7 hls7 hown7 hfs7 g7 ⊢
        obtain ⟨rows7, hd7, hk7, _⟩ := id hu7
        refine ⟨_, rfl, _, rfl, d, rows7, rfl, hd7, hk7, _, rfl, Nat.zero_le _, fun e8 ne8 => ?_⟩
        have ge8 : Gw D0 H7 (upd H7 e8 (.lst [])) := Gw.refl.new ne8
        have hu8 := hu7.gw ge8 (fun z => z) same0
        obtain ⟨rows8, hd8, hk8, _, hval8⟩ := id hu8
        obtain ⟨l8, us8, hv8, hl8, hus8⟩ := getU hval8 upd_same (some own)
        obtain ⟨oa, eo, hoat⟩ := hown7
        cases eo
        refine ⟨rows8, some (idK own), ya, hd8, hk8, rfl, (fun ks z => by cases z; rw [idK_map]; exact ge8.tup _ _ hoat), ?_⟩
        rw [show valO rows8 (some (idK own)) = valO rows8 ((some own : Option Id).map idK) from rfl, hv8]
        obtain ⟨L8, eL8, pL8, kL8, sL8⟩ := sorted_ids hus8
        refine ⟨l8, L8, rfl, (by rw [← eL8]; exact SqL.of hl8), pL8, kL8, fun L9 p9 hp9 up9 np9 => ?_⟩
        have hus9 := sL8 L9 hp9 up9
        generalize (L9.map fun p => V.ref p.1) = us9 at hus9 ⊢
        have ge9 : Gw D0 (upd H7 e8 (.lst [])) (upd (upd H7 e8 (.lst [])) p9 (.lst us9)) := Gw.refl.new np9
        have g79 := ge8.trans ge9
        have hlp9 := g79.oth _ _ hlp7 (fun _ z => by cases z) (fun z => z)
        have l1 : ls.dropLast.length = l.length := by rw [List.length_dropLast, hlen1]; rfl
        have l2 : us9.length ≤ ops.length := by
          rw [hus9.len, (sortI_perm _).length_eq]
          exact childs_len _ _
        refine ⟨lp, p9, ls.dropLast, us9, rfl, rfl, hlp9, upd_same, by rw [l1, sizeLine_eq]; omega, fun p2 np2 => ?_⟩
        have ge10 : Gw D0 (upd (upd H7 e8 (.lst [])) p9 (.lst us9)) (upd (upd (upd H7 e8 (.lst [])) p9 (.lst us9)) p2 (.lst (ls.dropLast ++ us9))) := Gw.refl.new np2
        have gA := g79.trans ge10
        have hfoA := gA.oth _ _ hfo7 (fun _ z => by cases z) (fun z => z)
        have np2f : p2 ≠ fo := fun z => by
          have := g79.oth _ _ hfo7 (fun _ z => by cases z) (fun z => z)
          rw [← z, np2] at this
          cases this
        refine ⟨p2, _, _, _, _, _, rfl, g7.trans gA, hu7.gw gA (fun z => z) (fun b z => ?_), upd_same, ?_, hfoA, hfs7.mono fun _ _ z => z.gw gA, ⟨np2f, g7.non _ (g79.non _ np2)⟩, fun i hi => ?_, hom⟩
        · rcases z with z | z | z
          · exact z.elim
          · exact .inl (.inl z)
          · exact .inr (z ▸ g79.non _ np2)
        · exact (hls7.mono fun _ _ z => z.gw gA).append (hus9.mono fun _ _ z => z.gw (ge9.trans ge10))
        · rcases List.mem_append.mp hi with z | z
          · exact hstr i (List.mem_append_left _ z)
          · exact cst (some own) i ((sortI_perm _).mem_iff.mp z)
end
end K80
namespace K80
open PySem PySem.Spec PyProof.Rows L2 Gx GxR NdefX
open PySem.SeqAt
def covStep (l : List Id) (o : Op) : List Id := match o.kind, o.ref with
  | .cut, some i => putG (fun r : Id => r) l i
  | _, _ => l
def covM (ops : List Op) : List Id := ops.foldl covStep []
section
variable {P : Program} {w : World} {K : PySem.W.Frag} {mg : Str → Option Value} {base : Heap}
def spLShowing : Sp := fun vs H Q _ => ∃ (ol : Addr) (us : List V) (ops : List Op) (res : List Id) (n : Nat), vs = [.ref ol] ∧ H ol = some (.lst us) ∧ All2 (OpAt H) us ops ∧ (∀ o ∈ ops, OpS o ∧ o.kind ≠ .undo ∧ (o.kind = .cut → o.ref ≠ none)) ∧ ops.length ≤ 100000 ∧ OrdN ops res n (sortI (childs ops none)) [] ∧ res.length ≤ 100000 ∧
  ∀ H' f fs, H' f = some (.lst fs) → All2 (IdAt H') fs (res.filter fun i => !inI (covM ops) i) → H f = none → Gw D0 H H' → Q (.ref f) H'
theorem scLShowing : FnScope ["operations", "off", "covered", "operation", "own"] ["operations"] (defScope (top 49)) := ⟨rfl, rfl, rfl, by decide +kernel, rfl, by decide +kernel, by decide +kernel⟩
theorem ok_lShowing (D : Df K mg "_law_showing" (top 49) ["operations"]) (T : Bi mg) (fO : Fn P w K mg base 3 "_law_off" ["operations"] spLOff) (fR : Fn P w K mg base 3 "_law_order" ["operations"] spLOrder) : Fn P w K mg base 4 "_law_showing" ["operations"] spLShowing := by
  refine D.ok scLShowing (fun vs H Q E h => ?_) (fun cdv f A0 outer s H vs Q E hr h => ?_)
  · obtain ⟨ol, us, ops, _, _, rfl, _⟩ := h
    rfl
  · obtain ⟨ol, us, ops, res, n, rfl, hol, hus, hos, hlen, hord, hres, q⟩ := h
    refine ⟨_, (pss_cons (ps_asg (pe_tup (pa_cons ((pe_fn fO (by first | exact hr | exact hr.mono (by decide) | exact room_gx hr hA | exact (room_gx hr hA).mono (by decide)) (pa_cons (pv 0) pa_nil))) (pa_cons (pe_dnewT) pa_nil))) (pg_tup (by rfl) (pgs_cons (pg_name (i := 1) scLShowing.nd rfl (Or.inr rfl)) (pgs_cons (pg_name (i := 2) scLShowing.nd rfl (Or.inr rfl)) pgs_nil))))
      (pss_cons (ps_for PassesOwn.never rfl (pi_list (pv 0)) (pg_name (i := 3) scLShowing.nd rfl (Or.inl rfl)) (pss_one (ps_if (PW.pt (pw_and (pt_cmpR op_eq (pe_ix ix_tup (pv 3) (pe_int) (fun _ _ => rfl)) pe_str (nomark _)) (pw_and1 (pt_cmp (pc_dnotin (hu_of hr) (pe_ix ix_tup (pv 3) (pe_int) (fun _ _ => rfl)) (pv 1)))))) (pss_one (ps_dput (hu_of hr) (pv 2) (pe_ix ix_tup (pv 3) (pe_int) (fun _ _ => rfl)) pe_bl rfl)) pss_nil)))
      (pss_one (ps_ret (pe_lc (own := [("own", 4)]) (g := (gName 4)) rfl scLShowing.nd (pi_list (pe_fn fR (by first | exact hr | exact hr.mono (by decide) | exact room_gx hr hA | exact (room_gx hr hA).mono (by decide)) (pa_cons (pv 0) pa_nil))) (blkOk_by (own := [("own", 4)]) (N := ["operations", "off", "covered", "operation", "own"]) (sc := defScope (top 49)) (by decide +kernel))
        (fun _ _ _ _ _ => (pg_name (i := 4) scLShowing.nd rfl (Or.inl rfl))) (fun _ _ _ _ _ => pts_one (PW.pt (pw_and (pt_cmp (pc_dnotin (hu_of hr) (pv 4) (pv 1))) (pw_and1 (pt_cmp (pc_dnotin (hu_of hr) (pv 4) (pv 2))))))) (fun _ _ _ _ _ => pv 4)))))), ?_⟩
    refine ⟨_, rfl, ol, us, ops, rfl, hol, hus, (fun o ho => (hos o ho).2.1), fun H1 d1 hd1 g1 n1 => ?_⟩
    intro d2 n2
    refine ⟨(by rw [sizeLine_eq]; show 2 ≤ _; omega), fun tp ntp => ?_⟩
    refine ⟨tp, _, rfl, SqT.of upd_same, rfl, _, _, rfl, _, _, rfl, rfl, ?_⟩
    have ne12 : d1 ≠ d2 := ne_of_none hd1 n2
    have ne1p : d1 ≠ tp := ne_of_none (by rw [upd_ne ne12]; exact hd1) ntp
    have ne2p : d2 ≠ tp := ne_of_none upd_same ntp
    have n2H : H d2 = none := g1.non _ n2
    have g2 : Gw D0 H (upd (upd H1 d2 (.dT [])) tp (.tup [.ref d1, .ref d2])) := (g1.trans (Gw.refl.new n2)).trans (Gw.refl.new ntp)
    have h1 : upd (upd H1 d2 (.dT [])) tp (.tup [.ref d1, .ref d2]) d1 = some (.dT []) := by rw [upd_ne ne1p, upd_ne ne12]; exact hd1
    have h2 : upd (upd H1 d2 (.dT [])) tp (.tup [.ref d1, .ref d2]) d2 = some (.dT []) := by rw [upd_ne ne2p]; exact upd_same
    generalize upd (upd H1 d2 (.dT [])) tp (.tup [.ref d1, .ref d2]) = H2 at g2 h1 h2 ⊢
    have hol2 := g2.oth _ _ hol (fun _ z => by cases z) (fun z => z)
    refine ⟨_, rfl, ol, rfl, ⟨us, SqL.of hol2⟩, for_it (walk_list (xs := us)) (fun i σ H' => (∃ x3, σ = [some (.ref ol), some (.ref d1), some (.ref d2), x3, none]) ∧ Gw D0 H H' ∧ H' d1 = some (.dT []) ∧ FoundAt H' d2 (covM (ops.take i)) ∧ (covM (ops.take i)).length ≤ i) ⟨⟨_, rfl⟩, g2, h1, ⟨[], h2, All2.nil⟩, Nat.le_refl _⟩ (fun i σ H' _ z => SqL.of (z.2.1.oth _ _ hol (fun _ z => by cases z) (fun z => z))) ?_ ?_⟩
    · rintro i y σ H3 H4 hi ⟨⟨x3, rfl⟩, g3, hd3, ⟨kv, hk1, hk2⟩, hcl⟩ ⟨rfl, hy⟩
      obtain ⟨o, ho, a, vi, vr, rfl, hoa, hvi, hvr⟩ := hus.get hy
      have hoa2 := g3.tup _ _ hoa
      obtain ⟨va, rfl, hva⟩ := hvi.gw g3
      have et : covM (ops.take (i + 1)) = covStep (covM (ops.take i)) o := by
        rw [List.take_add_one, ho]
        unfold covM
        rw [Option.toList_some, List.foldl_append]
        rfl
      have hoo := hos o (List.mem_of_getElem? ho)
      refine ⟨_, rfl, _, _, _, _, rfl, rfl, SqT.of hoa2, at0 o _ _, rfl, _, rfl, ?_⟩
      rw [kd_eqc]
      by_cases hk : o.kind = .cut
      · rw [decide_eq_true hk]
        obtain ⟨i0, hi0⟩ := Option.ne_none_iff_exists'.mp (hoo.2.2 hk)
        rw [hi0] at hvr
        obtain ⟨ra, rfl, hra⟩ := (show IdAt H vr i0 from hvr)
        have hra2 := g3.tup _ _ hra
        have ec : covStep (covM (ops.take i)) o = putG (fun r : Id => r) (covM (ops.take i)) i0 := by unfold covStep; rw [hk, hi0]
        refine iteT ⟨_, rfl, _, _, _, _, rfl, rfl, SqT.of hoa2, at1 o _ _, _, rfl, _, _, rfl, DGet.t (k := idK o.id) hd3 (by rw [idK_map]; exact hva), _, rfl, ?_⟩
        refine iteT ⟨_, rfl, _, rfl, _, _, _, _, rfl, rfl, SqT.of hoa2, at3 o _ _, _, _, rfl, DPut.t (k := idK i0) hk1 (by rw [idK_map]; exact hra2) (by rw [All2.len hk2, sizeLine_eq]; have := hus.len; omega), ?_⟩
        have gw : Gw (fun z => z = d2) H4 (upd H4 d2 (.dT (putK kv (idK i0) (.bl true)))) := Gw.refl.put rfl hk1 (fun _ z => by cases z) (fun _ z => by cases z)
        refine ⟨⟨_, rfl⟩, g3.fresh n2H, by rw [upd_ne ne12]; exact hd3, ?_, ?_⟩
        · rw [et, ec]
          exact ⟨_, upd_same, hk2.put rfl⟩
        · rw [et, ec]
          have := putG_len (key := fun r : Id => r) (covM (ops.take i)) i0
          omega
      · rw [decide_eq_false hk]
        have ec : covStep (covM (ops.take i)) o = covM (ops.take i) := by
          unfold covStep
          cases hkk : o.kind with
          | cut => exact absurd hkk hk
          | put => rfl
          | undo => rfl
        refine iteF (iteF ⟨⟨_, rfl⟩, g3, hd3, ?_, ?_⟩)
        · rw [et, ec]; exact ⟨kv, hk1, hk2⟩
        · rw [et, ec]; omega
    · rintro σ H3 ⟨⟨x3, rfl⟩, g3, hd3, hcov, _⟩
      rw [hus.len, List.take_length] at hcov
      have hol3 := g3.oth _ _ hol (fun _ z => by cases z) (fun z => z)
      refine ⟨_, rfl, ol, us, ops, res, n, rfl, hol3, hus.mono fun _ _ z => z.gw g3, (fun o ho => (hos o ho).1), hlen, hord, fun H4 f fs hf hfs nf g4 => ?_⟩
      refine ⟨f, rfl, ⟨fs, SqL.of hf⟩, fun d nd => ?_⟩
      have hd4 := g4.oth _ _ hd3 (fun _ z => by cases z) (fun z => z)
      have hcov4 := hcov.gw g4 (fun z => z)
      have g34 := g3.trans g4
      refine lc_it (walk_list (xs := fs)) (fun i H' => Gw D0 H4 H' ∧ ∃ vs, H' d = some (.lst vs) ∧ All2 (IdAt H') vs ((res.take i).filter fun j => !inI (covM ops) j)) ⟨Gw.refl.new nd, [], upd_same, All2.nil⟩ (fun i H' _ z => SqL.of (z.1.oth _ _ hf (fun _ z => by cases z) (fun z => z))) ?_ ?_
      · rintro i y H5 H6 hi ⟨g5, vs, hdv, hvs⟩ ⟨rfl, hy⟩
        obtain ⟨x, hx, xa, rfl, hxa⟩ := hfs.get hy
        have et : (res.take (i + 1)).filter (fun j => !inI (covM ops) j) = (res.take i).filter (fun j => !inI (covM ops) j) ++ (if (!inI (covM ops) x) = true then [x] else []) := filter_take_succ _ hx
        have hx6 := g5.tup _ _ hxa
        have hd6 := g5.oth _ _ hd4 (fun _ z => by cases z) (fun z => z)
        obtain ⟨kv, hk1, hk2⟩ := hcov4.gw g5 (fun z => z)
        refine ⟨rfl, _, rfl, _, rfl, _, _, rfl, DGet.t (k := idK x) hd6 (by rw [idK_map]; exact hx6), _, rfl, ?_⟩
        refine iteT ⟨_, rfl, _, rfl, _, _, rfl, DGet.t (k := idK x) hk1 (by rw [idK_map]; exact hx6), _, rfl, ?_⟩
        rw [found_is hk2]
        cases hin : inI (covM ops) x with
        | true =>
          refine iteF ⟨g5, vs, hdv, ?_⟩
          rw [et, hin]
          simpa using hvs
        | false =>
          have lv : vs.length < sizeLine := by
            rw [hvs.len, sizeLine_eq]
            have h1 := List.length_filter_le (fun j => !inI (covM ops) j) (res.take i)
            rw [List.length_take] at h1
            omega
          refine iteT ⟨_, rfl, vs, hdv, lv, g5.fresh nd, _, upd_same, ?_⟩
          rw [et, hin]
          have gd : Gw (fun b => b = d) H6 (upd H6 d (.lst (vs ++ [.ref xa]))) := Gw.refl.put rfl hdv (fun _ z => by cases z) (fun _ z => by cases z)
          exact (hvs.mono fun _ _ z => z.gw gd).snoc (IdAt.gw ⟨xa, rfl, hx6⟩ gd)
      · rintro H5 ⟨g5, vs, hdv, hvs⟩
        rw [hfs.len, List.take_length] at hvs
        exact q _ d vs hdv hvs (g34.non _ nd) (g34.trans g5)
end
end K80
namespace K80
open PySem PySem.Spec PyProof.Rows L2 Gx GxR NdefX
open PySem.SeqAt
/-- a pair whose first item is a tuple -/
def PairT (H : Hp) (p : Addr) (kv : List L2.Key × V) : Prop := ∃ b, H p = some (.tup [.ref b, kv.2]) ∧ H b = some (.tup (kv.1.map kV))
def mergeT (acc kvs : List (List L2.Key × V)) : List (List L2.Key × V) := kvs.foldl (fun a p => putK a p.1 p.2) acc
theorem mergeT_len : ∀ (kvs acc : List (List L2.Key × V)), (mergeT acc kvs).length ≤ acc.length + kvs.length
  | [], acc => Nat.le_refl _
  | p :: kvs, acc => by
    have h1 := mergeT_len kvs (putK acc p.1 p.2)
    have h2 := length_putK acc p.1 p.2
    show (mergeT (putK acc p.1 p.2) kvs).length ≤ _
    rw [List.length_cons]
    omega
theorem KT_merge {H : Hp} : ∀ {kvs : List (List L2.Key × V)} {prs : List (List L2.Key × Addr × Value)} {acc : List (List L2.Key × V)} {xs : List (List L2.Key × Addr × Value)}, KT H acc xs → Paired (fun kv x => kv.1 = x.1 ∧ H x.2.1 = some (.tup (kv.1.map kV)) ∧ RelV kv.2 x.2.2) kvs prs → KT H (mergeT acc kvs) (storedAllH xs prs)
  | _, _, _, _, r, .nil => r
  | _, _, _, _, r, .cons (a := kv) (b := x) h t => by
    have := KT_merge (r.put kv.1 h.2.1 h.2.2) t
    rw [h.1] at this
    unfold mergeT storedAllH at this ⊢
    rw [List.foldl_cons, List.foldl_cons, h.1]
    exact this
section
variable {X : Cx}
theorem pairs_ofT {pins : List (Addr × Obj)} {σ : L2.St} {H : Hp} {s : Shared} (I : Inv X pins σ H s) : ∀ {ps : List Addr} {kvs : List (List L2.Key × V)}, Paired (PairT H) ps kvs →
    ∃ prs : List (List L2.Key × Addr × Value), Paired (fun (kv : List L2.Key × V) (x : List L2.Key × Addr × Value) => kv.1 = x.1 ∧ H x.2.1 = some (.tup (kv.1.map kV)) ∧ RelV kv.2 x.2.2) kvs prs ∧ prs.length = ps.length ∧ ∀ (j : Nat) (q : List L2.Key × Addr × Value), prs[j]? = some q → ∃ b, ps[j]? = some b ∧ s.heap.IsTuple b #[.ref q.2.1, q.2.2]
  | _, _, .nil => ⟨[], .nil, rfl, fun j q e => by simp at e⟩
  | _, _, .cons (a := p) (b := kv) h t => by
    obtain ⟨prs, r, hl, hp⟩ := pairs_ofT I t
    obtain ⟨kb, h1, h2⟩ := h
    obtain ⟨its, rv, ht, _⟩ := I.tuple (SqT.of (K := X.K) h1)
    obtain ⟨u, y, ei, ru, ry⟩ := vals2 rv
    subst ei
    obtain rfl : u = Value.ref kb := ru
    refine ⟨(kv.1, kb, y) :: prs, .cons ⟨rfl, h2, ry⟩ r, by rw [List.length_cons, List.length_cons, hl], fun j q e => ?_⟩
    cases j with
    | zero =>
      cases Option.some.inj e
      exact ⟨p, rfl, isTuple_of ht⟩
    | succ j =>
      obtain ⟨b, e1, e2⟩ := hp j q (by simpa using e)
      exact ⟨b, by simpa using e1, e2⟩
/-- dict(list of pairs), the keys tuples -/
theorem cr_dictLT (hc : X.calm = true) (hu : X.A.units + 64 < cLine) : CallR X (.type "dict") (fun xs H Q => ∃ (a : Addr) (ps : List Addr) (kvs : List (List L2.Key × V)), xs = [.ref a] ∧ H a = some (.lst (ps.map V.ref)) ∧ Paired (PairT H) ps kvs ∧
    ∀ p, H p = none → Q (.ref p) (upd H p (.dT (mergeT [] kvs)))) := by
  intro pins s σ H xs us Q I r q
  obtain ⟨a, ps, kvs, ex, hq, hp, q⟩ := q
  subst ex
  obtain ⟨u, eu, rx⟩ := vals1 r
  subst eu
  cases rx
  obtain ⟨its, rv, pl, hz⟩ := I.list (SqL.of (K := X.K) hq)
  have ei := refs_at rv
  subst ei
  rw [List.length_map] at hz
  obtain ⟨prs, rel, hl, hpr⟩ := pairs_ofT I hp
  refine PySem.call_dict_pairsH (knd := tupleKind (mixKind X.prog X.w)) (ps := prs) (PairArg.list a (ps.map Value.ref).toArray (fun j => ps.getD j 0) (prs.map fun q => (Value.ref q.2.1, q.2.2))) (I.ok.hd hc) (show X.A.units + 1 + 1 < cLine by omega) ⟨pl, ?_, ?_⟩ ⟨by rw [List.length_map], ?_⟩ ?_ (by rw [List.length_map, hl]; exact hz) fun h' tk hd' k => ?_
  · rw [List.size_toArray, List.length_map, List.length_map, hl]
  · intro j k v e
    rw [List.getElem?_map] at e
    cases hj : prs[j]? with
    | none => rw [hj] at e; cases e
    | some q1 =>
      rw [hj] at e
      cases Option.some.inj e
      obtain ⟨b, e1, e2⟩ := hpr j q1 hj
      have eg : ps.getD j 0 = b := by rw [List.getD_eq_getElem?_getD, e1]; rfl
      refine ⟨?_, ?_⟩
      · show (ps.map Value.ref).toArray[j]? = some (Value.ref (ps.getD j 0))
        rw [List.getElem?_toArray, List.getElem?_map, e1, eg]
        rfl
      · show PairAt s.heap (ps.getD j 0) _ _
        rw [eg]
        exact .inl e2
  · intro i key v e
    have e : (prs.map fun q => (Value.ref q.2.1, q.2.2))[i]? = some (key, v) := e
    rw [List.getElem?_map] at e
    cases hj : prs[i]? with
    | none => rw [hj] at e; cases e
    | some q1 =>
      rw [hj] at e
      cases Option.some.inj e
      exact ⟨q1.1, q1.2.1, rfl, rfl⟩
  · intro h' hk x hx
    obtain ⟨j, hj⟩ := List.mem_iff_getElem?.mp hx
    obtain ⟨kv, _, e1, e2, _⟩ := pairedGet rel hj
    obtain ⟨o, items, n, h1, h2, h3, h4⟩ := key_of I.hok e2
    rw [← e1]
    exact ⟨o, items, n, hk _ _ (Nat.ne_of_lt (Heap.lt_size h1)) (fun z => nomatch z) h1, h2, h3, h4⟩
  · have hm : (s.heap.objs.size == sysModules) = false := beq_eq_false_iff_ne.mpr (Nat.ne_of_gt I.big)
    have hlen2 : (mergeT [] kvs).length ≤ sizeLine := by
      refine Nat.le_trans (mergeT_len kvs []) ?_
      rw [List.length_nil, Nat.zero_add, rel.length, hl]
      exact hz
    obtain ⟨o, es, ep, hq1, hq2, hq3, hq4, _, hq6⟩ := hd'
    have nd : H s.heap.objs.size = none := I.hok.fresh (Nat.le_refl _)
    exact ⟨.ref s.heap.objs.size, upd H s.heap.objs.size (.dT (mergeT [] kvs)), I.laid (t' := tk) (fun b o e => k b o (fun z => nomatch z) e) (Nat.le_refl _) (show ObjOk X.prog X.w _ _ _ (.dT (mergeT [] kvs)) from ⟨hlen2, hm, _, (KT_merge .nil rel).keeps (fun c ys ec => by rw [upd_ne (ne_of_none ec nd)]; exact ec), o, es, ep, hq1, hq2, hq3, hq4, hq6⟩), rfl, q _ nd⟩
end
end K80
namespace K80
open PySem PySem.Spec PyProof.Rows L2 Gx GxR NdefX
open PySem.SeqAt
abbrev SgT := List (Id × Nat)
def sgStep (t : SgT) (o : Op) : SgT := if o.kind = .put then putG (fun r : Id × Nat => r.1) t (o.id, o.sign) else t
def sgM (ops : List Op) : SgT := ops.foldl sgStep []
def sgOf (t : SgT) (i : Id) : Nat := ((lkG (fun r : Id × Nat => r.1) t i).map (·.2)).getD 0
theorem PairT.gw {D : Addr → Prop} {H H' : Hp} {p : Addr} {kv : List L2.Key × V} (h : PairT H p kv) (g : Gw D H H') : PairT H' p kv := let ⟨b, h1, h2⟩ := h; ⟨b, g.tup _ _ h1, g.tup _ _ h2⟩
theorem paired_gw {D : Addr → Prop} {H H' : Hp} (g : Gw D H H') : ∀ {ps : List Addr} {kvs : List (List L2.Key × V)}, Paired (PairT H) ps kvs → Paired (PairT H') ps kvs
  | _, _, .nil => .nil
  | _, _, .cons h t => .cons (h.gw g) (paired_gw g t)
abbrev SgAt (kvs : List (List L2.Key × V)) (t : SgT) : Prop := Rows (fun r : Id × Nat => r.1) (fun v r => v = .str (S [r.2])) kvs t
theorem mergeT_snoc (acc kvs : List (List L2.Key × V)) (p : List L2.Key × V) : mergeT acc (kvs ++ [p]) = putK (mergeT acc kvs) p.1 p.2 := by
  unfold mergeT
  rw [List.foldl_append]
  rfl
section
variable {P : Program} {w : World} {K : PySem.W.Frag} {mg : Str → Option Value} {base : Heap}
def spLText : Sp := fun vs H Q _ => ∃ (ol : Addr) (us : List V) (ops : List Op) (res : List Id) (n : Nat), vs = [.ref ol] ∧ H ol = some (.lst us) ∧ All2 (OpAt H) us ops ∧ (∀ o ∈ ops, OpS o ∧ o.kind ≠ .undo ∧ (o.kind = .cut → o.ref ≠ none)) ∧ ops.length ≤ 100000 ∧ OrdN ops res n (sortI (childs ops none)) [] ∧ res.length ≤ 100000 ∧
  (∀ i ∈ res, i ∈ (sgM ops).map (·.1)) ∧ ∀ H', Gw D0 H H' → Q (.str (S ((res.filter fun i => !inI (covM ops) i).map (sgOf (sgM ops))))) H'
theorem scLText : FnScope ["operations", "signs", "operation", "own"] ["operations"] (defScope (top 50)) := ⟨rfl, rfl, rfl, by decide +kernel, rfl, by decide +kernel, by decide +kernel⟩
theorem ok_lText (D : Df K mg "_law_text" (top 50) ["operations"]) (T : Bi mg) (fS : Fn P w K mg base 4 "_law_showing" ["operations"] spLShowing) : Fn P w K mg base 5 "_law_text" ["operations"] spLText := by
  refine D.ok scLText (fun vs H Q E h => ?_) (fun cdv f A0 outer s H vs Q E hr h => ?_)
  · obtain ⟨ol, us, ops, _, _, rfl, _⟩ := h
    rfl
  · obtain ⟨ol, us, ops, res, n, rfl, hol, hus, hos, hlen, hord, hres, hmem, q⟩ := h
    refine ⟨_, (pss_cons ((ps_set (i := 1) scLText.nd rfl (Or.inr rfl) ((pe_callTy (cr_dictLT rfl hr.units) (by rfl) T.dict_ (by decide +kernel) (pa_cons ((pe_lc (own := [("operation", 2)]) (g := (gName 2)) rfl scLText.nd (pi_list (pv 0)) (blkOk_by (own := [("operation", 2)]) (N := ["operations", "signs", "operation", "own"]) (sc := defScope (top 50)) (by decide +kernel))
        (fun _ _ _ _ _ => (pg_name (i := 2) scLText.nd rfl (Or.inl rfl))) (fun _ _ _ _ _ => pts_one (pt_cmpR op_eq (pe_ix (ixtK (K := K)) (pv 2) (pe_int) (fun _ _ => rfl)) pe_str (nomark _))) (fun _ _ _ _ _ => pe_tup (pa_cons ((pe_ix (ixtK (K := K)) (pv 2) (pe_int) (fun _ _ => rfl))) (pa_cons ((pe_ix (ixtK (K := K)) (pv 2) (pe_int) (fun _ _ => rfl))) pa_nil))))) pa_nil)))))
      (pss_one (ps_ret (pe_join pe_str (pe_lc (own := [("own", 3)]) (g := (gName 3)) rfl scLText.nd (pi_list (pe_fn fS (by first | exact hr | exact hr.mono (by decide) | exact room_gx hr hA | exact (room_gx hr hA).mono (by decide)) (pa_cons (pv 0) pa_nil))) (blkOk_by (own := [("own", 3)]) (N := ["operations", "signs", "operation", "own"]) (sc := defScope (top 50)) (by decide +kernel))
        (fun _ _ _ _ _ => (pg_name (i := 3) scLText.nd rfl (Or.inl rfl))) (fun _ _ _ _ _ => pts_nil) (fun _ _ _ _ _ => pe_dget (hu_of hr) (pv 1) (pv 3) (fun _ _ => rfl))))))), ?_⟩
    refine ⟨_, rfl, ol, rfl, ⟨us, SqL.of hol⟩, fun d nd => ?_⟩
    refine lc_it (walk_list (xs := us)) (fun i H' => Gw D0 H H' ∧ ∃ ps kvs, H' d = some (.lst (ps.map V.ref)) ∧ Paired (PairT H') ps kvs ∧ ps.length ≤ i ∧ SgAt (mergeT [] kvs) (sgM (ops.take i))) ⟨Gw.refl.new nd, [], [], upd_same, .nil, Nat.le_refl _, All2.nil⟩ (fun i H' _ z => SqL.of (z.1.oth _ _ hol (fun _ z => by cases z) (fun z => z))) ?_ ?_
    · rintro i y H1 H2 hi ⟨g, ps, kvs, hd, hps, hpl, hsg⟩ ⟨rfl, hy⟩
      obtain ⟨o, ho, a, vi, vr, rfl, hoa, hvi, hvr⟩ := hus.get hy
      have hoa2 := g.tup _ _ hoa
      obtain ⟨va, rfl, hva⟩ := hvi.gw g
      have et : sgM (ops.take (i + 1)) = sgStep (sgM (ops.take i)) o := by
        rw [List.take_add_one, ho]
        unfold sgM
        rw [Option.toList_some, List.foldl_append]
        rfl
      refine ⟨rfl, _, rfl, _, _, _, _, rfl, rfl, SqT.of hoa2, at0 o _ _, rfl, _, rfl, ?_⟩
      rw [kd_eq]
      by_cases hk : o.kind = .put
      · rw [decide_eq_true hk]
        have es : sgStep (sgM (ops.take i)) o = putG (fun r : Id × Nat => r.1) (sgM (ops.take i)) (o.id, o.sign) := if_pos hk
        refine iteT ⟨_, rfl, _, _, _, _, rfl, rfl, SqT.of hoa2, at1 o _ _, _, rfl, _, _, _, _, rfl, rfl, SqT.of hoa2, at4 o _ _ hk, (by rw [sizeLine_eq]; show 2 ≤ _; omega), fun p np => ?_⟩
        have gp : Gw D0 H2 (upd H2 p (.tup [.ref va, .str (S [o.sign])])) := Gw.refl.new np
        have hd3 := gp.oth _ _ hd (fun _ z => by cases z) (fun z => z)
        have gd : Gw (fun b => b = d) (upd H2 p (.tup [.ref va, .str (S [o.sign])])) (upd (upd H2 p (.tup [.ref va, .str (S [o.sign])])) d (.lst (ps.map V.ref ++ [.ref p]))) := Gw.refl.put rfl hd3 (fun _ z => by cases z) (fun _ z => by cases z)
        have hlu := hus.len
        refine ⟨ps.map V.ref, hd3, by rw [List.length_map, sizeLine_eq]; omega, (g.trans gp).fresh nd, ps ++ [p], kvs ++ [(idK o.id, .str (S [o.sign]))], by rw [upd_same, List.map_append]; rfl, ?_, by rw [List.length_append, List.length_singleton]; omega, ?_⟩
        · refine Paired.snoc (paired_gw gd (paired_gw gp hps)) ⟨va, gd.tup _ _ upd_same, gd.tup _ _ (gp.tup _ _ ?_)⟩
          rw [idK_map]
          exact hva
        · rw [et, es, mergeT_snoc]
          exact Rows.put (r := (o.id, o.sign)) hsg rfl
      · rw [decide_eq_false hk]
        have es : sgStep (sgM (ops.take i)) o = sgM (ops.take i) := if_neg hk
        exact iteF ⟨g, ps, kvs, hd, hps, Nat.le_succ_of_le hpl, by rw [et, es]; exact hsg⟩
    · rintro H1 ⟨g, ps, kvs, hd, hps, hpl, hsg⟩
      rw [hus.len, List.take_length] at hsg
      refine ⟨d, ps, kvs, rfl, hd, hps, fun sd ns => ?_⟩
      have g1 : Gw D0 H (upd H1 sd (.dT (mergeT [] kvs))) := g.trans (Gw.refl.new ns)
      have hs1 : upd H1 sd (.dT (mergeT [] kvs)) sd = some (.dT (mergeT [] kvs)) := upd_same
      generalize upd H1 sd (.dT (mergeT [] kvs)) = H2 at g1 hs1 ⊢
      have hol2 := g1.oth _ _ hol (fun _ z => by cases z) (fun z => z)
      refine ⟨⟨_, rfl⟩, _, rfl, ol, us, ops, res, n, rfl, hol2, hus.mono fun _ _ z => z.gw g1, hos, hlen, hord, hres, fun H3 f fs hf hfs nf g3 => ?_⟩
      refine ⟨f, rfl, ⟨fs, SqL.of hf⟩, fun e ne => ?_⟩
      have hs3 := g3.oth _ _ hs1 (fun _ z => by cases z) (fun z => z)
      have lr : (res.filter fun i => !inI (covM ops) i).length ≤ 100000 := Nat.le_trans (List.length_filter_le _ _) hres
      refine lc_it (walk_list (xs := fs)) (fun i H' => Gw D0 H3 H' ∧ H' e = some (.lst ((((res.filter fun i => !inI (covM ops) i).take i).map fun j => S [sgOf (sgM ops) j]).map V.str))) ⟨Gw.refl.new ne, upd_same⟩ (fun i H' _ z => SqL.of (z.1.oth _ _ hf (fun _ z => by cases z) (fun z => z))) ?_ ?_
      · rintro i y H4 H5 hi ⟨g4, he⟩ ⟨rfl, hy⟩
        obtain ⟨x, hx, xa, rfl, hxa⟩ := hfs.get hy
        have hxr := hmem x (List.mem_filter.mp (List.mem_of_getElem? hx)).1
        obtain ⟨c, hc⟩ : ∃ c, lkG (fun r : Id × Nat => r.1) (sgM ops) x = some c := by
          cases h : lkG (fun r : Id × Nat => r.1) (sgM ops) x with
          | some c => exact ⟨c, rfl⟩
          | none =>
            unfold lkG at h
            rw [List.find?_eq_none] at h
            obtain ⟨r, hr1, hr2⟩ := List.mem_map.mp hxr
            exact absurd (decide_eq_true hr2) (h r hr1)
        obtain ⟨v, hv, ev⟩ := Rows.some_ hsg hc
        have ev : v = .str (S [c.2]) := ev
        subst ev
        refine ⟨rfl, _, rfl, _, rfl, _, _, rfl, (by rw [← hv]; exact DGet.t (k := idK x) (g4.oth _ _ hs3 (fun _ z => by cases z) (fun z => z)) (by rw [idK_map]; exact g4.tup _ _ hxa)), _, he, ?_, g4.fresh ne, ?_⟩
        · rw [List.length_map, List.length_map, List.length_take, sizeLine_eq]
          omega
        · rw [upd_same, List.take_add_one, hx]
          have e1 : sgOf (sgM ops) x = c.2 := by unfold sgOf; rw [hc]; rfl
          simp [e1]
      · rintro H4 ⟨g4, he⟩
        rw [hfs.len, List.take_length] at he
        refine ⟨_, e, _, rfl, rfl, .inl (SqL.of he), ?_, ?_⟩
        · have l0 : ("" : Str).length = 0 := by decide +kernel
          rw [l0, Nat.mul_zero, Nat.add_zero, List.map_map]
          have : ∀ l : List Id, (l.map ((fun x : Str => x.length) ∘ fun j => S [sgOf (sgM ops) j])).sum = l.length := fun l => by
            induction l with
            | nil => rfl
            | cons a l ih =>
              rw [List.map_cons, List.sum_cons, ih]
              show 1 + l.length = l.length + 1
              omega
          rw [this]
          omega
        · have e1 : (res.filter fun i => !inI (covM ops) i).map (fun j => S [sgOf (sgM ops) j]) = ((res.filter fun i => !inI (covM ops) i).map (sgOf (sgM ops))).map fun c => S [c] := by rw [List.map_map]; rfl
          rw [e1, join_signs]
          exact q _ ((g1.trans g3).trans g4)
end
end K80
namespace K80
open PySem PySem.Spec PyProof.Rows L2 Gx GxR NdefX
/-! a site is the fold of what it has carried out -/
theorem snocRec {α : Type} {p : List α → Prop} (h0 : p []) (h1 : ∀ l a, p l → p (l ++ [a])) (l : List α) : p l := by
  have : ∀ m : List α, p m.reverse := fun m => by
    induction m with
    | nil => exact h0
    | cons a m ih => rw [List.reverse_cons]; exact h1 _ a ih
  have := this l.reverse
  rwa [List.reverse_reverse] at this
def stOf (x : Str) (K : List Op) : Sm := K.foldl carry (sm0 x)
theorem stOf_snoc (x : Str) (K : List Op) (o : Op) : stOf x (K ++ [o]) = carry (stOf x K) o := by
  unfold stOf
  rw [List.foldl_append]
  rfl
theorem stOf_name (x : Str) : ∀ K, (stOf x K).name = x := snocRec rfl fun K o ih => by
  rw [stOf_snoc]
  exact ih
theorem stOf_waits (x : Str) : ∀ K, (stOf x K).waits = [] := snocRec rfl fun K o ih => by
  rw [stOf_snoc]
  exact ih
section
variable {ρ : Type} {key : ρ → Id}
theorem lk_map (r : ρ) (i : Id) : ∀ rows : List ρ, lkG key (rows.map fun x => if key x = key r then r else x) i = if key r = i then (if (rows.any fun x => decide (key x = key r)) = true then some r else none) else lkG key rows i
  | [] => by
    by_cases e : key r = i <;> simp [lkG, e]
  | x :: t => by
    have ih := lk_map r i t
    unfold lkG at ih ⊢
    rw [List.map_cons, List.find?_cons, List.find?_cons, List.any_cons, ih]
    by_cases e : key r = i
    · by_cases e2 : key x = key r
      · simp [e2, e]
      · have e3 : ¬ key x = i := fun z => e2 (z.trans e.symm)
        simp [e2, e, e3]
    · by_cases e2 : key x = key r
      · have e3 : ¬ key x = i := fun z => e (e2.symm.trans z)
        simp [e2, e, e3]
      · simp [e2, e]
theorem lk_none {rows : List ρ} {i : Id} (h : ∀ r ∈ rows, key r ≠ i) : lkG key rows i = none := by
  unfold lkG
  rw [List.find?_eq_none]
  intro r hr
  simp [h r hr]
theorem lk_put (rows : List ρ) (r : ρ) (i : Id) : lkG key (putG key rows r) i = if key r = i then some r else lkG key rows i := by
  unfold putG
  by_cases a : (rows.any fun x => decide (key x = key r)) = true
  · rw [if_pos a, lk_map, if_pos a]
  · rw [if_neg a]
    unfold lkG
    rw [List.find?_append]
    by_cases e : key r = i
    · have : rows.find? (fun r => decide (key r = i)) = none := by
        rw [List.find?_eq_none]
        intro y hy z
        refine a (List.any_eq_true.mpr ⟨y, hy, ?_⟩)
        rw [decide_eq_true_eq] at z ⊢
        exact z.trans e.symm
      rw [this, if_pos e]
      simp [e]
    · rw [if_neg e]
      simp [e]
theorem keys_put (rows : List ρ) (r : ρ) (i : Id) : i ∈ (putG key rows r).map key ↔ i = key r ∨ i ∈ rows.map key := by
  unfold putG
  by_cases a : (rows.any fun x => decide (key x = key r)) = true
  · rw [if_pos a]
    have e : (rows.map fun x => if key x = key r then r else x).map key = rows.map key := by
      rw [List.map_map]
      refine List.map_congr_left fun x _ => ?_
      show key (if key x = key r then r else x) = key x
      split
      · rename_i z; exact z.symm
      · rfl
    rw [e]
    constructor
    · exact .inr
    · rintro (z | z)
      · obtain ⟨y, hy, h⟩ := List.any_eq_true.mp a
        rw [decide_eq_true_eq] at h
        exact List.mem_map.mpr ⟨y, hy, h.trans z.symm⟩
      · exact z
  · rw [if_neg a]
    simp [or_comm]
end
theorem getT_add (t : Tab) (i own j : Id) : getT (addT t i own) j = if j = i then getT t i ++ [own] else getT t j := by
  show ((lkG (fun r : Id × List Id => r.1) (putG (fun r : Id × List Id => r.1) t (i, getT t i ++ [own])) j).map (·.2)).getD [] = _
  rw [lk_put]
  by_cases e : j = i
  · rw [if_pos e, if_pos e.symm]
    rfl
  · rw [if_neg e, if_neg (fun z => e z.symm)]
    rfl
/-- the ids of the operations of a kind that speak of an element -/
def spk (k : Kd) (K : List Op) (i : Id) : List Id := (K.filter fun o => decide (o.kind = k) && decide (refOf o = i)).map Op.id
theorem spk_snoc (k : Kd) (K : List Op) (o : Op) (i : Id) : spk k (K ++ [o]) i = if o.kind = k ∧ refOf o = i then spk k K i ++ [o.id] else spk k K i := by
  unfold spk
  rw [List.filter_append, List.map_append]
  by_cases e : o.kind = k ∧ refOf o = i
  · rw [if_pos e]
    simp [e.1, e.2]
  · rw [if_neg e]
    have : (decide (o.kind = k) && decide (refOf o = i)) = false := by
      by_cases a : o.kind = k
      · have : ¬ refOf o = i := fun z => e ⟨a, z⟩
        simp [this]
      · simp [a]
    simp [this]
theorem stOf_cuts (x : Str) (i : Id) : ∀ K, getT (stOf x K).cuts i = spk .cut K i := snocRec rfl fun K o ih => by
  rw [stOf_snoc, spk_snoc]
  show getT (if o.kind = .cut then addT (stOf x K).cuts (refOf o) o.id else (stOf x K).cuts) i = _
  by_cases e : o.kind = .cut
  · rw [if_pos e, getT_add]
    by_cases e2 : i = refOf o
    · rw [if_pos e2, if_pos ⟨e, e2.symm⟩, ← e2, ih]
    · rw [if_neg e2, if_neg (fun z => e2 z.2.symm), ih]
  · rw [if_neg e, if_neg (fun z => e z.1), ih]
theorem stOf_undone (x : Str) (i : Id) : ∀ K, getT (stOf x K).undone i = spk .undo K i := snocRec rfl fun K o ih => by
  rw [stOf_snoc, spk_snoc]
  show getT (if o.kind = .undo then addT (stOf x K).undone (refOf o) o.id else (stOf x K).undone) i = _
  by_cases e : o.kind = .undo
  · rw [if_pos e, getT_add]
    by_cases e2 : i = refOf o
    · rw [if_pos e2, if_pos ⟨e, e2.symm⟩, ← e2, ih]
    · rw [if_neg e2, if_neg (fun z => e2 z.2.symm), ih]
  · rw [if_neg e, if_neg (fun z => e z.1), ih]
theorem stOf_ukeys (x : Str) (i : Id) : ∀ K, i ∈ (stOf x K).undone.map (fun r : Id × List Id => r.1) ↔ ∃ o ∈ K, o.kind = .undo ∧ refOf o = i := snocRec (by
  constructor
  · intro h; cases h
  · rintro ⟨o, h, _⟩; cases h) fun K o ih => by
  rw [stOf_snoc]
  show i ∈ (if o.kind = .undo then addT (stOf x K).undone (refOf o) o.id else (stOf x K).undone).map (fun r : Id × List Id => r.1) ↔ _
  by_cases e : o.kind = .undo
  · rw [if_pos e]
    unfold addT
    rw [keys_put (key := fun r : Id × List Id => r.1), ih]
    constructor
    · rintro (z | ⟨p, hp, h⟩)
      · exact ⟨o, List.mem_append_right _ List.mem_cons_self, e, z.symm⟩
      · exact ⟨p, List.mem_append_left _ hp, h⟩
    · rintro ⟨p, hp, h1, h2⟩
      rcases List.mem_append.mp hp with z | z
      · exact .inr ⟨p, z, h1, h2⟩
      · rw [List.mem_singleton.mp z] at h2
        exact .inl h2.symm
  · rw [if_neg e, ih]
    constructor
    · rintro ⟨p, hp, h⟩
      exact ⟨p, List.mem_append_left _ hp, h⟩
    · rintro ⟨p, hp, h1, h2⟩
      rcases List.mem_append.mp hp with z | z
      · exact ⟨p, z, h1, h2⟩
      · rw [List.mem_singleton.mp z] at h1
        exact absurd h1 e
theorem stOf_known (x : Str) : ∀ K, (K.map Op.id).Nodup → (stOf x K).known = K := snocRec (fun _ => rfl) fun K o ih nd => by
  rw [stOf_snoc]
  rw [List.map_append, List.nodup_append] at nd
  show putG Op.id (stOf x K).known o = _
  rw [ih nd.1]
  exact putG_new fun p hp z => nd.2.2 p.id (List.mem_map_of_mem hp) o.id (by simp) z
theorem lens (x : Str) : ∀ K, (stOf x K).known.length ≤ K.length ∧ (stOf x K).undone.length ≤ K.length ∧ (stOf x K).cuts.length ≤ K.length ∧ (stOf x K).counts.length ≤ K.length := snocRec ⟨Nat.le_refl _, Nat.le_refl _, Nat.le_refl _, Nat.le_refl _⟩ fun K o ih => by
  rw [stOf_snoc, List.length_append, List.length_singleton]
  obtain ⟨h1, h2, h3, h4⟩ := ih
  refine ⟨Nat.le_trans (putG_len _ _) (Nat.succ_le_succ h1), ?_, ?_, ?_⟩
  · show (if o.kind = .undo then addT (stOf x K).undone (refOf o) o.id else (stOf x K).undone).length ≤ _
    split
    · exact Nat.le_trans (putG_len (key := fun r : Id × List Id => r.1) _ _) (Nat.succ_le_succ h2)
    · omega
  · show (if o.kind = .cut then addT (stOf x K).cuts (refOf o) o.id else (stOf x K).cuts).length ≤ _
    split
    · exact Nat.le_trans (putG_len (key := fun r : Id × List Id => r.1) _ _) (Nat.succ_le_succ h3)
    · omega
  · show (putC (stOf x K).counts o.id.2 o.id.1).length ≤ _
    unfold putC
    split
    · rw [List.length_map]; omega
    · rw [List.length_append, List.length_singleton]; omega
theorem spk_len (k : Kd) (K : List Op) (i : Id) : (spk k K i).length ≤ K.length := by
  unfold spk
  rw [List.length_map]
  exact List.length_filter_le _ _
/-! ### counts, clock -/
theorem find_map_put (x y : Str) (n : Nat) : ∀ cs : Cnt, (cs.map (fun c => if c.1 = x then (c.1, n) else c)).find? (fun c => decide (c.1 = y)) = if x = y then (cs.find? fun c => decide (c.1 = y)).map (fun c => (c.1, n)) else cs.find? fun c => decide (c.1 = y)
  | [] => by simp
  | c :: t => by
    have ih := find_map_put x y n t
    rw [List.map_cons, List.find?_cons, List.find?_cons, ih]
    by_cases e : c.1 = x
    · by_cases e2 : x = y
      · simp [e, e2]
      · have : ¬ c.1 = y := fun z => e2 (e.symm.trans z)
        simp [e, e2]
    · by_cases e2 : x = y
      · have : ¬ c.1 = y := fun z => e (z.trans e2.symm)
        simp [e, e2, this]
      · simp [e, e2]
theorem cnt_put (cs : Cnt) (x : Str) (n : Nat) (y : Str) : cnt (putC cs x n) y = if x = y then n else cnt cs y := by
  unfold putC cnt
  by_cases a : (cs.any fun c => decide (c.1 = x)) = true
  · rw [if_pos a, find_map_put]
    by_cases e : x = y
    · rw [if_pos e, if_pos e]
      cases h : cs.find? (fun c => decide (c.1 = y)) with
      | some c => rfl
      | none =>
        rw [List.find?_eq_none] at h
        obtain ⟨c, hc, z⟩ := List.any_eq_true.mp a
        exact absurd (by rw [← e]; exact z) (h c hc)
    · rw [if_neg e, if_neg e]
  · rw [if_neg a, List.find?_append]
    by_cases e : x = y
    · have : cs.find? (fun c => decide (c.1 = y)) = none := by
        rw [List.find?_eq_none]
        intro c hc z
        exact a (List.any_eq_true.mpr ⟨c, hc, by rw [e]; exact z⟩)
      rw [this]
      simp [e]
    · simp [e]
/-- the count of the last operation of a site -/
def lc (K : List Op) (x : Str) : Nat := K.foldl (fun c o => if o.id.2 = x then o.id.1 else c) 0
theorem lc_snoc (K : List Op) (o : Op) (x : Str) : lc (K ++ [o]) x = if o.id.2 = x then o.id.1 else lc K x := by
  unfold lc
  rw [List.foldl_append]
  rfl
theorem stOf_cnt (x y : Str) : ∀ K, cnt (stOf x K).counts y = lc K y := snocRec rfl fun K o ih => by
  rw [stOf_snoc, lc_snoc]
  show cnt (putC (stOf x K).counts o.id.2 o.id.1) y = _
  rw [cnt_put, ih]
theorem putC_nd {cs : Cnt} (h : (cs.map (·.1)).Nodup) (x : Str) (n : Nat) : ((putC cs x n).map (·.1)).Nodup := by
  unfold putC
  by_cases a : (cs.any fun c => decide (c.1 = x)) = true
  · rw [if_pos a, List.map_map]
    have e : ((fun c : Str × Nat => c.1) ∘ fun c : Str × Nat => if c.1 = x then (c.1, n) else c) = fun c => c.1 := by
      funext c
      show (if c.1 = x then (c.1, n) else c).1 = c.1
      split <;> rfl
    rw [e]
    exact h
  · rw [if_neg a, List.map_append, List.nodup_append]
    refine ⟨h, by simp, fun u hu v hv z => ?_⟩
    obtain ⟨c, hc, e⟩ := List.mem_map.mp hu
    have : v = x := by simpa using hv
    exact a (List.any_eq_true.mpr ⟨c, hc, by rw [decide_eq_true_eq]; exact e.trans (z.trans this)⟩)
theorem stOf_nd (x : Str) : ∀ K, ((stOf x K).counts.map (·.1)).Nodup := snocRec List.nodup_nil fun K o ih => by
  rw [stOf_snoc]
  exact putC_nd ih _ _
def clk (K : List Op) : Nat := K.foldl (fun c o => max c o.id.1) 0
theorem clk_snoc (K : List Op) (o : Op) : clk (K ++ [o]) = max (clk K) o.id.1 := by
  unfold clk
  rw [List.foldl_append]
  rfl
theorem stOf_clock (x : Str) : ∀ K, (stOf x K).clock = clk K := snocRec rfl fun K o ih => by
  rw [stOf_snoc, clk_snoc, ← ih]
  rfl
theorem clk_ge : ∀ (K : List Op), ∀ o ∈ K, o.id.1 ≤ clk K := snocRec (fun o h => by cases h) fun K p ih o ho => by
  rw [clk_snoc]
  rcases List.mem_append.mp ho with z | z
  · have := ih o z; omega
  · rw [List.mem_singleton.mp z]; omega
theorem clk_le (n : Nat) : ∀ (K : List Op), (∀ o ∈ K, o.id.1 ≤ n) → clk K ≤ n := snocRec (fun _ => Nat.zero_le _) fun K p ih h => by
  rw [clk_snoc]
  have := ih fun o ho => h o (List.mem_append_left _ ho)
  have := h p (List.mem_append_right _ List.mem_cons_self)
  omega
/-! ### the order -/
def ordS (K : List Op) : List Id := (stOf Str.empty K).order
theorem stOf_order (x : Str) : ∀ K, (stOf x K).order = ordS K := snocRec rfl fun K o ih => by
  unfold ordS
  rw [stOf_snoc, stOf_snoc]
  show (if o.kind = .put then insAt (stOf x K).order (placeB (stOf x K).order o) o.id else (stOf x K).order) = (if o.kind = .put then insAt (ordS K) (placeB (ordS K) o) o.id else ordS K)
  rw [ih]
theorem ordS_snoc (K : List Op) (o : Op) : ordS (K ++ [o]) = if o.kind = .put then insAt (ordS K) (placeB (ordS K) o) o.id else ordS K := by
  unfold ordS
  rw [stOf_snoc]
  rfl
/-- an element put directly behind another one -/
def insD (l : List Id) (r : Option Id) (i : Id) : List Id := match r with
  | none => i :: l
  | some r => l.flatMap fun x => if x = r then [x, i] else [x]
def dStep (l : List Id) (o : Op) : List Id := if o.kind = .put then insD l o.ref o.id else l
def ordD (K : List Op) : List Id := K.foldl dStep []
theorem ordD_snoc (K : List Op) (o : Op) : ordD (K ++ [o]) = dStep (ordD K) o := by
  unfold ordD
  rw [List.foldl_append]
  rfl
theorem insD_not {l : List Id} {r i : Id} (h : r ∉ l) : insD l (some r) i = l := by
  induction l with
  | nil => rfl
  | cons a t ih =>
    have e : ¬ a = r := fun z => h (by rw [z]; exact List.mem_cons_self)
    show (a :: t).flatMap _ = _
    rw [List.flatMap_cons, if_neg e]
    have := ih fun z => h (List.mem_cons_of_mem _ z)
    show [a] ++ insD t (some r) i = _
    rw [this]
    rfl
theorem insD_split {l1 l2 : List Id} {r i : Id} (h1 : r ∉ l1) (h2 : r ∉ l2) : insD (l1 ++ r :: l2) (some r) i = l1 ++ r :: i :: l2 := by
  show (l1 ++ r :: l2).flatMap _ = _
  rw [List.flatMap_append, List.flatMap_cons, if_pos rfl]
  have e1 := insD_not (i := i) h1
  have e2 := insD_not (i := i) h2
  show insD l1 (some r) i ++ ([r, i] ++ insD l2 (some r) i) = _
  rw [e1, e2]
  rfl
theorem insD_mem {l : List Id} {r : Option Id} {i j : Id} (hr : ∀ x, r = some x → x ∈ l) : j ∈ insD l r i ↔ j = i ∨ j ∈ l := by
  cases r with
  | none => exact List.mem_cons
  | some r =>
    show j ∈ l.flatMap _ ↔ _
    rw [List.mem_flatMap]
    constructor
    · rintro ⟨a, ha, h⟩
      split at h
      · rcases List.mem_cons.mp h with z | z
        · exact .inr (z ▸ ha)
        · exact .inl (List.mem_singleton.mp z)
      · exact .inr (List.mem_singleton.mp h ▸ ha)
    · rintro (z | z)
      · exact ⟨r, hr r rfl, by rw [if_pos rfl, z]; simp⟩
      · exact ⟨j, z, by split <;> simp⟩
theorem nodup_split {l : List Id} {r : Id} (nd : l.Nodup) (h : r ∈ l) : ∃ l1 l2, l = l1 ++ r :: l2 ∧ r ∉ l1 ∧ r ∉ l2 := by
  obtain ⟨l1, l2, rfl, h1⟩ := List.eq_append_cons_of_mem h
  refine ⟨l1, l2, rfl, h1, ?_⟩
  rw [List.nodup_append] at nd
  exact (List.nodup_cons.mp nd.2.1).1
theorem insD_nd {l : List Id} {r : Option Id} {i : Id} (nd : l.Nodup) (hr : ∀ x, r = some x → x ∈ l) (hi : i ∉ l) : (insD l r i).Nodup := by
  cases r with
  | none => exact List.nodup_cons.mpr ⟨hi, nd⟩
  | some r =>
    obtain ⟨l1, l2, rfl, h1, h2⟩ := nodup_split nd (hr r rfl)
    rw [insD_split h1 h2]
    have p : (l1 ++ r :: i :: l2).Perm (i :: (l1 ++ r :: l2)) := by
      have : (l1 ++ r :: i :: l2) = (l1 ++ [r]) ++ i :: l2 := by simp
      rw [this]
      refine List.perm_middle.trans ?_
      simp
    exact p.nodup_iff.mpr (List.nodup_cons.mpr ⟨hi, nd⟩)
theorem idxOf_split {l1 l2 : List Id} {r : Id} (h1 : r ∉ l1) : (l1 ++ r :: l2).idxOf r = l1.length := by
  induction l1 with
  | nil => simp
  | cons a t ih =>
    have e : ¬ a = r := fun z => h1 (by rw [z]; exact List.mem_cons_self)
    have e2 : (a == r) = false := beq_eq_false_iff_ne.mpr e
    rw [List.cons_append, List.idxOf_cons, ih fun z => h1 (List.mem_cons_of_mem _ z), e2]
    rfl
/-- nothing greater stands where it comes -/
def NoSkip (l : List Id) (o : Op) : Prop := ∀ j, l[startB l o.ref]? = some j → ltI o.id j = false
theorem ins_is {l : List Id} {o : Op} (nd : l.Nodup) (hr : ∀ x, o.ref = some x → x ∈ l) (ns : NoSkip l o) : insAt l (placeB l o) o.id = insD l o.ref o.id := by
  have e0 : placeB l o = startB l o.ref := by
    unfold placeB
    have : ((l.drop (startB l o.ref)).takeWhile fun i => ltI o.id i) = [] := by
      cases h : l.drop (startB l o.ref) with
      | nil => rfl
      | cons j t =>
        have h2 : l[startB l o.ref]? = some j := by
          have := List.getElem?_drop (xs := l) (i := startB l o.ref) (j := 0)
          rw [h] at this
          simpa using this.symm
        rw [List.takeWhile_cons, ns j h2]
        rfl
    rw [this]
    rfl
  rw [e0]
  cases h : o.ref with
  | none => rfl
  | some r =>
    obtain ⟨l1, l2, rfl, h1, h2⟩ := nodup_split nd (hr r h)
    rw [insD_split h1 h2]
    show insAt _ ((l1 ++ r :: l2).idxOf r + 1) _ = _
    rw [idxOf_split h1]
    unfold insAt
    have e : l1 ++ r :: l2 = (l1 ++ [r]) ++ l2 := by simp
    have e2 : l1.length + 1 = (l1 ++ [r]).length := by simp
    rw [e, e2, List.take_left' rfl, List.drop_left' rfl]
    simp
theorem ltI_of {i j : Id} (h : j.1 < i.1) : ltI i j = false := by
  unfold ltI Sx.lt2K
  rw [if_neg (show ¬ (id2 i).1 = (id2 j).1 from fun z => by injection z with z; omega)]
  show decide (((i.1 : Nat) : Int) < ((j.1 : Nat) : Int)) = false
  exact decide_eq_false (by omega)
end K80
namespace K80
open PySem PySem.Spec PyProof.Rows L2 Gx GxR NdefX
/-! all operations there are; what a site may have carried out of them -/
def ofS (x : Str) (K : List Op) : List Op := K.filter fun o => decide (o.id.2 = x)
theorem ofS_app (x : Str) (K L : List Op) : ofS x (K ++ L) = ofS x K ++ ofS x L := List.filter_append ..
theorem ofS_one {x : Str} {o : Op} : ofS x [o] = if o.id.2 = x then [o] else [] := by
  unfold ofS
  by_cases e : o.id.2 = x <;> simp [e]
theorem mem_ofS {x : Str} {K : List Op} {o : Op} : o ∈ ofS x K ↔ o ∈ K ∧ o.id.2 = x := by
  unfold ofS
  rw [List.mem_filter, decide_eq_true_eq]
theorem lc_ofS (x : Str) : ∀ K, lc (ofS x K) x = lc K x := snocRec rfl fun K o ih => by
  rw [ofS_app, ofS_one, lc_snoc]
  by_cases e : o.id.2 = x
  · rw [if_pos e, if_pos e, lc_snoc, if_pos e]
  · rw [if_neg e, if_neg e, List.append_nil, ih]
theorem lc_eq {x : Str} {K L : List Op} (h : ofS x K = ofS x L) : lc K x = lc L x := by
  rw [← lc_ofS x K, h, lc_ofS]
structure Uni (A : List Op) : Prop where
  nd : (A.map Op.id).Nodup
  ok : ∀ o ∈ A, OpOk o ∧ PyData.strOk o.id.2 = true
  prev : ∀ (k : Nat) (o : Op), A[k]? = some o → o.prev = lc (A.take k) o.id.2
  ref : ∀ (k : Nat) (o : Op) (r : Id), A[k]? = some o → o.ref = some r → ∃ p ∈ A.take k, p.id = r ∧ (o.kind ≠ .undo → p.kind = .put)
  len : A.length ≤ 1000
theorem take_app {α : Type} {A B : List α} {k : Nat} {o : α} (h : A[k]? = some o) : (A ++ B).take k = A.take k ∧ (A ++ B)[k]? = some o := by
  have hk := (List.getElem?_eq_some_iff.mp h).1
  exact ⟨List.take_append_of_le_length (Nat.le_of_lt hk), by rw [List.getElem?_append_left hk]; exact h⟩
theorem Uni.pre {A B : List Op} (h : Uni (A ++ B)) : Uni A := by
  have nd := h.nd
  rw [List.map_append, List.nodup_append] at nd
  have len := h.len
  rw [List.length_append] at len
  refine ⟨nd.1, fun o ho => h.ok o (List.mem_append_left _ ho), fun k o e => ?_, fun k o r e er => ?_, by omega⟩
  · have t := take_app (B := B) e
    rw [← t.1]
    exact h.prev k o t.2
  · have t := take_app (B := B) e
    rw [← t.1]
    exact h.ref k o r t.2 er
theorem snoc_get {α : Type} {A : List α} {o p : α} {k : Nat} (h : (A ++ [o])[k]? = some p) : (A[k]? = some p ∧ (A ++ [o]).take k = A.take k) ∨ (p = o ∧ k = A.length ∧ (A ++ [o]).take k = A) := by
  by_cases c : k < A.length
  · rw [List.getElem?_append_left c] at h
    exact .inl ⟨h, (take_app h).1⟩
  · have hk := (List.getElem?_eq_some_iff.mp h).1
    rw [List.length_append, List.length_singleton] at hk
    have e : k = A.length := by omega
    subst e
    rw [List.getElem?_append_right (Nat.le_refl _), Nat.sub_self] at h
    exact .inr ⟨(Option.some.inj h).symm, rfl, List.take_left' rfl⟩
theorem Uni.snoc {A : List Op} {o : Op} (h : Uni A) (hi : o.id ∉ A.map Op.id) (ok : OpOk o) (st : PyData.strOk o.id.2 = true) (pv : o.prev = lc A o.id.2) (rf : ∀ r, o.ref = some r → ∃ p ∈ A, p.id = r ∧ (o.kind ≠ .undo → p.kind = .put)) (l : A.length < 1000) : Uni (A ++ [o]) := by
  refine ⟨?_, fun p hp => ?_, fun k p e => ?_, fun k p r e er => ?_, by rw [List.length_append, List.length_singleton]; omega⟩
  · rw [List.map_append, List.nodup_append]
    refine ⟨h.nd, by simp, fun u hu v hv z => hi ?_⟩
    have : v = o.id := by simpa using hv
    rw [← this, ← z]
    exact hu
  · rcases List.mem_append.mp hp with z | z
    · exact h.ok p z
    · rw [List.mem_singleton.mp z]; exact ⟨ok, st⟩
  · rcases snoc_get e with ⟨e1, e2⟩ | ⟨rfl, _, e2⟩
    · rw [e2]; exact h.prev k p e1
    · rw [e2]; exact pv
  · rcases snoc_get e with ⟨e1, e2⟩ | ⟨rfl, _, e2⟩
    · rw [e2]; exact h.ref k p r e1 er
    · rw [e2]; exact rf r er
theorem id_inj {A : List Op} (nd : (A.map Op.id).Nodup) {o p : Op} (ho : o ∈ A) (hp : p ∈ A) (e : o.id = p.id) : o = p := by
  induction A with
  | nil => cases ho
  | cons a t ih =>
    rw [List.map_cons, List.nodup_cons] at nd
    rcases List.mem_cons.mp ho with z | z
    · rcases List.mem_cons.mp hp with y | y
      · rw [z, y]
      · exact absurd (List.mem_map.mpr ⟨p, y, by rw [← e, z]⟩) nd.1
    · rcases List.mem_cons.mp hp with y | y
      · exact absurd (List.mem_map.mpr ⟨o, z, by rw [e, y]⟩) nd.1
      · exact ih nd.2 z y
theorem nd_of {A : List Op} (nd : (A.map Op.id).Nodup) : A.Nodup := by
  induction A with
  | nil => exact List.nodup_nil
  | cons a t ih =>
    rw [List.map_cons, List.nodup_cons] at nd
    exact List.nodup_cons.mpr ⟨fun z => nd.1 (List.mem_map_of_mem z), ih nd.2⟩
/-- the operations of a site: their counts go up -/
theorem Uni.up {A : List Op} (x : Str) (h : Uni A) : (ofS x A).Pairwise (fun a b => a.id.1 < b.id.1) ∧ ∀ p ∈ ofS x A, p.id.1 ≤ lc A x := by
  induction A using snocRec with
  | h0 => exact ⟨List.Pairwise.nil, fun p hp => by cases hp⟩
  | h1 A o ih =>
    obtain ⟨h1, h2⟩ := ih h.pre
    rw [ofS_app, ofS_one, lc_snoc]
    by_cases e : o.id.2 = x
    · rw [if_pos e, if_pos e]
      have pv := h.prev A.length o (by rw [List.getElem?_append_right (Nat.le_refl _), Nat.sub_self]; rfl)
      rw [List.take_left' rfl, e] at pv
      have ok := (h.ok o (List.mem_append_right _ List.mem_cons_self)).1.prev
      refine ⟨List.pairwise_append.mpr ⟨h1, List.pairwise_singleton _ _, fun a ha b hb => ?_⟩, fun p hp => ?_⟩
      · rw [List.mem_singleton.mp hb]
        have := h2 a ha
        omega
      · rcases List.mem_append.mp hp with z | z
        · have := h2 p z; omega
        · rw [List.mem_singleton.mp z]; omega
    · rw [if_neg e, if_neg e, List.append_nil]
      exact ⟨h1, h2⟩
structure Cl (A K : List Op) : Prop where
  nd : (K.map Op.id).Nodup
  sub : ∀ o ∈ K, o ∈ A
  site : ∀ x, ofS x K <+: ofS x A
  ref : ∀ (k : Nat) (o : Op) (r : Id), K[k]? = some o → o.ref = some r → ∃ p ∈ K.take k, p.id = r
theorem Cl.pre {A K L : List Op} (h : Cl A (K ++ L)) : Cl A K := by
  have nd := h.nd
  rw [List.map_append, List.nodup_append] at nd
  refine ⟨nd.1, fun o ho => h.sub o (List.mem_append_left _ ho), fun x => ?_, fun k o r e er => ?_⟩
  · have := h.site x
    rw [ofS_app] at this
    exact (List.prefix_append _ _).trans this
  · have t := take_app (B := L) e
    rw [← t.1]
    exact h.ref k o r t.2 er
theorem Cl.nil (A : List Op) : Cl A [] := ⟨List.nodup_nil, (fun o h => by cases h), (fun x => List.nil_prefix), fun k o r e => by simp at e⟩
theorem Uni.self {A : List Op} (h : Uni A) : Cl A A := ⟨h.nd, fun o ho => ho, fun x => List.prefix_rfl, fun k o r e er => let ⟨p, h1, h2, _⟩ := h.ref k o r e er; ⟨p, h1, h2⟩⟩
theorem Cl.more {A K : List Op} (h : Cl A K) (B : List Op) : Cl (A ++ B) K := ⟨h.nd, fun o ho => List.mem_append_left _ (h.sub o ho), fun x => by rw [ofS_app]; exact (h.site x).trans (List.prefix_append _ _), h.ref⟩
theorem lc_last (x : Str) {P : List Op} (hp : ∀ p ∈ P, p.id.2 = x) (up : P.Pairwise (fun a b => a.id.1 < b.id.1)) : (∀ p ∈ P, p.id.1 ≤ lc P x) ∧ (lc P x = 0 ∨ ∃ p ∈ P, lc P x = p.id.1) := by
  induction P using snocRec with
  | h0 => exact ⟨fun p h => (by cases h), .inl rfl⟩
  | h1 P o ih =>
    rw [List.pairwise_append] at up
    have e : o.id.2 = x := hp o (List.mem_append_right _ List.mem_cons_self)
    rw [lc_snoc, if_pos e]
    refine ⟨fun p hp => ?_, .inr ⟨o, List.mem_append_right _ List.mem_cons_self, rfl⟩⟩
    rcases List.mem_append.mp hp with z | z
    · exact Nat.le_of_lt (up.2.2 p z o List.mem_cons_self)
    · rw [List.mem_singleton.mp z]; exact Nat.le_refl _
theorem Cl.up {A K : List Op} (u : Uni A) (h : Cl A K) (x : Str) : (ofS x K).Pairwise (fun a b => a.id.1 < b.id.1) := (u.up x).1.sublist (h.site x).sublist
/-- what is seen is what was carried out -/
theorem seen_iff {A K : List Op} (u : Uni A) (h : Cl A K) {o : Op} (ho : o ∈ A) : o.id.1 ≤ lc K o.id.2 ↔ o ∈ K := by
  have up := Cl.up u h o.id.2
  have lcl := lc_last o.id.2 (P := ofS o.id.2 K) (fun p hp => (mem_ofS.mp hp).2) up
  rw [lc_ofS] at lcl
  constructor
  · intro le
    rcases lcl.2 with z | ⟨p, hp, z⟩
    · have := (u.ok o ho).1.id.1
      omega
    · rw [z] at le
      obtain ⟨R, hR⟩ := h.site o.id.2
      have hoA : o ∈ ofS o.id.2 A := mem_ofS.mpr ⟨ho, rfl⟩
      rw [← hR] at hoA
      rcases List.mem_append.mp hoA with y | y
      · exact (mem_ofS.mp y).1
      · have up2 := (u.up o.id.2).1
        rw [← hR, List.pairwise_append] at up2
        have := up2.2.2 p hp o y
        omega
  · intro hK
    exact lcl.1 o (mem_ofS.mpr ⟨hK, rfl⟩)
theorem seen_is {A K : List Op} {x : Str} (u : Uni A) (h : Cl A K) {o : Op} (ho : o ∈ A) : hasSeen (stOf x K).counts o.id = true ↔ o ∈ K := by
  unfold hasSeen
  rw [decide_eq_true_eq, stOf_cnt]
  exact seen_iff u h ho
theorem mem_at {α : Type} {l : List α} {a : α} (h : a ∈ l) : ∃ k : Nat, l[k]? = some a := List.mem_iff_getElem?.mp h
/-- an operation that is ready may be carried out -/
theorem Cl.step {A K : List Op} {x : Str} (u : Uni A) (h : Cl A K) {o : Op} (ho : o ∈ A) (hn : o ∉ K) (r : ready (stOf x K).counts o = true) : Cl A (K ++ [o]) := by
  unfold ready at r
  rw [Bool.and_eq_true, Bool.and_eq_true, decide_eq_true_eq, decide_eq_true_eq, stOf_cnt] at r
  obtain ⟨⟨r1, r2⟩, r3⟩ := r
  refine ⟨?_, fun p hp => ?_, fun y => ?_, fun k p i e ei => ?_⟩
  · rw [List.map_append, List.nodup_append]
    refine ⟨h.nd, by simp, fun a ha b hb z => ?_⟩
    obtain ⟨p, hp, e⟩ := List.mem_map.mp ha
    have e2 : b = o.id := by simpa using hb
    have : p = o := id_inj u.nd (h.sub p hp) ho (by rw [e, z, e2])
    exact hn (this ▸ hp)
  · rcases List.mem_append.mp hp with z | z
    · exact h.sub p z
    · rw [List.mem_singleton.mp z]; exact ho
  · rw [ofS_app, ofS_one]
    by_cases e : o.id.2 = y
    · rw [if_pos e]
      subst e
      obtain ⟨R, hR⟩ := h.site o.id.2
      have hoA : o ∈ ofS o.id.2 A := mem_ofS.mpr ⟨ho, rfl⟩
      rw [← hR] at hoA
      have hoR : o ∈ R := by
        rcases List.mem_append.mp hoA with z | z
        · exact absurd (mem_ofS.mp z).1 hn
        · exact z
      cases R with
      | nil => cases hoR
      | cons q R =>
        have e : q = o := by
          refine Classical.byContradiction fun ne => ?_
          have hoR' : o ∈ R := by
            rcases List.mem_cons.mp hoR with z | z
            · exact absurd z.symm ne
            · exact z
          have up := (u.up o.id.2).1
          have hqA : q ∈ ofS o.id.2 A := by rw [← hR]; exact List.mem_append_right _ List.mem_cons_self
          have lt1 : q.id.1 < o.id.1 := by
            rw [← hR, List.pairwise_append, List.pairwise_cons] at up
            exact up.2.1.1 o hoR'
          -- all that went before is less
          obtain ⟨k, hk⟩ := mem_at ho
          have hpv := u.prev k o hk
          have hu : Uni (A.take k) := by
            have : Uni (A.take k ++ A.drop k) := by rw [List.take_append_drop]; exact u
            exact this.pre
          have hq : q ∈ ofS o.id.2 (A.take k) := by
            have hqa := (mem_ofS.mp hqA)
            rw [← List.take_append_drop k A] at hqa
            rcases List.mem_append.mp hqa.1 with z | z
            · exact mem_ofS.mpr ⟨z, hqa.2⟩
            · exfalso
              have ek : A.drop k = o :: A.drop (k + 1) := by
                obtain ⟨hk1, hk2⟩ := List.getElem?_eq_some_iff.mp hk
                rw [List.drop_eq_getElem_cons hk1, hk2]
              rw [ek] at z
              rcases List.mem_cons.mp z with z | z
              · exact ne z
              · have up3 := (u.up o.id.2).1
                rw [← List.take_append_drop k A, ofS_app, ek, show o :: A.drop (k + 1) = [o] ++ A.drop (k + 1) from rfl, ofS_app, ofS_one, if_pos rfl, List.pairwise_append] at up3
                have := (List.pairwise_cons.mp up3.2.1).1 q (mem_ofS.mpr ⟨z, hqa.2⟩)
                omega
          have le1 := (hu.up o.id.2).2 q hq
          have seen : q.id.1 ≤ lc K o.id.2 := by omega
          have hq2 := (mem_ofS.mp hqA)
          have hqK := (seen_iff u h hq2.1).mp (by rw [hq2.2]; exact seen)
          have hqP : q ∈ ofS o.id.2 K := mem_ofS.mpr ⟨hqK, hq2.2⟩
          have up4 := (u.up o.id.2).1
          rw [← hR, List.pairwise_append] at up4
          have := up4.2.2 q hqP q List.mem_cons_self
          omega
        subst e
        exact ⟨R, by rw [List.append_assoc]; exact hR⟩
    · rw [if_neg e, List.append_nil]
      exact h.site y
  · rcases snoc_get e with ⟨e1, e2⟩ | ⟨rfl, _, e2⟩
    · rw [e2]; exact h.ref k p i e1 ei
    · rw [e2]
      obtain ⟨k2, hk2⟩ := mem_at ho
      obtain ⟨q, hq, eq, _⟩ := u.ref k2 p i hk2 ei
      refine ⟨q, ?_, eq⟩
      have hqA : q ∈ A := List.mem_of_mem_take hq
      have : hasSeen (stOf x K).counts i = true := by
        refine List.all_eq_true.mp r3 i ?_
        unfold needs
        rw [ei]
        simp
      rw [← eq] at this
      exact (seen_is u h hqA).mp this
/-- the first operation that is not yet carried out is ready -/
theorem Cl.next {A K : List Op} {x : Str} (u : Uni A) (h : Cl A K) {k : Nat} {o : Op} (hk : A[k]? = some o) (ha : ∀ p ∈ A.take k, p ∈ K) (hn : o ∉ K) : ready (stOf x K).counts o = true := by
  have ho : o ∈ A := List.mem_of_getElem? hk
  have hpv := u.prev k o hk
  have ek : A.drop k = o :: A.drop (k + 1) := by
    obtain ⟨hk1, hk2⟩ := List.getElem?_eq_some_iff.mp hk
    rw [List.drop_eq_getElem_cons hk1, hk2]
  have eA : ofS o.id.2 A = ofS o.id.2 (A.take k) ++ o :: ofS o.id.2 (A.drop (k + 1)) := by
    conv => lhs; rw [← List.take_append_drop k A, ek]
    rw [ofS_app, show o :: A.drop (k + 1) = [o] ++ A.drop (k + 1) from rfl, ofS_app, ofS_one, if_pos rfl]
    rfl
  have same : ofS o.id.2 K = ofS o.id.2 (A.take k) := by
    have p1 := h.site o.id.2
    have p2 : ofS o.id.2 (A.take k) <+: ofS o.id.2 A := ⟨_, eA.symm⟩
    have nd : (ofS o.id.2 A).Nodup := (nd_of u.nd).sublist List.filter_sublist
    rcases List.prefix_or_prefix_of_prefix p1 p2 with ⟨R, hR⟩ | ⟨R, hR⟩
    · cases R with
      | nil => rw [← hR, List.append_nil]
      | cons q R =>
        have hq : q ∈ ofS o.id.2 (A.take k) := by rw [← hR]; exact List.mem_append_right _ List.mem_cons_self
        have hqK : q ∈ ofS o.id.2 K := mem_ofS.mpr ⟨ha q (mem_ofS.mp hq).1, (mem_ofS.mp hq).2⟩
        rw [eA, ← hR, List.append_assoc, List.nodup_append] at nd
        exact absurd rfl (nd.2.2 q hqK q List.mem_cons_self)
    · cases R with
      | nil => rw [← hR, List.append_nil]
      | cons q R =>
        obtain ⟨R2, hR2⟩ := p1
        rw [← hR, List.append_assoc] at hR2
        have := List.append_cancel_left (hR2.trans eA)
        have e : q = o := by injection this
        have : q ∈ ofS o.id.2 K := by rw [← hR]; exact List.mem_append_right _ List.mem_cons_self
        exact absurd (mem_ofS.mp (e ▸ this)).1 hn
  unfold ready
  rw [Bool.and_eq_true, Bool.and_eq_true, decide_eq_true_eq, decide_eq_true_eq, stOf_cnt]
  refine ⟨⟨by rw [lc_eq same]; exact hpv.symm, (u.ok o ho).1.prev⟩, List.all_eq_true.mpr fun i hi => ?_⟩
  have er : o.ref = some i := by
    unfold needs at hi
    exact Option.mem_toList.mp hi
  obtain ⟨p, hp, e, _⟩ := u.ref k o i hk er
  rw [← e]
  exact (seen_is u h (List.mem_of_mem_take hp)).mpr (ha p hp)
end K80
namespace K80
open PySem PySem.Spec PyProof.Rows L2 Gx GxR NdefX
/-! ### the order of a site -/
theorem ordS_of {x : Str} {K : List Op} : (stOf x K).order = ordS K := stOf_order x K
/-- refs of new elements are elements, all carried out ahead -/
structure Wd (b A : List Op) : Prop where
  uni : Uni A
  ob : ordS b = ordD b
  mb : ∀ i, i ∈ ordD b ↔ ∃ o ∈ b, o.kind = .put ∧ o.id = i
  nb : (ordD b).Nodup
  ns : ∀ (Km : List Op) (o : Op), Cl A (b ++ Km ++ [o]) → o.kind = .put → NoSkip (ordD (b ++ Km)) o
theorem put_ref {A K : List Op} (u : Uni A) {o : Op} (h : Cl A (K ++ [o])) (hp : o.kind = .put) {r : Id} (hr : o.ref = some r) : ∃ p ∈ K, p.kind = .put ∧ p.id = r := by
  have ho : o ∈ A := h.sub o (List.mem_append_right _ List.mem_cons_self)
  obtain ⟨k, hk⟩ := mem_at ho
  obtain ⟨p, hp1, hp2, hp3⟩ := u.ref k o r hk hr
  obtain ⟨q, hq1, hq2⟩ := h.ref K.length o r (by rw [List.getElem?_append_right (Nat.le_refl _), Nat.sub_self]; rfl) hr
  rw [List.take_left' rfl] at hq1
  have : p = q := id_inj u.nd (List.mem_of_mem_take hp1) (h.sub q (List.mem_append_left _ hq1)) (by rw [hp2, hq2])
  exact ⟨p, this ▸ hq1, hp3 (by rw [hp]; decide), hp2⟩
theorem ordD_mem_step {K : List Op} {o : Op} (m : ∀ i, i ∈ ordD K ↔ ∃ o ∈ K, o.kind = .put ∧ o.id = i) (hr : o.kind = .put → ∀ r, o.ref = some r → ∃ p ∈ K, p.kind = .put ∧ p.id = r) : ∀ i, i ∈ ordD (K ++ [o]) ↔ ∃ p ∈ K ++ [o], p.kind = .put ∧ p.id = i := by
  intro i
  rw [ordD_snoc]
  unfold dStep
  by_cases e : o.kind = .put
  · rw [if_pos e, insD_mem fun r er => (m r).mpr (let ⟨p, h1, h2, h3⟩ := hr e r er; ⟨p, h1, h2, h3⟩), m]
    constructor
    · rintro (z | ⟨p, h1, h2⟩)
      · exact ⟨o, List.mem_append_right _ List.mem_cons_self, e, z.symm⟩
      · exact ⟨p, List.mem_append_left _ h1, h2⟩
    · rintro ⟨p, h1, h2, h3⟩
      rcases List.mem_append.mp h1 with z | z
      · exact .inr ⟨p, z, h2, h3⟩
      · rw [List.mem_singleton.mp z] at h3
        exact .inl h3.symm
  · rw [if_neg e, m]
    constructor
    · rintro ⟨p, h1, h2⟩
      exact ⟨p, List.mem_append_left _ h1, h2⟩
    · rintro ⟨p, h1, h2, h3⟩
      rcases List.mem_append.mp h1 with z | z
      · exact ⟨p, z, h2, h3⟩
      · rw [List.mem_singleton.mp z] at h2
        exact absurd h2 e
theorem id_new {K : List Op} {o : Op} (nd : ((K ++ [o]).map Op.id).Nodup) {p : Op} (hp : p ∈ K) : p.id ≠ o.id := by
  rw [List.map_append, List.nodup_append] at nd
  exact nd.2.2 p.id (List.mem_map_of_mem hp) o.id (by simp)
theorem ordD_nd_step {K : List Op} {o : Op} (m : ∀ i, i ∈ ordD K ↔ ∃ o ∈ K, o.kind = .put ∧ o.id = i) (n : (ordD K).Nodup) (hr : o.kind = .put → ∀ r, o.ref = some r → ∃ p ∈ K, p.kind = .put ∧ p.id = r) (nd : ((K ++ [o]).map Op.id).Nodup) : (ordD (K ++ [o])).Nodup := by
  rw [ordD_snoc]
  unfold dStep
  split
  · rename_i e
    refine insD_nd n (fun r er => (m r).mpr (hr e r er)) fun z => ?_
    obtain ⟨p, h1, _, h3⟩ := (m _).mp z
    exact id_new nd h1 h3
  · exact n
structure Ord (K : List Op) : Prop where
  is : ordS K = ordD K
  mem : ∀ i, i ∈ ordD K ↔ ∃ o ∈ K, o.kind = .put ∧ o.id = i
  nd : (ordD K).Nodup
theorem Ord.step {A K : List Op} {o : Op} (h : Ord K) (u : Uni A) (c : Cl A (K ++ [o])) (ns : o.kind = .put → NoSkip (ordD K) o) : Ord (K ++ [o]) := by
  have hr : o.kind = .put → ∀ r, o.ref = some r → ∃ p ∈ K, p.kind = .put ∧ p.id = r := fun e r er => put_ref u c e er
  refine ⟨?_, ordD_mem_step h.mem hr, ordD_nd_step h.mem h.nd hr c.nd⟩
  rw [ordS_snoc, ordD_snoc, h.is]
  unfold dStep
  split
  · rename_i e
    exact ins_is h.nd (fun r er => (h.mem r).mpr (hr e r er)) (ns e)
  · rfl
theorem Ord.nil : Ord [] := by
  refine ⟨rfl, fun i => ⟨fun h => ?_, fun h => ?_⟩, List.nodup_nil⟩
  · cases h
  · obtain ⟨o, h, _⟩ := h
    cases h
theorem Wd.ord {b A : List Op} (h : Wd b A) : ∀ Km, Cl A (b ++ Km) → Ord (b ++ Km) := snocRec (fun _ => by
  rw [List.append_nil]
  exact ⟨h.ob, h.mb, h.nb⟩) fun Km o ih c => by
  rw [← List.append_assoc] at c ⊢
  exact (ih c.pre).step h.uni c fun e => h.ns Km o c e
/-! ### what is carried out fits -/
def wt (x : Str) (K W : List Op) : Sm := { stOf x K with waits := W }
theorem len_sub {α : Type} : ∀ {l m : List α}, l.Nodup → (∀ a ∈ l, a ∈ m) → l.length ≤ m.length
  | [], _, _, _ => Nat.zero_le _
  | a :: t, m, nd, s => by
    rw [List.nodup_cons] at nd
    obtain ⟨m1, m2, rfl⟩ := List.append_of_mem (s a List.mem_cons_self)
    have := len_sub (m := m1 ++ m2) nd.2 fun b hb => by
      have h := s b (List.mem_cons_of_mem _ hb)
      rw [List.mem_append, List.mem_cons] at h
      rcases h with z | z | z
      · exact List.mem_append_left _ z
      · exact absurd (z ▸ hb) nd.1
      · exact List.mem_append_right _ z
    rw [List.length_append] at this ⊢
    rw [List.length_cons, List.length_cons]
    omega
theorem next_nil (cs : Cnt) : nextReady cs [] = none := by
  have : sortI [] = [] := List.perm_nil.mp (sortI_perm [])
  unfold nextReady
  rw [List.map_nil, this]
  rfl
theorem nd_len {A K : List Op} (nd : (K.map Op.id).Nodup) (sub : ∀ o ∈ K, o ∈ A) : K.length ≤ A.length := by
  exact len_sub (nd_of nd) sub
theorem carOk {A K : List Op} {x : Str} {W : List Op} {o : Op} (u : Uni A) (h : Cl A (K ++ [o])) (od : Ord K) : CarOk (wt x K W) o := by
  have lK : K.length ≤ 1000 := Nat.le_trans (nd_len h.pre.nd h.pre.sub) u.len
  obtain ⟨l1, l2, l3, l4⟩ := lens x K
  have hoA : o ∈ A := h.sub o (List.mem_append_right _ List.mem_cons_self)
  have eo : (wt x K W).order = ordD K := (stOf_order x K).trans od.is
  refine ⟨fun e => ⟨?_, fun i hi => ?_, fun r er => ?_⟩, (u.ok o hoA).1.some_, ?_, ?_, ?_, ?_, fun i => ?_, fun i => ?_⟩
  · rw [eo]
    have : (ordD K).length ≤ (K.map Op.id).length := len_sub od.nd fun i hi => by
      obtain ⟨p, h1, _, h3⟩ := (od.mem i).mp hi
      exact h3 ▸ List.mem_map_of_mem h1
    rw [List.length_map] at this
    omega
  · rw [eo] at hi
    obtain ⟨p, h1, _, h3⟩ := (od.mem i).mp hi
    rw [← h3]
    exact (u.ok p (h.pre.sub p h1)).2
  · rw [eo]
    exact (od.mem r).mpr (put_ref u h e er)
  · show (stOf x K).known.length ≤ _
    omega
  · show (stOf x K).undone.length ≤ _
    omega
  · show (stOf x K).cuts.length ≤ _
    omega
  · show (stOf x K).counts.length ≤ _
    omega
  · show (getT (stOf x K).undone i).length ≤ _
    rw [stOf_undone]
    have := spk_len .undo K i
    omega
  · show (getT (stOf x K).cuts i).length ≤ _
    rw [stOf_cuts]
    have := spk_len .cut K i
    omega
theorem carry_wt (x : Str) (K W : List Op) (o : Op) : carry (wt x K W) o = wt x (K ++ [o]) W := by
  unfold wt
  rw [stOf_snoc]
  rfl
theorem next_some {cs : Cnt} {W : List Op} {r : Op} (h : nextReady cs W = some r) : r ∈ W ∧ ready cs r = true := by
  unfold nextReady at h
  have h1 := List.mem_of_find?_eq_some h
  have h2 := List.find?_some h
  obtain ⟨i, _, hi⟩ := List.mem_filterMap.mp h1
  exact ⟨(lkG_key hi).2, h2⟩
theorem lk_self {W : List Op} (nd : (W.map Op.id).Nodup) {o : Op} (ho : o ∈ W) : lkG Op.id W o.id = some o := by
  cases h : lkG Op.id W o.id with
  | none =>
    unfold lkG at h
    rw [List.find?_eq_none] at h
    exact absurd (decide_eq_true rfl) (h o ho)
  | some p =>
    have := lkG_key h
    rw [id_inj nd this.2 ho this.1]
theorem next_none {cs : Cnt} {W : List Op} (nd : (W.map Op.id).Nodup) (h : nextReady cs W = none) : ∀ o ∈ W, ready cs o = false := by
  intro o ho
  unfold nextReady at h
  rw [List.find?_eq_none] at h
  have : o ∈ (sortI (W.map Op.id)).filterMap (lkG Op.id W) := List.mem_filterMap.mpr ⟨o.id, (sortI_perm _).mem_iff.mpr (List.mem_map_of_mem ho), lk_self nd ho⟩
  have := h o this
  cases e : ready cs o with
  | false => rfl
  | true => exact absurd e this
/-- what waits at a site that has carried out b and Km -/
structure Wt (A b Km W : List Op) : Prop where
  cl : Cl A (b ++ Km)
  nd : (W.map Op.id).Nodup
  sub : ∀ o ∈ W, o ∈ A ∧ o ∉ b ++ Km
theorem drop_mem {W : List Op} {i : Id} {o : Op} : o ∈ dropG Op.id W i ↔ o ∈ W ∧ o.id ≠ i := by
  unfold dropG
  rw [List.mem_filter, decide_eq_true_eq]
theorem drop_lt {W : List Op} {r : Op} (h : r ∈ W) : (dropG Op.id W r.id).length < W.length := by
  unfold dropG
  rw [← List.countP_eq_length_filter]
  refine Nat.lt_of_le_of_ne List.countP_le_length fun e => ?_
  rw [List.countP_eq_length] at e
  have := e r h
  simp at this
theorem Wt.go {b A Km W : List Op} {x : Str} (w : Wd b A) (h : Wt A b Km W) {r : Op} (hr : r ∈ W) (rd : ready (stOf x (b ++ Km)).counts r = true) : Wt A b (Km ++ [r]) (dropG Op.id W r.id) := by
  refine ⟨by rw [← List.append_assoc]; exact Cl.step w.uni h.cl (h.sub r hr).1 (h.sub r hr).2 rd, ?_, fun o ho => ?_⟩
  · unfold dropG
    exact List.Nodup.sublist (List.Sublist.map _ List.filter_sublist) h.nd
  · obtain ⟨h1, h2⟩ := drop_mem.mp ho
    refine ⟨(h.sub o h1).1, fun z => ?_⟩
    rw [← List.append_assoc] at z
    rcases List.mem_append.mp z with z | z
    · exact (h.sub o h1).2 z
    · exact h2 (by rw [List.mem_singleton.mp z])
theorem drain_ok {b A : List Op} {x : Str} (w : Wd b A) : ∀ (n : Nat) (Km W : List Op), Wt A b Km W → W.length ≤ n →
    DrainOk n (wt x (b ++ Km) W) ∧ ∃ Km' W', drainN n (wt x (b ++ Km) W) = wt x (b ++ Km') W' ∧ Wt A b Km' W' ∧ (∀ o ∈ W', ready (stOf x (b ++ Km')).counts o = false) ∧ (∀ o ∈ b ++ Km, o ∈ b ++ Km') ∧ (∀ o ∈ W, o ∈ W' ∨ o ∈ b ++ Km')
  | 0, Km, W, h, l => by
    have e : W = [] := List.length_eq_zero_iff.mp (Nat.le_zero.mp l)
    subst e
    exact ⟨⟨stOf_nd _ _, next_nil _, List.nodup_nil, Nat.zero_le _⟩, Km, [], rfl, h, (fun o z => by cases z), (fun o z => z), (fun o z => by cases z)⟩
  | n + 1, Km, W, h, l => by
    have lA : W.length ≤ 100000 := Nat.le_trans (nd_len h.nd fun o z => (h.sub o z).1) (Nat.le_trans w.uni.len (by decide))
    cases e : nextReady (stOf x (b ++ Km)).counts W with
    | none =>
      refine ⟨⟨stOf_nd _ _, .inl ⟨e, h.nd, lA⟩⟩, Km, W, ?_, h, next_none h.nd e, (fun o z => z), fun o z => .inl z⟩
      show (match nextReady (stOf x (b ++ Km)).counts W with
        | none => wt x (b ++ Km) W
        | some r => drainN n (carry { wt x (b ++ Km) W with waits := dropG Op.id W r.id } r)) = _
      rw [e]
    | some r =>
      obtain ⟨hr, rd⟩ := next_some e
      have h2 := h.go w hr rd
      have e2 : carry { wt x (b ++ Km) W with waits := dropG Op.id W r.id } r = wt x (b ++ (Km ++ [r])) (dropG Op.id W r.id) := by
        rw [← List.append_assoc]
        exact carry_wt x (b ++ Km) (dropG Op.id W r.id) r
      obtain ⟨d1, Km', W', e3, h3, h4, h5, h6⟩ := drain_ok (x := x) w n _ _ h2 (by have := drop_lt hr; omega)
      refine ⟨⟨stOf_nd _ _, .inr ⟨r, e, ?_, ?_⟩⟩, Km', W', ?_, h3, h4, fun o z => h5 o ?_, fun o z => ?_⟩
      · refine carOk (W := dropG Op.id W r.id) w.uni (o := r) ?_ (w.ord Km h.cl)
        have := h2.cl
        rwa [← List.append_assoc] at this
      · have d2 : DrainOk n (carry { wt x (b ++ Km) W with waits := dropG Op.id W r.id } r) := by rw [e2]; exact d1
        exact d2
      · show (match nextReady (stOf x (b ++ Km)).counts W with
          | none => wt x (b ++ Km) W
          | some r => drainN n (carry { wt x (b ++ Km) W with waits := dropG Op.id W r.id } r)) = _
        rw [e]
        show drainN n _ = _
        rw [e2]
        exact e3
      · rw [← List.append_assoc]; exact List.mem_append_left _ z
      · by_cases q : o.id = r.id
        · have : o = r := id_inj h.nd z hr q
          rw [this]
          exact .inr (h5 r (by rw [← List.append_assoc]; exact List.mem_append_right _ List.mem_cons_self))
        · exact h6 o (drop_mem.mpr ⟨z, q⟩)
/-- a site that has taken the operations of T -/
structure Tk (A b Km W T : List Op) (x : Str) : Prop where
  wt : Wt A b Km W
  not : ∀ o ∈ W, ready (stOf x (b ++ Km)).counts o = false
  all : ∀ o ∈ T, o ∈ b ++ Km ∨ o ∈ W
theorem forget_is {b A Km W : List Op} {x : Str} (w : Wd b A) (h : Wt A b Km W) : forgetW (stOf x (b ++ Km)).counts W = W := by
  unfold forgetW
  rw [List.filter_eq_self]
  intro o ho
  have := (h.sub o ho).2
  cases e : hasSeen (stOf x (b ++ Km)).counts o.id with
  | false => rfl
  | true => exact absurd ((seen_is w.uni h.cl (h.sub o ho).1).mp e) this
theorem take_ok {b A Km W T : List Op} {x : Str} (w : Wd b A) (h : Tk A b Km W T x) {o : Op} (ho : o ∈ A) :
    TakeFit (wt x (b ++ Km) W) o ∧ ∃ Km' W', takeM (wt x (b ++ Km) W) o = wt x (b ++ Km') W' ∧ Tk A b Km' W' (T ++ [o]) x ∧ ∀ p ∈ b ++ Km, p ∈ b ++ Km' := by
  have lK : (b ++ Km).length ≤ 1000 := Nat.le_trans (nd_len h.wt.cl.nd h.wt.cl.sub) w.uni.len
  have lW : W.length ≤ 1000 := Nat.le_trans (nd_len h.wt.nd fun o z => (h.wt.sub o z).1) w.uni.len
  have l1 := (lens x (b ++ Km)).1
  have dr : hasSeen (stOf x (b ++ Km)).counts o.id = false → ready (stOf x (b ++ Km)).counts o = true → Cl A (b ++ Km ++ [o]) ∧ Wt A b (Km ++ [o]) W := by
    intro hs hr
    have hn : o ∉ b ++ Km := fun z => by
      rw [(seen_is w.uni h.wt.cl ho).mpr z] at hs; cases hs
    have c := Cl.step w.uni h.wt.cl ho hn hr
    refine ⟨c, by rw [← List.append_assoc]; exact c, h.wt.nd, fun p hp => ⟨(h.wt.sub p hp).1, fun z => ?_⟩⟩
    rw [← List.append_assoc] at z
    rcases List.mem_append.mp z with z | z
    · exact (h.wt.sub p hp).2 z
    · rw [List.mem_singleton.mp z] at hp
      have := h.not o hp
      rw [hr] at this; cases this
  refine ⟨⟨(w.uni.ok o ho).1, stOf_nd _ _, fun _ => ?_, ?_, fun hs hr => ?_⟩, ?_⟩
  · show (stOf x (b ++ Km)).known.length + W.length + 1 ≤ 6000
    omega
  · show W.length ≤ 100000
    omega
  · obtain ⟨c, h2⟩ := dr hs hr
    refine ⟨carOk w.uni c (w.ord Km h.wt.cl), ?_⟩
    rw [carry_wt, List.append_assoc]
    exact (drain_ok (x := x) w W.length (Km ++ [o]) W h2 (Nat.le_refl _)).1
  · unfold takeM
    cases hs : hasSeen (wt x (b ++ Km) W).counts o.id with
    | true =>
      rw [if_pos rfl]
      refine ⟨Km, W, rfl, ⟨h.wt, h.not, fun p hp => ?_⟩, fun p z => z⟩
      rcases List.mem_append.mp hp with z | z
      · exact h.all p z
      · rw [List.mem_singleton.mp z]
        exact .inl ((seen_is w.uni h.wt.cl ho).mp hs)
    | false =>
      rw [if_neg Bool.false_ne_true]
      cases hr : ready (wt x (b ++ Km) W).counts o with
      | true =>
        rw [if_pos rfl]
        obtain ⟨c, h2⟩ := dr hs hr
        obtain ⟨_, Km', W', e3, h3, h4, h5, h6⟩ := drain_ok (x := x) w W.length (Km ++ [o]) W h2 (Nat.le_refl _)
        rw [carry_wt, List.append_assoc]
        have e4 : drainN (wt x (b ++ Km) W).waits.length (wt x (b ++ (Km ++ [o])) W) = wt x (b ++ Km') W' := e3
        rw [e4]
        refine ⟨Km', W', ?_, ⟨h3, h4, fun p hp => ?_⟩, fun p z => h5 p (by rw [← List.append_assoc]; exact List.mem_append_left _ z)⟩
        · show { wt x (b ++ Km') W' with waits := forgetW (stOf x (b ++ Km')).counts W' } = _
          rw [forget_is w h3]
          rfl
        · rcases List.mem_append.mp hp with z | z
          · rcases h.all p z with y | y
            · exact .inl (h5 p (by rw [← List.append_assoc]; exact List.mem_append_left _ y))
            · exact (h6 p y).symm
          · rw [List.mem_singleton.mp z]
            exact .inl (h5 o (by rw [← List.append_assoc]; exact List.mem_append_right _ List.mem_cons_self))
      | false =>
        rw [if_neg Bool.false_ne_true]
        have hn : o ∉ b ++ Km := fun z => by
          have hs : hasSeen (stOf x (b ++ Km)).counts o.id = false := hs
          rw [(seen_is w.uni h.wt.cl ho).mpr z] at hs; cases hs
        have key : ∀ p, p ∈ wput W o ↔ p = o ∨ p ∈ W := fun p => by
          unfold wput
          by_cases e : (lkG Op.id W o.id).isSome = true
          · rw [if_pos e]
            obtain ⟨q, hq⟩ := Option.isSome_iff_exists.mp e
            obtain ⟨h1, h2⟩ := lkG_key hq
            have : q = o := id_inj w.uni.nd (h.wt.sub q h2).1 ho h1
            exact ⟨.inr, fun z => z.elim (fun y => y ▸ this ▸ h2) id⟩
          · rw [if_neg e]
            have : putG Op.id W o = W ++ [o] := putG_new fun q hq z => e (by
              rw [← z, lk_self h.wt.nd hq]
              rfl)
            rw [this]
            simp [or_comm]
        refine ⟨Km, wput W o, rfl, ⟨⟨h.wt.cl, ?_, fun p hp => ?_⟩, fun p hp => ?_, fun p hp => ?_⟩, fun p z => z⟩
        · unfold wput
          by_cases e : (lkG Op.id W o.id).isSome = true
          · rw [if_pos e]; exact h.wt.nd
          · rw [if_neg e]
            have hne : ∀ q ∈ W, Op.id q ≠ Op.id o := fun q hq z => e (by
              rw [← z, lk_self h.wt.nd hq]
              rfl)
            have : putG Op.id W o = W ++ [o] := putG_new hne
            rw [this, List.map_append, List.nodup_append]
            refine ⟨h.wt.nd, by simp, fun u hu v hv z => ?_⟩
            obtain ⟨q, hq, eq⟩ := List.mem_map.mp hu
            have : v = o.id := by simpa using hv
            exact hne q hq (by rw [eq, z, this])
        · rcases (key p).mp hp with z | z
          · rw [z]; exact ⟨ho, hn⟩
          · exact h.wt.sub p z
        · rcases (key p).mp hp with z | z
          · rw [z]; exact hr
          · exact h.not p z
        · rcases List.mem_append.mp hp with z | z
          · rcases h.all p z with y | y
            · exact .inl y
            · exact .inr ((key p).mpr (.inr y))
          · exact .inr ((key p).mpr (.inl (List.mem_singleton.mp z)))
theorem takes_ok {b A Km : List Op} {x : Str} (w : Wd b A) (c : Cl A (b ++ Km)) (L : List Op) : (∀ o ∈ L, o ∈ A) →
    (∀ (k : Nat) (o : Op), L[k]? = some o → TakeFit ((L.take k).foldl takeM (stOf x (b ++ Km))) o) ∧ ∃ Km' W', L.foldl takeM (stOf x (b ++ Km)) = wt x (b ++ Km') W' ∧ Tk A b Km' W' L x ∧ ∀ p ∈ b ++ Km, p ∈ b ++ Km' := by
  induction L using snocRec with
  | h0 =>
    intro _
    refine ⟨fun k o e => by simp at e, Km, [], ?_, ⟨⟨c, List.nodup_nil, (fun o z => nomatch z)⟩, (fun o z => nomatch z), (fun o z => nomatch z)⟩, fun p z => z⟩
    show stOf x (b ++ Km) = { stOf x (b ++ Km) with waits := [] }
    rw [← stOf_waits x (b ++ Km)]
  | h1 L o ih =>
    intro hL
    obtain ⟨f, Km', W', e, tk, mo⟩ := ih fun p hp => hL p (List.mem_append_left _ hp)
    obtain ⟨f2, Km2, W2, e2, tk2, mo2⟩ := take_ok w tk (hL o (List.mem_append_right _ List.mem_cons_self))
    refine ⟨fun k p ep => ?_, Km2, W2, ?_, tk2, fun p z => mo2 p (mo p z)⟩
    · rcases snoc_get ep with ⟨e3, e4⟩ | ⟨rfl, _, e4⟩
      · rw [e4]; exact f k p e3
      · rw [e4, e]; exact f2
    · rw [List.foldl_append, e]
      exact e2
/-- all has come: nothing waits -/
theorem Tk.end_ {b A Km W T : List Op} {x : Str} (w : Wd b A) (h : Tk A b Km W T x) (all : ∀ o ∈ A, o ∈ b ++ Km ∨ o ∈ T) : W = [] ∧ ∀ o ∈ A, o ∈ b ++ Km := by
  have all2 : ∀ o ∈ A, o ∈ b ++ Km ∨ o ∈ W := fun o ho => (all o ho).elim .inl (h.all o)
  have step : ∀ (n k : Nat) (o : Op), k < n → A[k]? = some o → o ∈ b ++ Km := by
    intro n
    induction n with
    | zero => intro k o hk; omega
    | succ n ih =>
      intro k o hk e
      rcases all2 o (List.mem_of_getElem? e) with z | z
      · exact z
      · exfalso
        have hp : ∀ p ∈ A.take k, p ∈ b ++ Km := fun p hp => by
          obtain ⟨j, hj⟩ := mem_at hp
          rw [List.getElem?_take] at hj
          split at hj
          · exact ih j p (by omega) hj
          · cases hj
        have := Cl.next (x := x) w.uni h.wt.cl e hp (h.wt.sub o z).2
        rw [h.not o z] at this
        cases this
  have full : ∀ o ∈ A, o ∈ b ++ Km := fun o ho => by
    obtain ⟨k, hk⟩ := mem_at ho
    exact step (k + 1) k o (Nat.lt_succ_self _) hk
  refine ⟨?_, full⟩
  cases W with
  | nil => rfl
  | cons o t => exact absurd (full o (h.wt.sub o List.mem_cons_self).1) (h.wt.sub o List.mem_cons_self).2
theorem perm_of {A K : List Op} (h1 : (A.map Op.id).Nodup) (h2 : (K.map Op.id).Nodup) (s1 : ∀ o ∈ A, o ∈ K) (s2 : ∀ o ∈ K, o ∈ A) : K.Perm A :=
  (List.perm_ext_iff_of_nodup (nd_of h2) (nd_of h1)).mpr fun o => ⟨s2 o, s1 o⟩
theorem heard_fit {b A Km : List Op} {x : Str} {m : Hm} {ops : List Op} (w : Wd b A) (c : Cl A (b ++ Km)) (e : m.site = stOf x (b ++ Km)) (sub : ∀ o ∈ ops, o ∈ A) : HeardFit m ops := by
  intro L p k o ho
  rw [e]
  exact (takes_ok w c L fun q hq => sub q (p.mem_iff.mp hq)).1 k o ho
theorem heard_is {b A Km : List Op} {x : Str} {m m' : Hm} {ops : List Op} (w : Wd b A) (c : Cl A (b ++ Km)) (e : m.site = stOf x (b ++ Km)) (sub : ∀ o ∈ ops, o ∈ A) (all : ∀ o ∈ A, o ∈ b ++ Km ∨ o ∈ ops) (h : Heard m m' ops) :
    ∃ Km', m' = { m with site := stOf x (b ++ Km') } ∧ Cl A (b ++ Km') ∧ (b ++ Km').Perm A := by
  obtain ⟨L, p, rfl⟩ := h
  obtain ⟨_, Km', W', e2, tk, mo⟩ := takes_ok (x := x) w c L fun q hq => sub q (p.mem_iff.mp hq)
  obtain ⟨e3, full⟩ := tk.end_ w fun o ho => (all o ho).elim (fun z => .inl (mo o z)) fun z => .inr (p.mem_iff.mpr z)
  subst e3
  refine ⟨Km', ?_, tk.wt.cl, perm_of w.uni.nd tk.wt.cl.nd full tk.wt.cl.sub⟩
  rw [e, e2]
  have : wt x (b ++ Km') [] = stOf x (b ++ Km') := by
    show { stOf x (b ++ Km') with waits := [] } = _
    rw [← stOf_waits x (b ++ Km')]
  rw [this]
end K80
namespace K80
open PySem PySem.Spec PyProof.Rows L2 Gx GxR NdefX
/-! ### elements put at different places commute -/
theorem insD_comm {l : List Id} {r s : Option Id} {i j : Id} (h1 : r ≠ s) (h2 : s ≠ some i) (h3 : r ≠ some j) : insD (insD l r i) s j = insD (insD l s j) r i := by
  cases r with
  | none =>
    cases s with
    | none => exact absurd rfl h1
    | some s =>
      have e : ¬ i = s := fun z => h2 (by rw [z])
      show (i :: l).flatMap _ = i :: l.flatMap _
      rw [List.flatMap_cons, if_neg e]
      rfl
  | some r =>
    cases s with
    | none =>
      have e : ¬ j = r := fun z => h3 (by rw [z])
      show j :: l.flatMap _ = (j :: l).flatMap _
      rw [List.flatMap_cons, if_neg e]
      rfl
    | some s =>
      have e1 : ¬ r = s := fun z => h1 (by rw [z])
      have e2 : ¬ i = s := fun z => h2 (by rw [z])
      have e3 : ¬ j = r := fun z => h3 (by rw [z])
      show (l.flatMap _).flatMap _ = (l.flatMap _).flatMap _
      rw [List.flatMap_assoc, List.flatMap_assoc]
      congr 1
      funext x
      by_cases a : x = r
      · have b : ¬ x = s := fun z => e1 (a.symm.trans z)
        rw [if_pos a, if_neg b]
        simp [a, e1, e2]
      · rw [if_neg a]
        by_cases b : x = s
        · rw [if_pos b]
          have e4 : ¬ s = r := fun z => e1 z.symm
          simp [b, e3, e4]
        · rw [if_neg b]
          simp [a, b]
theorem dStep_comm {l : List Id} {a b : Op} (h1 : a.ref ≠ some b.id) (h2 : b.ref ≠ some a.id) (h3 : a.kind = .put → b.kind = .put → a.ref ≠ b.ref) : dStep (dStep l a) b = dStep (dStep l b) a := by
  unfold dStep
  by_cases e1 : a.kind = .put
  · by_cases e2 : b.kind = .put
    · rw [if_pos e1, if_pos e1, if_pos e2, if_pos e2]
      exact insD_comm (h3 e1 e2) h2 h1
    · rw [if_neg e2, if_neg e2]
  · rw [if_neg e1, if_neg e1]
theorem fold_move (o : Op) : ∀ (K1 : List Op) (l : List Id), (∀ p ∈ K1, ∀ m, dStep (dStep m p) o = dStep (dStep m o) p) → (K1 ++ [o]).foldl dStep l = (o :: K1).foldl dStep l
  | [], _, _ => rfl
  | p :: t, l, h => by
    show (t ++ [o]).foldl dStep (dStep l p) = t.foldl dStep (dStep (dStep l o) p)
    rw [fold_move o t _ fun q hq => h q (List.mem_cons_of_mem _ hq), ← h p List.mem_cons_self]
    rfl
abbrev Back (K : List Op) : Prop := K.Pairwise fun a b => a.ref ≠ some b.id
theorem fold_perm : ∀ (Am Km : List Op) (l : List Id), Km.Perm Am → Back Am → Back Km → (∀ a ∈ Am, ∀ b ∈ Am, a.kind = .put → b.kind = .put → a.ref = b.ref → a = b) → Am.Nodup → Km.foldl dStep l = Am.foldl dStep l
  | [], Km, l, p, _, _, _, _ => by rw [List.perm_nil.mp p]
  | o :: A, Km, l, p, b1, b2, d, nd => by
    obtain ⟨K1, K2, rfl⟩ := List.append_of_mem (p.mem_iff.mpr List.mem_cons_self)
    have p2 : (K1 ++ K2).Perm A := (List.perm_middle.symm.trans p).cons_inv
    rw [List.nodup_cons] at nd
    have b1' := List.pairwise_cons.mp b1
    have b2' := List.pairwise_append.mp b2
    have e1 : (K1 ++ o :: K2).foldl dStep l = K2.foldl dStep ((K1 ++ [o]).foldl dStep l) := by
      rw [← List.foldl_append, List.append_assoc]
      rfl
    have e2 : (o :: A).foldl dStep l = A.foldl dStep (dStep l o) := rfl
    rw [e1, fold_move o K1 l, e2, ← fold_perm A (K1 ++ K2) (dStep l o) p2 b1'.2 ?_ (fun a ha b hb => d a (List.mem_cons_of_mem _ ha) b (List.mem_cons_of_mem _ hb)) nd.2, List.foldl_append]
    · rfl
    · exact b2.sublist (List.Sublist.append_left (List.sublist_cons_self _ _) _)
    · intro q hq m
      have hqA : q ∈ A := p2.mem_iff.mp (List.mem_append_left _ hq)
      refine dStep_comm (b2'.2.2 q hq o List.mem_cons_self) (b1'.1 q hqA) fun k1 k2 e => ?_
      have := d q (List.mem_cons_of_mem _ hqA) o List.mem_cons_self k1 k2 e
      exact nd.1 (this ▸ hqA)
/-! ### closed under what is spoken of -/
structure Rf (K : List Op) : Prop where
  nd : (K.map Op.id).Nodup
  ref : ∀ (k : Nat) (o : Op) (r : Id), K[k]? = some o → o.ref = some r → ∃ p ∈ K.take k, p.id = r ∧ (o.kind = .put → p.kind = .put)
theorem Rf.pre {K L : List Op} (h : Rf (K ++ L)) : Rf K := by
  have nd := h.nd
  rw [List.map_append, List.nodup_append] at nd
  refine ⟨nd.1, fun k o r e er => ?_⟩
  have t := take_app (B := L) e
  rw [← t.1]
  exact h.ref k o r t.2 er
theorem Rf.nil : Rf [] := ⟨List.nodup_nil, fun k o r e => by simp at e⟩
theorem Rf.last {K : List Op} {o : Op} (h : Rf (K ++ [o])) {r : Id} (er : o.ref = some r) : ∃ p ∈ K, p.id = r ∧ (o.kind = .put → p.kind = .put) := by
  obtain ⟨p, h1, h2⟩ := h.ref K.length o r (by rw [List.getElem?_append_right (Nat.le_refl _), Nat.sub_self]; rfl) er
  rw [List.take_left' rfl] at h1
  exact ⟨p, h1, h2⟩
theorem Rf.snoc {K : List Op} {o : Op} (h : Rf K) (hi : o.id ∉ K.map Op.id) (hr : ∀ r, o.ref = some r → ∃ p ∈ K, p.id = r ∧ (o.kind = .put → p.kind = .put)) : Rf (K ++ [o]) := by
  refine ⟨?_, fun k p r e er => ?_⟩
  · rw [List.map_append, List.nodup_append]
    refine ⟨h.nd, by simp, fun u hu v hv z => hi ?_⟩
    have : v = o.id := by simpa using hv
    rw [← this, ← z]
    exact hu
  · rcases snoc_get e with ⟨e1, e2⟩ | ⟨rfl, _, e2⟩
    · rw [e2]; exact h.ref k p r e1 er
    · rw [e2]; exact hr r er
theorem Cl.rf {A K : List Op} (u : Uni A) (h : Cl A K) : Rf K := by
  refine ⟨h.nd, fun k o r e er => ?_⟩
  obtain ⟨p, h1, h2⟩ := h.ref k o r e er
  refine ⟨p, h1, h2, fun hp => ?_⟩
  obtain ⟨j, hj⟩ := mem_at (h.sub o (List.mem_of_getElem? e))
  obtain ⟨q, hq1, hq2, hq3⟩ := u.ref j o r hj er
  have : p = q := id_inj u.nd (h.sub p (List.mem_of_mem_take h1)) (List.mem_of_mem_take hq1) (by rw [h2, hq2])
  rw [this]
  exact hq3 (by rw [hp]; decide)
theorem Rf.mem : ∀ {K : List Op}, Rf K → (∀ i, i ∈ ordD K ↔ ∃ o ∈ K, o.kind = .put ∧ o.id = i) ∧ (ordD K).Nodup := fun {K} => by
  induction K using snocRec with
  | h0 =>
    intro _
    refine ⟨fun i => ⟨fun h => (by cases h), fun ⟨o, h, _⟩ => (by cases h)⟩, List.nodup_nil⟩
  | h1 K o ih =>
    intro h
    obtain ⟨m, n⟩ := ih h.pre
    have hr : o.kind = .put → ∀ r, o.ref = some r → ∃ p ∈ K, p.kind = .put ∧ p.id = r := fun e r er => by
      obtain ⟨p, h1, h2, h3⟩ := h.last er
      exact ⟨p, h1, h3 e, h2⟩
    exact ⟨ordD_mem_step m hr, ordD_nd_step m n hr h.nd⟩
theorem Rf.back : ∀ {K : List Op}, Rf K → Back K := fun {K} => by
  induction K using snocRec with
  | h0 => exact fun _ => List.Pairwise.nil
  | h1 K o ih =>
    intro h
    refine List.pairwise_append.mpr ⟨ih h.pre, List.pairwise_singleton _ _, fun a ha b hb e => ?_⟩
    rw [List.mem_singleton.mp hb] at e
    obtain ⟨k, hk⟩ := mem_at ha
    obtain ⟨p, hp, e2, _⟩ := h.pre.ref k a _ hk e
    exact id_new h.nd (List.mem_of_mem_take hp) e2
theorem Rf.self {K : List Op} (h : Rf K) {o : Op} (ho : o ∈ K) : o.ref ≠ some o.id := by
  intro e
  obtain ⟨k, hk⟩ := mem_at ho
  obtain ⟨p, hp, e2, _⟩ := h.ref k o _ hk e
  have hn := nd_of h.nd
  have : p = o := id_inj h.nd (List.mem_of_mem_take hp) ho e2
  rw [this] at hp
  obtain ⟨j, hj⟩ := mem_at hp
  rw [List.getElem?_take] at hj
  split at hj
  · have h1 := (List.getElem?_eq_some_iff.mp hj)
    have h2 := (List.getElem?_eq_some_iff.mp hk)
    have := (List.getElem_inj hn).mp (h1.2.trans h2.2.symm)
    omega
  · cases hj
/-! ### what follows an element -/
def Adj (G : Option Id → Id → Prop) : Option Id → List Id → Prop
  | _, [] => True
  | r, j :: t => G r j ∧ Adj G (some j) t
theorem Adj.mono {G G' : Option Id → Id → Prop} (h : ∀ r j, G r j → G' r j) : ∀ {q : Option Id} {l : List Id}, Adj G q l → Adj G' q l
  | _, [], _ => trivial
  | _, _ :: _, ⟨a, b⟩ => ⟨h _ _ a, Adj.mono h b⟩
theorem Adj.all {G : Option Id → Id → Prop} : ∀ {q : Option Id} {l : List Id}, (∀ j ∈ l, ∀ r, G r j) → Adj G q l
  | _, [], _ => trivial
  | _, j :: _, h => ⟨h j List.mem_cons_self _, Adj.all fun k hk => h k (List.mem_cons_of_mem _ hk)⟩
theorem Adj.at_ {G : Option Id → Id → Prop} {r j : Id} : ∀ {q : Option Id} {l : List Id}, Adj G q l → r ∈ l → l[l.idxOf r + 1]? = some j → G (some r) j
  | _, [], _, h, _ => by cases h
  | _, a :: t, ⟨_, h⟩, hr, e => by
    by_cases c : a = r
    · subst c
      rw [List.idxOf_cons_self] at e
      cases t with
      | nil => simp at e
      | cons b t =>
        have : b = j := by simpa using e
        subst this
        exact h.1
    · have e2 : (a == r) = false := beq_eq_false_iff_ne.mpr c
      rw [List.idxOf_cons, e2] at e
      refine Adj.at_ h ?_ (by simpa using e)
      rcases List.mem_cons.mp hr with z | z
      · exact absurd z.symm c
      · exact z
theorem Adj.ins1 {G G' : Option Id → Id → Prop} {r i : Id} {l2 : List Id} (m : ∀ r j, G r j → G' r j) (g : G' (some r) i) (f : ∀ j, G (some r) j → G' (some i) j) : ∀ {q : Option Id} {l1 : List Id}, Adj G q (l1 ++ r :: l2) → Adj G' q (l1 ++ r :: i :: l2)
  | _, [], ⟨a, b⟩ => ⟨m _ _ a, g, by
    cases l2 with
    | nil => trivial
    | cons j t => exact ⟨f j b.1, b.2.mono m⟩⟩
  | _, _ :: l1, ⟨a, b⟩ => ⟨m _ _ a, Adj.ins1 m g f (l1 := l1) b⟩
theorem Adj.ins {G G' : Option Id → Id → Prop} {r : Option Id} {i : Id} {l : List Id} (h : Adj G none l) (nd : l.Nodup) (hr : ∀ x, r = some x → x ∈ l) (m : ∀ r j, G r j → G' r j) (g : G' r i) (f : ∀ j, G r j → G' (some i) j) : Adj G' none (insD l r i) := by
  cases r with
  | none =>
    refine ⟨g, ?_⟩
    cases l with
    | nil => trivial
    | cons j t => exact ⟨f j h.1, h.2.mono m⟩
  | some r =>
    obtain ⟨l1, l2, rfl, h1, h2⟩ := nodup_split nd (hr r rfl)
    rw [insD_split h1 h2]
    exact Adj.ins1 m g f h
theorem Adj.start {G : Option Id → Id → Prop} {r : Option Id} {j : Id} {l : List Id} (h : Adj G none l) (hr : ∀ x, r = some x → x ∈ l) (e : l[startB l r]? = some j) : G r j := by
  cases r with
  | none =>
    cases l with
    | nil => simp at e
    | cons a t =>
      have : a = j := by simpa [startB] using e
      subst this
      exact h.1
  | some r => exact Adj.at_ h (hr r rfl) e
theorem noskip_top {K : List Op} {o : Op} (m : ∀ i, i ∈ ordD K ↔ ∃ o ∈ K, o.kind = .put ∧ o.id = i) (h : ∀ p ∈ K, p.id.1 < o.id.1) : NoSkip (ordD K) o := by
  intro j hj
  obtain ⟨p, h1, _, h3⟩ := (m j).mp (List.mem_of_getElem? hj)
  refine ltI_of ?_
  rw [← h3]
  exact h p h1
/-- the operations of one site alone -/
theorem wd_one {A : List Op} {x : Str} (u : Uni A) (one : ∀ o ∈ A, o.id.2 = x) : Wd [] A := by
  refine ⟨u, rfl, Ord.nil.mem, List.nodup_nil, fun Km o c _ => ?_⟩
  rw [List.nil_append] at c ⊢
  refine noskip_top ((c.pre.rf u).mem).1 fun p hp => ?_
  have up := Cl.up u c x
  have e : ofS x (Km ++ [o]) = Km ++ [o] := by
    unfold ofS
    rw [List.filter_eq_self]
    intro q hq
    rw [decide_eq_true_eq]
    exact one q (c.sub q hq)
  rw [e, List.pairwise_append] at up
  exact up.2.2 p hp o List.mem_cons_self
/-- operations by several sites, each new element put at a place of its own -/
theorem wd_more {b M : List Op} {c0 : Nat} (u : Uni (b ++ M)) (ob : Ord b) (low : ∀ o ∈ b, o.id.1 ≤ c0) (high : ∀ o ∈ M, c0 < o.id.1) (own : ∀ p ∈ M, ∀ q ∈ M, p.kind = .put → q.kind = .put → p.ref = q.ref → p = q) : Wd b (b ++ M) := by
  refine ⟨u, ob.is, ob.mem, ob.nd, fun Km o c hp => ?_⟩
  let G : List Op → Option Id → Id → Prop := fun Km r j => (∃ o ∈ b, o.id = j) ∨ ∃ p ∈ Km, p.kind = .put ∧ p.id = j ∧ p.ref = r
  have inM : ∀ {Km : List Op} {p : Op}, Cl (b ++ M) (b ++ Km) → p ∈ Km → p ∈ M := fun {Km p} c hpk => by
    rcases List.mem_append.mp (c.sub p (List.mem_append_right _ hpk)) with z | z
    · have nd := c.nd
      rw [List.map_append, List.nodup_append] at nd
      exact absurd rfl (nd.2.2 p.id (List.mem_map_of_mem z) p.id (List.mem_map_of_mem hpk))
    · exact z
  have ad : ∀ Km, Cl (b ++ M) (b ++ Km) → Adj (G Km) none (ordD (b ++ Km)) := snocRec (fun c => by
    refine Adj.all fun j hj r => .inl ?_
    rw [List.append_nil] at hj
    obtain ⟨p, h1, _, h3⟩ := (ob.mem j).mp hj
    exact ⟨p, h1, h3⟩) fun Km p ih c => by
    rw [← List.append_assoc] at c ⊢
    have h := ih c.pre
    rw [ordD_snoc]
    unfold dStep
    have mo : ∀ r j, G Km r j → G (Km ++ [p]) r j := fun r j z => z.imp id fun ⟨q, h1, h2⟩ => ⟨q, List.mem_append_left _ h1, h2⟩
    by_cases e : p.kind = .put
    · rw [if_pos e]
      have rf := c.rf u
      have m := c.pre.rf u |>.mem
      refine h.ins m.2 (fun r er => (m.1 r).mpr ?_) mo (.inr ⟨p, List.mem_append_right _ List.mem_cons_self, e, rfl, rfl⟩) fun j z => ?_
      · obtain ⟨q, h1, h2, h3⟩ := rf.last er
        exact ⟨q, h1, h3 e, h2⟩
      · rcases z with z | ⟨q, h1, h2, h3, h4⟩
        · exact .inl z
        · exfalso
          have c2 : Cl (b ++ M) (b ++ (Km ++ [p])) := by rw [← List.append_assoc]; exact c
          have := own q (inM c.pre h1) p (inM c2 (List.mem_append_right _ List.mem_cons_self)) h2 e h4
          exact id_new c.nd (List.mem_append_right _ h1) (by rw [this])
    · rw [if_neg e]
      exact h.mono mo
  have h := ad Km c.pre
  have rf := c.rf u
  have m := c.pre.rf u |>.mem
  intro j hj
  have c2 : Cl (b ++ M) (b ++ (Km ++ [o])) := by rw [← List.append_assoc]; exact c
  have hoM := inM c2 (List.mem_append_right _ List.mem_cons_self)
  have g := h.start (fun r er => (m.1 r).mpr (by
    obtain ⟨q, h1, h2, h3⟩ := rf.last er
    exact ⟨q, h1, h3 hp, h2⟩)) hj
  rcases g with ⟨q, h1, h2⟩ | ⟨q, h1, h2, h3, h4⟩
  · refine ltI_of ?_
    rw [← h2]
    exact Nat.lt_of_le_of_lt (low q h1) (high o hoM)
  · exfalso
    have := own q (inM c.pre h1) o hoM h2 hp h4
    exact id_new c.nd (List.mem_append_right _ h1) (by rw [this])
/-- all that have all have one order -/
theorem same_order {b M Km : List Op} (u : Uni (b ++ M)) (c : Cl (b ++ M) (b ++ Km)) (p : (b ++ Km).Perm (b ++ M)) (own : ∀ p ∈ M, ∀ q ∈ M, p.kind = .put → q.kind = .put → p.ref = q.ref → p = q) : ordD (b ++ Km) = ordD (b ++ M) := by
  unfold ordD
  rw [List.foldl_append, List.foldl_append]
  have p2 : Km.Perm M := (List.perm_append_left_iff b).mp p
  have b1 := (List.pairwise_append.mp (u.self.rf u).back).2.1
  have b2 := (List.pairwise_append.mp (c.rf u).back).2.1
  exact fold_perm M Km _ p2 b1 b2 own (List.nodup_append.mp (nd_of u.nd)).2.1
end K80
namespace K80
open PySem PySem.Spec PyProof.Rows L2 Gx GxR NdefX
/-! ### what shows -/
def vis (K : List Op) : List Id := (ordD K).filter fun i => (spk .cut K i).isEmpty
theorem spk_nil {k : Kd} {K : List Op} {i : Id} : (spk k K i).isEmpty = true ↔ ∀ o ∈ K, o.kind = k → refOf o ≠ i := by
  unfold spk
  rw [List.isEmpty_iff, List.map_eq_nil_iff, List.filter_eq_nil_iff]
  constructor
  · intro h o ho hk e
    exact h o ho (by rw [decide_eq_true hk, decide_eq_true e]; rfl)
  · intro h o ho e
    rw [Bool.and_eq_true, decide_eq_true_eq, decide_eq_true_eq] at e
    exact h o ho e.1 e.2
theorem insD_filter {p : Id → Bool} {r : Option Id} {i : Id} (hi : p i = true) (hr : ∀ x, r = some x → p x = true) : ∀ l : List Id, (insD l r i).filter p = insD (l.filter p) r i := by
  cases r with
  | none =>
    intro l
    show (i :: l).filter p = i :: l.filter p
    rw [List.filter_cons, if_pos hi]
  | some r =>
    have hr := hr r rfl
    intro l
    induction l with
    | nil => rfl
    | cons a t ih =>
      have e : insD (a :: t) (some r) i = (if a = r then [a, i] else [a]) ++ insD t (some r) i := by
        show (a :: t).flatMap _ = _
        rw [List.flatMap_cons]
        rfl
      rw [e, List.filter_append, ih]
      by_cases c : a = r
      · rw [if_pos c, List.filter_cons, List.filter_cons, List.filter_cons, if_pos (by rw [c]; exact hr), if_pos hi, if_pos (by rw [c]; exact hr)]
        show _ = (a :: t.filter p).flatMap _
        rw [List.flatMap_cons, if_pos c]
        rfl
      · rw [if_neg c, List.filter_cons, List.filter_cons]
        by_cases d : p a = true
        · rw [if_pos d, if_pos d]
          show _ = (a :: t.filter p).flatMap _
          rw [List.flatMap_cons, if_neg c]
          rfl
        · rw [if_neg d, if_neg d]
          rfl
theorem insD_drop {p : Id → Bool} {r : Option Id} {i : Id} (hi : p i = false) : ∀ l : List Id, (insD l r i).filter p = l.filter p := by
  cases r with
  | none =>
    intro l
    show (i :: l).filter p = l.filter p
    rw [List.filter_cons, if_neg (by rw [hi]; exact Bool.false_ne_true)]
  | some r =>
    intro l
    induction l with
    | nil => rfl
    | cons a t ih =>
      have e : insD (a :: t) (some r) i = (if a = r then [a, i] else [a]) ++ insD t (some r) i := by
        show (a :: t).flatMap _ = _
        rw [List.flatMap_cons]
        rfl
      rw [e, List.filter_append, ih]
      have ni : ¬ p i = true := by rw [hi]; exact Bool.false_ne_true
      by_cases c : a = r
      · rw [if_pos c, List.filter_cons, List.filter_cons, if_neg ni, List.filter_cons]
        by_cases d : p a = true
        · rw [if_pos d, if_pos d]; rfl
        · rw [if_neg d, if_neg d]; rfl
      · rw [if_neg c, List.filter_cons, List.filter_cons]
        by_cases d : p a = true
        · rw [if_pos d, if_pos d]; rfl
        · rw [if_neg d, if_neg d]; rfl
theorem vis_cut {K : List Op} {o : Op} {i : Id} (hk : o.kind = .cut) (hr : o.ref = some i) : vis (K ++ [o]) = (vis K).filter fun j => decide (j ≠ i) := by
  unfold vis
  rw [ordD_snoc]
  unfold dStep
  rw [if_neg (by rw [hk]; decide), List.filter_filter]
  refine List.filter_congr fun j _ => ?_
  rw [Bool.eq_iff_iff, Bool.and_eq_true, decide_eq_true_eq, spk_nil, spk_nil]
  have er : refOf o = i := by unfold refOf; rw [hr]; rfl
  constructor
  · intro h
    refine ⟨fun e => h o (List.mem_append_right _ List.mem_cons_self) hk (er.trans e.symm), fun p hp => h p (List.mem_append_left _ hp)⟩
  · rintro ⟨h1, h2⟩ p hp hk2 e
    rcases List.mem_append.mp hp with z | z
    · exact h2 p z hk2 e
    · rw [List.mem_singleton.mp z] at e
      exact h1 (e.symm.trans er)
theorem vis_put {K : List Op} {o : Op} (hk : o.kind = .put) (new : ∀ p ∈ K, p.kind = .cut → refOf p ≠ o.id) (hr : ∀ r, o.ref = some r → r ∈ vis K) : vis (K ++ [o]) = insD (vis K) o.ref o.id := by
  unfold vis
  rw [ordD_snoc]
  unfold dStep
  rw [if_pos hk]
  have e : ∀ j, (spk .cut (K ++ [o]) j).isEmpty = (spk .cut K j).isEmpty := fun j => by
    rw [spk_snoc, if_neg (fun z => by rw [hk] at z; exact absurd z.1 (by decide))]
  rw [show (fun i => (spk .cut (K ++ [o]) i).isEmpty) = fun i => (spk .cut K i).isEmpty from funext e]
  refine insD_filter (spk_nil.mpr new) (fun r er => ?_) _
  exact (List.mem_filter.mp (hr r er)).2
theorem vis_other {K : List Op} {o : Op} (hk : o.kind = .undo) : vis (K ++ [o]) = vis K := by
  unfold vis
  rw [ordD_snoc]
  unfold dStep
  rw [if_neg (by rw [hk]; decide)]
  congr 1
  funext j
  rw [spk_snoc, if_neg (fun z => by rw [hk] at z; exact absurd z.1 (by decide))]
/-! ### the operations of one edit -/
def Chain : Option Id → List Op → Prop
  | _, [] => True
  | r, o :: t => o.kind = .put ∧ o.ref = r ∧ Chain (some o.id) t
def Cuts : List Id → List Op → Prop
  | [], [] => True
  | i :: is, o :: t => o.kind = .cut ∧ o.ref = some i ∧ Cuts is t
  | _, _ => False
def afterU (U : List Id) (p : Nat) : Option Id := if p = 0 then none else U[p - 1]?
structure Blk (U : List Id) (e : Ed) (cs ps : List Op) : Prop where
  cuts : Cuts ((U.drop e.1).take e.2.1) cs
  puts : Chain (afterU U e.1) ps
  sign : ps.map Op.sign = e.2.2
theorem vis_cuts : ∀ (is : List Id) (cs : List Op) (K : List Op), Cuts is cs → vis (K ++ cs) = (vis K).filter fun j => decide (j ∉ is)
  | [], [], K, _ => by
    rw [List.append_nil]
    symm
    rw [List.filter_eq_self]
    intro j _
    simp
  | [], _ :: _, _, h => h.elim
  | _ :: _, [], _, h => h.elim
  | i :: is, o :: cs, K, ⟨h1, h2, h3⟩ => by
    have e : K ++ o :: cs = (K ++ [o]) ++ cs := by simp
    rw [e, vis_cuts is cs _ h3, vis_cut h1 h2, List.filter_filter]
    refine List.filter_congr fun j _ => ?_
    rw [Bool.eq_iff_iff, Bool.and_eq_true, decide_eq_true_eq, decide_eq_true_eq, decide_eq_true_eq, List.mem_cons, not_or]
    exact and_comm
theorem insD_at {X T : List Id} {r : Option Id} {i : Id} (nd : (X ++ T).Nodup) (hr : (r = none ∧ X = []) ∨ ∃ X' x, X = X' ++ [x] ∧ r = some x) : insD (X ++ T) r i = X ++ i :: T := by
  rcases hr with ⟨rfl, rfl⟩ | ⟨X', x, rfl, rfl⟩
  · rfl
  · rw [List.append_assoc] at nd ⊢
    rw [List.nodup_append] at nd
    have h1 : x ∉ X' := fun z => nd.2.2 x z x List.mem_cons_self rfl
    have h2 : x ∉ T := (List.nodup_cons.mp nd.2.1).1
    show insD (X' ++ x :: T) _ _ = _
    rw [insD_split h1 h2]
    simp
theorem Rf.visNd {K : List Op} (h : Rf K) : (vis K).Nodup := h.mem.2.sublist List.filter_sublist
theorem Rf.fresh {K : List Op} {o : Op} (h : Rf (K ++ [o])) : ∀ p ∈ K, p.kind = .cut → p.ref ≠ none → refOf p ≠ o.id := by
  intro p hp _ hn e
  obtain ⟨r, hr⟩ := Option.ne_none_iff_exists'.mp hn
  have : refOf p = r := by unfold refOf; rw [hr]; rfl
  have b := (List.pairwise_append.mp h.back).2.2 p hp o List.mem_cons_self
  rw [hr, ← this, e] at b
  exact b rfl
theorem vis_chain : ∀ (ps : List Op) (K : List Op) (X T : List Id) (r : Option Id), Rf (K ++ ps) → (∀ o ∈ K, o.kind = .cut → o.ref ≠ none) → vis K = X ++ T → ((r = none ∧ X = []) ∨ ∃ X' x, X = X' ++ [x] ∧ r = some x) → Chain r ps → vis (K ++ ps) = X ++ ps.map Op.id ++ T
  | [], K, X, T, r, _, _, h, _, _ => by
    rw [List.append_nil, List.map_nil, List.append_nil]
    exact h
  | o :: ps, K, X, T, r, rf, cn, h, hr, ⟨h1, h2, h3⟩ => by
    have e : K ++ o :: ps = (K ++ [o]) ++ ps := by simp
    rw [e] at rf ⊢
    have rf1 := rf.pre
    have nd := rf1.pre.visNd
    rw [h] at nd
    have hv : vis (K ++ [o]) = (X ++ [o.id]) ++ T := by
      rw [vis_put h1 (fun p hp hk => rf1.fresh p hp hk (cn p hp hk)) (fun x ex => ?_), h, h2, insD_at nd hr]
      · simp
      · rw [h]
        have ex2 : r = some x := h2.symm.trans ex
        rcases hr with ⟨e1, _⟩ | ⟨X', x', e1, e2⟩
        · rw [e1] at ex2; cases ex2
        · rw [e2] at ex2
          cases ex2
          rw [e1]
          simp
    have := vis_chain ps (K ++ [o]) (X ++ [o.id]) T (some o.id) rf (fun p hp hk => by
      rcases List.mem_append.mp hp with z | z
      · exact cn p z hk
      · rw [List.mem_singleton.mp z, h1] at hk
        cases hk) hv (.inr ⟨X, o.id, rfl, rfl⟩) h3
    rw [this]
    simp
theorem Cuts.some_ : ∀ {is : List Id} {cs : List Op}, Cuts is cs → ∀ o ∈ cs, o.kind = .cut ∧ ∃ i ∈ is, o.ref = some i
  | [], [], _, o, h => by cases h
  | [], _ :: _, h, _, _ => h.elim
  | _ :: _, [], h, _, _ => h.elim
  | i :: is, p :: cs, ⟨h1, h2, h3⟩, o, h => by
    rcases List.mem_cons.mp h with z | z
    · rw [z]; exact ⟨h1, i, List.mem_cons_self, h2⟩
    · obtain ⟨a, j, hj, b⟩ := Cuts.some_ h3 o z
      exact ⟨a, j, List.mem_cons_of_mem _ hj, b⟩
theorem seg_filter {X A B C : List Id} (nd : (X ++ (A ++ (B ++ C))).Nodup) : (X ++ (A ++ (B ++ C))).filter (fun j => decide (j ∉ B)) = X ++ (A ++ C) := by
  rw [List.nodup_append, List.nodup_append, List.nodup_append] at nd
  obtain ⟨_, ⟨_, ⟨_, _, n3⟩, n2⟩, n1⟩ := nd
  have k : ∀ {l : List Id}, (∀ j ∈ l, j ∉ B) → l.filter (fun j => decide (j ∉ B)) = l := fun h => List.filter_eq_self.mpr fun j hj => decide_eq_true (h j hj)
  rw [List.filter_append, List.filter_append, List.filter_append]
  rw [k (l := X) fun j hj z => n1 j hj j (by simp [z]) rfl, k (l := A) fun j hj z => n2 j hj j (by simp [z]) rfl, k (l := C) fun j hj z => n3 j z j hj rfl]
  rw [show B.filter (fun j => decide (j ∉ B)) = [] from List.filter_eq_nil_iff.mpr fun j hj => by simp [hj]]
  rfl
/-- one more edit, behind all those that are there -/
theorem vis_blk {U : List Id} {K cs ps : List Op} {e : Ed} {X : List Id} {q : Nat} (b : Blk U e cs ps) (rf : Rf (K ++ (cs ++ ps))) (cn : ∀ o ∈ K, o.kind = .cut → o.ref ≠ none) (hv : vis K = X ++ U.drop q) (hp : q < e.1 ∨ (q ≤ e.1 ∧ q = 0 ∧ X = [])) (hn : e.1 + e.2.1 ≤ U.length) :
    vis (K ++ (cs ++ ps)) = (X ++ (U.drop q).take (e.1 - q) ++ ps.map Op.id) ++ U.drop (e.1 + e.2.1) := by
  obtain ⟨p, g, c⟩ := e
  have hp : q < p ∨ (q ≤ p ∧ q = 0 ∧ X = []) := hp
  have hn : p + g ≤ U.length := hn
  show vis _ = (X ++ (U.drop q).take (p - q) ++ ps.map Op.id) ++ U.drop (p + g)
  have hq : q ≤ p := by omega
  have parts : U.drop q = (U.drop q).take (p - q) ++ ((U.drop p).take g ++ U.drop (p + g)) := by
    conv => lhs; rw [← List.take_append_drop (p - q) (U.drop q)]
    rw [List.drop_drop, show q + (p - q) = p by omega]
    conv => lhs; rw [← List.take_append_drop g (U.drop p)]
    rw [List.drop_drop]
  rw [← List.append_assoc] at rf ⊢
  have nd := rf.pre.pre.visNd
  have v1 : vis (K ++ cs) = (X ++ (U.drop q).take (p - q)) ++ U.drop (p + g) := by
    rw [vis_cuts _ cs K b.cuts, hv]
    rw [hv, parts] at nd
    conv => lhs; rw [parts]
    show List.filter (fun j => decide (j ∉ (U.drop p).take g)) _ = _
    rw [seg_filter nd, List.append_assoc]
  refine vis_chain ps (K ++ cs) _ _ (afterU U p) rf (fun o ho hk => ?_) v1 ?_ b.puts
  · rcases List.mem_append.mp ho with z | z
    · exact cn o z hk
    · obtain ⟨_, i, _, e⟩ := b.cuts.some_ o z
      rw [e]; exact Option.some_ne_none _
  · unfold afterU
    by_cases e : p = 0
    · rw [if_pos e]
      refine .inl ⟨rfl, ?_⟩
      rcases hp with z | ⟨_, z1, z2⟩
      · omega
      · rw [z2, e, Nat.zero_sub, List.take_zero]; rfl
    · rw [if_neg e]
      have lt : q ≤ p - 1 := by
        rcases hp with z | ⟨_, z1, _⟩ <;> omega
      have hl : p - 1 < U.length := by omega
      refine .inr ⟨X ++ (U.drop q).take (p - 1 - q), U[p - 1], ?_, List.getElem?_eq_getElem hl⟩
      have : p - q = (p - 1 - q) + 1 := by omega
      rw [this, List.take_add_one, List.getElem?_drop, show q + (p - 1 - q) = p - 1 by omega, List.getElem?_eq_getElem hl, Option.toList_some, List.append_assoc]
/-! ### edits in turn, over any kind of sign -/
section
variable {α β : Type}
abbrev EdA (α : Type) := Nat × Nat × List α
def accS (U : List α) (s : Nat × List α) (e : EdA α) : Nat × List α := (e.1 + e.2.1, s.2 ++ (U.drop s.1).take (e.1 - s.1) ++ e.2.2)
def acc (U : List α) (es : List (EdA α)) : Nat × List α := es.foldl (accS U) (0, [])
def accOut (U : List α) (es : List (EdA α)) : List α := (acc U es).2 ++ U.drop (acc U es).1
theorem acc_snoc (U : List α) (es : List (EdA α)) (e : EdA α) : acc U (es ++ [e]) = accS U (acc U es) e := by
  unfold acc
  rw [List.foldl_append]
  rfl
def mapE (f : α → β) (e : EdA α) : EdA β := (e.1, e.2.1, e.2.2.map f)
theorem acc_map (f : α → β) (U : List α) (es : List (EdA α)) : acc (U.map f) (es.map (mapE f)) = ((acc U es).1, (acc U es).2.map f) := by
  induction es using snocRec with
  | h0 => rfl
  | h1 es e ih =>
    rw [List.map_append, List.map_singleton, acc_snoc, acc_snoc, ih]
    unfold accS mapE
    simp [List.map_take, List.map_drop]
theorem accOut_map (f : α → β) (U : List α) (es : List (EdA α)) : accOut (U.map f) (es.map (mapE f)) = (accOut U es).map f := by
  unfold accOut
  rw [acc_map, List.map_append, List.map_drop]
/-- ascending, at least one sign between, all within so many -/
structure ApE (n : Nat) (es : List (EdA α)) : Prop where
  apart : es.Pairwise fun a b => a.1 + a.2.1 < b.1
  in_ : ∀ e ∈ es, e.1 + e.2.1 ≤ n
theorem ApE.pre {n : Nat} {es fs : List (EdA α)} (h : ApE n (es ++ fs)) : ApE n es := ⟨(List.pairwise_append.mp h.apart).1, fun e he => h.in_ e (List.mem_append_left _ he)⟩
theorem ApE.sub {n : Nat} {es fs : List (EdA α)} (h : ApE n es) (s : fs.Sublist es) : ApE n fs := ⟨h.apart.sublist s, fun e he => h.in_ e (s.subset he)⟩
/-- where the next edit is seen from behind those ahead -/
theorem ApE.next {U : List α} {n : Nat} {es : List (EdA α)} {e : EdA α} (h : ApE n (es ++ [e])) : (acc U es).1 < e.1 ∨ ((acc U es).1 ≤ e.1 ∧ (acc U es).1 = 0 ∧ (acc U es).2 = []) := by
  rcases List.eq_nil_or_concat es with z | ⟨fs, f, z⟩
  · subst z
    exact .inr ⟨Nat.zero_le _, rfl, rfl⟩
  · rw [List.concat_eq_append] at z
    subst z
    rw [acc_snoc]
    have := (List.pairwise_append.mp h.apart).2.2 f (List.mem_append_right _ List.mem_cons_self) e List.mem_cons_self
    exact .inl this
theorem acc_le {U : List α} {es : List (EdA α)} (h : ApE U.length es) : (acc U es).1 ≤ U.length := by
  rcases List.eq_nil_or_concat es with z | ⟨fs, f, z⟩
  · subst z; exact Nat.zero_le _
  · rw [List.concat_eq_append] at z
    subst z
    rw [acc_snoc]
    exact h.in_ f (List.mem_append_right _ List.mem_cons_self)
def moreE (es : List (EdA α)) : Int := (es.map fun e => ((e.2.2.length : Int) - (e.2.1 : Int))).sum
theorem moreE_snoc (es : List (EdA α)) (e : EdA α) : moreE (es ++ [e]) = moreE es + ((e.2.2.length : Int) - (e.2.1 : Int)) := by
  unfold moreE
  rw [List.map_append, List.sum_append]
  simp
theorem acc_len {U : List α} {es : List (EdA α)} : ApE U.length es → ((acc U es).2.length : Int) = ((acc U es).1 : Int) + moreE es := by
  induction es using snocRec with
  | h0 => exact fun _ => rfl
  | h1 es e ih =>
    intro h
    have i1 := ih h.pre
    have hp := h.next (U := U)
    have hn := h.in_ e (List.mem_append_right _ List.mem_cons_self)
    rw [acc_snoc, moreE_snoc]
    unfold accS
    show (((acc U es).2 ++ (U.drop (acc U es).1).take (e.1 - (acc U es).1) ++ e.2.2).length : Int) = ((e.1 + e.2.1 : Nat) : Int) + _
    rw [List.length_append, List.length_append, List.length_take, List.length_drop]
    have : min (e.1 - (acc U es).1) (U.length - (acc U es).1) = e.1 - (acc U es).1 := by omega
    rw [this]
    omega
theorem accOut_len {U : List α} {es : List (EdA α)} (h : ApE U.length es) : ((accOut U es).length : Int) = (U.length : Int) + moreE es := by
  have := acc_len h
  have := acc_le h
  unfold accOut
  rw [List.length_append, List.length_drop]
  omega
end
end K80
namespace K80
open PySem PySem.Spec PyProof.Rows L2 Gx GxR NdefX
/-! ### edits at once, edits in turn -/
theorem applied_acc : ∀ (es : List Ed) (l : List Nat) (q : Nat) (X : List Nat), es.Pairwise (fun a b => a.1 + a.2.1 < b.1) → (∀ e ∈ es, e.1 + e.2.1 ≤ l.length ∧ q ≤ e.1) → q ≤ l.length →
    (es.foldl (accS l) (q, X)).2 ++ l.drop (es.foldl (accS l) (q, X)).1 = X ++ (applied l es).drop q ∧ (applied l es).take q = l.take q
  | [], l, q, X, _, _, _ => ⟨rfl, rfl⟩
  | (p, g, c) :: es, l, q, X, ap, ins, hq => by
    have ap2 := List.pairwise_cons.mp ap
    have h0 : p + g ≤ l.length ∧ q ≤ p := ins (p, g, c) List.mem_cons_self
    obtain ⟨i1, i2⟩ := applied_acc es l (p + g) (X ++ (l.drop q).take (p - q) ++ c) ap2.2 (fun e he => ⟨(ins e (List.mem_cons_of_mem _ he)).1, Nat.le_of_lt (ap2.1 e he)⟩) h0.1
    have eA : applied l ((p, g, c) :: es) = l.take p ++ c ++ (applied l es).drop (p + g) := by
      show (applied l es).take p ++ c ++ (applied l es).drop (p + g) = _
      have : (applied l es).take p = l.take p := by
        have e1 : (applied l es).take p = ((applied l es).take (p + g)).take p := by rw [List.take_take, Nat.min_eq_left (by omega)]
        rw [e1, i2, List.take_take, Nat.min_eq_left (by omega)]
      rw [this]
    have lp : (l.take p).length = p := by rw [List.length_take]; omega
    constructor
    · show (es.foldl (accS l) (p + g, X ++ (l.drop q).take (p - q) ++ c)).2 ++ _ = _
      rw [show List.foldl (accS l) (q, X) ((p, g, c) :: es) = es.foldl (accS l) (p + g, X ++ (l.drop q).take (p - q) ++ c) from rfl, i1, eA, List.append_assoc (l.take p), List.drop_append_of_le_length (by rw [lp]; exact h0.2), List.drop_take]
      simp
    · rw [eA, List.append_assoc, List.take_append_of_le_length (by rw [lp]; exact h0.2), List.take_take, Nat.min_eq_left h0.2]
theorem applied_is {l : List Nat} {es : List Ed} (h : ApE l.length es) : applied l es = accOut l es := by
  have := (applied_acc es l 0 [] h.apart (fun e he => ⟨h.in_ e he, Nat.zero_le _⟩) (Nat.zero_le _)).1
  rw [List.drop_zero, List.nil_append] at this
  exact this.symm
theorem moreOf_is (es : List Ed) : moreOf es = moreE es := rfl
/-- the next edit, by its place behind those ahead -/
theorem put_next {α : Type} {U X c : List α} {q p g : Nat} (h : q < p ∨ (q ≤ p ∧ q = 0 ∧ X = [])) (hn : p + g ≤ U.length) :
    (X ++ U.drop q).take (X.length + (p - q)) = X ++ (U.drop q).take (p - q) ∧ (X ++ U.drop q).drop (X.length + (p - q)) = U.drop p ∧ (X ++ U.drop q).drop (X.length + (p - q) + g) = U.drop (p + g) := by
  have hq : q ≤ p := by omega
  refine ⟨?_, ?_, ?_⟩
  · rw [List.take_length_add_append]
  · rw [List.drop_length_add_append, List.drop_drop, show q + (p - q) = p by omega]
  · rw [Nat.add_assoc, List.drop_length_add_append, List.drop_drop, show q + (p - q + g) = p + g by omega]
theorem inTurn_is {l : List Nat} {es : List Ed} : ApE l.length es → (inTurn 0 es).foldl putIn l = accOut l es := by
  induction es using snocRec with
  | h0 => exact fun _ => rfl
  | h1 es e ih =>
    intro h
    have i1 := ih h.pre
    have hp := h.next (U := l)
    have hn := h.in_ e (List.mem_append_right _ List.mem_cons_self)
    have hl := acc_len h.pre
    obtain ⟨p, g, c⟩ := e
    have hp : (acc l es).1 < p ∨ ((acc l es).1 ≤ p ∧ (acc l es).1 = 0 ∧ (acc l es).2 = []) := hp
    rw [inTurn_snoc, List.foldl_append, i1]
    have e1 : (((p : Nat) : Int) + (0 + moreOf es)).toNat = (acc l es).2.length + (p - (acc l es).1) := by
      rw [moreOf_is]
      have : (acc l es).1 ≤ p := by omega
      omega
    show putIn (accOut l es) ((((p : Nat) : Int) + (0 + moreOf es)).toNat, g, c) = _
    rw [e1]
    obtain ⟨t1, t2, t3⟩ := put_next (c := c) hp hn
    show (accOut l es).take _ ++ c ++ (accOut l es).drop _ = _
    unfold accOut
    rw [acc_snoc, t1, t3]
    rfl
theorem EdsFine.ape {n : Nat} {es : List Ed} (h : EdsFine n es) : ApE n es := by
  refine ⟨?_, fun e he => (h.each e he).1⟩
  have gen : ∀ (d i : Nat) (a b : Ed), es[i]? = some a → es[i + 1 + d]? = some b → a.1 + a.2.1 < b.1 := by
    intro d
    induction d with
    | zero => exact fun i a b h1 h2 => h.apart i a b h1 h2
    | succ d ih =>
      intro i a b h1 h2
      have hl := (List.getElem?_eq_some_iff.mp h2).1
      have h3 : es[i + 1 + d]? = some es[i + 1 + d] := List.getElem?_eq_getElem (by omega)
      have i1 := ih i a _ h1 h3
      have i2 := h.apart (i + 1 + d) _ b h3 h2
      omega
  rw [List.pairwise_iff_getElem]
  intro i j hi hj hij
  exact gen (j - i - 1) i _ _ (List.getElem?_eq_getElem hi) (by rw [show i + 1 + (j - i - 1) = j by omega]; exact List.getElem?_eq_getElem hj)
end K80
namespace K80
open PySem PySem.Spec PyProof.Rows L2 Gx GxR NdefX
/-! ### what a site makes itself -/
structure Own (A : List Op) (x : Str) (K : List Op) : Prop where
  cl : Cl A K
  own : ofS x K = ofS x A
  ord : Ord K
def Bd (A : List Op) : Prop := ∀ o ∈ A, o.id.1 ≤ A.length
structure Nam (x : Str) : Prop where
  nm : Nm x
  st : PyData.strOk x = true
theorem lc_clk (x : Str) : ∀ K, lc K x ≤ clk K := snocRec (Nat.le_refl _) fun K o ih => by
  rw [lc_snoc, clk_snoc]
  split <;> omega
structure Made (A : List Op) (x : Str) (K os : List Op) : Prop where
  uni : Uni (A ++ os)
  own : Own (A ++ os) x (K ++ os)
  bd : Bd (A ++ os)
  high : ∀ o ∈ os, clk K < o.id.1 ∧ o.id.2 = x
  sg : ∀ o ∈ os, o.sign < 1000
theorem Own.more {A os : List Op} {x y : Str} {K : List Op} (h : Own A y K) (ne : y ≠ x) (hs : ∀ o ∈ os, o.id.2 = x) : Own (A ++ os) y K := by
  refine ⟨h.cl.more os, ?_, h.ord⟩
  rw [h.own, ofS_app]
  have : ofS y os = [] := by
    unfold ofS
    rw [List.filter_eq_nil_iff]
    intro o ho e
    rw [decide_eq_true_eq] at e
    exact ne (e.symm.trans (hs o ho))
  rw [this, List.append_nil]
theorem Made.nil {A : List Op} {x : Str} {K : List Op} (u : Uni A) (h : Own A x K) (bd : Bd A) : Made A x K [] := by
  refine ⟨by rw [List.append_nil]; exact u, by rw [List.append_nil, List.append_nil]; exact h, by rw [List.append_nil]; exact bd, (fun o z => nomatch z), fun o z => nomatch z⟩
theorem clk_app (K L : List Op) : clk K ≤ clk (K ++ L) := by
  induction L using snocRec with
  | h0 => rw [List.append_nil]; exact Nat.le_refl _
  | h1 L o ih => rw [← List.append_assoc, clk_snoc]; omega
theorem Made.trans {A : List Op} {x : Str} {K os ps : List Op} (h : Made A x K os) (g : Made (A ++ os) x (K ++ os) ps) : Made A x K (os ++ ps) := by
  refine ⟨by rw [← List.append_assoc]; exact g.uni, by rw [← List.append_assoc, ← List.append_assoc]; exact g.own, by rw [← List.append_assoc]; exact g.bd, fun o ho => ?_, fun o ho => (List.mem_append.mp ho).elim (h.sg o) (g.sg o)⟩
  rcases List.mem_append.mp ho with z | z
  · exact h.high o z
  · obtain ⟨g1, g2⟩ := g.high o z
    exact ⟨Nat.lt_of_le_of_lt (clk_app K os) g1, g2⟩
theorem sgn_lt {c : Nat} (h : sgn c) : c < 1000 := by
  unfold sgn at h
  omega
theorem Own.make {A : List Op} {x : Str} {K : List Op} (u : Uni A) (h : Own A x K) (bd : Bd A) (nx : Nam x) (kd : Kd) (r : Option Id) (c : Nat) (hr : ∀ i, r = some i → ∃ p ∈ K, p.id = i ∧ (kd ≠ .undo → p.kind = .put)) (hs : kd ≠ .put → r ≠ none) (sg : kd = .put → sgn c) (hc : c < 1000) (l : A.length < 1000) :
    Made A x K [makeO (stOf x K) kd r c] ∧ CarOk (stOf x K) (makeO (stOf x K) kd r c) := by
  have eid : (makeO (stOf x K) kd r c).id = (clk K + 1, x) := by
    show ((stOf x K).clock + 1, (stOf x K).name) = _
    rw [stOf_clock, stOf_name]
  have epv : (makeO (stOf x K) kd r c).prev = lc K x := by
    show cnt (stOf x K).counts (stOf x K).name = _
    rw [stOf_name, stOf_cnt]
  have ek : (makeO (stOf x K) kd r c).kind = kd := rfl
  have er : (makeO (stOf x K) kd r c).ref = r := rfl
  have es : (makeO (stOf x K) kd r c).sign = c := rfl
  generalize makeO (stOf x K) kd r c = o at eid epv ek er es ⊢
  have bK : clk K ≤ A.length := clk_le _ _ fun o ho => bd o (h.cl.sub o ho)
  have new : o.id ∉ A.map Op.id := fun z => by
    obtain ⟨p, hp, e⟩ := List.mem_map.mp z
    have : p ∈ ofS x A := mem_ofS.mpr ⟨hp, by rw [e, eid]⟩
    rw [← h.own] at this
    have := clk_ge K p (mem_ofS.mp this).1
    rw [e, eid] at this
    omega
  have ok : OpOk o := by
    refine ⟨by rw [eid]; exact ⟨by show 1 ≤ clk K + 1; omega, by show clk K + 1 ≤ _; omega, nx.nm⟩, ?_, fun i hi => ?_, fun hk => by rw [es]; exact sg (ek.symm.trans hk), fun hk => by rw [er]; exact hs fun z => hk (ek.trans z)⟩
    · rw [epv, eid]
      have := lc_clk x K
      show _ ≤ clk K + 1
      omega
    · obtain ⟨p, hp, e, _⟩ := hr i (er.symm.trans hi)
      rw [← e]
      refine ⟨(u.ok p (h.cl.sub p hp)).1.id, ?_⟩
      rw [eid]
      have := clk_ge K p hp
      show _ < clk K + 1
      omega
  have u2 : Uni (A ++ [o]) := by
    refine u.snoc new ok (by rw [eid]; exact nx.st) ?_ (fun i hi => ?_) l
    · rw [epv, eid]
      exact lc_eq h.own
    · obtain ⟨p, hp, e, k⟩ := hr i (er.symm.trans hi)
      exact ⟨p, h.cl.sub p hp, e, fun z => k fun y => z (ek.trans y)⟩
  have c2 : Cl (A ++ [o]) (K ++ [o]) := by
    refine ⟨?_, fun p hp => ?_, fun y => ?_, fun k p i e ei => ?_⟩
    · rw [List.map_append, List.nodup_append]
      refine ⟨h.cl.nd, by simp, fun a ha b hb z => new ?_⟩
      have e2 : b = o.id := by simpa using hb
      obtain ⟨p, hp, e⟩ := List.mem_map.mp ha
      rw [← e2, ← z, ← e]
      exact List.mem_map_of_mem (h.cl.sub p hp)
    · rcases List.mem_append.mp hp with z | z
      · exact List.mem_append_left _ (h.cl.sub p z)
      · exact List.mem_append_right _ z
    · rw [ofS_app, ofS_app]
      by_cases e : x = y
      · subst e
        rw [h.own]
        exact List.prefix_rfl
      · rw [ofS_one, if_neg (by rw [eid]; exact e), List.append_nil, List.append_nil]
        exact h.cl.site y
    · rcases snoc_get e with ⟨e1, e2⟩ | ⟨rfl, _, e2⟩
      · rw [e2]; exact h.cl.ref k p i e1 ei
      · rw [e2]
        obtain ⟨q, hq, e3, _⟩ := hr i (er.symm.trans ei)
        exact ⟨q, hq, e3⟩
  have ord2 := h.ord.step u2 c2 fun _ => noskip_top h.ord.mem fun p hp => by
    have := clk_ge K p hp
    rw [eid]
    show _ < clk K + 1
    omega
  refine ⟨⟨u2, ⟨c2, by rw [ofS_app, ofS_app, h.own], ord2⟩, fun p hp => ?_, fun p hp => ?_, fun p hp => by rw [List.mem_singleton.mp hp, es]; exact hc⟩, ?_⟩
  · rw [List.length_append, List.length_singleton]
    rcases List.mem_append.mp hp with z | z
    · have := bd p z; omega
    · rw [List.mem_singleton.mp z, eid]
      show clk K + 1 ≤ _
      omega
  · rw [List.mem_singleton.mp hp, eid]
    exact ⟨Nat.lt_succ_self _, rfl⟩
  · have := carOk (x := x) (W := []) u2 c2 h.ord
    unfold wt at this
    rwa [← stOf_waits x K] at this
theorem carry_st (x : Str) (K : List Op) (o : Op) : carry (stOf x K) o = stOf x (K ++ [o]) := (stOf_snoc x K o).symm
/-! ### some cuts -/
theorem cuts_go {x : Str} (nx : Nam x) : ∀ (is : List Id) (A K : List Op), Uni A → Own A x K → Bd A → (∀ i ∈ is, ∃ p ∈ K, p.id = i ∧ p.kind = .put) → A.length + is.length ≤ 1000 →
    ∃ cs, cutsF (stOf x K) is = (stOf x (K ++ cs), cs) ∧ Made A x K cs ∧ Cuts is cs
  | [], A, K, u, h, bd, _, _ => ⟨[], by rw [List.append_nil]; rfl, .nil u h bd, trivial⟩
  | i :: is, A, K, u, h, bd, hi, l => by
    rw [List.length_cons] at l
    obtain ⟨m, _⟩ := h.make u bd nx .cut (some i) 0 (fun j e => by
      cases e
      obtain ⟨p, h1, h2, h3⟩ := hi i List.mem_cons_self
      exact ⟨p, h1, h2, fun _ => h3⟩) (fun _ => Option.some_ne_none _) (fun e => by cases e) (by decide) (by omega)
    obtain ⟨cs, e, m2, c⟩ := cuts_go nx is _ _ m.uni m.own m.bd (fun j hj => by
      obtain ⟨p, h1, h2⟩ := hi j (List.mem_cons_of_mem _ hj)
      exact ⟨p, List.mem_append_left _ h1, h2⟩) (by rw [List.length_append, List.length_singleton]; omega)
    refine ⟨_ :: cs, ?_, m.trans m2, rfl, rfl, c⟩
    show ((cutsF (carry (stOf x K) (makeO (stOf x K) .cut (some i) 0)) is).1, makeO (stOf x K) .cut (some i) 0 :: (cutsF (carry (stOf x K) (makeO (stOf x K) .cut (some i) 0)) is).2) = _
    rw [carry_st, e, List.append_assoc]
    rfl
theorem cuts_fit {x : Str} (nx : Nam x) {is : List Id} {A K : List Op} (u : Uni A) (h : Own A x K) (bd : Bd A) (hi : ∀ i ∈ is, ∃ p ∈ K, p.id = i ∧ p.kind = .put) (l : A.length + is.length ≤ 1000) (t : Nat) (i : Id) (ht : is[t]? = some i) : CarOk (cutsF (stOf x K) (is.take t)).1 (makeO (cutsF (stOf x K) (is.take t)).1 .cut (some i) 0) := by
  have lt := (List.getElem?_eq_some_iff.mp ht).1
  have ltk : (is.take t).length = t := by rw [List.length_take]; omega
  obtain ⟨cs, e, m, _⟩ := cuts_go nx (is.take t) A K u h bd (fun j hj => hi j (List.mem_of_mem_take hj)) (by omega)
  rw [e]
  have lcs : cs.length = t := by
    have := cutsF_len (is.take t) (stOf x K)
    rw [e] at this
    exact this.trans ltk
  obtain ⟨p, h1, h2, h3⟩ := hi i (List.mem_of_getElem? ht)
  exact (m.own.make m.uni m.bd nx .cut (some i) 0 (fun j e => by
    cases e
    exact ⟨p, List.mem_append_left _ h1, h2, fun _ => h3⟩) (fun _ => Option.some_ne_none _) (fun e => by cases e) (by decide) (by rw [List.length_append]; omega)).2
/-! ### some new elements -/
theorem puts_go {x : Str} (nx : Nam x) : ∀ (cm : List Nat) (A K : List Op) (a : Option Id), Uni A → Own A x K → Bd A → (∀ i, a = some i → ∃ p ∈ K, p.id = i ∧ p.kind = .put) → Sgs cm → A.length + cm.length ≤ 1000 →
    ∃ ps, putsF (stOf x K) a cm = (stOf x (K ++ ps), ps) ∧ Made A x K ps ∧ Chain a ps ∧ ps.map Op.sign = cm ∧ ∀ i, lastId a ps = some i → ∃ p ∈ K ++ ps, p.id = i ∧ p.kind = .put
  | [], A, K, a, u, h, bd, ha, _, _ => ⟨[], by rw [List.append_nil]; rfl, .nil u h bd, trivial, rfl, fun i e => by rw [List.append_nil]; exact ha i e⟩
  | c :: cm, A, K, a, u, h, bd, ha, sg, l => by
    rw [List.length_cons] at l
    obtain ⟨m, _⟩ := h.make u bd nx .put a c (fun j e => by
      obtain ⟨p, h1, h2, h3⟩ := ha j e
      exact ⟨p, h1, h2, fun _ => h3⟩) (fun e => absurd rfl e) (fun _ => sg c List.mem_cons_self) (sgn_lt (sg c List.mem_cons_self)) (by omega)
    obtain ⟨ps, e, m2, ch, sn, la⟩ := puts_go nx cm _ _ (some (makeO (stOf x K) .put a c).id) m.uni m.own m.bd (fun j hj => by
      cases hj
      exact ⟨_, List.mem_append_right _ List.mem_cons_self, rfl, rfl⟩) (fun d hd => sg d (List.mem_cons_of_mem _ hd)) (by rw [List.length_append, List.length_singleton]; omega)
    refine ⟨_ :: ps, ?_, m.trans m2, ⟨rfl, rfl, ch⟩, by rw [List.map_cons, sn]; rfl, fun i hi => ?_⟩
    · show ((putsF (carry (stOf x K) (makeO (stOf x K) .put a c)) (some (makeO (stOf x K) .put a c).id) cm).1, makeO (stOf x K) .put a c :: (putsF (carry (stOf x K) (makeO (stOf x K) .put a c)) (some (makeO (stOf x K) .put a c).id) cm).2) = _
      rw [carry_st, e, List.append_assoc]
      rfl
    · have e2 : K ++ makeO (stOf x K) .put a c :: ps = (K ++ [makeO (stOf x K) .put a c]) ++ ps := by simp
      rw [e2]
      refine la i ?_
      unfold lastId at hi ⊢
      cases ps with
      | nil =>
        have hi : some (makeO (stOf x K) .put a c).id = some i := hi
        exact hi
      | cons q ps =>
        rw [List.getLast?_cons_cons] at hi
        cases hg : (q :: ps).getLast? with
        | none => rw [List.getLast?_eq_none_iff] at hg; cases hg
        | some z => rw [hg] at hi; exact hi
theorem puts_fit {x : Str} (nx : Nam x) {cm : List Nat} {A K : List Op} {a : Option Id} (u : Uni A) (h : Own A x K) (bd : Bd A) (ha : ∀ i, a = some i → ∃ p ∈ K, p.id = i ∧ p.kind = .put) (sg : Sgs cm) (l : A.length + cm.length ≤ 1000) (t c : Nat) (ht : cm[t]? = some c) :
    CarOk (putsF (stOf x K) a (cm.take t)).1 (makeO (putsF (stOf x K) a (cm.take t)).1 .put (lastId a (putsF (stOf x K) a (cm.take t)).2) c) := by
  have lt := (List.getElem?_eq_some_iff.mp ht).1
  have ltk : (cm.take t).length = t := by rw [List.length_take]; omega
  obtain ⟨ps, e, m, _, _, la⟩ := puts_go nx (cm.take t) A K a u h bd ha (fun d hd => sg d (List.mem_of_mem_take hd)) (by omega)
  have lps : ps.length = t := by
    have := putsF_len (cm.take t) (stOf x K) a
    rw [e] at this
    exact this.trans ltk
  rw [e]
  exact (m.own.make m.uni m.bd nx .put (lastId a ps) c (fun j e => by
    obtain ⟨p, h1, h2, h3⟩ := la j e
    exact ⟨p, h1, h2, fun _ => h3⟩) (fun e => absurd rfl e) (fun _ => sg c (List.mem_of_getElem? ht)) (sgn_lt (sg c (List.mem_of_getElem? ht))) (by rw [List.length_append]; omega)).2
/-! ### some undos -/
def Unds : List Id → List Op → Prop
  | [], [] => True
  | i :: is, o :: t => o.kind = .undo ∧ o.ref = some i ∧ Unds is t
  | _, _ => False
theorem undos_go {x : Str} (nx : Nam x) : ∀ (is : List Id) (A K : List Op), Uni A → Own A x K → Bd A → (∀ i ∈ is, ∃ p ∈ K, p.id = i) → A.length + is.length ≤ 1000 →
    ∃ cs, undosF (stOf x K) is = (stOf x (K ++ cs), cs) ∧ Made A x K cs ∧ Unds is cs
  | [], A, K, u, h, bd, _, _ => ⟨[], by rw [List.append_nil]; rfl, .nil u h bd, trivial⟩
  | i :: is, A, K, u, h, bd, hi, l => by
    rw [List.length_cons] at l
    obtain ⟨m, _⟩ := h.make u bd nx .undo (some i) 0 (fun j e => by
      cases e
      obtain ⟨p, h1, h2⟩ := hi i List.mem_cons_self
      exact ⟨p, h1, h2, fun z => absurd rfl z⟩) (fun _ => Option.some_ne_none _) (fun e => by cases e) (by decide) (by omega)
    obtain ⟨cs, e, m2, c⟩ := undos_go nx is _ _ m.uni m.own m.bd (fun j hj => by
      obtain ⟨p, h1, h2⟩ := hi j (List.mem_cons_of_mem _ hj)
      exact ⟨p, List.mem_append_left _ h1, h2⟩) (by rw [List.length_append, List.length_singleton]; omega)
    refine ⟨_ :: cs, ?_, m.trans m2, rfl, rfl, c⟩
    show ((undosF (carry (stOf x K) (makeO (stOf x K) .undo (some i) 0)) is).1, makeO (stOf x K) .undo (some i) 0 :: (undosF (carry (stOf x K) (makeO (stOf x K) .undo (some i) 0)) is).2) = _
    rw [carry_st, e, List.append_assoc]
    rfl
theorem undos_fit {x : Str} (nx : Nam x) {is : List Id} {A K : List Op} (u : Uni A) (h : Own A x K) (bd : Bd A) (hi : ∀ i ∈ is, ∃ p ∈ K, p.id = i) (l : A.length + is.length ≤ 1000) (t : Nat) (i : Id) (ht : is[t]? = some i) :
    (lkG Op.id (undosF (stOf x K) (is.take t)).1.known i).isSome = true ∧ (undosF (stOf x K) (is.take t)).1.known.length + (undosF (stOf x K) (is.take t)).1.waits.length + 1 ≤ 6000 ∧ CarOk (undosF (stOf x K) (is.take t)).1 (makeO (undosF (stOf x K) (is.take t)).1 .undo (some i) 0) := by
  have lt := (List.getElem?_eq_some_iff.mp ht).1
  have ltk : (is.take t).length = t := by rw [List.length_take]; omega
  obtain ⟨cs, e, m, _⟩ := undos_go nx (is.take t) A K u h bd (fun j hj => hi j (List.mem_of_mem_take hj)) (by omega)
  have lcs : cs.length = t := by
    have := undosF_len (is.take t) (stOf x K)
    rw [e] at this
    exact this.trans ltk
  rw [e]
  obtain ⟨p, h1, h2⟩ := hi i (List.mem_of_getElem? ht)
  have hp : p ∈ K ++ cs := List.mem_append_left _ h1
  have hlen : (K ++ cs).length ≤ 1000 := Nat.le_trans (nd_len m.own.cl.nd m.own.cl.sub) m.uni.len
  refine ⟨?_, ?_, (m.own.make m.uni m.bd nx .undo (some i) 0 (fun j e => by
    cases e
    exact ⟨p, hp, h2, fun z => absurd rfl z⟩) (fun _ => Option.some_ne_none _) (fun e => by cases e) (by decide) (by rw [List.length_append]; omega)).2⟩
  · show (lkG Op.id (stOf x (K ++ cs)).known i).isSome = true
    rw [stOf_known x _ m.own.cl.nd, ← h2, lk_self m.own.cl.nd hp]
    rfl
  · show (stOf x (K ++ cs)).known.length + (stOf x (K ++ cs)).waits.length + 1 ≤ 6000
    rw [stOf_waits]
    have := (lens x (K ++ cs)).1
    show _ + 0 + 1 ≤ _
    omega
/-! ### one edit -/
theorem undone_nil {K : List Op} (x : Str) : (∀ o ∈ K, o.kind ≠ .undo) → (stOf x K).undone = [] := by
  induction K using snocRec with
  | h0 => exact fun _ => rfl
  | h1 K o ih =>
    intro h
    rw [stOf_snoc]
    show (if o.kind = .undo then addT (stOf x K).undone (refOf o) o.id else (stOf x K).undone) = []
    rw [if_neg (h o (List.mem_append_right _ List.mem_cons_self)), ih fun p hp => h p (List.mem_append_left _ hp)]
theorem off_nil : offM [] = [] := by
  have : sortI (([] : Tab).map fun r : Id × List Id => r.1) = [] := List.perm_nil.mp (sortI_perm [])
  unfold offM
  rw [this]
  rfl
theorem showing_vis {K : List Op} {x : Str} (od : Ord K) (nu : ∀ o ∈ K, o.kind ≠ .undo) : showing (stOf x K) = vis K := by
  unfold showing vis
  rw [undone_nil x nu, off_nil, stOf_order, od.is]
  refine List.filter_congr fun i _ => ?_
  unfold showB
  rw [stOf_cuts]
  have e : ∀ j, inI [] j = false := fun j => rfl
  rw [e]
  cases spk .cut K i with
  | nil => rfl
  | cons a t => rfl
theorem vis_mem {K : List Op} (rf : Rf K) {i : Id} (h : i ∈ vis K) : ∃ p ∈ K, p.id = i ∧ p.kind = .put := by
  obtain ⟨p, h1, h2, h3⟩ := (rf.mem.1 i).mp (List.mem_filter.mp h).1
  exact ⟨p, h1, h3, h2⟩
theorem edit_go {x : Str} (nx : Nam x) {A K : List Op} {U X : List Id} {q p g : Nat} {c : List Nat} (u : Uni A) (h : Own A x K) (bd : Bd A) (nu : ∀ o ∈ K, o.kind ≠ .undo) (hv : vis K = X ++ U.drop q) (hp : q < p ∨ (q ≤ p ∧ q = 0 ∧ X = [])) (hn : p + g ≤ U.length) (sg : Sgs c) (lc : c.length ≤ 100) (lg : g ≤ 100) (l : A.length + 300 ≤ 1000) :
    EdFit (stOf x K) (X.length + (p - q), g, c) ∧ ∃ cs ps, editM (stOf x K) (X.length + (p - q), g, c) = (stOf x (K ++ (cs ++ ps)), cs ++ ps) ∧ Made A x K (cs ++ ps) ∧ Blk U (p, g, c) cs ps ∧ (cs ++ ps).length ≤ g + c.length := by
  have rf := h.cl.rf u
  have hs : showing (stOf x K) = vis K := showing_vis h.ord nu
  have lK : K.length ≤ A.length := nd_len h.cl.nd h.cl.sub
  obtain ⟨l1, l2, l3, l4⟩ := lens x K
  have hq : q ≤ p := by omega
  obtain ⟨t1, t2, t3⟩ := put_next (c := ([] : List Id)) (X := X) (U := U) hp hn
  have ec : cutIds (stOf x K) (X.length + (p - q), g, c) = (U.drop p).take g := by
    unfold cutIds
    rw [hs, hv]
    show ((X ++ U.drop q).drop (X.length + (p - q))).take g = _
    rw [t2]
  have ea : afterE (stOf x K) (X.length + (p - q), g, c) = afterU U p := by
    unfold afterE afterU
    rw [hs, hv]
    show (if X.length + (p - q) = 0 then none else (X ++ U.drop q)[X.length + (p - q) - 1]?) = _
    by_cases e : p = 0
    · have : X.length = 0 := by
        rcases hp with z | ⟨_, _, z⟩
        · omega
        · rw [z]; rfl
      rw [if_pos e, if_pos (by omega)]
    · rw [if_neg e]
      rcases hp with z | ⟨_, z, y⟩
      · rw [if_neg (by omega), List.getElem?_append_right (by omega), List.getElem?_drop]
        congr 1
        omega
      · subst z
        subst y
        rw [if_neg (by show ¬ 0 + (p - 0) = 0; omega)]
        show ([] ++ U.drop 0)[0 + (p - 0) - 1]? = _
        rw [List.nil_append, List.drop_zero]
        congr 1
        omega
  have lvis : (vis K).length = X.length + (U.length - q) := by rw [hv, List.length_append, List.length_drop]
  have lvis2 : (vis K).length ≤ K.length := by
    have h1 : (vis K).length ≤ (K.map Op.id).length := len_sub rf.visNd fun i hi => by
      obtain ⟨o, h1, h2, _⟩ := vis_mem rf hi
      rw [← h2]
      exact List.mem_map_of_mem h1
    rwa [List.length_map] at h1
  have hc : ∀ i ∈ (U.drop p).take g, ∃ o ∈ K, o.id = i ∧ o.kind = .put := fun i hi => by
    refine vis_mem rf ?_
    rw [hv]
    refine List.mem_append_right _ ?_
    have : i ∈ U.drop p := List.mem_of_mem_take hi
    rw [show p = q + (p - q) by omega, ← List.drop_drop] at this
    exact List.mem_of_mem_drop this
  have ha : ∀ i, afterU U p = some i → ∃ o ∈ K, o.id = i ∧ o.kind = .put := fun i hi => by
    refine vis_mem rf ?_
    unfold afterU at hi
    by_cases e : p = 0
    · rw [if_pos e] at hi; cases hi
    · rw [if_neg e] at hi
      rw [hv]
      refine List.mem_append_right _ ?_
      have : (U.drop q)[p - 1 - q]? = some i := by
        rw [List.getElem?_drop, show q + (p - 1 - q) = p - 1 by omega]
        exact hi
      exact List.mem_of_getElem? this
  have lcu : ((U.drop p).take g).length ≤ g := by rw [List.length_take]; omega
  obtain ⟨cs, e1, m1, c1⟩ := cuts_go nx _ A K u h bd hc (by omega)
  have lcs : cs.length ≤ g := by
    have := cutsF_len ((U.drop p).take g) (stOf x K)
    rw [e1] at this
    have this : cs.length = _ := this
    omega
  have ha2 : ∀ i, afterU U p = some i → ∃ o ∈ K ++ cs, o.id = i ∧ o.kind = .put := fun i hi => by
    obtain ⟨o, h1, h2⟩ := ha i hi
    exact ⟨o, List.mem_append_left _ h1, h2⟩
  obtain ⟨ps, e2, m2, c2, sn, _⟩ := puts_go nx c (A ++ cs) (K ++ cs) (afterU U p) m1.uni m1.own m1.bd ha2 sg (by rw [List.length_append]; omega)
  have lps : ps.length = c.length := by
    have := congrArg List.length sn
    rwa [List.length_map] at this
  refine ⟨⟨?_, ?_, ?_, ?_, ?_, fun t i ht => ?_, fun t d ht => ?_⟩, cs, ps, ?_, m1.trans m2, ⟨c1, c2, sn⟩, by rw [List.length_append]; omega⟩
  · rw [hs]
    refine ⟨?_, sg.sg, by show c.length ≤ 2000; omega⟩
    show X.length + (p - q) + g ≤ _
    omega
  · show (stOf x K).known.length + (stOf x K).waits.length + g + c.length ≤ 6000
    rw [stOf_waits]
    show _ + 0 + g + c.length ≤ 6000
    omega
  · rw [hs]; omega
  · omega
  · rw [stOf_order, h.ord.is]
    have h1 : (ordD K).length ≤ (K.map Op.id).length := len_sub h.ord.nd fun i hi => by
      obtain ⟨o, h1, _, h3⟩ := (h.ord.mem i).mp hi
      rw [← h3]
      exact List.mem_map_of_mem h1
    rw [List.length_map] at h1
    omega
  · rw [ec] at ht ⊢
    exact cuts_fit nx u h bd hc (by omega) t i ht
  · rw [ec, ea, e1]
    exact puts_fit nx m1.uni m1.own m1.bd ha2 sg (by rw [List.length_append]; omega) t d ht
  · unfold editM
    rw [ec, ea, e1]
    show ((putsF (stOf x (K ++ cs)) (afterU U p) c).1, cs ++ (putsF (stOf x (K ++ cs)) (afterU U p) c).2) = _
    rw [e2, List.append_assoc]
end K80
namespace K80
open PySem PySem.Spec PyProof.Rows L2 Gx GxR NdefX
/-! ### the law's own order: the tree's walk -/
inductive Walk (A : List Op) : List Id → List Id → Prop
  | nil : Walk A [] []
  | step {l : List Id} {own : Id} {out : List Id} : Walk A (l ++ sortI (childs A (some own))) out → Walk A (l ++ [own]) (own :: out)
theorem childs_snocP {A : List Op} {o : Op} (hk : o.kind = .put) : childs (A ++ [o]) o.ref = childs A o.ref ++ [o.id] := by
  unfold childs
  rw [List.filter_append, List.map_append]
  simp [hk]
theorem sort_snoc {l : List Id} {i : Id} (h : ∀ j ∈ l, leI j i = true) : sortI (l ++ [i]) = sortI l ++ [i] := by
  symm
  refine sortI_is (List.pairwise_append.mpr ⟨sortI_up l, List.pairwise_singleton _ _, fun a ha b hb => ?_⟩) ((sortI_perm l).append_right _)
  rw [List.mem_singleton.mp hb]
  exact h a ((sortI_perm l).mem_iff.mp ha)
theorem leI_of {i j : Id} (h : i.1 < j.1) : leI i j = true := by
  unfold leI
  rw [ltI_of h]
  rfl
theorem childs_nil {A : List Op} {i : Id} (h : ∀ o ∈ A, o.ref ≠ some i) : childs A (some i) = [] := by
  unfold childs
  rw [List.map_eq_nil_iff, List.filter_eq_nil_iff]
  intro o ho e
  rw [Bool.and_eq_true, decide_eq_true_eq, decide_eq_true_eq] at e
  exact h o ho e.2
def subD (o : Op) (out : List Id) : List Id := match o.ref with
  | none => out
  | some r => insD out (some r) o.id
theorem insD_cons (a : Id) (t : List Id) (r i : Id) : insD (a :: t) (some r) i = (if a = r then [a, i] else [a]) ++ insD t (some r) i := by
  show (a :: t).flatMap _ = _
  rw [List.flatMap_cons]
  rfl
/-- one more element, the greatest of those under its own one -/
theorem Walk.put {A : List Op} {o : Op} (hk : o.kind = .put) (gr : ∀ j ∈ childs A o.ref, leI j o.id = true) (nc : ∀ p ∈ A, p.ref ≠ some o.id) (ns : o.ref ≠ some o.id) {left out : List Id} (h : Walk A left out) : Walk (A ++ [o]) left (subD o out) := by
  induction h with
  | nil =>
    have : subD o [] = [] := by
      unfold subD
      cases o.ref <;> rfl
    rw [this]
    exact .nil
  | @step l own out h ih =>
    by_cases e : o.ref = some own
    · have e1 : subD o (own :: out) = own :: o.id :: subD o out := by
        unfold subD
        rw [e]
        show insD (own :: out) (some own) o.id = _
        rw [insD_cons, if_pos rfl]
        rfl
      rw [e1]
      refine .step ?_
      rw [← e, childs_snocP hk, sort_snoc gr, ← List.append_assoc]
      refine .step ?_
      rw [childs_snoc_other _ (.inr fun z => ns z), childs_nil nc]
      have : sortI [] = [] := List.perm_nil.mp (sortI_perm [])
      rw [this, List.append_nil, e]
      exact ih
    · have e1 : subD o (own :: out) = own :: subD o out := by
        unfold subD
        cases hr : o.ref with
        | none => rfl
        | some r =>
          show insD (own :: out) (some r) o.id = _
          rw [insD_cons, if_neg (fun z => e (by rw [hr, z]))]
          rfl
      rw [e1]
      refine .step ?_
      rw [childs_snoc_other _ (.inr e)]
      exact ih
theorem Walk.other {A : List Op} {o : Op} (hk : o.kind ≠ .put) {left out : List Id} (h : Walk A left out) : Walk (A ++ [o]) left out := by
  induction h with
  | nil => exact .nil
  | step h ih =>
    refine .step ?_
    rw [childs_snoc_other _ (.inl hk)]
    exact ih
theorem walk_root {A : List Op} {o : Op} (hk : o.kind = .put) (gr : ∀ j ∈ childs A o.ref, leI j o.id = true) (nc : ∀ p ∈ A, p.ref ≠ some o.id) (ns : o.ref ≠ some o.id) {out : List Id} (h : Walk A (sortI (childs A none)) out) : Walk (A ++ [o]) (sortI (childs (A ++ [o]) none)) (insD out o.ref o.id) := by
  have h1 := Walk.put hk gr nc ns h
  cases hr : o.ref with
  | none =>
    have e : subD o out = out := by unfold subD; rw [hr]
    rw [e] at h1
    have := childs_snocP (A := A) hk
    rw [hr] at this gr
    rw [this, sort_snoc gr]
    refine .step ?_
    rw [childs_snoc_other _ (.inr fun z => ns z), childs_nil nc]
    have : sortI [] = [] := List.perm_nil.mp (sortI_perm [])
    rw [this, List.append_nil]
    exact h1
  | some r =>
    have e : subD o out = insD out (some r) o.id := by unfold subD; rw [hr]
    rw [e] at h1
    rw [childs_snoc_other _ (.inr (by rw [hr]; exact Option.some_ne_none _))]
    exact h1
/-- new elements are the greatest of those under their own ones -/
def Great (A : List Op) : Prop := ∀ (k : Nat) (o p : Op), A[k]? = some o → p ∈ A.take k → o.kind = .put → p.kind = .put → p.ref = o.ref → p.id.1 < o.id.1
theorem walk_all : ∀ {A : List Op}, Rf A → Great A → Walk A (sortI (childs A none)) (ordD A) := fun {A} => by
  induction A using snocRec with
  | h0 =>
    intro _ _
    have : sortI (childs [] none) = [] := List.perm_nil.mp (sortI_perm [])
    rw [this]
    exact .nil
  | h1 A o ih =>
    intro rf g
    have i1 := ih rf.pre fun k p q e hq => by
      have t := take_app (B := [o]) e
      exact g k p q t.2 (by rw [t.1]; exact hq)
    rw [ordD_snoc]
    unfold dStep
    by_cases e : o.kind = .put
    · rw [if_pos e]
      have b := (List.pairwise_append.mp rf.back).2.2
      refine walk_root e (fun j hj => ?_) (fun p hp => b p hp o List.mem_cons_self) (rf.self (List.mem_append_right _ List.mem_cons_self)) i1
      unfold childs at hj
      obtain ⟨p, hp, rfl⟩ := List.mem_map.mp hj
      rw [List.mem_filter, Bool.and_eq_true, decide_eq_true_eq, decide_eq_true_eq] at hp
      exact leI_of (g A.length o p (by rw [List.getElem?_append_right (Nat.le_refl _), Nat.sub_self]; rfl) (by rw [List.take_left' rfl]; exact hp.1) e hp.2.1 hp.2.2)
    · rw [if_neg e, childs_snoc_other _ (.inl e)]
      exact i1.other e
theorem Walk.len {A : List Op} {left out : List Id} (h : Walk A left out) : left.length ≤ out.length := by
  induction h with
  | nil => exact Nat.le_refl _
  | step h ih =>
    rw [List.length_append] at ih
    rw [List.length_append]
    simp only [List.length_cons, List.length_nil]
    omega
theorem Walk.ord {A : List Op} (lA : A.length ≤ 1000) {left out : List Id} (h : Walk A left out) : ∀ found : List Id, found.length + out.length ≤ 1000 → OrdN A (found ++ out) out.length left found := by
  induction h with
  | nil =>
    intro found _
    exact ⟨rfl, by rw [List.append_nil]⟩
  | @step l own out h ih =>
    intro found hl
    rw [List.length_cons] at hl
    have h1 := h.len
    rw [List.length_append] at h1
    have := ih (found ++ [own]) (by rw [List.length_append, List.length_singleton]; omega)
    rw [List.append_assoc] at this
    exact ⟨l, own, rfl, by omega, by omega, this⟩
/-! ### the law's text -/
theorem inI_put (l : List Id) (i j : Id) : inI (putG (fun r : Id => r) l i) j = (decide (i = j) || inI l j) := by
  unfold inI
  rw [lk_put (key := fun r : Id => r)]
  by_cases e : i = j
  · rw [if_pos e, decide_eq_true e]; rfl
  · rw [if_neg e, decide_eq_false e]; rfl
theorem cov_is (j : Id) : ∀ A : List Op, (∀ o ∈ A, o.kind = .cut → o.ref ≠ none) → inI (covM A) j = !(spk .cut A j).isEmpty := fun A => by
  induction A using snocRec with
  | h0 => exact fun _ => rfl
  | h1 A o ih =>
    intro h
    have i1 := ih fun p hp => h p (List.mem_append_left _ hp)
    have e : covM (A ++ [o]) = covStep (covM A) o := by unfold covM; rw [List.foldl_append]; rfl
    rw [e, spk_snoc]
    by_cases hk : o.kind = .cut
    · obtain ⟨i, hi⟩ := Option.ne_none_iff_exists'.mp (h o (List.mem_append_right _ List.mem_cons_self) hk)
      have e2 : covStep (covM A) o = putG (fun r : Id => r) (covM A) i := by unfold covStep; rw [hk, hi]
      have e3 : refOf o = i := by unfold refOf; rw [hi]; rfl
      rw [e2, inI_put, i1, e3]
      by_cases c : i = j
      · rw [decide_eq_true c, if_pos ⟨hk, c⟩]
        simp
      · rw [decide_eq_false c, if_neg (fun z => c z.2)]
        rfl
    · have e2 : covStep (covM A) o = covM A := by
        unfold covStep
        cases hkk : o.kind with
        | cut => exact absurd hkk hk
        | put => rfl
        | undo => rfl
      rw [e2, if_neg (fun z => hk z.1), i1]
theorem sg_keys : ∀ A : List Op, ∀ i, i ∈ (sgM A).map (·.1) ↔ ∃ o ∈ A, o.kind = .put ∧ o.id = i := fun A => by
  induction A using snocRec with
  | h0 => exact fun i => ⟨fun h => (by cases h), fun ⟨o, h, _⟩ => (by cases h)⟩
  | h1 A o ih =>
    intro i
    have e : sgM (A ++ [o]) = sgStep (sgM A) o := by unfold sgM; rw [List.foldl_append]; rfl
    rw [e]
    unfold sgStep
    by_cases hk : o.kind = .put
    · rw [if_pos hk]
      have := keys_put (key := fun r : Id × Nat => r.1) (sgM A) (o.id, o.sign) i
      rw [show (i ∈ (putG (fun r : Id × Nat => r.1) (sgM A) (o.id, o.sign)).map (·.1)) ↔ _ from this, ih]
      constructor
      · rintro (z | ⟨p, h1, h2⟩)
        · exact ⟨o, List.mem_append_right _ List.mem_cons_self, hk, z.symm⟩
        · exact ⟨p, List.mem_append_left _ h1, h2⟩
      · rintro ⟨p, h1, h2, h3⟩
        rcases List.mem_append.mp h1 with z | z
        · exact .inr ⟨p, z, h2, h3⟩
        · rw [List.mem_singleton.mp z] at h3
          exact .inl h3.symm
    · rw [if_neg hk, ih]
      constructor
      · rintro ⟨p, h1, h2⟩
        exact ⟨p, List.mem_append_left _ h1, h2⟩
      · rintro ⟨p, h1, h2, h3⟩
        rcases List.mem_append.mp h1 with z | z
        · exact ⟨p, z, h2, h3⟩
        · rw [List.mem_singleton.mp z] at h2
          exact absurd h2 hk
theorem sg_of : ∀ {A : List Op}, (A.map Op.id).Nodup → ∀ o ∈ A, o.kind = .put → sgOf (sgM A) o.id = o.sign := fun {A} => by
  induction A using snocRec with
  | h0 => exact fun _ o h => (by cases h)
  | h1 A p ih =>
    intro nd o ho hk
    have e : sgM (A ++ [p]) = sgStep (sgM A) p := by unfold sgM; rw [List.foldl_append]; rfl
    rw [e]
    have nd2 := nd
    rw [List.map_append, List.nodup_append] at nd2
    rcases List.mem_append.mp ho with z | z
    · have i1 := ih nd2.1 o z hk
      unfold sgStep
      split
      · unfold sgOf
        rw [lk_put (key := fun r : Id × Nat => r.1), if_neg (fun y => id_new nd z y.symm)]
        exact i1
      · exact i1
    · have : o = p := List.mem_singleton.mp z
      subst this
      unfold sgStep
      rw [if_pos hk]
      unfold sgOf
      rw [lk_put (key := fun r : Id × Nat => r.1), if_pos rfl]
      rfl
/-- the sign of an element -/
def sgA (A : List Op) (i : Id) : Nat := signOf A i
theorem sgA_of {A : List Op} (nd : (A.map Op.id).Nodup) {o : Op} (ho : o ∈ A) : sgA A o.id = o.sign := by
  unfold sgA signOf
  rw [lk_self nd ho]
  rfl
theorem law_out {A : List Op} (rf : Rf A) (cn : ∀ o ∈ A, o.kind = .cut → o.ref ≠ none) : ((ordD A).filter fun i => !inI (covM A) i).map (sgOf (sgM A)) = (vis A).map (sgA A) := by
  have e : (ordD A).filter (fun i => !inI (covM A) i) = vis A := by
    unfold vis
    refine List.filter_congr fun i _ => ?_
    rw [cov_is i A cn, Bool.not_not]
  rw [e]
  refine List.map_congr_left fun i hi => ?_
  obtain ⟨p, h1, h2, h3⟩ := vis_mem rf hi
  rw [← h2, sg_of rf.nd p h1 h3, sgA_of rf.nd h1]
end K80
namespace K80
open PySem PySem.Spec PyProof.Rows L2 Gx GxR NdefX
/-! ### edits by several, as blocks of operations -/
structure Bl where
  e : Ed
  own : Nat
  cs : List Op
  ps : List Op
def Bl.ops (B : Bl) : List Op := B.cs ++ B.ps
def flat (l : List Bl) : List Op := l.flatMap Bl.ops
def Bl.idE (B : Bl) : EdA Id := (B.e.1, B.e.2.1, B.ps.map Op.id)
def mine (j : Nat) (l : List Bl) : List Bl := l.filter fun B => decide (B.own = j)
theorem flat_app (l m : List Bl) : flat (l ++ m) = flat l ++ flat m := List.flatMap_append
theorem flat_one (B : Bl) : flat [B] = B.ops := by
  unfold flat
  simp
theorem mem_flat {l : List Bl} {o : Op} : o ∈ flat l ↔ ∃ B ∈ l, o ∈ B.ops := List.mem_flatMap
theorem mine_app (j : Nat) (l m : List Bl) : mine j (l ++ m) = mine j l ++ mine j m := List.filter_append ..
abbrev Bls (U : List Id) (l : List Bl) : Prop := ∀ B ∈ l, Blk U B.e B.cs B.ps
theorem Chain.put : ∀ {r : Option Id} {ps : List Op}, Chain r ps → ∀ o ∈ ps, o.kind = .put ∧ (o.ref = r ∨ ∃ p ∈ ps, o.ref = some p.id)
  | _, [], _, o, h => by cases h
  | r, p :: t, ⟨h1, h2, h3⟩, o, h => by
    rcases List.mem_cons.mp h with z | z
    · rw [z]; exact ⟨h1, .inl h2⟩
    · obtain ⟨a, b⟩ := h3.put o z
      refine ⟨a, .inr ?_⟩
      rcases b with b | ⟨q, hq, b⟩
      · exact ⟨p, List.mem_cons_self, b⟩
      · exact ⟨q, List.mem_cons_of_mem _ hq, b⟩
theorem Blk.kinds {U : List Id} {e : Ed} {cs ps : List Op} (h : Blk U e cs ps) : ∀ o ∈ cs ++ ps, o.kind ≠ .undo ∧ (o.kind = .cut → o.ref ≠ none) := by
  intro o ho
  rcases List.mem_append.mp ho with z | z
  · obtain ⟨a, i, _, b⟩ := h.cuts.some_ o z
    exact ⟨by rw [a]; decide, fun _ => by rw [b]; exact Option.some_ne_none _⟩
  · obtain ⟨a, _⟩ := h.puts.put o z
    exact ⟨by rw [a]; decide, fun e => by rw [a] at e; cases e⟩
theorem Bls.kinds {U : List Id} {l : List Bl} (h : Bls U l) : ∀ o ∈ flat l, o.kind ≠ .undo ∧ (o.kind = .cut → o.ref ≠ none) := by
  intro o ho
  obtain ⟨B, hB, ho⟩ := mem_flat.mp ho
  exact (h B hB).kinds o ho
structure Past (b : List Op) : Prop where
  nu : ∀ o ∈ b, o.kind ≠ .undo
  cn : ∀ o ∈ b, o.kind = .cut → o.ref ≠ none
/-- what shows behind some of the edits -/
theorem vis_bls {b : List Op} (pa : Past b) : ∀ {l : List Bl}, Bls (vis b) l → Rf (b ++ flat l) → ApE (vis b).length (l.map Bl.e) → vis (b ++ flat l) = accOut (vis b) (l.map Bl.idE) := fun {l} => by
  induction l using snocRec with
  | h0 =>
    intro _ _ _
    show vis (b ++ []) = _
    rw [List.append_nil]
    rfl
  | h1 l B ih =>
    intro hb rf ap
    rw [List.map_append] at ap
    rw [flat_app, flat_one, ← List.append_assoc] at rf ⊢
    have i1 := ih (fun C hC => hb C (List.mem_append_left _ hC)) rf.pre ap.pre
    have hB := hb B (List.mem_append_right _ List.mem_cons_self)
    have ap' : ApE (vis b).length (l.map Bl.idE ++ [B.idE]) := by
      have e : ∀ m : List Bl, ApE (vis b).length (m.map Bl.e) → ApE (vis b).length (m.map Bl.idE) := fun m h => by
        refine ⟨?_, fun e he => ?_⟩
        · have := h.apart
          rw [List.pairwise_map] at this ⊢
          exact this
        · obtain ⟨C, hC, rfl⟩ := List.mem_map.mp he
          exact h.in_ C.e (List.mem_map_of_mem hC)
      have := e (l ++ [B]) (by rw [List.map_append]; exact ap)
      rwa [List.map_append] at this
    rw [List.map_append, List.map_singleton]
    have nx := ap'.next (U := vis b)
    have hin := ap'.in_ B.idE (List.mem_append_right _ List.mem_cons_self)
    unfold accOut at i1 ⊢
    rw [acc_snoc]
    refine vis_blk hB rf (fun o ho hk => ?_) i1 nx hin
    rcases List.mem_append.mp ho with z | z
    · exact pa.cn o z hk
    · exact (Bls.kinds (fun C hC => hb C (List.mem_append_left _ hC)) o z).2 hk
/-! each new element has a place of its own -/
abbrev Dis (M : List Op) : Prop := ∀ p ∈ M, ∀ q ∈ M, p.kind = .put → q.kind = .put → p.ref = q.ref → p = q
theorem Dis.snoc {M : List Op} {o : Op} (h : Dis M) (n : o.kind = .put → ∀ p ∈ M, p.kind = .put → p.ref ≠ o.ref) : Dis (M ++ [o]) := by
  intro p hp q hq k1 k2 e
  rcases List.mem_append.mp hp with z | z <;> rcases List.mem_append.mp hq with y | y
  · exact h p z q y k1 k2 e
  · rw [List.mem_singleton.mp y] at k2 e
    exact absurd e (n k2 p z k1)
  · rw [List.mem_singleton.mp z] at k1 e
    exact absurd e.symm (n k1 q y k2)
  · rw [List.mem_singleton.mp z, List.mem_singleton.mp y]
theorem Dis.more {M N : List Op} (h : Dis M) (n : ∀ o ∈ N, o.kind ≠ .put) : Dis (M ++ N) := by
  intro p hp q hq k1 k2 e
  rcases List.mem_append.mp hp with z | z
  · rcases List.mem_append.mp hq with y | y
    · exact h p z q y k1 k2 e
    · exact absurd k2 (n q y)
  · exact absurd k1 (n p z)
theorem chain_dis {b : List Op} : ∀ (ps : List Op) (M : List Op) (r : Option Id), Rf (b ++ (M ++ ps)) → Chain r ps → Dis M → (∀ p ∈ M, p.kind = .put → p.ref ≠ r) → Dis (M ++ ps)
  | [], M, _, _, _, d, _ => by rw [List.append_nil]; exact d
  | o :: ps, M, r, rf, ⟨h1, h2, h3⟩, d, n => by
    have e : M ++ o :: ps = (M ++ [o]) ++ ps := by simp
    rw [e] at rf ⊢
    have rf1 : Rf ((b ++ M) ++ [o]) := by
      rw [← List.append_assoc, ← List.append_assoc] at rf
      exact rf.pre
    refine chain_dis ps (M ++ [o]) (some o.id) rf h3 (d.snoc fun _ p hp hk => by rw [h2]; exact n p hp hk) fun p hp _ => ?_
    rcases List.mem_append.mp hp with z | z
    · exact (List.pairwise_append.mp rf1.back).2.2 p (List.mem_append_right _ z) o List.mem_cons_self
    · rw [List.mem_singleton.mp z]
      exact rf1.self (List.mem_append_right _ List.mem_cons_self)
theorem afterU_inj {U : List Id} (nd : U.Nodup) {p q : Nat} (h : p < q) (hq : q ≤ U.length) : afterU U p ≠ afterU U q := by
  intro e
  unfold afterU at e
  rw [if_neg (show ¬ q = 0 by omega), List.getElem?_eq_getElem (show q - 1 < U.length by omega)] at e
  by_cases z : p = 0
  · rw [if_pos z] at e; cases e
  · rw [if_neg z, List.getElem?_eq_getElem (show p - 1 < U.length by omega)] at e
    have := (List.getElem_inj nd).mp (Option.some.inj e)
    omega
theorem afterU_mem {U : List Id} {p : Nat} {i : Id} (h : afterU U p = some i) : i ∈ U := by
  unfold afterU at h
  split at h
  · cases h
  · exact List.mem_of_getElem? h
theorem id_apart {b M : List Op} (nd : ((b ++ M).map Op.id).Nodup) {p q : Op} (hp : p ∈ b) (hq : q ∈ M) : p.id ≠ q.id := by
  rw [List.map_append, List.nodup_append] at nd
  exact nd.2.2 p.id (List.mem_map_of_mem hp) q.id (List.mem_map_of_mem hq)
theorem flat_dis {b : List Op} : ∀ {l : List Bl}, Bls (vis b) l → Rf (b ++ flat l) → ApE (vis b).length (l.map Bl.e) → Dis (flat l) ∧ ∀ q ∈ flat l, q.kind = .put → (∃ B ∈ l, q.ref = afterU (vis b) B.e.1) ∨ ∃ o ∈ flat l, q.ref = some o.id := fun {l} => by
  induction l using snocRec with
  | h0 =>
    intro _ _ _
    exact ⟨fun p hp => (by cases hp), fun q hq => (by cases hq)⟩
  | h1 l B ih =>
    intro hb rf ap
    rw [List.map_append] at ap
    rw [flat_app, flat_one] at rf ⊢
    have rf0 : Rf (b ++ flat l) := by
      rw [← List.append_assoc] at rf
      exact rf.pre
    have rfb : Rf b := rf0.pre
    obtain ⟨i1, i2⟩ := ih (fun C hC => hb C (List.mem_append_left _ hC)) rf0 ap.pre
    have hB := hb B (List.mem_append_right _ List.mem_cons_self)
    have hin := ap.in_ B.e (List.mem_append_right _ List.mem_cons_self)
    have cut : ∀ o ∈ B.cs, o.kind ≠ .put := fun o ho => by
      rw [(hB.cuts.some_ o ho).1]; decide
    have d1 := i1.more cut
    constructor
    · show Dis (flat l ++ (B.cs ++ B.ps))
      rw [← List.append_assoc]
      refine chain_dis (b := b) B.ps _ _ (by rw [List.append_assoc]; exact rf) hB.puts d1 fun p hp hk e => ?_
      rcases List.mem_append.mp hp with z | z
      · rcases i2 p z hk with ⟨C, hC, e2⟩ | ⟨o, ho, e2⟩
        · have lt := (List.pairwise_append.mp ap.apart).2.2 C.e (List.mem_map_of_mem hC) B.e List.mem_cons_self
          exact afterU_inj rfb.visNd (by omega) (by omega) (e2.symm.trans e)
        · rw [e2] at e
          obtain ⟨q, h1, h2, _⟩ := vis_mem rfb (afterU_mem e.symm)
          exact id_apart rf0.nd h1 ho h2
      · exact cut p z hk
    · intro q hq hk
      rcases List.mem_append.mp hq with z | z
      · rcases i2 q z hk with ⟨C, hC, e⟩ | ⟨o, ho, e⟩
        · exact .inl ⟨C, List.mem_append_left _ hC, e⟩
        · exact .inr ⟨o, List.mem_append_left _ ho, e⟩
      · rcases List.mem_append.mp (show q ∈ B.cs ++ B.ps from z) with y | y
        · exact absurd hk (cut q y)
        · rcases (hB.puts.put q y).2 with e | ⟨o, ho, e⟩
          · exact .inl ⟨B, List.mem_append_right _ List.mem_cons_self, e⟩
          · exact .inr ⟨o, List.mem_append_right _ (List.mem_append_right _ ho), e⟩
/-! ### texts -/
theorem sgA_app {b M : List Op} (nd : ((b ++ M).map Op.id).Nodup) {o : Op} (ho : o ∈ b) : sgA (b ++ M) o.id = sgA b o.id := by
  have nd2 := nd
  rw [List.map_append, List.nodup_append] at nd2
  rw [sgA_of nd (List.mem_append_left _ ho), sgA_of nd2.1 ho]
/-- what shows behind some of the edits, as a text: that of these edits at once -/
theorem text_bls {b A : List Op} (pa : Past b) {l : List Bl} (hb : Bls (vis b) l) (rf : Rf (b ++ flat l)) (ap : ApE (vis b).length (l.map Bl.e)) (nd : (A.map Op.id).Nodup) (sub : ∀ o ∈ b ++ flat l, o ∈ A) : (vis (b ++ flat l)).map (sgA A) = applied ((vis b).map (sgA A)) (l.map Bl.e) := by
  rw [applied_is (by rw [List.length_map]; exact ap), vis_bls pa hb rf ap, ← accOut_map, List.map_map]
  congr 1
  refine List.map_congr_left fun B hB => ?_
  show (B.e.1, B.e.2.1, (B.ps.map Op.id).map (sgA A)) = B.e
  have : (B.ps.map Op.id).map (sgA A) = B.e.2.2 := by
    rw [← (hb B hB).sign, List.map_map]
    refine List.map_congr_left fun o ho => ?_
    exact sgA_of nd (sub o (List.mem_append_right _ (mem_flat.mpr ⟨B, hB, List.mem_append_right _ ho⟩)))
  rw [this]
theorem spk_perm {k : Kd} {K L : List Op} (p : K.Perm L) (i : Id) : (spk k K i).isEmpty = (spk k L i).isEmpty := by
  rw [Bool.eq_iff_iff, spk_nil, spk_nil]
  exact ⟨fun h o ho => h o (p.mem_iff.mpr ho), fun h o ho => h o (p.mem_iff.mp ho)⟩
theorem sign_perm {K L : List Op} (ndK : (K.map Op.id).Nodup) (ndL : (L.map Op.id).Nodup) (sub : ∀ o ∈ K, o ∈ L) {i : Id} (hi : ∃ o ∈ K, o.id = i) : signOf K i = sgA L i := by
  obtain ⟨o, h1, rfl⟩ := hi
  rw [sgA_of ndL (sub o h1)]
  exact sgA_of ndK h1
/-- the text of a site that has carried out all of b and M -/
theorem text_all {b M Km : List Op} {x : Str} (w : Wd b (b ++ M)) (c : Cl (b ++ M) (b ++ Km)) (p : (b ++ Km).Perm (b ++ M)) (d : Dis M) (nu : ∀ o ∈ b ++ M, o.kind ≠ .undo) : textM (stOf x (b ++ Km)) = (vis (b ++ M)).map (sgA (b ++ M)) := by
  have od := w.ord Km c
  unfold textM
  rw [showing_vis od (fun o ho => nu o (p.mem_iff.mp ho)), stOf_known x _ c.nd]
  have e : vis (b ++ Km) = vis (b ++ M) := by
    unfold vis
    rw [same_order w.uni c p d]
    refine List.filter_congr fun i _ => spk_perm p i
  rw [e]
  refine List.map_congr_left fun i hi => ?_
  refine sign_perm c.nd w.uni.nd (fun o ho => p.mem_iff.mp ho) ?_
  obtain ⟨o, h1, h2, _⟩ := vis_mem (w.uni.self.rf w.uni) hi
  exact ⟨o, p.mem_iff.mpr h1, h2⟩
theorem text_own {K : List Op} {x : Str} (od : Ord K) (nu : ∀ o ∈ K, o.kind ≠ .undo) (nd : (K.map Op.id).Nodup) : textM (stOf x K) = (vis K).map (sgA K) := by
  unfold textM
  rw [showing_vis od nu, stOf_known x _ nd]
  rfl
theorem great_all {b M : List Op} {x : Str} (u : Uni (b ++ M)) (one : ∀ o ∈ b, o.id.2 = x) (high : ∀ o ∈ M, clk b < o.id.1) (d : Dis M) : Great (b ++ M) := by
  intro k o p hk hp k1 k2 e
  by_cases c : k < b.length
  · rw [List.getElem?_append_left c] at hk
    rw [List.take_append_of_le_length (Nat.le_of_lt c)] at hp
    have up := (u.pre.up x).1
    have eb : ofS x b = b := by
      unfold ofS
      rw [List.filter_eq_self]
      intro q hq
      rw [decide_eq_true_eq]
      exact one q hq
    rw [eb] at up
    have ek : b = b.take k ++ o :: b.drop (k + 1) := by
      obtain ⟨h1, h2⟩ := List.getElem?_eq_some_iff.mp hk
      conv => lhs; rw [← List.take_append_drop k b, List.drop_eq_getElem_cons h1, h2]
    rw [ek, List.pairwise_append] at up
    exact up.2.2 p hp o List.mem_cons_self
  · have hoM : o ∈ M := by
      rw [List.getElem?_append_right (by omega)] at hk
      exact List.mem_of_getElem? hk
    rcases List.mem_append.mp (List.mem_of_mem_take hp) with z | z
    · exact Nat.lt_of_le_of_lt (clk_ge b p z) (high o hoM)
    · exfalso
      have e2 : p = o := d p z o hoM k2 k1 e
      have rf := u.self.rf u
      have ek : b ++ M = (b ++ M).take k ++ o :: (b ++ M).drop (k + 1) := by
        obtain ⟨h1, h2⟩ := List.getElem?_eq_some_iff.mp hk
        conv => lhs; rw [← List.take_append_drop k (b ++ M), List.drop_eq_getElem_cons h1, h2]
      have nd := nd_of u.nd
      rw [ek, List.nodup_append] at nd
      exact nd.2.2 p hp o List.mem_cons_self e2
end K80
namespace K80
open PySem PySem.Spec PyProof.Rows L2 Gx GxR NdefX
/-! ### some edits turned off -/
theorem ordD_keep {p : Id → Bool} : ∀ {K : List Op}, (∀ o ∈ K, o.kind = .put → p o.id = true → ∀ r, o.ref = some r → p r = true) → (ordD K).filter p = ordD (K.filter fun o => p o.id) := fun {K} => by
  induction K using snocRec with
  | h0 => exact fun _ => rfl
  | h1 K o ih =>
    intro h
    have i1 := ih fun q hq => h q (List.mem_append_left _ hq)
    rw [ordD_snoc, List.filter_append]
    by_cases e : p o.id = true
    · have e2 : [o].filter (fun o => p o.id) = [o] := by simp [e]
      rw [e2, ordD_snoc, ← i1]
      unfold dStep
      by_cases k : o.kind = .put
      · rw [if_pos k, if_pos k]
        exact insD_filter e (h o (List.mem_append_right _ List.mem_cons_self) k e) _
      · rw [if_neg k, if_neg k]
    · have e2 : [o].filter (fun o => p o.id) = [] := by simp [e]
      rw [e2, List.append_nil, ← i1]
      unfold dStep
      by_cases k : o.kind = .put
      · rw [if_pos k]
        refine insD_drop ?_ _
        cases h : p o.id with
        | false => rfl
        | true => exact absurd h e
      · rw [if_neg k]
theorem ordD_noput {K N : List Op} (n : ∀ o ∈ N, o.kind ≠ .put) : ordD (K ++ N) = ordD K := by
  induction N using snocRec with
  | h0 => rw [List.append_nil]
  | h1 N o ih =>
    rw [← List.append_assoc, ordD_snoc, ih fun p hp => n p (List.mem_append_left _ hp)]
    unfold dStep
    rw [if_neg (n o (List.mem_append_right _ List.mem_cons_self))]
theorem inI_iff (l : List Id) (i : Id) : inI l i = true ↔ i ∈ l := by
  unfold inI lkG
  rw [List.find?_isSome]
  constructor
  · rintro ⟨x, hx, e⟩
    rw [decide_eq_true_eq] at e
    exact e ▸ hx
  · intro h
    exact ⟨i, h, decide_eq_true rfl⟩
/-- all that is undone is off, if no undo is undone -/
theorem off_all {x : Str} {K : List Op} (h : ∀ o ∈ K, o.kind = .undo → ∀ p ∈ K, p.kind = .undo → refOf p ≠ o.id) (i : Id) : inI (offM (stOf x K).undone) i = true ↔ ∃ o ∈ K, o.kind = .undo ∧ refOf o = i := by
  rw [← stOf_ukeys x i K]
  have keys : ∀ j, j ∈ (sortI ((stOf x K).undone.map fun r : Id × List Id => r.1)).reverse ↔ j ∈ (stOf x K).undone.map fun r : Id × List Id => r.1 := fun j => by
    rw [List.mem_reverse]
    exact (sortI_perm _).mem_iff
  have go : ∀ (l f : List Id), (∀ j ∈ l, j ∈ (stOf x K).undone.map fun r : Id × List Id => r.1) → (∀ j ∈ f, j ∈ (stOf x K).undone.map fun r : Id × List Id => r.1) → ∀ j, j ∈ l.foldl (offStep (stOf x K).undone) f ↔ j ∈ f ∨ j ∈ l := by
    intro l
    induction l with
    | nil => intro f _ _ j; simp
    | cons a t ih =>
      intro f hl hf j
      have step : offStep (stOf x K).undone f a = putG (fun r : Id => r) f a := by
        unfold offStep
        refine if_pos ?_
        obtain ⟨o, ho, hk, hr⟩ := (stOf_ukeys x a K).mp (hl a List.mem_cons_self)
        rw [stOf_undone, List.any_eq_true]
        refine ⟨o.id, ?_, ?_⟩
        · unfold spk
          exact List.mem_map_of_mem (List.mem_filter.mpr ⟨ho, by rw [decide_eq_true hk, decide_eq_true hr]; rfl⟩)
        · cases e : inI f o.id with
          | false => rfl
          | true =>
            exfalso
            obtain ⟨p, hp, hk2, hr2⟩ := (stOf_ukeys x o.id K).mp (hf _ ((inI_iff _ _).mp e))
            exact h o ho hk p hp hk2 hr2
      have mem : ∀ k, k ∈ putG (fun r : Id => r) f a ↔ k = a ∨ k ∈ f := fun k => by
        have := keys_put (key := fun r : Id => r) f a k
        rwa [show (fun r : Id => r) = id from rfl, List.map_id, List.map_id] at this
      show j ∈ t.foldl _ (offStep (stOf x K).undone f a) ↔ _
      rw [step, ih _ (fun k hk => hl k (List.mem_cons_of_mem _ hk)) (fun k hk => by
        rcases (mem k).mp hk with z | z
        · rw [z]; exact hl a List.mem_cons_self
        · exact hf k z) j, mem, List.mem_cons]
      constructor
      · rintro ((z | z) | z)
        · exact .inr (.inl z)
        · exact .inl z
        · exact .inr (.inr z)
      · rintro (z | z | z)
        · exact .inl (.inr z)
        · exact .inl (.inl z)
        · exact .inr z
  rw [inI_iff]
  unfold offM
  rw [go _ [] (fun j hj => (keys j).mp hj) (fun j hj => nomatch hj) i, keys]
  simp
/-- the undos of the edits that are turned off -/
structure Offs (zs : List (Bl × Bool)) (os : List Op) : Prop where
  kind : ∀ o ∈ os, o.kind = .undo ∧ ∃ z ∈ zs, z.2 = true ∧ ∃ p ∈ z.1.ops, o.ref = some p.id
  all : ∀ z ∈ zs, z.2 = true → ∀ p ∈ z.1.ops, ∃ o ∈ os, o.ref = some p.id
def allB (zs : List (Bl × Bool)) : List Bl := zs.map (·.1)
def keptB (zs : List (Bl × Bool)) : List Bl := (zs.filter fun z => !z.2).map (·.1)
def isOff (zs : List (Bl × Bool)) (i : Id) : Bool := zs.any fun z => z.2 && z.1.ops.any fun o => decide (o.id = i)
theorem isOff_iff {zs : List (Bl × Bool)} {i : Id} : isOff zs i = true ↔ ∃ z ∈ zs, z.2 = true ∧ ∃ p ∈ z.1.ops, p.id = i := by
  unfold isOff
  rw [List.any_eq_true]
  constructor
  · rintro ⟨z, hz, e⟩
    rw [Bool.and_eq_true, List.any_eq_true] at e
    obtain ⟨e1, p, hp, e2⟩ := e
    exact ⟨z, hz, e1, p, hp, by rwa [decide_eq_true_eq] at e2⟩
  · rintro ⟨z, hz, e1, p, hp, e2⟩
    exact ⟨z, hz, by rw [Bool.and_eq_true, List.any_eq_true]; exact ⟨e1, p, hp, decide_eq_true e2⟩⟩
theorem mem_allB {zs : List (Bl × Bool)} {z : Bl × Bool} (h : z ∈ zs) {o : Op} (ho : o ∈ z.1.ops) : o ∈ flat (allB zs) := mem_flat.mpr ⟨z.1, List.mem_map_of_mem h, ho⟩
/-- blocks have no operation in common -/
theorem kept_flat : ∀ (zs : List (Bl × Bool)), ((flat (allB zs)).map Op.id).Nodup → ∀ q : Id → Bool, (∀ z ∈ zs, ∀ o ∈ z.1.ops, q o.id = !z.2) → (flat (allB zs)).filter (fun o => q o.id) = flat (keptB zs)
  | [], _, _, _ => rfl
  | z :: zs, nd, q, hq => by
    have e1 : flat (allB (z :: zs)) = z.1.ops ++ flat (allB zs) := List.flatMap_cons
    rw [e1] at nd ⊢
    rw [List.map_append, List.nodup_append] at nd
    rw [List.filter_append, kept_flat zs nd.2.1 q fun y hy => hq y (List.mem_cons_of_mem _ hy)]
    unfold keptB
    cases hz : z.2 with
    | true =>
      have e2 : z.1.ops.filter (fun o => q o.id) = [] := by
        rw [List.filter_eq_nil_iff]
        intro o ho e
        rw [hq z List.mem_cons_self o ho, hz] at e
        cases e
      rw [e2, List.filter_cons, hz]
      rfl
    | false =>
      have e2 : z.1.ops.filter (fun o => q o.id) = z.1.ops := by
        rw [List.filter_eq_self]
        intro o ho
        rw [hq z List.mem_cons_self o ho, hz]
        rfl
      rw [e2, List.filter_cons, hz]
      rw [show (!false) = true from rfl, if_pos rfl, List.map_cons]
      exact List.flatMap_cons.symm
theorem off_apart {zs : List (Bl × Bool)} : ((flat (allB zs)).map Op.id).Nodup → ∀ z ∈ zs, ∀ o ∈ z.1.ops, isOff zs o.id = z.2 := by
  induction zs with
  | nil => intro _ z hz; cases hz
  | cons y zs ih =>
    intro nd z hz o ho
    have e1 : flat (allB (y :: zs)) = y.1.ops ++ flat (allB zs) := List.flatMap_cons
    rw [e1, List.map_append, List.nodup_append] at nd
    have e2 : isOff (y :: zs) o.id = ((y.2 && y.1.ops.any fun p => decide (p.id = o.id)) || isOff zs o.id) := rfl
    rcases List.mem_cons.mp hz with c | c
    · subst c
      have h1 : (z.1.ops.any fun p => decide (p.id = o.id)) = true := List.any_eq_true.mpr ⟨o, ho, decide_eq_true rfl⟩
      have h2 : isOff zs o.id = false := by
        cases e : isOff zs o.id with
        | false => rfl
        | true =>
          obtain ⟨y, hy, _, p, hp, e3⟩ := isOff_iff.mp e
          exact absurd e3.symm (nd.2.2 o.id (List.mem_map_of_mem ho) p.id (List.mem_map_of_mem (mem_allB hy hp)))
      rw [e2, h1, h2]
      cases z.2 <;> rfl
    · have h1 : (y.1.ops.any fun p => decide (p.id = o.id)) = false := by
        rw [List.any_eq_false]
        intro p hp e
        rw [decide_eq_true_eq] at e
        exact nd.2.2 p.id (List.mem_map_of_mem hp) o.id (List.mem_map_of_mem (mem_allB c ho)) e
      rw [e2, h1, ih nd.2.1 z c o ho]
      cases y.2 <;> rfl
theorem keep_sub (zs : List (Bl × Bool)) : (keptB zs).Sublist (allB zs) := List.Sublist.map _ List.filter_sublist
theorem blk_refs {U : List Id} {B : Bl} (h : Blk U B.e B.cs B.ps) : ∀ o ∈ B.ops, ∀ r, o.ref = some r → r ∈ U ∨ ∃ p ∈ B.ops, p.id = r := by
  intro o ho r er
  rcases List.mem_append.mp (show o ∈ B.cs ++ B.ps from ho) with z | z
  · obtain ⟨_, i, hi, e⟩ := h.cuts.some_ o z
    rw [e] at er
    cases er
    exact .inl (List.mem_of_mem_drop (List.mem_of_mem_take hi))
  · rcases (h.puts.put o z).2 with e | ⟨p, hp, e⟩
    · exact .inl (afterU_mem (e.symm.trans er))
    · rw [e] at er
      cases er
      exact .inr ⟨p, List.mem_append_right _ hp, rfl⟩
theorem filter_rf {K : List Op} (rf : Rf K) {p : Op → Bool} (h : ∀ o ∈ K, p o = true → ∀ q ∈ K, o.ref = some q.id → p q = true) : Rf (K.filter p) := by
  induction K using snocRec with
  | h0 => exact Rf.nil
  | h1 K o ih =>
    have i1 := ih rf.pre fun a ha ka b hb e => h a (List.mem_append_left _ ha) ka b (List.mem_append_left _ hb) e
    rw [List.filter_append]
    by_cases e : p o = true
    · have e2 : [o].filter p = [o] := by simp [e]
      rw [e2]
      refine i1.snoc (fun z => ?_) fun r er => ?_
      · obtain ⟨q, hq, e3⟩ := List.mem_map.mp z
        exact id_new rf.nd (List.mem_filter.mp hq).1 e3
      · obtain ⟨q, h1, h2, h3⟩ := rf.last er
        exact ⟨q, List.mem_filter.mpr ⟨h1, h o (List.mem_append_right _ List.mem_cons_self) e q (List.mem_append_left _ h1) (by rw [er, h2])⟩, h2, h3⟩
    · have e2 : [o].filter p = [] := by simp [e]
      rw [e2, List.append_nil]
      exact i1
/-- the text of a site that has carried out b, all edits and the undos of some of them -/
theorem text_off {b N Km : List Op} {zs : List (Bl × Bool)} {x : Str} (pa : Past b) (hb : Bls (vis b) (allB zs)) (ap : ApE (vis b).length ((allB zs).map Bl.e)) (of_ : Offs zs N)
    (w : Wd b (b ++ (flat (allB zs) ++ N))) (c : Cl (b ++ (flat (allB zs) ++ N)) (b ++ Km)) (p : (b ++ Km).Perm (b ++ (flat (allB zs) ++ N))) (d : Dis (flat (allB zs))) :
    textM (stOf x (b ++ Km)) = applied ((vis b).map (sgA b)) ((keptB zs).map Bl.e) := by
  have od := w.ord Km c
  have rfA := w.uni.self.rf w.uni
  have rf : Rf (b ++ flat (allB zs)) := by
    rw [← List.append_assoc] at rfA
    exact rfA.pre
  have ndA := w.uni.nd
  have kN : ∀ o ∈ N, o.kind = .undo := fun o ho => (of_.kind o ho).1
  have kM : ∀ o ∈ b ++ flat (allB zs), o.kind ≠ .undo := fun o ho => by
    rcases List.mem_append.mp ho with z | z
    · exact pa.nu o z
    · exact (hb.kinds o z).1
  have split : ∀ o, o ∈ b ++ Km ↔ o ∈ b ++ flat (allB zs) ∨ o ∈ N := fun o => by
    rw [p.mem_iff, ← List.append_assoc, List.mem_append]
  have undoN : ∀ o ∈ b ++ Km, o.kind = .undo → o ∈ N := fun o ho hk => ((split o).mp ho).elim (fun z => absurd hk (kM o z)) id
  have offI : ∀ i, inI (offM (stOf x (b ++ Km)).undone) i = isOff zs i := fun i => by
    rw [Bool.eq_iff_iff, off_all (x := x) (K := b ++ Km) (fun o ho hk q hq hk2 e => ?_) i, isOff_iff]
    · constructor
      · rintro ⟨o, ho, hk, hr⟩
        obtain ⟨_, z, hz, hz2, q, hq, e⟩ := of_.kind o (undoN o ho hk)
        refine ⟨z, hz, hz2, q, hq, ?_⟩
        rw [← hr]
        unfold refOf
        rw [e]
        rfl
      · rintro ⟨z, hz, hz2, q, hq, e⟩
        obtain ⟨o, ho, er⟩ := of_.all z hz hz2 q hq
        refine ⟨o, (split o).mpr (.inr ho), kN o ho, ?_⟩
        unfold refOf
        rw [er]
        exact e
    · obtain ⟨_, z, hz, hz2, r, hr, er⟩ := of_.kind q (undoN q hq hk2)
      have e2 : r.id = o.id := by
        rw [← e]
        unfold refOf
        rw [er]
        rfl
      have hoN := undoN o ho hk
      rw [← List.append_assoc] at ndA
      exact id_apart ndA (List.mem_append_right _ (mem_allB hz hr)) hoN e2
  have offb : ∀ o ∈ b, isOff zs o.id = false := fun o ho => by
    cases e : isOff zs o.id with
    | false => rfl
    | true =>
      obtain ⟨z, hz, _, q, hq, e2⟩ := isOff_iff.mp e
      exact absurd e2.symm (id_apart rf.nd ho (mem_allB hz hq))
  have ndF : ((flat (allB zs)).map Op.id).Nodup := by
    have := rf.nd
    rw [List.map_append, List.nodup_append] at this
    exact this.2.1
  have refoff : ∀ o ∈ b ++ flat (allB zs), isOff zs o.id = false → ∀ r, o.ref = some r → isOff zs r = false := fun o ho hoff r er => by
    rcases List.mem_append.mp ho with z | z
    · obtain ⟨k, hk⟩ := mem_at z
      obtain ⟨q, hq, e, _⟩ := rf.pre.ref k o r hk er
      rw [← e]
      exact offb q (List.mem_of_mem_take hq)
    · obtain ⟨B, hB, hoB⟩ := mem_flat.mp z
      obtain ⟨y, hy, rfl⟩ := List.mem_map.mp hB
      rcases blk_refs (hb y.1 hB) o hoB r er with hr | ⟨q, hq, e⟩
      · obtain ⟨q, h1, h2, _⟩ := vis_mem rf.pre hr
        rw [← h2]
        exact offb q h1
      · rw [← e, off_apart ndF y hy q hq]
        rw [off_apart ndF y hy o hoB] at hoff
        exact hoff
  have keep : (b ++ flat (allB zs)).filter (fun o => !isOff zs o.id) = b ++ flat (keptB zs) := by
    rw [List.filter_append, kept_flat zs ndF (fun i => !isOff zs i) fun z hz o ho => by rw [off_apart ndF z hz o ho]]
    congr 1
    rw [List.filter_eq_self]
    intro o ho
    rw [offb o ho]
    rfl
  have rfK : Rf (b ++ flat (keptB zs)) := by
    rw [← keep]
    refine filter_rf rf fun o ho k q hq e => ?_
    rw [Bool.not_eq_true'] at k ⊢
    exact refoff o ho k q.id e
  have ord : (ordD (b ++ Km)).filter (fun i => !isOff zs i) = ordD (b ++ flat (keptB zs)) := by
    rw [same_order w.uni c p (d.more fun o ho => by rw [kN o ho]; decide), ← List.append_assoc, ordD_noput fun o ho => by rw [kN o ho]; decide]
    rw [ordD_keep fun o ho _ k r er => ?_, keep]
    rw [Bool.not_eq_true'] at k ⊢
    exact refoff o ho k r er
  have show_ : showing (stOf x (b ++ Km)) = vis (b ++ flat (keptB zs)) := by
    unfold showing vis
    rw [← ord, List.filter_filter, stOf_order, od.is]
    refine List.filter_congr fun i _ => ?_
    unfold showB
    rw [offI, stOf_cuts, Bool.and_comm]
    congr 1
    rw [Bool.eq_iff_iff, spk_nil, List.all_eq_true]
    constructor
    · intro h o ho hk e
      have hoM : o ∈ b ++ flat (allB zs) := by
        rw [← keep] at ho
        exact (List.mem_filter.mp ho).1
      have hoff : isOff zs o.id = false := by
        rw [← keep] at ho
        have := (List.mem_filter.mp ho).2
        rwa [Bool.not_eq_true'] at this
      have := h o.id (by
        unfold spk
        exact List.mem_map_of_mem (List.mem_filter.mpr ⟨(split o).mpr (.inl hoM), by rw [decide_eq_true hk, decide_eq_true e]; rfl⟩))
      rw [offI, hoff] at this
      cases this
    · intro h j hj
      unfold spk at hj
      obtain ⟨o, ho, rfl⟩ := List.mem_map.mp hj
      rw [List.mem_filter, Bool.and_eq_true, decide_eq_true_eq, decide_eq_true_eq] at ho
      rw [offI]
      cases e : isOff zs o.id with
      | true => rfl
      | false =>
        exfalso
        rcases (split o).mp ho.1 with z | z
        · refine h o ?_ ho.2.1 ho.2.2
          rw [← keep]
          exact List.mem_filter.mpr ⟨z, by rw [e]; rfl⟩
        · rw [kN o z] at ho
          exact absurd ho.2.1 (by decide)
  have ndAll : ((b ++ flat (allB zs)).map Op.id).Nodup := rf.nd
  have subK : ∀ o ∈ b ++ flat (keptB zs), o ∈ b ++ flat (allB zs) := fun o ho => by
    rw [← keep] at ho
    exact (List.mem_filter.mp ho).1
  have hbK : Bls (vis b) (keptB zs) := fun B hB => hb B ((keep_sub zs).subset hB)
  have apK : ApE (vis b).length ((keptB zs).map Bl.e) := ap.sub ((keep_sub zs).map _)
  unfold textM
  rw [show_, stOf_known x _ c.nd]
  have e1 : (vis (b ++ flat (keptB zs))).map (signOf (b ++ Km)) = (vis (b ++ flat (keptB zs))).map (sgA (b ++ flat (allB zs))) := by
    refine List.map_congr_left fun i hi => ?_
    obtain ⟨o, h1, h2, _⟩ := vis_mem rfK hi
    have hoM := subK o h1
    rw [← h2, sgA_of ndAll hoM]
    exact sgA_of c.nd ((split o).mpr (.inl hoM))
  rw [e1, text_bls pa hbK rfK apK ndAll subK]
  congr 1
  refine List.map_congr_left fun i hi => ?_
  obtain ⟨o, h1, h2, _⟩ := vis_mem rf.pre hi
  rw [← h2, sgA_app ndAll h1]
end K80
namespace K80
open PySem PySem.Spec PyProof.Rows L2 Gx GxR NdefX
/-! ### the hands of the law, deed by deed -/
structure Base (A : List Op) (x : Str) : Prop where
  uni : Uni A
  own : Own A x A
  bd : Bd A
  nu : ∀ o ∈ A, o.kind ≠ .undo
  cn : ∀ o ∈ A, o.kind = .cut → o.ref ≠ none
  one : ∀ o ∈ A, o.id.2 = x
  sg : ∀ o ∈ A, o.sign < 1000
theorem Base.past {A : List Op} {x : Str} (h : Base A x) : Past A := ⟨h.nu, h.cn⟩
theorem Base.nil (x : Str) : Base [] x := ⟨⟨List.nodup_nil, (fun o h => nomatch h), (fun k o e => by simp at e), (fun k o r e => by simp at e), by decide⟩, ⟨Cl.nil _, rfl, Ord.nil⟩, (fun o h => nomatch h), (fun o h => nomatch h), (fun o h => nomatch h), (fun o h => nomatch h), (fun o h => nomatch h)⟩
theorem stOf_nil (x : Str) : stOf x [] = sm0 x := rfl
/-- an edit of the text with a past -/
theorem base_step {A : List Op} {x : Str} (nx : Nam x) (h : Base A x) {p g : Nat} {c : List Nat} (hn : p + g ≤ (vis A).length) (sg : Sgs c) (lc : c.length ≤ 100) (lg : g ≤ 100) (l : A.length + 300 ≤ 1000) :
    EdFit (stOf x A) (p, g, c) ∧ (editM (stOf x A) (p, g, c)).1 = stOf x (A ++ (editM (stOf x A) (p, g, c)).2) ∧ Base (A ++ (editM (stOf x A) (p, g, c)).2) x ∧ (editM (stOf x A) (p, g, c)).2.length ≤ g + c.length := by
  obtain ⟨fit, cs, ps, e, m, bk, ll⟩ := edit_go (U := vis A) (X := []) (q := 0) (p := p) (g := g) (c := c) nx h.uni h.own h.bd h.nu (by simp) (.inr ⟨Nat.zero_le _, rfl, rfl⟩) hn sg lc lg l
  have e0 : (([] : List Id).length + (p - 0)) = p := by simp
  rw [e0] at fit e
  rw [e]
  refine ⟨fit, rfl, ⟨m.uni, m.own, m.bd, fun o ho => ?_, fun o ho => ?_, fun o ho => ?_, fun o ho => ?_⟩, ll⟩
  · rcases List.mem_append.mp ho with z | z
    · exact h.nu o z
    · exact (bk.kinds o z).1
  · rcases List.mem_append.mp ho with z | z
    · exact h.cn o z
    · exact (bk.kinds o z).2
  · rcases List.mem_append.mp ho with z | z
    · exact h.one o z
    · exact (m.high o z).2
  · rcases List.mem_append.mp ho with z | z
    · exact h.sg o z
    · exact m.sg o z
theorem Base.show_ {A : List Op} {x y : Str} (h : Base A x) : showing (stOf y A) = vis A ∧ textM (stOf y A) = (vis A).map (sgA A) :=
  ⟨showing_vis h.own.ord h.nu, text_own h.own.ord h.nu h.uni.nd⟩
theorem opS_of {A : List Op} (u : Uni A) (sg : ∀ o ∈ A, o.sign < 1000) : ∀ o ∈ A, OpS o := by
  intro o ho
  refine ⟨(u.ok o ho).2, fun r er => ?_, ?_⟩
  · obtain ⟨k, hk⟩ := mem_at ho
    obtain ⟨p, hp, e, _⟩ := u.ref k o r hk er
    rw [← e]
    exact (u.ok p (List.mem_of_mem_take hp)).2
  · unfold PyData.strOk
    have := sg o ho
    simp
    omega
/-! ### what is heard -/
structure Hs (b A : List Op) (ns : List Str) (ms : List Hm) : Prop where
  len : ms.length = ns.length
  at_ : ∀ (j : Nat) (m : Hm), ms[j]? = some m → ∃ x Km, ns[j]? = some x ∧ m.site = stOf x (b ++ Km) ∧ Cl A (b ++ Km)
theorem Hs.fit {b A : List Op} {ns : List Str} {ms : List Hm} (h : Hs b A ns ms) (w : Wd b A) {ops : List Op} (sub : ∀ o ∈ ops, o ∈ A) : ∀ m ∈ ms, HeardFit m ops := by
  intro m hm
  obtain ⟨j, hj⟩ := mem_at hm
  obtain ⟨x, Km, _, e, c⟩ := h.at_ j m hj
  exact heard_fit w c e sub
theorem Hs.go {b A : List Op} {ns : List Str} {ms ms' : List Hm} (h : Hs b A ns ms) (w : Wd b A) {ops : List Op} (sub : ∀ o ∈ ops, o ∈ A) (all : ∀ (j : Nat) (m : Hm) (x : Str) (Km : List Op), ms[j]? = some m → ns[j]? = some x → m.site = stOf x (b ++ Km) → ∀ o ∈ A, o ∈ b ++ Km ∨ o ∈ ops) (a2 : All2 (fun m m' => Heard m m' ops) ms ms') :
    ms'.length = ns.length ∧ ∀ (j : Nat) (m' : Hm), ms'[j]? = some m' → ∃ x Km m, ns[j]? = some x ∧ ms[j]? = some m ∧ m' = { m with site := stOf x (b ++ Km) } ∧ Cl A (b ++ Km) ∧ (b ++ Km).Perm A := by
  refine ⟨by rw [← a2.len]; exact h.len, fun j m' hj => ?_⟩
  obtain ⟨m, hm, hd⟩ := a2.get' hj
  obtain ⟨x, Km, hx, e, c⟩ := h.at_ j m hm
  obtain ⟨Km', e2, c2, p2⟩ := heard_is w c e sub (all j m x Km hm hx e) hd
  exact ⟨x, Km', m, hx, hm, e2, c2, p2⟩
theorem heard_one {A Km : List Op} {x : Str} (one : ∀ o ∈ A, o.id.2 = x) (c : Cl A Km) (p : Km.Perm A) : Km = A := by
  have e1 : ∀ K : List Op, (∀ o ∈ K, o.id.2 = x) → ofS x K = K := fun K h => by
    unfold ofS
    rw [List.filter_eq_self]
    intro o ho
    rw [decide_eq_true_eq]
    exact h o ho
  have := c.site x
  rw [e1 A one, e1 Km fun o ho => one o (c.sub o ho)] at this
  exact this.eq_of_length p.length_eq
/-! ### edits done -/
def rowB (B : Bl) : Rw := (B.ops.map Op.id, B.ops.map Op.id, false)
structure Do (b : List Op) (ns : List Str) (ms : List Hm) (l : List Bl) : Prop where
  len : ms.length = ns.length
  bls : Bls (vis b) l
  uni : Uni (b ++ flat l)
  bd : Bd (b ++ flat l)
  sg : ∀ o ∈ b ++ flat l, o.sign < 1000
  high : ∀ o ∈ flat l, clk b < o.id.1
  fl : (flat l).length ≤ 6 * l.length
  each : ∀ B ∈ l, B.own < ns.length ∧ B.ops.length ≤ 6
  hand : ∀ (j : Nat) (m : Hm), ms[j]? = some m → ∃ x pre, ns[j]? = some x ∧ m.site = stOf x (b ++ flat (mine j l)) ∧ Own (b ++ flat l) x (b ++ flat (mine j l)) ∧ m.edits = pre ++ (mine j l).map rowB ∧ pre.length ≤ 100
theorem mine_snoc (j : Nat) (l : List Bl) (B : Bl) : mine j (l ++ [B]) = if B.own = j then mine j l ++ [B] else mine j l := by
  unfold mine
  rw [List.filter_append]
  by_cases e : B.own = j <;> simp [e]
theorem mine_sub (j : Nat) (l : List Bl) : (mine j l).Sublist l := List.filter_sublist
theorem Own.rf {A : List Op} {x : Str} {K : List Op} (h : Own A x K) (u : Uni A) : Rf K := h.cl.rf u
theorem do_step {b : List Op} {ns : List Str} {ms : List Hm} {l : List Bl} (pa : Past b) (nm : ∀ x ∈ ns, Nam x) (nd : ns.Nodup) (lb : b.length ≤ 500) (h : Do b ns ms l) {j : Nat} {m : Hm} {e : Ed} (hj : ms[j]? = some m) (ap : ApE (vis b).length (l.map Bl.e ++ [e])) (sg : Sgs e.2.2) (lc : e.2.2.length ≤ 3) (lg : e.2.1 ≤ 3) (l6 : l.length ≤ 6) :
    EdFit m.site ((((e.1 : Nat) : Int) + moreE ((mine j l).map Bl.e)).toNat, e.2.1, e.2.2) ∧ 0 ≤ (((e.1 : Nat) : Int) + moreE ((mine j l).map Bl.e)) ∧ ∃ B : Bl, B.e = e ∧ B.own = j ∧ (doM m ((((e.1 : Nat) : Int) + moreE ((mine j l).map Bl.e)).toNat, e.2.1, e.2.2)).2 = B.ops ∧ Do b ns (ms.set j (doM m ((((e.1 : Nat) : Int) + moreE ((mine j l).map Bl.e)).toNat, e.2.1, e.2.2)).1) (l ++ [B]) := by
  obtain ⟨p, g, c⟩ := e
  obtain ⟨x, pre, hx, es, ow, ed, lp⟩ := h.hand j m hj
  have nx := nm x (List.mem_of_getElem? hx)
  have hbM : Bls (vis b) (mine j l) := fun B hB => h.bls B ((mine_sub j l).subset hB)
  have apM : ApE (vis b).length ((mine j l).map Bl.e ++ [(p, g, c)]) := ap.sub (List.Sublist.append ((mine_sub j l).map _) (List.Sublist.refl _))
  have rfM := ow.rf h.uni
  have hv := vis_bls pa hbM rfM apM.pre
  have apI : ∀ (m : List Bl) (f : EdA Id), ApE (vis b).length (m.map Bl.e ++ [(f.1, f.2.1, ([] : List Nat))]) → ApE (vis b).length (m.map Bl.idE ++ [f]) := fun m f z => by
    refine ⟨?_, fun a ha => ?_⟩
    · have h1 := List.pairwise_append.mp z.apart
      refine List.pairwise_append.mpr ⟨?_, List.pairwise_singleton _ _, fun a ha q hq => ?_⟩
      · have := h1.1
        rw [List.pairwise_map] at this ⊢
        exact this
      · obtain ⟨C, hC, rfl⟩ := List.mem_map.mp ha
        have := h1.2.2 C.e (List.mem_map_of_mem hC) _ List.mem_cons_self
        rw [List.mem_singleton.mp hq]
        exact this
    · rcases List.mem_append.mp ha with y | y
      · obtain ⟨C, hC, rfl⟩ := List.mem_map.mp y
        exact z.in_ C.e (List.mem_append_left _ (List.mem_map_of_mem hC))
      · rw [List.mem_singleton.mp y]
        exact z.in_ _ (List.mem_append_right _ List.mem_cons_self)
  have apM2 : ApE (vis b).length ((mine j l).map Bl.idE ++ [((p, g, []) : EdA Id)]) := apI _ (p, g, []) ⟨by
    have h1 := List.pairwise_append.mp apM.apart
    refine List.pairwise_append.mpr ⟨h1.1, List.pairwise_singleton _ _, fun a ha q hq => ?_⟩
    have := h1.2.2 a ha _ List.mem_cons_self
    rw [List.mem_singleton.mp hq]
    exact this, fun a ha => by
    rcases List.mem_append.mp ha with y | y
    · exact apM.in_ a (List.mem_append_left _ y)
    · rw [List.mem_singleton.mp y]
      exact apM.in_ (p, g, c) (List.mem_append_right _ List.mem_cons_self)⟩
  have hp := apM2.next (U := vis b)
  have hp : (acc (vis b) ((mine j l).map Bl.idE)).1 < p ∨ ((acc (vis b) ((mine j l).map Bl.idE)).1 ≤ p ∧ (acc (vis b) ((mine j l).map Bl.idE)).1 = 0 ∧ (acc (vis b) ((mine j l).map Bl.idE)).2 = []) := hp
  have hl := acc_len apM2.pre
  have hmore : moreE ((mine j l).map Bl.idE) = moreE ((mine j l).map Bl.e) := by
    unfold moreE
    rw [List.map_map, List.map_map]
    congr 1
    refine List.map_congr_left fun B hB => ?_
    show ((B.ps.map Op.id).length : Int) - (B.e.2.1 : Int) = (B.e.2.2.length : Int) - (B.e.2.1 : Int)
    rw [← (hbM B hB).sign, List.length_map, List.length_map]
  rw [hmore] at hl
  have hq : (acc (vis b) ((mine j l).map Bl.idE)).1 ≤ p := by omega
  have eP : ((((p : Nat) : Int) + moreE ((mine j l).map Bl.e))).toNat = (acc (vis b) ((mine j l).map Bl.idE)).2.length + (p - (acc (vis b) ((mine j l).map Bl.idE)).1) := by omega
  have hn : p + g ≤ (vis b).length := ap.in_ (p, g, c) (List.mem_append_right _ List.mem_cons_self)
  have lA : (b ++ flat l).length ≤ 536 := by
    rw [List.length_append]
    have := h.fl
    omega
  have nuM : ∀ o ∈ b ++ flat (mine j l), o.kind ≠ .undo := fun o ho => by
    rcases List.mem_append.mp ho with z | z
    · exact pa.nu o z
    · exact (hbM.kinds o z).1
  have lc : c.length ≤ 3 := lc
  have lg : g ≤ 3 := lg
  obtain ⟨fit, cs, ps, e1, mk, bk, ll⟩ := edit_go (U := vis b) (g := g) (c := c) nx h.uni ow h.bd nuM hv hp hn sg (by omega) (by omega) (by omega)
  show EdFit m.site ((((p : Nat) : Int) + moreE ((mine j l).map Bl.e)).toNat, g, c) ∧ 0 ≤ ((p : Nat) : Int) + moreE ((mine j l).map Bl.e) ∧ ∃ B : Bl, B.e = (p, g, c) ∧ B.own = j ∧ (doM m ((((p : Nat) : Int) + moreE ((mine j l).map Bl.e)).toNat, g, c)).2 = B.ops ∧ Do b ns (ms.set j (doM m ((((p : Nat) : Int) + moreE ((mine j l).map Bl.e)).toNat, g, c)).1) (l ++ [B])
  rw [eP]
  unfold doM
  rw [es, e1]
  refine ⟨fit, by omega, ⟨(p, g, c), j, cs, ps⟩, rfl, rfl, rfl, ?_⟩
  have ef : flat (l ++ [⟨(p, g, c), j, cs, ps⟩]) = flat l ++ (cs ++ ps) := by rw [flat_app, flat_one]; rfl
  have eA : b ++ flat (l ++ [⟨(p, g, c), j, cs, ps⟩]) = (b ++ flat l) ++ (cs ++ ps) := by rw [ef, List.append_assoc]
  have hclk : clk b ≤ clk (b ++ flat (mine j l)) := clk_app _ _
  refine ⟨by rw [List.length_set]; exact h.len, fun B hB => ?_, by rw [eA]; exact mk.uni, by rw [eA]; exact mk.bd, fun o ho => ?_, fun o ho => ?_, ?_, fun B hB => ?_, fun k m' hk => ?_⟩
  · rcases List.mem_append.mp hB with z | z
    · exact h.bls B z
    · rw [List.mem_singleton.mp z]; exact bk
  · rw [eA] at ho
    rcases List.mem_append.mp ho with z | z
    · exact h.sg o z
    · exact mk.sg o z
  · rw [ef] at ho
    rcases List.mem_append.mp ho with z | z
    · exact h.high o z
    · exact Nat.lt_of_le_of_lt hclk (mk.high o z).1
  · rw [ef, List.length_append, List.length_append (as := l), List.length_singleton]
    have := h.fl
    omega
  · rcases List.mem_append.mp hB with z | z
    · exact h.each B z
    · rw [List.mem_singleton.mp z]
      exact ⟨(List.getElem?_eq_some_iff.mp hx).1, by show (cs ++ ps).length ≤ 6; omega⟩
  · rw [eA, mine_snoc]
    by_cases c2 : j = k
    · subst c2
      have hlt := (List.getElem?_eq_some_iff.mp hj).1
      rw [List.getElem?_set_self hlt] at hk
      cases hk
      rw [if_pos rfl, flat_app, flat_one]
      refine ⟨x, pre, hx, ?_, ?_, ?_, lp⟩
      · show stOf x (b ++ flat (mine j l) ++ (cs ++ ps)) = _
        rw [List.append_assoc]
        rfl
      · have := mk.own
        rw [List.append_assoc b (flat (mine j l))] at this
        exact this
      · show m.edits ++ [((cs ++ ps).map Op.id, (cs ++ ps).map Op.id, false)] = _
        rw [ed, List.map_append (f := rowB), List.append_assoc]
        rfl
    · rw [List.getElem?_set_ne c2] at hk
      rw [if_neg (show ¬ (j = k) from c2)]
      obtain ⟨y, pre2, hy, es2, ow2, ed2, lp2⟩ := h.hand k m' hk
      refine ⟨y, pre2, hy, es2, ow2.more (x := x) (fun z => ?_) (fun o ho => (mk.high o ho).2), ed2, lp2⟩
      subst z
      obtain ⟨h1, h2⟩ := List.getElem?_eq_some_iff.mp hx
      obtain ⟨h3, h4⟩ := List.getElem?_eq_some_iff.mp hy
      exact c2 ((List.getElem_inj nd).mp (h2.trans h4.symm))
theorem Do.wd {b : List Op} {ns : List Str} {ms : List Hm} {l : List Bl} (h : Do b ns ms l) (ob : Ord b) (ap : ApE (vis b).length (l.map Bl.e)) : Wd b (b ++ flat l) ∧ Dis (flat l) := by
  have d := (flat_dis h.bls (h.uni.self.rf h.uni) ap).1
  exact ⟨wd_more (c0 := clk b) h.uni ob (fun o ho => clk_ge b o ho) h.high d, d⟩
theorem Do.hs {b : List Op} {ns : List Str} {ms : List Hm} {l : List Bl} (h : Do b ns ms l) : Hs b (b ++ flat l) ns ms :=
  ⟨h.len, fun j m hj => let ⟨x, _, h1, h2, h3, _⟩ := h.hand j m hj; ⟨x, _, h1, h2, h3.cl⟩⟩
/-! ### edits turned off -/
structure Tn (b : List Op) (ns : List Str) (ms : List Hm) (l : List Bl) (fs : List Bool) (N : List Op) : Prop where
  len : ms.length = ns.length
  uni : Uni (b ++ (flat l ++ N))
  bd : Bd (b ++ (flat l ++ N))
  sg : ∀ o ∈ N, o.sign < 1000
  high : ∀ o ∈ N, clk b < o.id.1
  offs : Offs ((l.take fs.length).zip fs) N
  ln : N.length ≤ 6 * fs.length
  hand : ∀ (j : Nat) (m : Hm), ms[j]? = some m → ∃ x K done, ns[j]? = some x ∧ m.site = stOf x (b ++ K) ∧ Own (b ++ (flat l ++ N)) x (b ++ K) ∧ (∀ o ∈ b ++ flat l, o ∈ b ++ K) ∧ m.edits = done ++ (mine j (l.drop fs.length)).map rowB ∧ done.length ≤ 100 + fs.length
theorem Unds.is : ∀ {is : List Id} {os : List Op}, Unds is os → (∀ o ∈ os, o.kind = .undo ∧ ∃ i ∈ is, o.ref = some i) ∧ ∀ i ∈ is, ∃ o ∈ os, o.ref = some i
  | [], [], _ => ⟨fun o h => (nomatch h), fun i h => (nomatch h)⟩
  | [], _ :: _, h => h.elim
  | _ :: _, [], h => h.elim
  | i :: is, o :: os, ⟨h1, h2, h3⟩ => by
    obtain ⟨a, b⟩ := Unds.is h3
    refine ⟨fun p hp => ?_, fun k hk => ?_⟩
    · rcases List.mem_cons.mp hp with z | z
      · rw [z]; exact ⟨h1, i, List.mem_cons_self, h2⟩
      · obtain ⟨c, k, hk, d⟩ := a p z
        exact ⟨c, k, List.mem_cons_of_mem _ hk, d⟩
    · rcases List.mem_cons.mp hk with z | z
      · rw [z]; exact ⟨o, List.mem_cons_self, h2⟩
      · obtain ⟨p, hp, d⟩ := b k z
        exact ⟨p, List.mem_cons_of_mem _ hp, d⟩
theorem zip_snoc {l : List Bl} {fs : List Bool} {B : Bl} {f : Bool} (hB : l[fs.length]? = some B) : (l.take (fs ++ [f]).length).zip (fs ++ [f]) = (l.take fs.length).zip fs ++ [(B, f)] := by
  obtain ⟨h1, h2⟩ := List.getElem?_eq_some_iff.mp hB
  rw [List.length_append, List.length_singleton, List.take_add_one, hB, Option.toList_some, List.zip_append (by rw [List.length_take]; omega)]
  rfl
theorem drop_at {α : Type} {l : List α} {k : Nat} {a : α} (h : l[k]? = some a) : l.drop k = a :: l.drop (k + 1) := by
  obtain ⟨h1, h2⟩ := List.getElem?_eq_some_iff.mp h
  rw [List.drop_eq_getElem_cons h1, h2]
theorem mine_drop {l : List Bl} {k : Nat} {B : Bl} (h : l[k]? = some B) (j : Nat) : mine j (l.drop k) = if B.own = j then B :: mine j (l.drop (k + 1)) else mine j (l.drop (k + 1)) := by
  rw [drop_at h]
  unfold mine
  rw [List.filter_cons]
  by_cases e : B.own = j <;> simp [e]
/-- an edit that stays -/
theorem Tn.keep {b : List Op} {ns : List Str} {ms : List Hm} {l : List Bl} {fs : List Bool} {N : List Op} (h : Tn b ns ms l fs N) {B : Bl} (hB : l[fs.length]? = some B) : Tn b ns ms l (fs ++ [false]) N := by
  refine ⟨h.len, h.uni, h.bd, h.sg, h.high, ?_, by rw [List.length_append]; have := h.ln; omega, fun j m hj => ?_⟩
  · rw [zip_snoc hB]
    refine ⟨fun o ho => ?_, fun z hz ez p hp => ?_⟩
    · obtain ⟨a, z, hz, c⟩ := h.offs.kind o ho
      exact ⟨a, z, List.mem_append_left _ hz, c⟩
    · rcases List.mem_append.mp hz with y | y
      · exact h.offs.all z y ez p hp
      · rw [List.mem_singleton.mp y] at ez
        cases ez
  · obtain ⟨x, K, done, h1, h2, h3, h4, h5, h6⟩ := h.hand j m hj
    rw [mine_drop hB j] at h5
    rw [List.length_append, List.length_singleton]
    by_cases e : B.own = j
    · rw [if_pos e] at h5
      refine ⟨x, K, done ++ [rowB B], h1, h2, h3, h4, by rw [h5]; simp, ?_⟩
      rw [List.length_append, List.length_singleton]
      omega
    · rw [if_neg e] at h5
      exact ⟨x, K, done, h1, h2, h3, h4, h5, by omega⟩
/-- an edit that is turned off -/
theorem Tn.turn {b : List Op} {ns : List Str} {ms : List Hm} {l : List Bl} {fs : List Bool} {N : List Op} (nm : ∀ x ∈ ns, Nam x) (nd : ns.Nodup) (lb : b.length ≤ 500) (lf : (flat l).length ≤ 36) (l6 : l.length ≤ 6) (h : Tn b ns ms l fs N) {B : Bl} (hB : l[fs.length]? = some B) {m : Hm} (hm : ms[B.own]? = some m) (lB : B.ops.length ≤ 6) :
    ∃ done, m.edits = done ++ (mine B.own (l.drop fs.length)).map rowB ∧ done.length ≤ 106 ∧ TurnFit m done.length (rowB B) ∧ Tn b ns (ms.set B.own (turnM m done.length (rowB B)).1) l (fs ++ [true]) (N ++ (turnM m done.length (rowB B)).2) := by
  obtain ⟨x, K, done, hx, es, ow, sub, ed, ld⟩ := h.hand B.own m hm
  have lfs : fs.length < l.length := (List.getElem?_eq_some_iff.mp hB).1
  have lN := h.ln
  have ed2 : m.edits = done ++ rowB B :: (mine B.own (l.drop (fs.length + 1))).map rowB := by
    rw [ed, mine_drop hB, if_pos rfl]
    rfl
  have lA : (b ++ (flat l ++ N)).length ≤ 572 := by
    rw [List.length_append, List.length_append]
    omega
  have hin : ∀ i ∈ B.ops.map Op.id, ∃ p ∈ b ++ K, p.id = i := fun i hi => by
    obtain ⟨o, ho, rfl⟩ := List.mem_map.mp hi
    exact ⟨o, sub o (List.mem_append_right _ (mem_flat.mpr ⟨B, List.mem_of_getElem? hB, ho⟩)), rfl⟩
  have li : (B.ops.map Op.id).length ≤ 6 := by rw [List.length_map]; exact lB
  have nx := nm x (List.mem_of_getElem? hx)
  obtain ⟨os, e1, mk, un⟩ := undos_go nx (B.ops.map Op.id) _ _ h.uni ow h.bd hin (by omega)
  have pos : ∀ i ∈ B.ops.map Op.id, 1 ≤ i.1 := fun i hi => by
    obtain ⟨p, hp, e⟩ := hin i hi
    rw [← e]
    exact (h.uni.ok p (ow.cl.sub p hp)).1.id.1
  have lml : (mine B.own (l.drop (fs.length + 1))).length ≤ 6 := by
    have h1 := (mine_sub B.own (l.drop (fs.length + 1))).length_le
    rw [List.length_drop] at h1
    omega
  have lK : (b ++ K).length ≤ 572 := Nat.le_trans (nd_len ow.cl.nd ow.cl.sub) lA
  have los : os.length ≤ 6 := by
    have := undosF_len (B.ops.map Op.id) (stOf x (b ++ K))
    rw [e1] at this
    have this : os.length = _ := this
    omega
  have at_ : m.edits[done.length]? = some (rowB B) := by
    rw [ed2, List.getElem?_append_right (Nat.le_refl _), Nat.sub_self]
    rfl
  have le : m.edits.length ≤ 1000 := by
    rw [ed2, List.length_append, List.length_cons, List.length_map]
    omega
  refine ⟨done, ed, by omega, ⟨at_, pos, pos, by show (B.ops.map Op.id).length ≤ 6000; omega, by omega, ?_, fun k i hk => ?_⟩, ?_⟩
  · rw [es, stOf_waits]
    have := (lens x (b ++ K)).1
    show (stOf x (b ++ K)).known.length + 0 + (B.ops.map Op.id).length ≤ 6000
    omega
  · rw [es]
    exact undos_fit nx h.uni ow h.bd hin (by omega) k i hk
  · have eA : b ++ (flat l ++ (N ++ os)) = (b ++ (flat l ++ N)) ++ os := by simp
    have e2 : (undosF m.site (rowB B).2.1) = (stOf x (b ++ K ++ os), os) := by rw [es]; exact e1
    unfold turnM
    rw [e2]
    refine ⟨by rw [List.length_set]; exact h.len, by show Uni (b ++ (flat l ++ (N ++ os))); rw [eA]; exact mk.uni, by show Bd (b ++ (flat l ++ (N ++ os))); rw [eA]; exact mk.bd, fun o ho => ?_, fun o ho => ?_, ?_, ?_, fun j m' hj => ?_⟩
    · rcases List.mem_append.mp ho with z | z
      · exact h.sg o z
      · exact mk.sg o z
    · rcases List.mem_append.mp ho with z | z
      · exact h.high o z
      · exact Nat.lt_of_le_of_lt (clk_app b K) (mk.high o z).1
    · rw [zip_snoc hB]
      obtain ⟨u1, u2⟩ := un.is
      refine ⟨fun o ho => ?_, fun z hz ez p hp => ?_⟩
      · rcases List.mem_append.mp ho with y | y
        · obtain ⟨a, z, hz, c⟩ := h.offs.kind o y
          exact ⟨a, z, List.mem_append_left _ hz, c⟩
        · obtain ⟨a, i, hi, c⟩ := u1 o y
          obtain ⟨p, hp, rfl⟩ := List.mem_map.mp hi
          exact ⟨a, (B, true), List.mem_append_right _ List.mem_cons_self, rfl, p, hp, c⟩
      · rcases List.mem_append.mp hz with y | y
        · obtain ⟨o, ho, c⟩ := h.offs.all z y ez p hp
          exact ⟨o, List.mem_append_left _ ho, c⟩
        · rw [List.mem_singleton.mp y] at hp
          obtain ⟨o, ho, c⟩ := u2 p.id (List.mem_map_of_mem hp)
          exact ⟨o, List.mem_append_right _ ho, c⟩
    · show (N ++ os).length ≤ _
      rw [List.length_append, List.length_append, List.length_singleton]
      omega
    · show ∃ y K' done', ns[j]? = some y ∧ m'.site = stOf y (b ++ K') ∧ Own (b ++ (flat l ++ (N ++ os))) y (b ++ K') ∧ _
      rw [eA]
      by_cases c : B.own = j
      · subst c
        have hlt := (List.getElem?_eq_some_iff.mp hm).1
        rw [List.getElem?_set_self hlt] at hj
        cases hj
        refine ⟨x, K ++ os, done ++ [((rowB B).1, os.map Op.id, !(rowB B).2.2)], hx, ?_, ?_, fun o ho => ?_, ?_, ?_⟩
        · show stOf x (b ++ K ++ os) = _
          rw [List.append_assoc]
        · have := mk.own
          rw [List.append_assoc b K] at this
          exact this
        · rw [← List.append_assoc]
          exact List.mem_append_left _ (sub o ho)
        · show m.edits.set done.length _ = _
          rw [ed2, List.set_append_right _ _ (Nat.le_refl _), Nat.sub_self, List.set_cons_zero, List.length_append, List.length_singleton]
          simp
        · rw [List.length_append, List.length_append, List.length_singleton, List.length_singleton]
          omega
      · rw [List.getElem?_set_ne c] at hj
        obtain ⟨y, K2, done2, hy, es2, ow2, sub2, ed3, ld2⟩ := h.hand j m' hj
        rw [mine_drop hB j, if_neg c] at ed3
        refine ⟨y, K2, done2, hy, es2, ow2.more (x := x) (fun z => ?_) (fun o ho => (mk.high o ho).2), sub2, by rw [List.length_append, List.length_singleton]; exact ed3, by rw [List.length_append, List.length_singleton]; omega⟩
        subst z
        obtain ⟨h1, h2⟩ := List.getElem?_eq_some_iff.mp hx
        obtain ⟨h3, h4⟩ := List.getElem?_eq_some_iff.mp hy
        exact c ((List.getElem_inj nd).mp (h2.trans h4.symm))
theorem Tn.start {b : List Op} {ns : List Str} {ms ms' : List Hm} {l : List Bl} (h : Do b ns ms l) (w : Wd b (b ++ flat l)) (len : ms'.length = ns.length)
    (at_ : ∀ (j : Nat) (m' : Hm), ms'[j]? = some m' → ∃ x Km m, ns[j]? = some x ∧ ms[j]? = some m ∧ m' = { m with site := stOf x (b ++ Km) } ∧ Cl (b ++ flat l) (b ++ Km) ∧ (b ++ Km).Perm (b ++ flat l)) : Tn b ns ms' l [] [] := by
  have e0 : b ++ (flat l ++ []) = b ++ flat l := by rw [List.append_nil]
  refine ⟨len, by rw [e0]; exact h.uni, by rw [e0]; exact h.bd, (fun o z => nomatch z), (fun o z => nomatch z), ⟨(fun o z => nomatch z), fun z hz => by simp at hz⟩, Nat.zero_le _, fun j m' hj => ?_⟩
  obtain ⟨x, Km, m, hx, hm, em, c, p⟩ := at_ j m' hj
  obtain ⟨y, pre, hy, _, _, ed, lp⟩ := h.hand j m hm
  rw [e0]
  refine ⟨x, Km, pre, hx, by rw [em], ⟨c, ?_, w.ord Km c⟩, fun o ho => p.mem_iff.mpr ho, by rw [em]; exact ed, by show pre.length ≤ 100 + 0; omega⟩
  exact (c.site x).eq_of_length (p.filter _).length_eq
theorem Tn.hs {b : List Op} {ns : List Str} {ms : List Hm} {l : List Bl} {fs : List Bool} {N : List Op} (h : Tn b ns ms l fs N) : Hs b (b ++ (flat l ++ N)) ns ms :=
  ⟨h.len, fun j m hj => let ⟨x, K, _, h1, h2, h3, _⟩ := h.hand j m hj; ⟨x, K, h1, h2, h3.cl⟩⟩
theorem Tn.wd {b : List Op} {ns : List Str} {ms ms0 : List Hm} {l : List Bl} {fs : List Bool} {N : List Op} (h : Tn b ns ms l fs N) (d0 : Do b ns ms0 l) (ob : Ord b) (d : Dis (flat l)) : Wd b (b ++ (flat l ++ N)) := by
  refine wd_more (c0 := clk b) h.uni ob (fun o ho => clk_ge b o ho) (fun o ho => ?_) (d.more fun o ho => by rw [(h.offs.kind o ho).1]; decide)
  rcases List.mem_append.mp ho with z | z
  · exact d0.high o z
  · exact h.high o z
theorem zip_all {l : List Bl} {fs : List Bool} (e : fs.length = l.length) : allB ((l.take fs.length).zip fs) = l := by
  rw [e, List.take_length]
  unfold allB
  exact List.map_fst_zip (by omega)
/-- the end: behind all undos each hand has the text of the edits that stay -/
theorem Tn.text {b : List Op} {ns : List Str} {ms ms0 : List Hm} {l : List Bl} {fs : List Bool} {N Km : List Op} {x : Str} (pa : Past b) (h : Tn b ns ms l fs N) (d0 : Do b ns ms0 l) (ob : Ord b) (ap : ApE (vis b).length (l.map Bl.e)) (e : fs.length = l.length) (c : Cl (b ++ (flat l ++ N)) (b ++ Km)) (p : (b ++ Km).Perm (b ++ (flat l ++ N))) :
    textM (stOf x (b ++ Km)) = applied ((vis b).map (sgA b)) ((keptB ((l.take fs.length).zip fs)).map Bl.e) := by
  have d := (flat_dis d0.bls (d0.uni.self.rf d0.uni) ap).1
  have w := h.wd d0 ob d
  have ea := zip_all e
  exact text_off pa (by rw [ea]; exact d0.bls) (by rw [ea]; exact ap) h.offs (by rw [ea]; exact w) (by rw [ea]; exact c) (by rw [ea]; exact p) (by rw [ea]; exact d)
theorem kept_snoc {l : List Bl} {fs : List Bool} {B : Bl} {f : Bool} (hB : l[fs.length]? = some B) : (keptB ((l.take (fs ++ [f]).length).zip (fs ++ [f]))).map Bl.e = (keptB ((l.take fs.length).zip fs)).map Bl.e ++ (if f = true then [] else [B.e]) := by
  rw [zip_snoc hB]
  unfold keptB
  rw [List.filter_append, List.map_append, List.map_append]
  cases f <;> rfl
end K80
namespace K80
open PySem PySem.Spec PyProof.Rows L2 Gx GxR NdefX
open PySem.SeqAt
abbrev NL : List Str := ["script", "draws", "hands", "base", "turn", "text", "edits", "made", "owners", "k", "hand", "more", "place", "gone", "come", "due", "here", "edit", "off", "others", "number", "name", "sign", "j", "one"]
theorem scLaw : FnScope ["script", "draws", "hands", "base", "turn", "text", "edits", "made", "owners", "k", "hand", "more", "place", "gone", "come", "due", "here", "edit", "off", "others", "number", "name", "sign", "j", "one"] ["script"] (defScope (top 56)) := ⟨rfl, rfl, rfl, by decide +kernel, rfl, by decide +kernel, by decide +kernel⟩
def lawSt (i : Nat) : Stmt := (defBody (top 56)).getD i (.Pass ⟨0, 0, 0, 0⟩)
section
variable {P : Program} {w : World} {K : PySem.W.Frag} {mg : Str → Option Value} {base : Heap}
variable {C CS CW : Addr} {t : Tbs} {f : Addr} {cdv : Value} {A0 : Around} {outer : List Env} {s : Shared} {H0 : Hp} {E : XK}
structure Lw (P : Program) (w : World) (K : PySem.W.Frag) (mg : Str → Option Value) (base : Heap) (C CS CW : Addr) (t : Tbs) : Prop where
  T : Bi mg
  L : KHand K mg C
  LS : KSite K mg CS
  cr : Cr K C
  fT : Fn P w K mg base 1 "_law_take" ["draws", "limit"] spLTake
  fDraws : Fn P w K mg base 1 "_law_draws" ["script"] (spLDraws K)
  fLong : Fn P w K mg base 1 "_law_long" ["draws"] spLLong
  fPut : Fn P w K mg base 1 "_law_put_in" ["text", "edit"] spLPut
  fEdit : Fn P w K mg base 2 "_law_edit" ["draws", "long"] spLEdit
  fEdits : Fn P w K mg base 2 "_law_edits" ["draws", "text"] spLEdits
  fText : Fn P w K mg base 5 "_law_text" ["operations"] spLText
  fHeard : Fn P w K mg base 6 "_law_heard" ["draws", "hands", "operations"] (spHeard C CS CW t)
  fAre : Fn P w K mg base 5 "are_edits" ["text", "value"] (spAreEdits t)
  fAll : Fn P w K mg base 7 "all_applied" ["text", "edits"] (spApplied t)
  fIn : Fn P w K mg base 7 "in_turn" ["text", "edits"] (spInTurn t)
  mHI : Mt P w K mg base C 5 "__init__" ["self", "name"] (spHandInit C CS CW t)
  mDo : Mt P w K mg base C 5 "do" ["self", "edit"] (spDo C CS CW t)
  mHist : Mt P w K mg base C 1 "history" ["self"] (spHist C CS CW)
  mTurn : Mt P w K mg base C 5 "turn" ["self", "number"] (spTurn C CS CW t)
  mText : Mt P w K mg base CS 4 "text" ["self"] (spTextS CS CW t)
  mWait : Mt P w K mg base CS 2 "waiting" ["self"] (spWaiting CS CW)
theorem lawT0 (l : Lw P w K mg base C CS CW t) (hr : Room 7 (A0.deeper (envOfC "law" (defScope (top 56)) s.heap.objs.size f cdv))) : ∃ tt, PS (cxOf CX0 P w K mg base NL "law" (defScope (top 56)) f cdv A0 outer s H0 E).nox (lawSt 0) tt := by
  obtain ⟨T, L, LS, cr, fT, fDraws, fLong, fPut, fEdit, fEdits, fText, fHeard, fAre, fAll, fIn, mHI, mDo, mHist, mTurn, mText, mWait⟩ := l
  exact ⟨_, (ps_set (i := 1) scLaw.nd rfl (Or.inr rfl) ((pe_fn fLong (by first | exact hr | exact hr.mono (by decide) | exact room_gx hr hA | exact (room_gx hr hA).mono (by decide)) (pa_cons ((pe_fn fDraws (by first | exact hr | exact hr.mono (by decide) | exact room_gx hr hA | exact (room_gx hr hA).mono (by decide)) (pa_cons (pv 0) pa_nil))) pa_nil))))⟩
theorem lawT1 (l : Lw P w K mg base C CS CW t) (hr : Room 7 (A0.deeper (envOfC "law" (defScope (top 56)) s.heap.objs.size f cdv))) : ∃ tt, PS (cxOf CX0 P w K mg base NL "law" (defScope (top 56)) f cdv A0 outer s H0 E).nox (lawSt 1) tt := by
  obtain ⟨T, L, LS, cr, fT, fDraws, fLong, fPut, fEdit, fEdits, fText, fHeard, fAre, fAll, fIn, mHI, mDo, mHist, mTurn, mText, mWait⟩ := l
  exact ⟨_, (ps_setLc (i := 2) (own := [("name", 21)]) (g := (gName 21)) (by rfl) scLaw.nd rfl rfl (sw_true rfl rfl rfl (by decide +kernel)) (pi_list (pe_slice sl_list (pe_lst (pa_cons (pe_str) (pa_cons (pe_str) (pa_cons (pe_str) (pa_cons (pe_str) pa_nil))))) po_none (po_some (pe_op op_add pe_int (pe_fn fT (by first | exact hr | exact hr.mono (by decide) | exact room_gx hr hA | exact (room_gx hr hA).mono (by decide)) (pa_cons (pv 1) (pa_cons (pe_int) pa_nil))))))) (blkOk_by (own := [("name", 21)]) (N := ["script", "draws", "hands", "base", "turn", "text", "edits", "made", "owners", "k", "hand", "more", "place", "gone", "come", "due", "here", "edit", "off", "others", "number", "name", "sign", "j", "one"]) (sc := defScope (top 56)) (by decide +kernel))
        (fun _ _ _ _ _ => (pg_name (i := 21) scLaw.nd rfl (Or.inl rfl))) (fun _ _ _ _ _ => pts_nil) (fun _ _ _ _ _ => pe_new mHI cr L.mgC (hr.mono (by decide)) (pa_cons (pv 21) pa_nil)))⟩
theorem lawT2 (l : Lw P w K mg base C CS CW t) (hr : Room 7 (A0.deeper (envOfC "law" (defScope (top 56)) s.heap.objs.size f cdv))) : ∃ tt, PS (cxOf CX0 P w K mg base NL "law" (defScope (top 56)) f cdv A0 outer s H0 E).nox (lawSt 2) tt := by
  obtain ⟨T, L, LS, cr, fT, fDraws, fLong, fPut, fEdit, fEdits, fText, fHeard, fAre, fAll, fIn, mHI, mDo, mHist, mTurn, mText, mWait⟩ := l
  exact ⟨_, (ps_set (i := 3) scLaw.nd rfl (Or.inl rfl) ((pe_callTy call_list_of (by rfl) T.list_ (by decide +kernel) (pa_cons ((pe_mth mDo (by first | exact hr | exact hr.mono (by decide) | exact room_gx hr hA | exact (room_gx hr hA).mono (by decide)) ((pe_ix ix_list (pv 2) (pe_int) (fun _ _ => rfl))) (pa_cons (pe_tup (pa_cons (pe_int) (pa_cons (pe_int) (pa_cons (pe_join pe_str (pe_lc (own := [("sign", 22)]) (g := (gName 22)) rfl scLaw.nd (pi_range1 rfl T.range_ (pa_cons ((pe_fn fT (by first | exact hr | exact hr.mono (by decide) | exact room_gx hr hA | exact (room_gx hr hA).mono (by decide)) (pa_cons (pv 1) (pa_cons (pe_int) pa_nil)))) pa_nil)) (blkOk_by (own := [("sign", 22)]) (N := ["script", "draws", "hands", "base", "turn", "text", "edits", "made", "owners", "k", "hand", "more", "place", "gone", "come", "due", "here", "edit", "off", "others", "number", "name", "sign", "j", "one"]) (sc := defScope (top 56)) (by decide +kernel))
        (fun _ _ _ _ _ => (pg_name (i := 22) scLaw.nd rfl (Or.inl rfl))) (fun _ _ _ _ _ => pts_nil) (fun _ _ _ _ _ => pe_ix ix_str pe_str (pe_fn fT (by first | exact hr | exact hr.mono (by decide) | exact room_gx hr hA | exact (room_gx hr hA).mono (by decide)) (pa_cons (pv 1) (pa_cons (pe_int) pa_nil))) (fun _ _ => rfl)))) pa_nil)))) pa_nil))) pa_nil))))⟩
theorem lawT3 (l : Lw P w K mg base C CS CW t) (hr : Room 7 (A0.deeper (envOfC "law" (defScope (top 56)) s.heap.objs.size f cdv))) : ∃ tt, PS (cxOf CX0 P w K mg base NL "law" (defScope (top 56)) f cdv A0 outer s H0 E).nox (lawSt 3) tt := by
  obtain ⟨T, L, LS, cr, fT, fDraws, fLong, fPut, fEdit, fEdits, fText, fHeard, fAre, fAll, fIn, mHI, mDo, mHist, mTurn, mText, mWait⟩ := l
  exact ⟨_, ps_for PassesOwn.never rfl (pi_range1 rfl T.range_ (pa_cons ((pe_fn fT (by first | exact hr | exact hr.mono (by decide) | exact room_gx hr hA | exact (room_gx hr hA).mono (by decide)) (pa_cons (pv 1) (pa_cons (pe_int) pa_nil)))) pa_nil)) (pg_name (i := 4) scLaw.nd rfl (Or.inl rfl)) (pss_one ((ps_set (i := 3) scLaw.nd rfl (Or.inl rfl) (pe_op op_cat (pv 3) (pe_callTy call_list_of (by rfl) T.list_ (by decide +kernel) (pa_cons ((pe_mth mDo (by first | exact hr | exact hr.mono (by decide) | exact room_gx hr hA | exact (room_gx hr hA).mono (by decide)) ((pe_ix ix_list (pv 2) (pe_int) (fun _ _ => rfl))) (pa_cons ((pe_fn fEdit (by first | exact hr | exact hr.mono (by decide) | exact room_gx hr hA | exact (room_gx hr hA).mono (by decide)) (pa_cons (pv 1) (pa_cons ((pe_callB call_len_str (by rfl) T.len_ PySem.boot_len (pa_cons ((pe_mth0 mText (by first | exact hr | exact hr.mono (by decide) | exact room_gx hr hA | exact (room_gx hr hA).mono (by decide)) ((pe_fld ((pe_ix ix_list (pv 2) (pe_int) (fun _ _ => rfl))) rfl)))) pa_nil))) pa_nil)))) pa_nil))) pa_nil)))))) ⟩
theorem lawT4 (l : Lw P w K mg base C CS CW t) (hr : Room 7 (A0.deeper (envOfC "law" (defScope (top 56)) s.heap.objs.size f cdv))) : ∃ tt, PS (cxOf CX0 P w K mg base NL "law" (defScope (top 56)) f cdv A0 outer s H0 E).nox (lawSt 4) tt := by
  obtain ⟨T, L, LS, cr, fT, fDraws, fLong, fPut, fEdit, fEdits, fText, fHeard, fAre, fAll, fIn, mHI, mDo, mHist, mTurn, mText, mWait⟩ := l
  exact ⟨_, ps_expr (pe_fn fHeard (by first | exact hr | exact hr.mono (by decide) | exact room_gx hr hA | exact (room_gx hr hA).mono (by decide)) (pa_cons (pv 1) (pa_cons (pv 2) (pa_cons (pv 3) pa_nil))))⟩
theorem lawT5 (l : Lw P w K mg base C CS CW t) (hr : Room 7 (A0.deeper (envOfC "law" (defScope (top 56)) s.heap.objs.size f cdv))) : ∃ tt, PS (cxOf CX0 P w K mg base NL "law" (defScope (top 56)) f cdv A0 outer s H0 E).nox (lawSt 5) tt := by
  obtain ⟨T, L, LS, cr, fT, fDraws, fLong, fPut, fEdit, fEdits, fText, fHeard, fAre, fAll, fIn, mHI, mDo, mHist, mTurn, mText, mWait⟩ := l
  exact ⟨_, (ps_set (i := 5) scLaw.nd rfl (Or.inl rfl) ((pe_mth0 mText (by first | exact hr | exact hr.mono (by decide) | exact room_gx hr hA | exact (room_gx hr hA).mono (by decide)) ((pe_fld ((pe_ix ix_list (pv 2) (pe_un un_neg pe_int) (fun _ _ => rfl))) rfl)))))⟩
theorem lawT6 (l : Lw P w K mg base C CS CW t) (hr : Room 7 (A0.deeper (envOfC "law" (defScope (top 56)) s.heap.objs.size f cdv))) : ∃ tt, PS (cxOf CX0 P w K mg base NL "law" (defScope (top 56)) f cdv A0 outer s H0 E).nox (lawSt 6) tt := by
  obtain ⟨T, L, LS, cr, fT, fDraws, fLong, fPut, fEdit, fEdits, fText, fHeard, fAre, fAll, fIn, mHI, mDo, mHist, mTurn, mText, mWait⟩ := l
  exact ⟨_, (ps_set (i := 6) scLaw.nd rfl (Or.inr rfl) ((pe_fn fEdits (by first | exact hr | exact hr.mono (by decide) | exact room_gx hr hA | exact (room_gx hr hA).mono (by decide)) (pa_cons (pv 1) (pa_cons (pv 5) pa_nil)))))⟩
theorem lawT7 (l : Lw P w K mg base C CS CW t) (hr : Room 7 (A0.deeper (envOfC "law" (defScope (top 56)) s.heap.objs.size f cdv))) : ∃ tt, PS (cxOf CX0 P w K mg base NL "law" (defScope (top 56)) f cdv A0 outer s H0 E).nox (lawSt 7) tt := by
  obtain ⟨T, L, LS, cr, fT, fDraws, fLong, fPut, fEdit, fEdits, fText, fHeard, fAre, fAll, fIn, mHI, mDo, mHist, mTurn, mText, mWait⟩ := l
  exact ⟨_, ps_if (pt_cmpR op_notBl (pe_fn fAre (by first | exact hr | exact hr.mono (by decide) | exact room_gx hr hA | exact (room_gx hr hA).mono (by decide)) (pa_cons (pv 5) (pa_cons (pv 6) pa_nil))) pe_bl (nomark _)) (pss_one (ps_ret pe_bl)) pss_nil⟩
theorem lawT8 (l : Lw P w K mg base C CS CW t) (hr : Room 7 (A0.deeper (envOfC "law" (defScope (top 56)) s.heap.objs.size f cdv))) : ∃ tt, PS (cxOf CX0 P w K mg base NL "law" (defScope (top 56)) f cdv A0 outer s H0 E).nox (lawSt 8) tt := by
  obtain ⟨T, L, LS, cr, fT, fDraws, fLong, fPut, fEdit, fEdits, fText, fHeard, fAre, fAll, fIn, mHI, mDo, mHist, mTurn, mText, mWait⟩ := l
  exact ⟨_, ps_asg (pe_tup (pa_cons (pe_lst pa_nil) (pa_cons (pe_lst pa_nil) pa_nil))) (pg_tup (by rfl) (pgs_cons (pg_name (i := 7) scLaw.nd rfl (Or.inl rfl)) (pgs_cons (pg_name (i := 8) scLaw.nd rfl (Or.inr rfl)) pgs_nil)))⟩
theorem lawT9 (l : Lw P w K mg base C CS CW t) (hr : Room 7 (A0.deeper (envOfC "law" (defScope (top 56)) s.heap.objs.size f cdv))) : ∃ tt, PS (cxOf CX0 P w K mg base NL "law" (defScope (top 56)) f cdv A0 outer s H0 E).nox (lawSt 9) tt := by
  obtain ⟨T, L, LS, cr, fT, fDraws, fLong, fPut, fEdit, fEdits, fText, fHeard, fAre, fAll, fIn, mHI, mDo, mHist, mTurn, mText, mWait⟩ := l
  exact ⟨_, ps_for PassesOwn.never rfl (pi_range1 rfl T.range_ (pa_cons ((pe_callB call_len_seq (by rfl) T.len_ PySem.boot_len (pa_cons (pv 6) pa_nil))) pa_nil)) (pg_name (i := 9) scLaw.nd rfl (Or.inr rfl)) (pss_cons ((ps_set (i := 10) scLaw.nd rfl (Or.inr rfl) ((pe_ix ix_list (pv 2) ((pe_fn fT (by first | exact hr | exact hr.mono (by decide) | exact room_gx hr hA | exact (room_gx hr hA).mono (by decide)) (pa_cons (pv 1) (pa_cons ((pe_callB call_len_seq (by rfl) T.len_ PySem.boot_len (pa_cons (pv 2) pa_nil))) pa_nil)))) (fun _ _ => rfl)))))
      (pss_cons ((ps_set (i := 11) scLaw.nd rfl (Or.inl rfl) ((pe_callB (cr_sum rfl) (by rfl) T.sum_ (by decide +kernel) (pa_cons ((pe_lc (own := [("j", 23)]) (g := (gName 23)) rfl scLaw.nd (pi_range1 rfl T.range_ (pa_cons (pv 9) pa_nil)) (blkOk_by (own := [("j", 23)]) (N := ["script", "draws", "hands", "base", "turn", "text", "edits", "made", "owners", "k", "hand", "more", "place", "gone", "come", "due", "here", "edit", "off", "others", "number", "name", "sign", "j", "one"]) (sc := defScope (top 56)) (by decide +kernel))
        (fun _ _ _ _ _ => (pg_name (i := 23) scLaw.nd rfl (Or.inl rfl))) (fun _ _ _ _ _ => pts_one (pt_cmpR op_eq (pe_ix (ixlK (K := K)) (pv 8) (pv 23) (fun _ _ => rfl)) (fldK (K := K) ((fldK (K := K) (pv 10) rfl)) rfl) (nomark _))) (fun _ _ _ _ _ => pe_op op_sub (pe_callB call_len_str (by rfl) T.len_ PySem.boot_len (pa_cons ((pe_ix (ixtK (K := K)) ((pe_ix (ixtK (K := K)) (pv 6) (pv 23) (fun _ _ => rfl))) (pe_int) (fun _ _ => rfl))) pa_nil)) (pe_ix (ixtK (K := K)) ((pe_ix (ixtK (K := K)) (pv 6) (pv 23) (fun _ _ => rfl))) (pe_int) (fun _ _ => rfl))))) pa_nil)))))
      (pss_cons (ps_asg (pe_ix ix_tup (pv 6) (pv 9) (fun _ _ => rfl)) (pg_tup (by rfl) (pgs_cons (pg_name (i := 12) scLaw.nd rfl (Or.inl rfl)) (pgs_cons (pg_name (i := 13) scLaw.nd rfl (Or.inl rfl)) (pgs_cons (pg_name (i := 14) scLaw.nd rfl (Or.inl rfl)) pgs_nil)))))
      (pss_cons ((ps_set (i := 7) scLaw.nd rfl (Or.inl rfl) (pe_op op_cat (pv 7) (pe_callTy call_list_of (by rfl) T.list_ (by decide +kernel) (pa_cons ((pe_mth mDo (by first | exact hr | exact hr.mono (by decide) | exact room_gx hr hA | exact (room_gx hr hA).mono (by decide)) (pv 10) (pa_cons (pe_tup (pa_cons (pe_op op_add (pv 12) (pv 11)) (pa_cons (pv 13) (pa_cons (pv 14) pa_nil)))) pa_nil))) pa_nil)))))
      (pss_one (ps_expr (pe_bm PySem.F.plainAttrs_list PySem.F.slot_list_append PySem.F.type_list_append mt_append (pv 8) (pa_cons ((pe_fld ((pe_fld (pv 10) rfl)) rfl)) pa_nil))))))))⟩
theorem lawT10 (l : Lw P w K mg base C CS CW t) (hr : Room 7 (A0.deeper (envOfC "law" (defScope (top 56)) s.heap.objs.size f cdv))) : ∃ tt, PS (cxOf CX0 P w K mg base NL "law" (defScope (top 56)) f cdv A0 outer s H0 E).nox (lawSt 10) tt := by
  obtain ⟨T, L, LS, cr, fT, fDraws, fLong, fPut, fEdit, fEdits, fText, fHeard, fAre, fAll, fIn, mHI, mDo, mHist, mTurn, mText, mWait⟩ := l
  exact ⟨_, ps_expr (pe_fn fHeard (by first | exact hr | exact hr.mono (by decide) | exact room_gx hr hA | exact (room_gx hr hA).mono (by decide)) (pa_cons (pv 1) (pa_cons (pv 2) (pa_cons (pv 7) pa_nil))))⟩
theorem lawT11 (l : Lw P w K mg base C CS CW t) (hr : Room 7 (A0.deeper (envOfC "law" (defScope (top 56)) s.heap.objs.size f cdv))) : ∃ tt, PS (cxOf CX0 P w K mg base NL "law" (defScope (top 56)) f cdv A0 outer s H0 E).nox (lawSt 11) tt := by
  obtain ⟨T, L, LS, cr, fT, fDraws, fLong, fPut, fEdit, fEdits, fText, fHeard, fAre, fAll, fIn, mHI, mDo, mHist, mTurn, mText, mWait⟩ := l
  exact ⟨_, (ps_set (i := 15) scLaw.nd rfl (Or.inr rfl) ((pe_fn fAll (by first | exact hr | exact hr.mono (by decide) | exact room_gx hr hA | exact (room_gx hr hA).mono (by decide)) (pa_cons (pv 5) (pa_cons (pv 6) pa_nil)))))⟩
theorem lawT12 (l : Lw P w K mg base C CS CW t) (hr : Room 7 (A0.deeper (envOfC "law" (defScope (top 56)) s.heap.objs.size f cdv))) : ∃ tt, PS (cxOf CX0 P w K mg base NL "law" (defScope (top 56)) f cdv A0 outer s H0 E).nox (lawSt 12) tt := by
  obtain ⟨T, L, LS, cr, fT, fDraws, fLong, fPut, fEdit, fEdits, fText, fHeard, fAre, fAll, fIn, mHI, mDo, mHist, mTurn, mText, mWait⟩ := l
  exact ⟨_, ps_if (PW.pt (pw_or (pt_cmpR (op_neD hr.units) (pe_lc (own := [("hand", 10)]) (g := (gName 10)) rfl scLaw.nd (pi_list (pv 2)) (blkOk_by (own := [("hand", 10)]) (N := ["script", "draws", "hands", "base", "turn", "text", "edits", "made", "owners", "k", "hand", "more", "place", "gone", "come", "due", "here", "edit", "off", "others", "number", "name", "sign", "j", "one"]) (sc := defScope (top 56)) (by decide +kernel))
        (fun _ _ _ _ _ => (pg_name (i := 10) scLaw.nd rfl (Or.inl rfl))) (fun _ _ _ _ _ => pts_one (PW.pt (pw_or (pt_cmpR op_ne (pe_mth0 mText (by first | exact hr | exact hr.mono (by decide) | exact room_gx hr hA | exact (room_gx hr hA).mono (by decide)) ((fldK (K := K) (pv 10) rfl))) (pv 15) (nomark _)) (pw_or1 (pt_cmpR op_ne (pe_mth0 mWait (by first | exact hr | exact hr.mono (by decide) | exact room_gx hr hA | exact (room_gx hr hA).mono (by decide)) ((fldK (K := K) (pv 10) rfl))) pe_int (nomark _)))))) (fun _ _ _ _ _ => pv 10)) (pe_lst pa_nil) (nomark _)) (pw_or1 (pt_cmpR op_ne (pe_fn fText (by first | exact hr | exact hr.mono (by decide) | exact room_gx hr hA | exact (room_gx hr hA).mono (by decide)) (pa_cons (pe_op op_cat (pv 3) (pv 7)) pa_nil)) (pv 15) (nomark _))))) (pss_one (ps_ret pe_bl)) pss_nil⟩
theorem lawT13 (l : Lw P w K mg base C CS CW t) (hr : Room 7 (A0.deeper (envOfC "law" (defScope (top 56)) s.heap.objs.size f cdv))) : ∃ tt, PS (cxOf CX0 P w K mg base NL "law" (defScope (top 56)) f cdv A0 outer s H0 E).nox (lawSt 13) tt := by
  obtain ⟨T, L, LS, cr, fT, fDraws, fLong, fPut, fEdit, fEdits, fText, fHeard, fAre, fAll, fIn, mHI, mDo, mHist, mTurn, mText, mWait⟩ := l
  exact ⟨_, (ps_set (i := 16) scLaw.nd rfl (Or.inl rfl) (pv 5))⟩
theorem lawT14 (l : Lw P w K mg base C CS CW t) (hr : Room 7 (A0.deeper (envOfC "law" (defScope (top 56)) s.heap.objs.size f cdv))) : ∃ tt, PS (cxOf CX0 P w K mg base NL "law" (defScope (top 56)) f cdv A0 outer s H0 E).nox (lawSt 14) tt := by
  obtain ⟨T, L, LS, cr, fT, fDraws, fLong, fPut, fEdit, fEdits, fText, fHeard, fAre, fAll, fIn, mHI, mDo, mHist, mTurn, mText, mWait⟩ := l
  exact ⟨_, ps_for PassesOwn.never rfl (pi_tup (pe_fn fIn (by first | exact hr | exact hr.mono (by decide) | exact room_gx hr hA | exact (room_gx hr hA).mono (by decide)) (pa_cons (pv 5) (pa_cons (pv 6) pa_nil)))) (pg_name (i := 17) scLaw.nd rfl (Or.inl rfl)) (pss_one ((ps_set (i := 16) scLaw.nd rfl (Or.inl rfl) ((pe_fn fPut (by first | exact hr | exact hr.mono (by decide) | exact room_gx hr hA | exact (room_gx hr hA).mono (by decide)) (pa_cons (pv 16) (pa_cons (pv 17) pa_nil)))))))⟩
theorem lawT15 (l : Lw P w K mg base C CS CW t) (hr : Room 7 (A0.deeper (envOfC "law" (defScope (top 56)) s.heap.objs.size f cdv))) : ∃ tt, PS (cxOf CX0 P w K mg base NL "law" (defScope (top 56)) f cdv A0 outer s H0 E).nox (lawSt 15) tt := by
  obtain ⟨T, L, LS, cr, fT, fDraws, fLong, fPut, fEdit, fEdits, fText, fHeard, fAre, fAll, fIn, mHI, mDo, mHist, mTurn, mText, mWait⟩ := l
  exact ⟨_, ps_if (pt_cmpR op_ne (pv 16) (pv 15) (nomark _)) (pss_one (ps_ret pe_bl)) pss_nil⟩
theorem lawT16 (l : Lw P w K mg base C CS CW t) (hr : Room 7 (A0.deeper (envOfC "law" (defScope (top 56)) s.heap.objs.size f cdv))) : ∃ tt, PS (cxOf CX0 P w K mg base NL "law" (defScope (top 56)) f cdv A0 outer s H0 E).nox (lawSt 16) tt := by
  obtain ⟨T, L, LS, cr, fT, fDraws, fLong, fPut, fEdit, fEdits, fText, fHeard, fAre, fAll, fIn, mHI, mDo, mHist, mTurn, mText, mWait⟩ := l
  exact ⟨_, ps_par (i := 18) (j := 19) (by rfl) scLaw.nd rfl rfl (by decide) rfl rfl (pa_cons (pe_lst pa_nil) (pa_cons (pe_lst pa_nil) pa_nil)) (by rfl)⟩
theorem lawT17 (l : Lw P w K mg base C CS CW t) (hr : Room 7 (A0.deeper (envOfC "law" (defScope (top 56)) s.heap.objs.size f cdv))) : ∃ tt, PS (cxOf CX0 P w K mg base NL "law" (defScope (top 56)) f cdv A0 outer s H0 E).nox (lawSt 17) tt := by
  obtain ⟨T, L, LS, cr, fT, fDraws, fLong, fPut, fEdit, fEdits, fText, fHeard, fAre, fAll, fIn, mHI, mDo, mHist, mTurn, mText, mWait⟩ := l
  exact ⟨_, ps_for PassesOwn.never rfl (pi_range1 rfl T.range_ (pa_cons ((pe_callB call_len_seq (by rfl) T.len_ PySem.boot_len (pa_cons (pv 6) pa_nil))) pa_nil)) (pg_name (i := 9) scLaw.nd rfl (Or.inr rfl)) (pss_cons ((ps_set (i := 10) scLaw.nd rfl (Or.inr rfl) ((pe_ix ix_list ((pe_lc (own := [("one", 24)]) (g := (gName 24)) rfl scLaw.nd (pi_list (pv 2)) (blkOk_by (own := [("one", 24)]) (N := ["script", "draws", "hands", "base", "turn", "text", "edits", "made", "owners", "k", "hand", "more", "place", "gone", "come", "due", "here", "edit", "off", "others", "number", "name", "sign", "j", "one"]) (sc := defScope (top 56)) (by decide +kernel))
        (fun _ _ _ _ _ => (pg_name (i := 24) scLaw.nd rfl (Or.inl rfl))) (fun _ _ _ _ _ => pts_one (pt_cmpR op_eq (fldK (K := K) ((fldK (K := K) (pv 24) rfl)) rfl) (pe_ix (ixlK (K := K)) (pv 8) (pv 9) (fun _ _ => rfl)) (nomark _))) (fun _ _ _ _ _ => pv 24))) (pe_int) (fun _ _ => rfl)))))
      (pss_one (ps_if (pt_cmpR op_eq (pe_fn fT (by first | exact hr | exact hr.mono (by decide) | exact room_gx hr hA | exact (room_gx hr hA).mono (by decide)) (pa_cons (pv 1) (pa_cons (pe_int) pa_nil))) pe_int (nomark _)) (pss_cons ((ps_set (i := 20) scLaw.nd rfl (Or.inl rfl) (pe_op op_sub (pe_callB call_len_seq (by rfl) T.len_ PySem.boot_len (pa_cons ((pe_mth0 mHist (by first | exact hr | exact hr.mono (by decide) | exact room_gx hr hA | exact (room_gx hr hA).mono (by decide)) (pv 10))) pa_nil)) (pe_callB call_len_seq (by rfl) T.len_ PySem.boot_len (pa_cons ((pe_lc (own := [("one", 24)]) (g := (gName 24)) rfl scLaw.nd (pi_list (pe_slice sl_list (pv 8) (po_some (pv 9)) po_none)) (blkOk_by (own := [("one", 24)]) (N := ["script", "draws", "hands", "base", "turn", "text", "edits", "made", "owners", "k", "hand", "more", "place", "gone", "come", "due", "here", "edit", "off", "others", "number", "name", "sign", "j", "one"]) (sc := defScope (top 56)) (by decide +kernel))
        (fun _ _ _ _ _ => (pg_name (i := 24) scLaw.nd rfl (Or.inl rfl))) (fun _ _ _ _ _ => pts_one (pt_cmpR op_eq (pv 24) (pe_ix (ixlK (K := K)) (pv 8) (pv 9) (fun _ _ => rfl)) (nomark _))) (fun _ _ _ _ _ => pv 24))) pa_nil)))))
      (pss_one ((ps_set (i := 18) scLaw.nd rfl (Or.inl rfl) (pe_op op_cat (pv 18) (pe_callTy call_list_of (by rfl) T.list_ (by decide +kernel) (pa_cons ((pe_mth mTurn (by first | exact hr | exact hr.mono (by decide) | exact room_gx hr hA | exact (room_gx hr hA).mono (by decide)) (pv 10) (pa_cons (pv 20) pa_nil))) pa_nil)))))))
    (pss_one (ps_expr (pe_bm PySem.F.plainAttrs_list PySem.F.slot_list_append PySem.F.type_list_append mt_append (pv 19) (pa_cons ((pe_ix ix_tup (pv 6) (pv 9) (fun _ _ => rfl))) pa_nil)))))))⟩
theorem lawT18 (l : Lw P w K mg base C CS CW t) (hr : Room 7 (A0.deeper (envOfC "law" (defScope (top 56)) s.heap.objs.size f cdv))) : ∃ tt, PS (cxOf CX0 P w K mg base NL "law" (defScope (top 56)) f cdv A0 outer s H0 E).nox (lawSt 18) tt := by
  obtain ⟨T, L, LS, cr, fT, fDraws, fLong, fPut, fEdit, fEdits, fText, fHeard, fAre, fAll, fIn, mHI, mDo, mHist, mTurn, mText, mWait⟩ := l
  exact ⟨_, ps_expr (pe_fn fHeard (by first | exact hr | exact hr.mono (by decide) | exact room_gx hr hA | exact (room_gx hr hA).mono (by decide)) (pa_cons (pv 1) (pa_cons (pv 2) (pa_cons (pv 18) pa_nil))))⟩
theorem lawT19 (l : Lw P w K mg base C CS CW t) (hr : Room 7 (A0.deeper (envOfC "law" (defScope (top 56)) s.heap.objs.size f cdv))) : ∃ tt, PS (cxOf CX0 P w K mg base NL "law" (defScope (top 56)) f cdv A0 outer s H0 E).nox (lawSt 19) tt := by
  obtain ⟨T, L, LS, cr, fT, fDraws, fLong, fPut, fEdit, fEdits, fText, fHeard, fAre, fAll, fIn, mHI, mDo, mHist, mTurn, mText, mWait⟩ := l
  exact ⟨_, (ps_set (i := 15) scLaw.nd rfl (Or.inr rfl) ((pe_fn fAll (by first | exact hr | exact hr.mono (by decide) | exact room_gx hr hA | exact (room_gx hr hA).mono (by decide)) (pa_cons (pv 5) (pa_cons ((pe_callTy call_tuple_of (by rfl) T.tuple_ (by decide +kernel) (pa_cons (pv 19) pa_nil))) pa_nil)))))⟩
theorem lawT20 (l : Lw P w K mg base C CS CW t) (hr : Room 7 (A0.deeper (envOfC "law" (defScope (top 56)) s.heap.objs.size f cdv))) : ∃ tt, PS (cxOf CX0 P w K mg base NL "law" (defScope (top 56)) f cdv A0 outer s H0 E).nox (lawSt 20) tt := by
  obtain ⟨T, L, LS, cr, fT, fDraws, fLong, fPut, fEdit, fEdits, fText, fHeard, fAre, fAll, fIn, mHI, mDo, mHist, mTurn, mText, mWait⟩ := l
  exact ⟨_, ps_ret (pe_cmpR (op_eqD hr.units) (pe_lc (own := [("hand", 10)]) (g := (gName 10)) rfl scLaw.nd (pi_list (pv 2)) (blkOk_by (own := [("hand", 10)]) (N := ["script", "draws", "hands", "base", "turn", "text", "edits", "made", "owners", "k", "hand", "more", "place", "gone", "come", "due", "here", "edit", "off", "others", "number", "name", "sign", "j", "one"]) (sc := defScope (top 56)) (by decide +kernel))
        (fun _ _ _ _ _ => (pg_name (i := 10) scLaw.nd rfl (Or.inl rfl))) (fun _ _ _ _ _ => pts_one (pt_cmpR op_ne (pe_mth0 mText (by first | exact hr | exact hr.mono (by decide) | exact room_gx hr hA | exact (room_gx hr hA).mono (by decide)) ((fldK (K := K) (pv 10) rfl))) (pv 15) (nomark _))) (fun _ _ _ _ _ => pv 10)) (pe_lst pa_nil) (nomark _))⟩
end
end K80
namespace K80
open PySem PySem.Spec PyProof.Rows L2 Gx GxR NdefX
open PySem.SeqAt
/-! ### the heap while law runs -/
structure Stt (C CS CW : Addr) (t : Tbs) (H : Hp) (a hl : Addr) (Bs : List HA) (ms : List Hm) : Prop where
  dr : DrAt H a
  hs : H hl = some (.lst (Bs.map fun B => V.ref B.p))
  hd : Hands C CS CW H Bs ms
  na : hl ≠ a
  fp : ∀ b, inFp Bs b → b ≠ a ∧ b ≠ hl
  tb : Tb t H
/-- a list of law's own -/
structure Sep (a hl : Addr) (Bs : List HA) (p : Addr) : Prop where
  a : p ≠ a
  hl : p ≠ hl
  fp : ¬ inFp Bs p
section
variable {C CS CW : Addr} {t : Tbs} {H H' : Hp} {a hl : Addr} {Bs : List HA} {ms : List Hm}
theorem DrAt.live {H : Hp} {a : Addr} (h : DrAt H a) : H a ≠ none := by
  obtain ⟨ns, z⟩ := h
  rw [z.at_]
  exact Option.some_ne_none _
theorem Stt.gwa (h : Stt C CS CW t H a hl Bs ms) (g : Gw (fun b => b = a) H H') (d : DrAt H' a) : Stt C CS CW t H' a hl Bs ms :=
  ⟨d, g.oth _ _ h.hs (fun _ z => by cases z) h.na, h.hd.gw g fun b hb z => (h.fp b hb).1 z, h.na, h.fp, h.tb.gw g⟩
theorem Stt.gw0 (h : Stt C CS CW t H a hl Bs ms) (g : Gw D0 H H') : Stt C CS CW t H' a hl Bs ms := h.gwa g.of0 (h.dr.gw g fun z => z)
theorem Stt.sep (h : Stt C CS CW t H a hl Bs ms) {p : Addr} (n : H p = none) : Sep a hl Bs p :=
  ⟨(fun e => h.dr.live (e ▸ n)), (fun e => by rw [e, h.hs] at n; cases n), fun z => h.hd.live z n⟩
theorem Stt.put (h : Stt C CS CW t H a hl Bs ms) {p : Addr} (s : Sep a hl Bs p) (g : Gw (fun b => b = p) H H') : Stt C CS CW t H' a hl Bs ms :=
  ⟨h.dr.gw g fun z => s.a z.symm, g.oth _ _ h.hs (fun _ z => by cases z) (fun z => s.hl z.symm), h.hd.gw g fun b hb z => s.fp (z ▸ hb), h.na, h.fp, h.tb.gw g⟩
theorem Stt.at_ (h : Stt C CS CW t H a hl Bs ms) {j : Nat} {m : Hm} (e : ms[j]? = some m) : ∃ B, Bs[j]? = some B ∧ HandAt C CS CW H B m ∧ (Bs.map fun B => V.ref B.p)[j]? = some (.ref B.p) := by
  obtain ⟨B, h1, h2⟩ := h.hd.at_.get' e
  exact ⟨B, h1, h2, by rw [List.getElem?_map, h1]; rfl⟩
/-- one hand has done something -/
theorem Stt.set (h : Stt C CS CW t H a hl Bs ms) {j : Nat} {B B' : HA} {m' : Hm} (hj : Bs[j]? = some B) (hB : HandAt C CS CW H' B' m') (ep : B'.p = B.p) (hf : ∀ b ∈ B'.fp, b ∈ B.fp ∨ H b = none) (g : Gw (fun b => b ∈ B.fp) H H') :
    Stt C CS CW t H' a hl (Bs.set j B') (ms.set j m') ∧ ∀ p, Sep a hl Bs p → H p ≠ none → Sep a hl (Bs.set j B') p := by
  have inB : ∀ b, b ∈ B.fp → inFp Bs b := fun b z => ⟨B, List.mem_of_getElem? hj, z⟩
  have emap : (Bs.set j B').map (fun B => V.ref B.p) = Bs.map fun B => V.ref B.p := by
    apply List.ext_getElem?
    intro k
    rw [List.getElem?_map, List.getElem?_map]
    by_cases e : j = k
    · subst e
      rw [List.getElem?_set_self (List.getElem?_eq_some_iff.mp hj).1, hj]
      show some (V.ref B'.p) = some (V.ref B.p)
      rw [ep]
    · rw [List.getElem?_set_ne e]
  have nfp : ∀ p, H p ≠ none → ¬ inFp Bs p → ¬ inFp (Bs.set j B') p := fun p hp n z => (fp_set hj hf z).elim n hp
  refine ⟨⟨h.dr.gw g fun z => (h.fp a (inB a z)).1 rfl, ?_, h.hd.set hj hB hf g, h.na, fun b hb => ?_, h.tb.gw g⟩, fun p s hp => ⟨s.a, s.hl, nfp p hp s.fp⟩⟩
  · rw [emap]
    exact g.oth _ _ h.hs (fun _ z => by cases z) (fun z => (h.fp hl (inB hl z)).2 rfl)
  · rcases fp_set hj hf hb with z | z
    · exact h.fp b z
    · exact ⟨fun e => h.dr.live (e ▸ z), fun e => by rw [e, h.hs] at z; cases z⟩
end
/-- a list of operations -/
def Ls (H : Hp) (p : Addr) (ops : List Op) : Prop := ∃ us, H p = some (.lst us) ∧ All2 (OpAt H) us ops
theorem Ls.gw {D : Addr → Prop} {H H' : Hp} {p : Addr} {ops : List Op} (h : Ls H p ops) (g : Gw D H H') (n : ¬ D p) : Ls H' p ops := let ⟨us, h1, h2⟩ := h; ⟨us, g.oth _ _ h1 (fun _ z => by cases z) n, h2.mono fun _ _ z => z.gw g⟩
theorem Ls.live {H : Hp} {p : Addr} {ops : List Op} (h : Ls H p ops) : H p ≠ none := by
  obtain ⟨us, h1, _⟩ := h
  rw [h1]
  exact Option.some_ne_none _
abbrev SLs (H : Hp) (a hl : Addr) (Bs : List HA) (p : Addr) (ops : List Op) : Prop := Ls H p ops ∧ Sep a hl Bs p
/-- the names -/
def nms : List Str := ["a", "b", "c", "d"]
theorem nms_nd : nms.Nodup := by unfold nms; decide +kernel
theorem nms_nam : ∀ x ∈ nms, Nam x := by
  intro x hx
  have h : ∀ x ∈ nms, 1 ≤ x.length ∧ x.length ≤ 16 ∧ (∀ c ∈ x.cps.toList, 97 ≤ c ∧ c ≤ 122) := by
    unfold nms
    decide +kernel
  have nm : Nm x := h x hx
  exact ⟨nm, strOk_nm nm⟩
def nm0 (r : Nat) : List Str := nms.take (2 + r)
theorem nm0_nd (r : Nat) : (nm0 r).Nodup := nms_nd.sublist (List.take_sublist _ _)
theorem nm0_nam (r : Nat) : ∀ x ∈ nm0 r, Nam x := fun x hx => nms_nam x (List.mem_of_mem_take hx)
theorem nm0_len {r : Nat} (h : r < 3) : (nm0 r).length = 2 + r := by
  unfold nm0 nms
  rw [List.length_take]
  show min (2 + r) 4 = _
  omega
theorem nm0_at {r j : Nat} {x : Str} (h : (nm0 r)[j]? = some x) : nms[j]? = some x := by
  unfold nm0 at h
  rw [List.getElem?_take] at h
  split at h
  · exact h
  · cases h
section
variable {P : Program} {w : World} {K : PySem.W.Frag} {mg : Str → Option Value} {base : Heap}
variable {C CS CW : Addr} {t : Tbs} {f : Addr} {cdv : Value} {A0 : Around} {outer : List Env} {s : Shared} {H0 : Hp} {E : XK}
abbrev XLaw (P : Program) (w : World) (K : PySem.W.Frag) (mg : Str → Option Value) (base : Heap) (f : Addr) (cdv : Value) (A0 : Around) (outer : List Env) (s : Shared) (H0 : Hp) (E : XK) : Cx := (cxOf CX0 P w K mg base NL "law" (defScope (top 56)) f cdv A0 outer s H0 E).nox
theorem lawS0 (l : Lw P w K mg base C CS CW t) (hr : Room 7 (A0.deeper (envOfC "law" (defScope (top 56)) s.heap.objs.size f cdv))) : ∃ tt, PS (XLaw P w K mg base f cdv A0 outer s H0 E) (lawSt 0) tt ∧ ∀ (sa : Addr) (ns : List Int) (x1 x2 x3 x4 x5 x6 x7 x8 x9 x10 x11 x12 x13 x14 x15 x16 x17 x18 x19 x20 x21 x22 x23 x24 : Option V) (H : Hp) (D : Ends), SqL K H sa (ns.map V.int) → ns.length ≤ 63 → (∀ H' a, DrAt H' a → Gw D0 H H' → D.nx [some (.ref sa), some (.ref a), x2, x3, x4, x5, x6, x7, x8, x9, x10, x11, x12, x13, x14, x15, x16, x17, x18, x19, x20, x21, x22, x23, x24] H') → tt D [some (.ref sa), x1, x2, x3, x4, x5, x6, x7, x8, x9, x10, x11, x12, x13, x14, x15, x16, x17, x18, x19, x20, x21, x22, x23, x24] H := by
  obtain ⟨T, L, LS, cr, fT, fDraws, fLong, fPut, fEdit, fEdits, fText, fHeard, fAre, fAll, fIn, mHI, mDo, mHist, mTurn, mText, mWait⟩ := l
  refine ⟨_, (ps_set (i := 1) scLaw.nd rfl (Or.inr rfl) ((pe_fn fLong (by first | exact hr | exact hr.mono (by decide) | exact room_gx hr hA | exact (room_gx hr hA).mono (by decide)) (pa_cons ((pe_fn fDraws (by first | exact hr | exact hr.mono (by decide) | exact room_gx hr hA | exact (room_gx hr hA).mono (by decide)) (pa_cons (pv 0) pa_nil))) pa_nil)))), ?_⟩
  intro sa ns x1 x2 x3 x4 x5 x6 x7 x8 x9 x10 x11 x12 x13 x14 x15 x16 x17 x18 x19 x20 x21 x22 x23 x24 H D hs hl q
  refine ⟨_, rfl, sa, ns, rfl, hs, hl, fun H1 p ds h1 hne hlen n1 g1 => ?_⟩
  exact ⟨p, ds, rfl, h1, hne, hlen, fun H2 p2 h2 n2 g2 => q H2 p2 h2 (g1.trans g2)⟩
theorem Hands.snoc {C CS CW : Addr} {H : Hp} {Bs : List HA} {ms : List Hm} {B : HA} {m : Hm} (h : Hands C CS CW H Bs ms) (hB : HandAt C CS CW H B m) (n : ∀ b ∈ B.fp, ¬ inFp Bs b) : Hands C CS CW H (Bs ++ [B]) (ms ++ [m]) := by
  refine ⟨h.at_.snoc hB, fun i j X Y hij e1 e2 b hb hb2 => ?_⟩
  rcases snoc_get e1 with ⟨a1, _⟩ | ⟨rfl, rfl, _⟩
  · rcases snoc_get e2 with ⟨a2, _⟩ | ⟨rfl, rfl, _⟩
    · exact h.apart i j X Y hij a1 a2 b hb hb2
    · exact n b hb2 ⟨X, List.mem_of_getElem? a1, hb⟩
  · rcases snoc_get e2 with ⟨a2, _⟩ | ⟨rfl, rfl, _⟩
    · exact n b hb ⟨Y, List.mem_of_getElem? a2, hb2⟩
    · exact hij rfl
theorem inFp_snoc {Bs : List HA} {B : HA} {b : Addr} (h : inFp (Bs ++ [B]) b) : inFp Bs b ∨ b ∈ B.fp := by
  obtain ⟨X, hX, hb⟩ := h
  rcases List.mem_append.mp hX with z | z
  · exact .inl ⟨X, z, hb⟩
  · exact .inr (List.mem_singleton.mp z ▸ hb)
theorem cut_nms {r : Nat} (h : r < 3) : cutV [V.str "a", V.str "b", V.str "c", V.str "d"] none (some (2 + ((r : Nat) : Int))) = (nm0 r).map V.str := by
  match r, h with
  | 0, _ => rfl
  | 1, _ => rfl
  | 2, _ => rfl
theorem lawS1 (l : Lw P w K mg base C CS CW t) (hr : Room 7 (A0.deeper (envOfC "law" (defScope (top 56)) s.heap.objs.size f cdv))) : ∃ tt, PS (XLaw P w K mg base f cdv A0 outer s H0 E) (lawSt 1) tt ∧ ∀ (a : Addr) (x0 x2 x3 x4 x5 x6 x7 x8 x9 x10 x11 x12 x13 x14 x15 x16 x17 x18 x19 x20 x21 x22 x23 x24 : Option V) (H : Hp) (D : Ends), DrAt H a → Tb t H → (∀ H' hl Bs r, r < 3 → Stt C CS CW t H' a hl Bs ((nm0 r).map hm0) → D.nx [x0, some (.ref a), some (.ref hl), x3, x4, x5, x6, x7, x8, x9, x10, x11, x12, x13, x14, x15, x16, x17, x18, x19, x20, x21, x22, x23, x24] H') → tt D [x0, some (.ref a), x2, x3, x4, x5, x6, x7, x8, x9, x10, x11, x12, x13, x14, x15, x16, x17, x18, x19, x20, x21, x22, x23, x24] H := by
  obtain ⟨T, L, LS, cr, fT, fDraws, fLong, fPut, fEdit, fEdits, fText, fHeard, fAre, fAll, fIn, mHI, mDo, mHist, mTurn, mText, mWait⟩ := l
  refine ⟨_, (ps_setLc (i := 2) (own := [("name", 21)]) (g := (gName 21)) (by rfl) scLaw.nd rfl rfl (sw_true rfl rfl rfl (by decide +kernel)) (pi_list (pe_slice sl_list (pe_lst (pa_cons (pe_str) (pa_cons (pe_str) (pa_cons (pe_str) (pa_cons (pe_str) pa_nil))))) po_none (po_some (pe_op op_add pe_int (pe_fn fT (by first | exact hr | exact hr.mono (by decide) | exact room_gx hr hA | exact (room_gx hr hA).mono (by decide)) (pa_cons (pv 1) (pa_cons (pe_int) pa_nil))))))) (blkOk_by (own := [("name", 21)]) (N := ["script", "draws", "hands", "base", "turn", "text", "edits", "made", "owners", "k", "hand", "more", "place", "gone", "come", "due", "here", "edit", "off", "others", "number", "name", "sign", "j", "one"]) (sc := defScope (top 56)) (by decide +kernel))
        (fun _ _ _ _ _ => (pg_name (i := 21) scLaw.nd rfl (Or.inl rfl))) (fun _ _ _ _ _ => pts_nil) (fun _ _ _ _ _ => pe_new mHI cr L.mgC (hr.mono (by decide)) (pa_cons (pv 21) pa_nil))), ?_⟩
  intro a x0 x2 x3 x4 x5 x6 x7 x8 x9 x10 x11 x12 x13 x14 x15 x16 x17 x18 x19 x20 x21 x22 x23 x24 H D hd tb q
  refine ⟨by rw [sizeLine_eq]; show 4 ≤ _; omega, fun l4 n4 => ?_⟩
  have na4 : l4 ≠ a := fun e => hd.live (e ▸ n4)
  have g4 : Gw D0 H (upd H l4 (.lst [.str "a", .str "b", .str "c", .str "d"])) := Gw.refl.new n4
  refine ⟨_, rfl, a, 3, rfl, hd.gw g4 (fun z => z), by decide, fun H1 r hr hd1 g1 => ?_⟩
  have h4 : H1 l4 = some (.lst [.str "a", .str "b", .str "c", .str "d"]) := g1.oth _ _ upd_same (fun _ z => by cases z) na4
  have tb1 := (tb.gw g4).gw g1
  refine ⟨_, _, rfl, rfl, _, rfl, l4, _, rfl, SqL.of h4, fun p np => ⟨p, rfl, ⟨_, SqL.of upd_same⟩, fun d nd => ?_⟩⟩
  rw [cut_nms hr] at nd ⊢
  have npa : p ≠ a := fun e => hd1.live (e ▸ np)
  have gp : Gw D0 H1 (upd H1 p (.lst ((nm0 r).map V.str))) := Gw.refl.new np
  have hp2 : upd H1 p (.lst ((nm0 r).map V.str)) p = some (.lst ((nm0 r).map V.str)) := upd_same
  have hd2 := hd1.gw gp (fun z => z)
  have tb2 := tb1.gw gp
  generalize upd H1 p (.lst ((nm0 r).map V.str)) = H2 at gp hp2 hd2 tb2 nd ⊢
  have nda : d ≠ a := fun e => hd2.live (e ▸ nd)
  have npd : p ≠ d := ne_of_none hp2 nd
  have gd : Gw D0 H2 (upd H2 d (.lst [])) := Gw.refl.new nd
  refine lc_it (walk_list (xs := (nm0 r).map V.str)) (fun i H' => DrAt H' a ∧ Tb t H' ∧ H' p = some (.lst ((nm0 r).map V.str)) ∧ ∃ Bs, H' d = some (.lst (Bs.map fun B => V.ref B.p)) ∧ Bs.length = i ∧ Hands C CS CW H' Bs (((nm0 r).take i).map hm0) ∧ ∀ b, inFp Bs b → b ≠ a ∧ b ≠ d) ⟨hd2.gw gd (fun z => z), tb2.gw gd, gd.oth _ _ hp2 (fun _ z => by cases z) (fun z => z), [], upd_same, rfl, ⟨All2.nil, fun i j B B' _ h => by simp at h⟩, fun b ⟨B, hB, _⟩ => by cases hB⟩ (fun i H' _ z => SqL.of z.2.2.1) ?_ ?_
  · rintro i y H3 H3' hi ⟨hd3, tb3, hp3, Bs, hB3, hlen, hh, hfp⟩ ⟨rfl, hy⟩
    rw [List.getElem?_map] at hy
    cases hx : (nm0 r)[i]? with
    | none => rw [hx] at hy; cases hy
    | some x =>
      rw [hx] at hy
      cases Option.some.inj hy
      refine ⟨rfl, _, rfl, fun ho dx nho ndx nhd => ?_⟩
      have g5 : Gw D0 H3' (upd (upd H3' dx (.own ho)) ho (.ins C dx [])) := (Gw.refl.new ndx).new (by rw [upd_ne nhd.symm]; exact nho)
      refine ⟨ho, dx, x, rfl, upd_same, (nm0_nam r x (List.mem_of_getElem? hx)).nm, tb3.gw g5, fun H6 B eB hB g6 hf => ⟨rfl, ?_⟩⟩
      have fresh : ∀ b ∈ B.fp, H3' b = none := fun b hb => by
        rcases hf b hb with z | z
        · rw [z]; exact nho
        · exact g5.non b z
      have G6 : Gw D0 H3' H6 := g5.go g6 fun b z hb => absurd (z ▸ nho) hb
      have hB6 := G6.oth _ _ hB3 (fun _ z => by cases z) (fun z => z)
      have dB : d ∉ B.fp := fun z => by
        have := fresh d z
        rw [hB3] at this; cases this
      have nfp : ∀ b ∈ B.fp, ¬ inFp Bs b := fun b hb z => hh.live z (fresh b hb)
      have g7 : Gw (fun b => b = d) H6 (upd H6 d (.lst (Bs.map (fun B => V.ref B.p) ++ [.ref ho]))) := Gw.refl.put rfl hB6 (fun _ z => by cases z) (fun _ z => by cases z)
      have hl4 : Bs.length < 4 := by
        rw [List.length_map, nm0_len hr] at hi
        omega
      refine ⟨_, hB6, by rw [List.length_map, sizeLine_eq]; omega, (hd3.gw G6 (fun z => z)).gw g7 (fun z => nda z.symm), (tb3.gw G6).gw g7, g7.oth _ _ (G6.oth _ _ hp3 (fun _ z => by cases z) (fun z => z)) (fun _ z => by cases z) npd, Bs ++ [B], ?_, by rw [List.length_append, hlen]; rfl, ?_, fun b hb => ?_⟩
      · rw [upd_same, List.map_append, List.map_singleton, eB]
      · rw [List.take_add_one, hx, List.map_append]
        refine (((hh.gw0 G6).snoc hB nfp).gw g7 fun b hb z => ?_)
        rcases inFp_snoc hb with y | y
        · exact (hfp b y).2 z
        · exact dB (z ▸ y)
      · rcases inFp_snoc hb with y | y
        · exact hfp b y
        · exact ⟨fun e => hd3.live (e ▸ fresh b y), fun e => dB (e ▸ y)⟩
  · rintro H3 ⟨hd3, tb3, hp3, Bs, hB3, hlen, hh, hfp⟩
    rw [List.length_map, List.take_length] at hh
    exact q H3 d Bs r hr ⟨hd3, hB3, hh, nda, hfp, tb3⟩
end
end K80
namespace K80
open PySem PySem.Spec PyProof.Rows L2 Gx GxR NdefX
open PySem.SeqAt
structure F1 (ns : List Str) (ms : List Hm) (A : List Op) (n k : Nat) : Prop where
  base : Base A "a"
  len : A.length ≤ n
  h0 : ∃ m, ms[0]? = some m ∧ m.site = stOf "a" A ∧ m.edits.length ≤ k
  oth : ∀ (j : Nat) (m : Hm), 0 < j → ms[j]? = some m → ∃ x, ns[j]? = some x ∧ m = hm0 x
  msl : ms.length = ns.length
theorem F1.start {r : Nat} : F1 (nm0 r) ((nm0 r).map hm0) [] 0 0 := by
  have e0 : (nm0 r)[0]? = some ("a" : Str) := by
    unfold nm0
    rw [List.getElem?_take, if_pos (by omega)]
    rfl
  refine ⟨Base.nil _, Nat.le_refl _, ⟨hm0 "a", by rw [List.getElem?_map, e0]; rfl, rfl, Nat.le_refl _⟩, fun j m _ h => ?_, List.length_map ..⟩
  rw [List.getElem?_map] at h
  cases hx : (nm0 r)[j]? with
  | none => rw [hx] at h; cases h
  | some x => rw [hx] at h; exact ⟨x, rfl, (Option.some.inj h).symm⟩
theorem nam_a : Nam "a" := nms_nam _ (by unfold nms; exact List.mem_cons_self)
theorem F1.step {ns : List Str} {ms : List Hm} {A : List Op} {n k : Nat} (h : F1 ns ms A n k) {m : Hm} (hm : ms[0]? = some m) {e : Ed} (hn : e.1 + e.2.1 ≤ (vis A).length) (sg : Sgs e.2.2) {d : Nat} (ld : e.2.1 + e.2.2.length ≤ d) (d100 : d ≤ 100) (ln : n ≤ 700) :
    EdFit m.site e ∧ F1 ns (ms.set 0 (doM m e).1) (A ++ (doM m e).2) (n + d) (k + 1) := by
  obtain ⟨m0, hm0, es, le⟩ := h.h0
  rw [hm] at hm0
  cases hm0
  obtain ⟨p, g, c⟩ := e
  have ld : g + c.length ≤ d := ld
  have hl := h.len
  obtain ⟨fit, e1, b2, l2⟩ := base_step nam_a h.base (p := p) (g := g) (c := c) hn sg (by omega) (by omega) (by omega)
  unfold doM
  rw [es]
  have h0 : 0 < ms.length := (List.getElem?_eq_some_iff.mp hm).1
  refine ⟨fit, b2, ?_, ⟨_, List.getElem?_set_self h0, e1, ?_⟩, fun j m' hj h' => ?_, by rw [List.length_set]; exact h.msl⟩
  · show (A ++ (editM (stOf "a" A) (p, g, c)).2).length ≤ n + d
    rw [List.length_append]
    omega
  · show (m.edits ++ [_]).length ≤ k + 1
    rw [List.length_append, List.length_singleton]
    omega
  · rw [List.getElem?_set_ne (by omega)] at h'
    exact h.oth j m' hj h'
section
variable {C CS CW : Addr} {t : Tbs} {H H' : Hp} {a hl : Addr} {Bs : List HA} {ms : List Hm}
/-- list(..) of what a deed gave -/
theorem after_do (h : Stt C CS CW t H a hl Bs ms) {j : Nat} {B B' : HA} {m m' : Hm} {ops : List Op} {u : V} (hj : Bs[j]? = some B) (hm : ms[j]? = some m) (ep : B'.p = B.p) (hf : ∀ b ∈ B'.fp, b ∈ B.fp ∨ H b = none) (hu : OpsAt H' u ops) (hB : HandAt C CS CW H' B' m') (g : Gw (fun b => b ∈ B.fp) H H') :
    ∃ ua us, u = .ref ua ∧ H' ua = some (.tup us) ∧ us.length = ops.length ∧ ∀ lf, H' lf = none → Stt C CS CW t (upd H' lf (.lst us)) a hl (Bs.set j B') (ms.set j m') ∧ SLs (upd H' lf (.lst us)) a hl (Bs.set j B') lf ops ∧ H lf = none ∧ Gw (fun b => b ∈ B.fp) H (upd H' lf (.lst us)) ∧ ∀ p, H p ≠ none → Sep a hl Bs p → Sep a hl (Bs.set j B') p ∧ p ∉ B.fp := by
  obtain ⟨ua, us, e1, e2, e3⟩ := hu
  refine ⟨ua, us, e1, e2, e3.len, fun lf nlf => ?_⟩
  obtain ⟨s1, s2⟩ := h.set (m' := m') hj hB ep hf g
  have gl : Gw D0 H' (upd H' lf (.lst us)) := Gw.refl.new nlf
  have sl := s1.sep nlf
  refine ⟨s1.gw0 gl, ⟨⟨us, upd_same, e3.mono fun _ _ z => z.gw gl⟩, sl⟩, g.non _ nlf, g.pure gl, fun p hp sp => ⟨s2 p sp hp, fun z => sp.fp ⟨B, List.mem_of_getElem? hj, z⟩⟩⟩
end
section
variable {P : Program} {w : World} {K : PySem.W.Frag} {mg : Str → Option Value} {base : Heap}
variable {C CS CW : Addr} {t : Tbs} {f : Addr} {cdv : Value} {A0 : Around} {outer : List Env} {s : Shared} {H0 : Hp} {E : XK}
theorem lawS2 (l : Lw P w K mg base C CS CW t) (hr : Room 7 (A0.deeper (envOfC "law" (defScope (top 56)) s.heap.objs.size f cdv))) : ∃ tt, PS (XLaw P w K mg base f cdv A0 outer s H0 E) (lawSt 2) tt ∧ ∀ (a hl : Addr) (Bs : List HA) (r : Nat) (x0 x3 x4 x5 x6 x7 x8 x9 x10 x11 x12 x13 x14 x15 x16 x17 x18 x19 x20 x21 x22 x23 x24 : Option V) (H : Hp) (D : Ends), r < 3 → Stt C CS CW t H a hl Bs ((nm0 r).map hm0) → (∀ H' Bs ms ol A, Stt C CS CW t H' a hl Bs ms → SLs H' a hl Bs ol A → F1 (nm0 r) ms A 29 1 → D.nx [x0, some (.ref a), some (.ref hl), some (.ref ol), x4, x5, x6, x7, x8, x9, x10, x11, x12, x13, x14, x15, x16, x17, x18, x19, x20, x21, x22, x23, x24] H') → tt D [x0, some (.ref a), some (.ref hl), x3, x4, x5, x6, x7, x8, x9, x10, x11, x12, x13, x14, x15, x16, x17, x18, x19, x20, x21, x22, x23, x24] H := by
  obtain ⟨T, L, LS, cr, fT, fDraws, fLong, fPut, fEdit, fEdits, fText, fHeard, fAre, fAll, fIn, mHI, mDo, mHist, mTurn, mText, mWait⟩ := l
  refine ⟨_, (ps_set (i := 3) scLaw.nd rfl (Or.inl rfl) ((pe_callTy call_list_of (by rfl) T.list_ (by decide +kernel) (pa_cons ((pe_mth mDo (by first | exact hr | exact hr.mono (by decide) | exact room_gx hr hA | exact (room_gx hr hA).mono (by decide)) ((pe_ix ix_list (pv 2) (pe_int) (fun _ _ => rfl))) (pa_cons (pe_tup (pa_cons (pe_int) (pa_cons (pe_int) (pa_cons (pe_join pe_str (pe_lc (own := [("sign", 22)]) (g := (gName 22)) rfl scLaw.nd (pi_range1 rfl T.range_ (pa_cons ((pe_fn fT (by first | exact hr | exact hr.mono (by decide) | exact room_gx hr hA | exact (room_gx hr hA).mono (by decide)) (pa_cons (pv 1) (pa_cons (pe_int) pa_nil)))) pa_nil)) (blkOk_by (own := [("sign", 22)]) (N := ["script", "draws", "hands", "base", "turn", "text", "edits", "made", "owners", "k", "hand", "more", "place", "gone", "come", "due", "here", "edit", "off", "others", "number", "name", "sign", "j", "one"]) (sc := defScope (top 56)) (by decide +kernel))
        (fun _ _ _ _ _ => (pg_name (i := 22) scLaw.nd rfl (Or.inl rfl))) (fun _ _ _ _ _ => pts_nil) (fun _ _ _ _ _ => pe_ix ix_str pe_str (pe_fn fT (by first | exact hr | exact hr.mono (by decide) | exact room_gx hr hA | exact (room_gx hr hA).mono (by decide)) (pa_cons (pv 1) (pa_cons (pe_int) pa_nil))) (fun _ _ => rfl)))) pa_nil)))) pa_nil))) pa_nil)))), ?_⟩
  intro a hl Bs r x0 x3 x4 x5 x6 x7 x8 x9 x10 x11 x12 x13 x14 x15 x16 x17 x18 x19 x20 x21 x22 x23 x24 H D hr st q
  have f1 := F1.start (r := r)
  obtain ⟨m0, hmz, es, le0⟩ := f1.h0
  obtain ⟨B, hB, hBm, hBr⟩ := st.at_ hmz
  refine ⟨_, rfl, _, _, _, _, rfl, rfl, SqL.of st.hs, atI_nat (j := 0) hBr, _, _, _, rfl, hBm.ins, hN_do _, ?_⟩
  refine ⟨⟨_, rfl⟩, _, rfl, a, 30, rfl, st.dr, by decide, fun H1 cn hcn hd1 g1 => ?_⟩
  refine ⟨_, rfl, by omega, by omega, fun d nd => ?_⟩
  have s1 := st.gwa g1 hd1
  have gd : Gw D0 H1 (upd H1 d (.lst [])) := Gw.refl.new nd
  have sd := s1.sep nd
  refine lc_it (walk_range (lo := 0) (n := (((cn : Nat) : Int)).toNat)) (fun i H' => Stt C CS CW t H' a hl Bs ((nm0 r).map hm0) ∧ ∃ cs, H' d = some (.lst ((cs.map fun c => S [c]).map V.str)) ∧ cs.length = i ∧ Sgs cs) ⟨s1.gw0 gd, [], upd_same, rfl, fun c z => by cases z⟩ (fun _ _ _ _ => trivial) ?_ ?_
  · rintro i y H4 H4' hi ⟨s4, cs, hcs, hlen, hsg⟩ ⟨rfl, rfl⟩
    rw [Int.toNat_natCast] at hi
    refine ⟨rfl, _, rfl, a, 8, rfl, s4.dr, by decide, fun H5 r5 hr5 hd5 g5' => ?_⟩
    obtain ⟨c, hc, hcg⟩ := pick_sgn sgnh (r := r5) hr5
    have hcs5 := g5'.oth _ _ hcs (fun _ z => by cases z) sd.a
    refine ⟨_, _, c, rfl, rfl, le_sizeLine (by decide +kernel), ?_, _, hcs5, ?_, ((s4.gwa g5' hd5).put sd (Gw.refl.put rfl hcs5 (fun _ z => by cases z) (fun _ z => by cases z))), cs ++ [c], ?_, by rw [List.length_append, hlen]; rfl, hsg.snoc hcg⟩
    · rw [txth]
      exact atI_nat hc
    · rw [List.length_map, List.length_map, hlen, sizeLine_eq]
      omega
    · rw [upd_same, List.map_append, List.map_append]
      rfl
  · rintro H4 ⟨s4, cs, hcs, hlen, hsg⟩
    rw [Int.toNat_natCast] at hlen
    refine ⟨_, d, _, rfl, rfl, .inl (SqL.of hcs), join_sizes cs (by omega), ?_⟩
    rw [join_signs]
    refine ⟨by rw [sizeLine_eq]; show 3 ≤ _; omega, fun tp nt => ?_⟩
    have gt : Gw D0 H4 (upd H4 tp (.tup (edV (0, 0, cs)))) := Gw.refl.new nt
    have s5 := s4.gw0 gt
    have heA : EdAt (upd H4 tp (.tup (edV (0, 0, cs)))) (.ref tp) (0, 0, cs) := ⟨tp, rfl, upd_same⟩
    obtain ⟨B5, hB5, hBm5, _⟩ := s5.at_ hmz
    have : B5 = B := Option.some.inj (hB5.symm.trans hB)
    subst this
    obtain ⟨fit, f2⟩ := f1.step hmz (e := (0, 0, cs)) (Nat.zero_le _) hsg (d := 29) (by show 0 + cs.length ≤ 29; omega) (by decide) (by decide)
    refine ⟨B5, _, _, (0, 0, cs), rfl, heA, hBm5, fit, by omega, s5.tb, fun H6 B' u ep hf hu hB' g6 => ?_⟩
    obtain ⟨ua, us, rfl, hua, hlu, aft⟩ := after_do s5 hB hmz ep hf hu hB' g6
    refine ⟨ua, us, rfl, .inr (SqT.of hua), fun lf nlf => ?_⟩
    obtain ⟨s7, l7, _⟩ := aft lf nlf
    exact q _ _ _ lf _ s7 l7 f2
theorem site_ok {x : Str} {K : List Op} (od : Ord K) (nd : (K.map Op.id).Nodup) (l : K.length ≤ 1000) : (stOf x K).undone.length ≤ 100000 ∧ (stOf x K).order.length ≤ 100000 ∧ OrdOk (stOf x K) := by
  obtain ⟨_, l2, _, _⟩ := lens x K
  refine ⟨by omega, ?_, fun i hi => ?_⟩
  · rw [stOf_order, od.is]
    have h1 : (ordD K).length ≤ (K.map Op.id).length := len_sub od.nd fun i hi => by
      obtain ⟨o, h1, _, h3⟩ := (od.mem i).mp hi
      rw [← h3]
      exact List.mem_map_of_mem h1
    rw [List.length_map] at h1
    omega
  · rw [stOf_order, od.is] at hi
    obtain ⟨o, h1, h2, h3⟩ := (od.mem i).mp hi
    refine ⟨o, ?_, h2⟩
    rw [stOf_known x K nd, ← h3]
    exact lk_self nd h1
theorem cat_ls {H : Hp} {a hl : Addr} {Bs : List HA} {p q r : Addr} {A ops : List Op} {us ws : List V} (h1 : H p = some (.lst us)) (a1 : All2 (OpAt H) us A) (a2 : All2 (OpAt H) ws ops) (n : H r = none) : Ls (upd H r (.lst (us ++ ws))) r (A ++ ops) := by
  have g : Gw D0 H (upd H r (.lst (us ++ ws))) := Gw.refl.new n
  exact ⟨_, upd_same, (a1.append a2).mono fun _ _ z => z.gw g⟩
theorem lawS3 (l : Lw P w K mg base C CS CW t) (hr : Room 7 (A0.deeper (envOfC "law" (defScope (top 56)) s.heap.objs.size f cdv))) : ∃ tt, PS (XLaw P w K mg base f cdv A0 outer s H0 E) (lawSt 3) tt ∧ ∀ (a hl ol : Addr) (Bs : List HA) (ms : List Hm) (A : List Op) (r : Nat) (x0 x4 x5 x6 x7 x8 x9 x10 x11 x12 x13 x14 x15 x16 x17 x18 x19 x20 x21 x22 x23 x24 : Option V) (H : Hp) (D : Ends), r < 3 → Stt C CS CW t H a hl Bs ms → SLs H a hl Bs ol A → F1 (nm0 r) ms A 29 1 → (∀ H' Bs ms ol A x4, Stt C CS CW t H' a hl Bs ms → SLs H' a hl Bs ol A → F1 (nm0 r) ms A 100 5 → D.nx [x0, some (.ref a), some (.ref hl), some (.ref ol), x4, x5, x6, x7, x8, x9, x10, x11, x12, x13, x14, x15, x16, x17, x18, x19, x20, x21, x22, x23, x24] H') → tt D [x0, some (.ref a), some (.ref hl), some (.ref ol), x4, x5, x6, x7, x8, x9, x10, x11, x12, x13, x14, x15, x16, x17, x18, x19, x20, x21, x22, x23, x24] H := by
  obtain ⟨T, L, LS, cr, fT, fDraws, fLong, fPut, fEdit, fEdits, fText, fHeard, fAre, fAll, fIn, mHI, mDo, mHist, mTurn, mText, mWait⟩ := l
  refine ⟨_, ps_for PassesOwn.never rfl (pi_range1 rfl T.range_ (pa_cons ((pe_fn fT (by first | exact hr | exact hr.mono (by decide) | exact room_gx hr hA | exact (room_gx hr hA).mono (by decide)) (pa_cons (pv 1) (pa_cons (pe_int) pa_nil)))) pa_nil)) (pg_name (i := 4) scLaw.nd rfl (Or.inl rfl)) (pss_one ((ps_set (i := 3) scLaw.nd rfl (Or.inl rfl) (pe_op op_cat (pv 3) (pe_callTy call_list_of (by rfl) T.list_ (by decide +kernel) (pa_cons ((pe_mth mDo (by first | exact hr | exact hr.mono (by decide) | exact room_gx hr hA | exact (room_gx hr hA).mono (by decide)) ((pe_ix ix_list (pv 2) (pe_int) (fun _ _ => rfl))) (pa_cons ((pe_fn fEdit (by first | exact hr | exact hr.mono (by decide) | exact room_gx hr hA | exact (room_gx hr hA).mono (by decide)) (pa_cons (pv 1) (pa_cons ((pe_callB call_len_str (by rfl) T.len_ PySem.boot_len (pa_cons ((pe_mth0 mText (by first | exact hr | exact hr.mono (by decide) | exact room_gx hr hA | exact (room_gx hr hA).mono (by decide)) ((pe_fld ((pe_ix ix_list (pv 2) (pe_int) (fun _ _ => rfl))) rfl)))) pa_nil))) pa_nil)))) pa_nil))) pa_nil)))))) , ?_⟩
  intro a hl ol Bs ms A r x0 x4 x5 x6 x7 x8 x9 x10 x11 x12 x13 x14 x15 x16 x17 x18 x19 x20 x21 x22 x23 x24 H D hr st lsA f1 q
  refine ⟨_, rfl, a, 4, rfl, st.dr, by decide, fun H1 n hn hd1 g1 => ?_⟩
  have s1 := st.gwa g1 hd1
  have l1 : SLs H1 a hl Bs ol A := ⟨lsA.1.gw g1 lsA.2.a, lsA.2⟩
  refine ⟨_, rfl, by omega, by omega, for_it walk_range (fun i σ H' => ∃ Bs ms ol A x4, σ = [x0, some (.ref a), some (.ref hl), some (.ref ol), x4, x5, x6, x7, x8, x9, x10, x11, x12, x13, x14, x15, x16, x17, x18, x19, x20, x21, x22, x23, x24] ∧ Stt C CS CW t H' a hl Bs ms ∧ SLs H' a hl Bs ol A ∧ F1 (nm0 r) ms A (29 + 11 * i) (1 + i)) ⟨Bs, ms, ol, A, x4, rfl, s1, l1, f1⟩ (fun _ _ _ _ _ => trivial) ?_ ?_⟩
  · rintro i y σ H2 H2' hi ⟨Bs, ms, ol, A, x4, rfl, s2, l2, f2⟩ ⟨rfl, rfl⟩
    rw [Int.toNat_natCast] at hi
    obtain ⟨m0, hmz, es, le⟩ := f2.h0
    obtain ⟨B, hB, hBm, hBr⟩ := s2.at_ hmz
    have lA := f2.len
    have hsh := f2.base.show_ (y := "a")
    obtain ⟨o1, o2, o3⟩ := site_ok (x := "a") f2.base.own.ord f2.base.uni.nd (by omega)
    refine ⟨_, rfl, _, rfl, _, _, _, _, rfl, rfl, SqL.of s2.hs, atI_nat (j := 0) hBr, _, _, _, rfl, hBm.ins, hN_do _, ?_⟩
    refine ⟨_, rfl, _, rfl, _, _, _, _, rfl, rfl, SqL.of s2.hs, atI_nat (j := 0) hBr, _, _, _, _, _, rfl, hBm.ins, L.cl, L.site, hF_site _, _, _, _, rfl, hBm.site.ins, sN_text _ _, ?_⟩
    refine ⟨B.S, m0.site, rfl, hBm.site, by rw [es]; exact o1, by rw [es]; exact o2, by rw [es]; exact o3, s2.tb, fun H3 g3 => ?_⟩
    rw [es, hsh.2]
    have lt : ((vis A).map (sgA A)).length ≤ 100000 := by
      rw [List.length_map]
      have h1 : (vis A).length ≤ (A.map Op.id).length := len_sub (f2.base.uni.self.rf f2.base.uni).visNd fun i hi => by
        obtain ⟨o, h1, h2, _⟩ := vis_mem (f2.base.uni.self.rf f2.base.uni) hi
        rw [← h2]
        exact List.mem_map_of_mem h1
      rw [List.length_map] at h1
      omega
    have s3 := s2.gw0 g3
    refine ⟨_, rfl, by rw [S_len, sizeLine_eq]; omega, ?_⟩
    refine ⟨a, ((vis A).map (sgA A)).length, rfl, s3.dr, lt, fun H4 v e he e1 e2 e3 sg hd4 g4 => ?_⟩
    have s4 := s3.gwa g4 hd4
    have l4 : SLs H4 a hl Bs ol A := ⟨(l2.1.gw g3 (fun z => z)).gw g4 l2.2.a, l2.2⟩
    rw [List.length_map] at e1
    obtain ⟨fit, f5⟩ := f2.step hmz (e := e) e1 sg (d := 11) (by omega) (by decide) (by omega)
    obtain ⟨B5, hB5, hBm5, _⟩ := s4.at_ hmz
    have : B5 = B := Option.some.inj (hB5.symm.trans hB)
    subst this
    refine ⟨B5, m0, v, e, rfl, he, hBm5, fit, by omega, s4.tb, fun H6 B' u ep hf hu hB' g6 => ?_⟩
    obtain ⟨ua, us, rfl, hua, hlu, aft⟩ := after_do s4 hB hmz ep hf hu hB' g6
    refine ⟨ua, us, rfl, .inr (SqT.of hua), fun lf nlf => ?_⟩
    obtain ⟨s7, ⟨⟨ws, hws, aws⟩, sep7⟩, nH, g7, keep⟩ := aft lf nlf
    have kp := keep ol l4.1.live l4.2
    obtain ⟨bs, hbs, abs⟩ := l4.1.gw g7 kp.2
    have elw : ws = us := by
      rw [upd_same] at hws
      injection Option.some.inj hws with z
      exact z.symm
    subst elw
    refine ⟨_, _, _, _, rfl, rfl, hbs, hws, ?_, fun p np => ?_⟩
    · have h1 := abs.len
      have h2 := aws.len
      have h3 := f5.len
      rw [List.length_append] at h3
      rw [sizeLine_eq]
      omega
    · have gp : Gw D0 (upd H6 lf (.lst ws)) (upd (upd H6 lf (.lst ws)) p (.lst (bs ++ ws))) := Gw.refl.new np
      refine ⟨_, _, p, _, _, rfl, s7.gw0 gp, ⟨cat_ls (a := a) (hl := hl) (Bs := Bs) (q := p) hbs abs aws np, s7.sep np⟩, ?_⟩
      · have : 29 + 11 * (i + 1) = 29 + 11 * i + 11 := by omega
        rw [this, show 1 + (i + 1) = 1 + i + 1 by omega]
        exact f5
  · rintro σ H2 ⟨Bs, ms, ol, A, x4, rfl, s2, l2, f2⟩
    rw [Int.toNat_natCast] at f2
    refine q _ _ _ _ _ _ s2 l2 ⟨f2.base, Nat.le_trans f2.len (by omega), ?_, f2.oth, f2.msl⟩
    obtain ⟨m, h1, h2, h3⟩ := f2.h0
    exact ⟨m, h1, h2, by omega⟩
end
end K80
namespace K80
open PySem PySem.Spec PyProof.Rows L2 Gx GxR NdefX
open PySem.SeqAt
structure F2 (ns : List Str) (ms : List Hm) (A : List Op) : Prop where
  base : Base A "a"
  len : A.length ≤ 100
  at_ : ∀ (j : Nat) (m : Hm), ms[j]? = some m → ∃ x, ns[j]? = some x ∧ m.site = stOf x A ∧ m.edits.length ≤ 5
  msl : ms.length = ns.length
theorem nm0_0 (r : Nat) : (nm0 r)[0]? = some ("a" : Str) := by
  unfold nm0
  rw [List.getElem?_take, if_pos (by omega)]
  rfl
theorem F1.hs {r : Nat} {ms : List Hm} {A : List Op} {n k : Nat} (h : F1 (nm0 r) ms A n k) : Hs [] A (nm0 r) ms := by
  refine ⟨h.msl, fun j m hj => ?_⟩
  by_cases c : j = 0
  · subst c
    obtain ⟨m0, h1, h2, _⟩ := h.h0
    rw [hj] at h1
    cases h1
    exact ⟨"a", A, nm0_0 r, h2, h.base.uni.self⟩
  · obtain ⟨x, hx, rfl⟩ := h.oth j m (by omega) hj
    exact ⟨x, [], hx, rfl, Cl.nil A⟩
theorem F1.heard {r : Nat} {ms ms' : List Hm} {A : List Op} (h : F1 (nm0 r) ms A 100 5) (a2 : All2 (fun m m' => Heard m m' A) ms ms') : F2 (nm0 r) ms' A := by
  have w := wd_one h.base.uni h.base.one
  obtain ⟨l, f⟩ := h.hs.go w (fun o ho => ho) (fun _ _ _ _ _ _ _ o ho => .inr ho) a2
  refine ⟨h.base, h.len, fun j m' hj => ?_, l⟩
  obtain ⟨x, Km, m, hx, hm, em, c, p⟩ := f j m' hj
  have eK : [] ++ Km = A := heard_one h.base.one c p
  refine ⟨x, hx, by rw [em, eK], ?_⟩
  rw [em]
  by_cases c0 : j = 0
  · subst c0
    obtain ⟨m0, h1, _, h3⟩ := h.h0
    rw [hm] at h1
    cases h1
    exact h3
  · obtain ⟨y, _, rfl⟩ := h.oth j m (by omega) hm
    exact Nat.zero_le _
section
variable {C CS CW : Addr} {t : Tbs} {H H' : Hp} {a hl : Addr} {Bs Bs' : List HA} {ms ms' : List Hm}
/-- all hands have heard -/
theorem Stt.heard (h : Stt C CS CW t H a hl Bs ms) (hh : Hands C CS CW H' Bs' ms') (ep : Bs'.map HA.p = Bs.map HA.p) (ef : ∀ b, inFp Bs' b → inFp Bs b ∨ H b = none) (d : DrAt H' a) (g : Gw (fun b => b = a ∨ inFp Bs b) H H') :
    Stt C CS CW t H' a hl Bs' ms' ∧ ∀ p, H p ≠ none → Sep a hl Bs p → Sep a hl Bs' p ∧ ¬ (p = a ∨ inFp Bs p) := by
  have emap : Bs'.map (fun B => V.ref B.p) = Bs.map fun B => V.ref B.p := by
    have := congrArg (List.map V.ref) ep
    rwa [List.map_map, List.map_map] at this
  refine ⟨⟨d, ?_, hh, h.na, fun b hb => ?_, h.tb.gw g⟩, fun p hp s => ⟨⟨s.a, s.hl, fun z => (ef p z).elim s.fp hp⟩, fun z => z.elim s.a s.fp⟩⟩
  · rw [emap]
    exact g.oth _ _ h.hs (fun _ z => by cases z) (fun z => z.elim h.na fun y => (h.fp hl y).2 rfl)
  · rcases ef b hb with z | z
    · exact h.fp b z
    · exact ⟨fun e => h.dr.live (e ▸ z), fun e => by rw [e, h.hs] at z; cases z⟩
end
theorem vis_le {A : List Op} (rf : Rf A) : (vis A).length ≤ A.length := by
  have h1 : (vis A).length ≤ (A.map Op.id).length := len_sub rf.visNd fun i hi => by
    obtain ⟨o, h1, h2, _⟩ := vis_mem rf hi
    rw [← h2]
    exact List.mem_map_of_mem h1
  rwa [List.length_map] at h1
theorem eds_ok {n : Nat} {es : List Ed} (h : EdsFine n es) (hn : n ≤ 200) : EdsOk n es := by
  have l6 := h.len
  refine ⟨by omega, fun e he => ?_, h.apart, ?_⟩
  · obtain ⟨h1, h2, h3, h4⟩ := h.each e he
    exact ⟨h1, h4.sg, by omega⟩
  · have gen : ∀ l : List Ed, (∀ e ∈ l, e.2.2.length ≤ 3) → (l.map fun e => ((e.2.2.length : Int) - (e.2.1 : Int))).sum ≤ 3 * (l.length : Int) := by
      intro l
      induction l with
      | nil => intro _; exact Int.le_refl _
      | cons e l ih =>
        intro h
        have i1 := ih fun d hd => h d (List.mem_cons_of_mem _ hd)
        have h1 := h e List.mem_cons_self
        rw [List.map_cons, List.sum_cons, List.length_cons]
        omega
    have := gen es fun e he => (h.each e he).2.2.1
    omega
/-- the text with a past -/
abbrev tx (A : List Op) : List Nat := (vis A).map (sgA A)
section
variable {P : Program} {w : World} {K : PySem.W.Frag} {mg : Str → Option Value} {base : Heap}
variable {C CS CW : Addr} {t : Tbs} {f : Addr} {cdv : Value} {A0 : Around} {outer : List Env} {s : Shared} {H0 : Hp} {E : XK}
theorem lawS4 (l : Lw P w K mg base C CS CW t) (hr : Room 7 (A0.deeper (envOfC "law" (defScope (top 56)) s.heap.objs.size f cdv))) : ∃ tt, PS (XLaw P w K mg base f cdv A0 outer s H0 E) (lawSt 4) tt ∧ ∀ (a hl ol : Addr) (Bs : List HA) (ms : List Hm) (A : List Op) (r : Nat) (x0 x4 x5 x6 x7 x8 x9 x10 x11 x12 x13 x14 x15 x16 x17 x18 x19 x20 x21 x22 x23 x24 : Option V) (H : Hp) (D : Ends), Stt C CS CW t H a hl Bs ms → SLs H a hl Bs ol A → F1 (nm0 r) ms A 100 5 → (∀ H' Bs ms, Stt C CS CW t H' a hl Bs ms → SLs H' a hl Bs ol A → F2 (nm0 r) ms A → D.nx [x0, some (.ref a), some (.ref hl), some (.ref ol), x4, x5, x6, x7, x8, x9, x10, x11, x12, x13, x14, x15, x16, x17, x18, x19, x20, x21, x22, x23, x24] H') → tt D [x0, some (.ref a), some (.ref hl), some (.ref ol), x4, x5, x6, x7, x8, x9, x10, x11, x12, x13, x14, x15, x16, x17, x18, x19, x20, x21, x22, x23, x24] H := by
  obtain ⟨T, L, LS, cr, fT, fDraws, fLong, fPut, fEdit, fEdits, fText, fHeard, fAre, fAll, fIn, mHI, mDo, mHist, mTurn, mText, mWait⟩ := l
  refine ⟨_, ps_expr (pe_fn fHeard (by first | exact hr | exact hr.mono (by decide) | exact room_gx hr hA | exact (room_gx hr hA).mono (by decide)) (pa_cons (pv 1) (pa_cons (pv 2) (pa_cons (pv 3) pa_nil)))), ?_⟩
  intro a hl ol Bs ms A r x0 x4 x5 x6 x7 x8 x9 x10 x11 x12 x13 x14 x15 x16 x17 x18 x19 x20 x21 x22 x23 x24 H D st lsA f1 q
  obtain ⟨⟨us, hol, hus⟩, sep⟩ := lsA
  have w := wd_one f1.base.uni f1.base.one
  have lA := f1.len
  refine ⟨_, rfl, _, rfl, _, rfl, a, hl, ol, Bs, ms, us, A, rfl, st.dr, st.hs, hol, hus, st.hd, opS_of f1.base.uni f1.base.sg, by omega, f1.hs.fit w (fun o ho => ho), st.na, sep.a, fun b hb => ⟨(st.fp b hb).1, (st.fp b hb).2, fun e => sep.fp (e ▸ hb)⟩, st.tb, fun H1 Bs1 ms1 hh ep ef a2 hd g => ?_⟩
  obtain ⟨s1, kp⟩ := st.heard hh ep ef hd g
  have k1 := kp ol (by rw [hol]; exact Option.some_ne_none _) sep
  exact q _ _ _ s1 ⟨Ls.gw ⟨us, hol, hus⟩ g k1.2, k1.1⟩ (f1.heard a2)
theorem lawS5 (l : Lw P w K mg base C CS CW t) (hr : Room 7 (A0.deeper (envOfC "law" (defScope (top 56)) s.heap.objs.size f cdv))) : ∃ tt, PS (XLaw P w K mg base f cdv A0 outer s H0 E) (lawSt 5) tt ∧ ∀ (a hl : Addr) (Bs : List HA) (ms : List Hm) (A : List Op) (r : Nat) (x0 x3 x4 x6 x7 x8 x9 x10 x11 x12 x13 x14 x15 x16 x17 x18 x19 x20 x21 x22 x23 x24 : Option V) (H : Hp) (D : Ends), Stt C CS CW t H a hl Bs ms → F2 (nm0 r) ms A → (∀ H', Gw D0 H H' → D.nx [x0, some (.ref a), some (.ref hl), x3, x4, some (.str (S (tx A))), x6, x7, x8, x9, x10, x11, x12, x13, x14, x15, x16, x17, x18, x19, x20, x21, x22, x23, x24] H') → ∀ x5, tt D [x0, some (.ref a), some (.ref hl), x3, x4, x5, x6, x7, x8, x9, x10, x11, x12, x13, x14, x15, x16, x17, x18, x19, x20, x21, x22, x23, x24] H := by
  obtain ⟨T, L, LS, cr, fT, fDraws, fLong, fPut, fEdit, fEdits, fText, fHeard, fAre, fAll, fIn, mHI, mDo, mHist, mTurn, mText, mWait⟩ := l
  refine ⟨_, (ps_set (i := 5) scLaw.nd rfl (Or.inl rfl) ((pe_mth0 mText (by first | exact hr | exact hr.mono (by decide) | exact room_gx hr hA | exact (room_gx hr hA).mono (by decide)) ((pe_fld ((pe_ix ix_list (pv 2) (pe_un un_neg pe_int) (fun _ _ => rfl))) rfl))))), ?_⟩
  intro a hl Bs ms A r x0 x3 x4 x6 x7 x8 x9 x10 x11 x12 x13 x14 x15 x16 x17 x18 x19 x20 x21 x22 x23 x24 H D st f2 q x5
  have lB := st.hd.at_.len
  have ln := f2.msl
  have l0 : 0 < (nm0 r).length := (List.getElem?_eq_some_iff.mp (nm0_0 r)).1
  obtain ⟨m, hm⟩ : ∃ m, ms[ms.length - 1]? = some m := ⟨_, List.getElem?_eq_getElem (by omega)⟩
  obtain ⟨B, hB, hBm, hBr⟩ := st.at_ hm
  obtain ⟨x, hx, es, _⟩ := f2.at_ _ _ hm
  have lA := f2.len
  have el : atI (Bs.map fun B => V.ref B.p) (-1) = some (V.ref B.p) := by
    have hne : (Bs.map fun B => V.ref B.p) ≠ [] := fun z => by
      have := congrArg List.length z
      rw [List.length_map, List.length_nil] at this
      omega
    have e2 : (Bs.map fun B => V.ref B.p).getLast hne = V.ref B.p := by
      have h1 := List.getLast?_eq_some_getLast hne
      rw [List.getLast?_eq_getElem?, List.length_map, lB, hBr] at h1
      exact (Option.some.inj h1).symm
    conv => lhs; rw [← List.dropLast_concat_getLast hne, e2]
    exact atI_last _ _
  obtain ⟨o1, o2, o3⟩ := site_ok (x := x) f2.base.own.ord f2.base.uni.nd (by omega)
  refine ⟨_, rfl, _, rfl, _, _, _, _, rfl, rfl, SqL.of st.hs, el, _, _, _, _, _, rfl, hBm.ins, L.cl, L.site, hF_site _, _, _, _, rfl, hBm.site.ins, sN_text _ _, ?_⟩
  refine ⟨B.S, m.site, rfl, hBm.site, by rw [es]; exact o1, by rw [es]; exact o2, by rw [es]; exact o3, st.tb, fun H1 g1 => ?_⟩
  rw [es, (f2.base.show_ (y := x)).2]
  exact q _ g1
theorem lawS6 (l : Lw P w K mg base C CS CW t) (hr : Room 7 (A0.deeper (envOfC "law" (defScope (top 56)) s.heap.objs.size f cdv))) : ∃ tt, PS (XLaw P w K mg base f cdv A0 outer s H0 E) (lawSt 6) tt ∧ ∀ (a hl : Addr) (Bs : List HA) (ms : List Hm) (l : List Nat) (x0 x3 x4 x7 x8 x9 x10 x11 x12 x13 x14 x15 x16 x17 x18 x19 x20 x21 x22 x23 x24 : Option V) (H : Hp) (D : Ends), Stt C CS CW t H a hl Bs ms → l.length ≤ 1000 → (∀ H' v es, DrAt H' a → Gw (fun b => b = a) H H' → EdsAt H' v es → EdsFine l.length es → D.nx [x0, some (.ref a), some (.ref hl), x3, x4, some (.str (S l)), some v, x7, x8, x9, x10, x11, x12, x13, x14, x15, x16, x17, x18, x19, x20, x21, x22, x23, x24] H') → ∀ x6, tt D [x0, some (.ref a), some (.ref hl), x3, x4, some (.str (S l)), x6, x7, x8, x9, x10, x11, x12, x13, x14, x15, x16, x17, x18, x19, x20, x21, x22, x23, x24] H := by
  obtain ⟨T, L, LS, cr, fT, fDraws, fLong, fPut, fEdit, fEdits, fText, fHeard, fAre, fAll, fIn, mHI, mDo, mHist, mTurn, mText, mWait⟩ := l
  refine ⟨_, (ps_set (i := 6) scLaw.nd rfl (Or.inr rfl) ((pe_fn fEdits (by first | exact hr | exact hr.mono (by decide) | exact room_gx hr hA | exact (room_gx hr hA).mono (by decide)) (pa_cons (pv 1) (pa_cons (pv 5) pa_nil))))), ?_⟩
  intro a hl Bs ms l x0 x3 x4 x7 x8 x9 x10 x11 x12 x13 x14 x15 x16 x17 x18 x19 x20 x21 x22 x23 x24 H D st ll q x6
  exact ⟨_, rfl, _, rfl, a, l, rfl, st.dr, by omega, fun H1 v es he fine hd g => q H1 v es hd g he fine⟩
theorem lawS7 (l : Lw P w K mg base C CS CW t) (hr : Room 7 (A0.deeper (envOfC "law" (defScope (top 56)) s.heap.objs.size f cdv))) : ∃ tt, PS (XLaw P w K mg base f cdv A0 outer s H0 E) (lawSt 7) tt ∧ ∀ (l : List Nat) (es : List Ed) (v : V) (x0 x1 x2 x3 x4 x7 x8 x9 x10 x11 x12 x13 x14 x15 x16 x17 x18 x19 x20 x21 x22 x23 x24 : Option V) (H : Hp) (D : Ends), Tb t H → EdsAt H v es → EdsFine l.length es → l.length ≤ 200 → (∀ H', Gw D0 H H' → D.nx [x0, x1, x2, x3, x4, some (.str (S l)), some v, x7, x8, x9, x10, x11, x12, x13, x14, x15, x16, x17, x18, x19, x20, x21, x22, x23, x24] H') → tt D [x0, x1, x2, x3, x4, some (.str (S l)), some v, x7, x8, x9, x10, x11, x12, x13, x14, x15, x16, x17, x18, x19, x20, x21, x22, x23, x24] H := by
  obtain ⟨T, L, LS, cr, fT, fDraws, fLong, fPut, fEdit, fEdits, fText, fHeard, fAre, fAll, fIn, mHI, mDo, mHist, mTurn, mText, mWait⟩ := l
  refine ⟨_, ps_if (pt_cmpR op_notBl (pe_fn fAre (by first | exact hr | exact hr.mono (by decide) | exact room_gx hr hA | exact (room_gx hr hA).mono (by decide)) (pa_cons (pv 5) (pa_cons (pv 6) pa_nil))) pe_bl (nomark _)) (pss_one (ps_ret pe_bl)) pss_nil, ?_⟩
  intro l es v x0 x1 x2 x3 x4 x7 x8 x9 x10 x11 x12 x13 x14 x15 x16 x17 x18 x19 x20 x21 x22 x23 x24 H D tb he fine ll q
  refine ⟨_, rfl, _, rfl, l, v, es, rfl, he, eds_ok fine ll, by omega, tb, fun H1 g1 => ?_⟩
  refine ⟨_, _, rfl, rfl, _, rfl, ?_⟩
  exact iteF (q H1 g1)
theorem lawS8 (l : Lw P w K mg base C CS CW t) (hr : Room 7 (A0.deeper (envOfC "law" (defScope (top 56)) s.heap.objs.size f cdv))) : ∃ tt, PS (XLaw P w K mg base f cdv A0 outer s H0 E) (lawSt 8) tt ∧ ∀ (x0 x1 x2 x3 x4 x5 x6 x9 x10 x11 x12 x13 x14 x15 x16 x17 x18 x19 x20 x21 x22 x23 x24 : Option V) (H : Hp) (D : Ends), (∀ H' ml ow, H ml = none → H ow = none → ml ≠ ow → Gw D0 H H' → H' ml = some (.lst []) → H' ow = some (.lst []) → D.nx [x0, x1, x2, x3, x4, x5, x6, some (.ref ml), some (.ref ow), x9, x10, x11, x12, x13, x14, x15, x16, x17, x18, x19, x20, x21, x22, x23, x24] H') → ∀ x7 x8, tt D [x0, x1, x2, x3, x4, x5, x6, x7, x8, x9, x10, x11, x12, x13, x14, x15, x16, x17, x18, x19, x20, x21, x22, x23, x24] H := by
  obtain ⟨T, L, LS, cr, fT, fDraws, fLong, fPut, fEdit, fEdits, fText, fHeard, fAre, fAll, fIn, mHI, mDo, mHist, mTurn, mText, mWait⟩ := l
  refine ⟨_, ps_asg (pe_tup (pa_cons (pe_lst pa_nil) (pa_cons (pe_lst pa_nil) pa_nil))) (pg_tup (by rfl) (pgs_cons (pg_name (i := 7) scLaw.nd rfl (Or.inl rfl)) (pgs_cons (pg_name (i := 8) scLaw.nd rfl (Or.inr rfl)) pgs_nil))), ?_⟩
  intro x0 x1 x2 x3 x4 x5 x6 x9 x10 x11 x12 x13 x14 x15 x16 x17 x18 x19 x20 x21 x22 x23 x24 H D q x7 x8
  refine ⟨Nat.zero_le _, fun p np => ⟨Nat.zero_le _, fun r nr => ?_⟩⟩
  have npr : p ≠ r := ne_of_none upd_same nr
  refine ⟨(by rw [sizeLine_eq]; show 2 ≤ _; omega), fun tp ntp => ?_⟩
  have g : Gw D0 H (upd (upd (upd H p (.lst [])) r (.lst [])) tp (.tup [.ref p, .ref r])) := ((Gw.refl.new np).trans (Gw.refl.new nr)).trans (Gw.refl.new ntp)
  have nrH : H r = none := (Gw.refl.new np : Gw D0 H _).non _ nr
  have nptp : p ≠ tp := ne_of_none (by rw [upd_ne npr]; exact upd_same) ntp
  have nrtp : r ≠ tp := ne_of_none upd_same ntp
  refine ⟨tp, _, rfl, SqT.of upd_same, rfl, _, _, rfl, _, _, rfl, rfl, ?_⟩
  exact q _ p r np nrH npr g (by rw [upd_ne nptp, upd_ne npr]; exact upd_same) (by rw [upd_ne nrtp]; exact upd_same)
end
end K80
namespace K80
open PySem PySem.Spec PyProof.Rows L2 Gx GxR NdefX
open PySem.SeqAt
def nmOf (ns : List Str) (j : Nat) : Str := ns.getD j Str.empty
theorem nmOf_at {ns : List Str} {j : Nat} {x : Str} (h : ns[j]? = some x) : nmOf ns j = x := by
  unfold nmOf
  rw [List.getD_eq_getElem?_getD, h]
  rfl
theorem F2.do_ {ns : List Str} {ms : List Hm} {A : List Op} (h : F2 ns ms A) : Do A ns ms [] := by
  have e0 : A ++ flat [] = A := List.append_nil A
  refine ⟨h.msl, (fun B hB => nomatch hB), by rw [e0]; exact h.base.uni, by rw [e0]; exact h.base.bd, by rw [e0]; exact h.base.sg, (fun o ho => nomatch ho), Nat.le_refl _, (fun B hB => nomatch hB), fun j m hj => ?_⟩
  obtain ⟨x, hx, es, le⟩ := h.at_ j m hj
  refine ⟨x, m.edits, hx, ?_, ?_, (List.append_nil _).symm, by omega⟩
  · show m.site = stOf x (A ++ flat [])
    rw [e0]
    exact es
  · show Own (A ++ flat []) x (A ++ flat [])
    rw [e0]
    exact ⟨h.base.uni.self, rfl, h.base.own.ord⟩
/-- the heap while the edits are done -/
structure DoH (C CS CW : Addr) (t : Tbs) (H : Hp) (a hl ol ml ow : Addr) (Bs : List HA) (ms : List Hm) (A : List Op) (ns : List Str) (l : List Bl) : Prop where
  st : Stt C CS CW t H a hl Bs ms
  bs : SLs H a hl Bs ol A
  md : SLs H a hl Bs ml (flat l)
  ow_ : H ow = some (.lst (l.map fun B => V.str (nmOf ns B.own)))
  so : Sep a hl Bs ow
  n1 : ml ≠ ow
  n2 : ol ≠ ow
  dd : Do A ns ms l
theorem DoH.gwa {C CS CW : Addr} {t : Tbs} {H H' : Hp} {a hl ol ml ow : Addr} {Bs : List HA} {ms : List Hm} {A : List Op} {ns : List Str} {l : List Bl} (h : DoH C CS CW t H a hl ol ml ow Bs ms A ns l) (g : Gw (fun b => b = a) H H') (d : DrAt H' a) : DoH C CS CW t H' a hl ol ml ow Bs ms A ns l :=
  ⟨h.st.gwa g d, ⟨h.bs.1.gw g h.bs.2.a, h.bs.2⟩, ⟨h.md.1.gw g h.md.2.a, h.md.2⟩, g.oth _ _ h.ow_ (fun _ z => by cases z) h.so.a, h.so, h.n1, h.n2, h.dd⟩
theorem DoH.gw0 {C CS CW : Addr} {t : Tbs} {H H' : Hp} {a hl ol ml ow : Addr} {Bs : List HA} {ms : List Hm} {A : List Op} {ns : List Str} {l : List Bl} (h : DoH C CS CW t H a hl ol ml ow Bs ms A ns l) (g : Gw D0 H H') : DoH C CS CW t H' a hl ol ml ow Bs ms A ns l := h.gwa g.of0 (h.st.dr.gw g fun z => z)
theorem Gw.edsAt {D : Addr → Prop} {H H' : Hp} {v : V} {es : List Ed} (g : Gw D H H') (h : EdsAt H v es) : EdsAt H' v es := h.gw g
theorem mine_take {l : List Bl} {k : Nat} {B : Bl} (h : l[k]? = some B) (j : Nat) : mine j (l.take (k + 1)) = if B.own = j then mine j (l.take k) ++ [B] else mine j (l.take k) := by
  rw [List.take_add_one, h, Option.toList_some]
  exact mine_snoc j _ B
theorem nmOf_inj {ns : List Str} (nd : ns.Nodup) (nm : ∀ x ∈ ns, Nam x) {j k : Nat} {x : Str} (hj : ns[j]? = some x) (h : nmOf ns k = x) : k = j := by
  cases hk : ns[k]? with
  | none =>
    unfold nmOf at h
    rw [List.getD_eq_getElem?_getD, hk] at h
    have n := (nm x (List.mem_of_getElem? hj)).nm.1
    rw [← h] at n
    exact absurd n (by decide)
  | some y =>
    rw [nmOf_at hk] at h
    subst h
    obtain ⟨h1, h2⟩ := List.getElem?_eq_some_iff.mp hj
    obtain ⟨h3, h4⟩ := List.getElem?_eq_some_iff.mp hk
    exact (List.getElem_inj nd).mp (h4.trans h2.symm)
theorem str_dec (x y : Str) : decide (V.str x = V.str y) = decide (x = y) := decide_eq_decide.mpr ⟨fun z => V.str.inj z, fun z => by rw [z]⟩
section
variable {P : Program} {w : World} {K : PySem.W.Frag} {mg : Str → Option Value} {base : Heap}
variable {C CS CW : Addr} {t : Tbs} {f : Addr} {cdv : Value} {A0 : Around} {outer : List Env} {s : Shared} {H0 : Hp} {E : XK}
theorem lawS9 (l : Lw P w K mg base C CS CW t) (hr : Room 7 (A0.deeper (envOfC "law" (defScope (top 56)) s.heap.objs.size f cdv))) : ∃ tt, PS (XLaw P w K mg base f cdv A0 outer s H0 E) (lawSt 9) tt ∧ ∀ (a hl ol ml ow : Addr) (Bs : List HA) (ms : List Hm) (A : List Op) (r : Nat) (v : V) (es : List Ed) (x0 x4 x5 x9 x10 x11 x12 x13 x14 x15 x16 x17 x18 x19 x20 x21 x22 x23 x24 : Option V) (H : Hp) (D : Ends), Base A "a" → A.length ≤ 100 → EdsAt H v es → EdsFine (vis A).length es → DoH C CS CW t H a hl ol ml ow Bs ms A (nm0 r) [] →
  (∀ H' Bs ms ml l x9 x10 x11 x12 x13 x14, EdsAt H' v es → l.map Bl.e = es → DoH C CS CW t H' a hl ol ml ow Bs ms A (nm0 r) l → D.nx [x0, some (.ref a), some (.ref hl), some (.ref ol), x4, x5, some v, some (.ref ml), some (.ref ow), x9, x10, x11, x12, x13, x14, x15, x16, x17, x18, x19, x20, x21, x22, x23, x24] H') → tt D [x0, some (.ref a), some (.ref hl), some (.ref ol), x4, x5, some v, some (.ref ml), some (.ref ow), x9, x10, x11, x12, x13, x14, x15, x16, x17, x18, x19, x20, x21, x22, x23, x24] H := by
  obtain ⟨T, L, LS, cr, fT, fDraws, fLong, fPut, fEdit, fEdits, fText, fHeard, fAre, fAll, fIn, mHI, mDo, mHist, mTurn, mText, mWait⟩ := l
  refine ⟨_, ps_for PassesOwn.never rfl (pi_range1 rfl T.range_ (pa_cons ((pe_callB call_len_seq (by rfl) T.len_ PySem.boot_len (pa_cons (pv 6) pa_nil))) pa_nil)) (pg_name (i := 9) scLaw.nd rfl (Or.inr rfl)) (pss_cons ((ps_set (i := 10) scLaw.nd rfl (Or.inr rfl) ((pe_ix ix_list (pv 2) ((pe_fn fT (by first | exact hr | exact hr.mono (by decide) | exact room_gx hr hA | exact (room_gx hr hA).mono (by decide)) (pa_cons (pv 1) (pa_cons ((pe_callB call_len_seq (by rfl) T.len_ PySem.boot_len (pa_cons (pv 2) pa_nil))) pa_nil)))) (fun _ _ => rfl)))))
      (pss_cons ((ps_set (i := 11) scLaw.nd rfl (Or.inl rfl) ((pe_callB (cr_sum rfl) (by rfl) T.sum_ (by decide +kernel) (pa_cons ((pe_lc (own := [("j", 23)]) (g := (gName 23)) rfl scLaw.nd (pi_range1 rfl T.range_ (pa_cons (pv 9) pa_nil)) (blkOk_by (own := [("j", 23)]) (N := ["script", "draws", "hands", "base", "turn", "text", "edits", "made", "owners", "k", "hand", "more", "place", "gone", "come", "due", "here", "edit", "off", "others", "number", "name", "sign", "j", "one"]) (sc := defScope (top 56)) (by decide +kernel))
        (fun _ _ _ _ _ => (pg_name (i := 23) scLaw.nd rfl (Or.inl rfl))) (fun _ _ _ _ _ => pts_one (pt_cmpR op_eq (pe_ix (ixlK (K := K)) (pv 8) (pv 23) (fun _ _ => rfl)) (fldK (K := K) ((fldK (K := K) (pv 10) rfl)) rfl) (nomark _))) (fun _ _ _ _ _ => pe_op op_sub (pe_callB call_len_str (by rfl) T.len_ PySem.boot_len (pa_cons ((pe_ix (ixtK (K := K)) ((pe_ix (ixtK (K := K)) (pv 6) (pv 23) (fun _ _ => rfl))) (pe_int) (fun _ _ => rfl))) pa_nil)) (pe_ix (ixtK (K := K)) ((pe_ix (ixtK (K := K)) (pv 6) (pv 23) (fun _ _ => rfl))) (pe_int) (fun _ _ => rfl))))) pa_nil)))))
      (pss_cons (ps_asg (pe_ix ix_tup (pv 6) (pv 9) (fun _ _ => rfl)) (pg_tup (by rfl) (pgs_cons (pg_name (i := 12) scLaw.nd rfl (Or.inl rfl)) (pgs_cons (pg_name (i := 13) scLaw.nd rfl (Or.inl rfl)) (pgs_cons (pg_name (i := 14) scLaw.nd rfl (Or.inl rfl)) pgs_nil)))))
      (pss_cons ((ps_set (i := 7) scLaw.nd rfl (Or.inl rfl) (pe_op op_cat (pv 7) (pe_callTy call_list_of (by rfl) T.list_ (by decide +kernel) (pa_cons ((pe_mth mDo (by first | exact hr | exact hr.mono (by decide) | exact room_gx hr hA | exact (room_gx hr hA).mono (by decide)) (pv 10) (pa_cons (pe_tup (pa_cons (pe_op op_add (pv 12) (pv 11)) (pa_cons (pv 13) (pa_cons (pv 14) pa_nil)))) pa_nil))) pa_nil)))))
      (pss_one (ps_expr (pe_bm PySem.F.plainAttrs_list PySem.F.slot_list_append PySem.F.type_list_append mt_append (pv 8) (pa_cons ((pe_fld ((pe_fld (pv 10) rfl)) rfl)) pa_nil)))))))), ?_⟩
  intro a hl ol ml ow Bs ms A r v es x0 x4 x5 x9 x10 x11 x12 x13 x14 x15 x16 x17 x18 x19 x20 x21 x22 x23 x24 H D base lA hev fine dh q
  obtain ⟨ea, eus, rfl, hea, heus⟩ := id hev
  have l6 := fine.len
  have lus := heus.len
  have ape := fine.ape
  refine ⟨_, rfl, _, _, rfl, .inr (SqT.of hea), _, rfl, by omega, by omega, for_it walk_range (fun i σ H' => ∃ Bs ms ml l x9 x10 x11 x12 x13 x14, σ = [x0, some (.ref a), some (.ref hl), some (.ref ol), x4, x5, some (.ref ea), some (.ref ml), some (.ref ow), x9, x10, x11, x12, x13, x14, x15, x16, x17, x18, x19, x20, x21, x22, x23, x24] ∧ EdsAt H' (.ref ea) es ∧ l.map Bl.e = es.take i ∧ DoH C CS CW t H' a hl ol ml ow Bs ms A (nm0 r) l) ⟨Bs, ms, ml, [], x9, x10, x11, x12, x13, x14, rfl, hev, rfl, dh⟩ (fun _ _ _ _ _ => trivial) ?_ ?_⟩
  · rintro i y σ H2 H2' hi ⟨Bs, ms, ml, l, x9, x10, x11, x12, x13, x14, rfl, he2, hle, dh2⟩ ⟨rfl, rfl⟩
    have hi6 : i < es.length := by omega
    have hee : es[i]? = some es[i] := List.getElem?_eq_getElem hi6
    generalize es[i] = e at hee
    have hll : l.length = i := by
      have := congrArg List.length hle
      rw [List.length_map, List.length_take] at this
      omega
    obtain ⟨f1e, f2e, f3e, f4e⟩ := fine.each e (List.mem_of_getElem? hee)
    have lB := dh2.st.hd.at_.len
    have lns := dh2.dd.len
    have l0 : 0 < (nm0 r).length := (List.getElem?_eq_some_iff.mp (nm0_0 r)).1
    -- the hand
    refine ⟨_, rfl, _, rfl, _, rfl, _, _, rfl, .inl (SqL.of dh2.st.hs), a, (Bs.map fun B => V.ref B.p).length, rfl, dh2.st.dr, by rw [List.length_map]; omega, fun H3 j hj hd3 g3 => ?_⟩
    rw [List.length_map] at hj
    have dh3 := dh2.gwa g3 hd3
    have he3 := he2.gw g3
    obtain ⟨m, hm⟩ : ∃ m, ms[j]? = some m := ⟨_, List.getElem?_eq_getElem (by omega)⟩
    obtain ⟨B, hB, hBm, hBr⟩ := dh3.st.at_ hm
    obtain ⟨x, pre, hx, es3, ow3, ed3, lp3⟩ := dh3.dd.hand j m hm
    have enm : m.site.name = x := by rw [es3, stOf_name]
    refine ⟨_, _, _, _, rfl, rfl, SqL.of dh3.st.hs, atI_nat hBr, ?_⟩
    -- how far its own edits have moved the place
    refine ⟨_, rfl, _, rfl, by omega, by omega, fun Lx nL => ?_⟩
    have hea3 : ∃ eus, H3 ea = some (.tup eus) ∧ All2 (EdAt H3) eus es := by
      obtain ⟨ea', eus', e1, e2, e3⟩ := he3
      cases e1
      exact ⟨eus', e2, e3⟩
    obtain ⟨eus3, hea3, heus3⟩ := hea3
    refine lc_it (walk_range (lo := 0) (n := ((0 : Int) + ((i : Nat) : Int)).toNat)) (fun k H' => Gw D0 H3 H' ∧ H' Lx = some (.lst (((mine j (l.take k)).map fun B => ((B.e.2.2.length : Int) - (B.e.2.1 : Int))).map V.int))) ⟨Gw.refl.new nL, upd_same⟩ (fun _ _ _ _ => trivial) ?_ ?_
    · rintro k y H4 H4' hk ⟨g4, hL⟩ ⟨rfl, rfl⟩
      have hk : k < i := by omega
      have hkl : k < l.length := by omega
      have hBk : l[k]? = some l[k] := List.getElem?_eq_getElem hkl
      generalize l[k] = Bk at hBk
      have how4 := g4.oth _ _ dh3.ow_ (fun _ z => by cases z) (fun z => z)
      have hBm4 := hBm.gw0 g4
      have hok : (l.map fun B => V.str (nmOf (nm0 r) B.own))[k]? = some (V.str (nmOf (nm0 r) Bk.own)) := by rw [List.getElem?_map, hBk]; rfl
      have hek : es[k]? = some Bk.e := by
        have h1 : (l.map Bl.e)[k]? = some Bk.e := by rw [List.getElem?_map, hBk]; rfl
        rw [hle, List.getElem?_take, if_pos hk] at h1
        exact h1
      obtain ⟨vk, hvk, eka, rfl, hka⟩ := heus3.get' hek
      have hea4 := g4.tup _ _ hea3
      have hka4 := g4.tup _ _ hka
      refine ⟨rfl, _, rfl, _, rfl, _, _, _, _, rfl, rfl, SqL.of how4, by rw [Int.zero_add]; exact atI_nat hok, ?_⟩
      refine ⟨_, rfl, _, _, _, _, _, rfl, hBm4.ins, L.cl, L.site, hF_site _, _, _, _, _, _, rfl, hBm4.site.ins, LS.cl, LS.name, sF_name _ _, rfl, _, rfl, ?_⟩
      rw [enm, str_dec]
      by_cases c : Bk.own = j
      · have e1 : nmOf (nm0 r) Bk.own = x := by rw [c]; exact nmOf_at hx
        rw [decide_eq_true e1]
        have em : mine j (l.take (k + 1)) = mine j (l.take k) ++ [Bk] := by rw [mine_take hBk, if_pos c]
        have lc3 : Bk.e.2.2.length ≤ 3 := (fine.each _ (List.mem_of_getElem? hek)).2.2.1
        refine iteT ⟨_, rfl, _, rfl, _, _, _, _, rfl, rfl, SqT.of hea4, by rw [Int.zero_add]; exact atI_nat hvk, _, _, _, _, rfl, rfl, SqT.of hka4, rfl, _, rfl, by rw [S_len, sizeLine_eq]; omega, ?_⟩
        refine ⟨_, rfl, _, rfl, _, _, _, _, rfl, rfl, SqT.of hea4, by rw [Int.zero_add]; exact atI_nat hvk, _, _, _, _, rfl, rfl, SqT.of hka4, rfl, _, _, rfl, rfl, ?_⟩
        refine ⟨_, hL, ?_, g4.fresh nL, ?_⟩
        · rw [List.length_map, List.length_map]
          have h1 := (mine_sub j (l.take k)).length_le
          rw [List.length_take] at h1
          rw [sizeLine_eq]
          omega
        · rw [upd_same, em]
          simp
          rfl
      · have e1 : ¬ nmOf (nm0 r) Bk.own = x := fun z => c (nmOf_inj (nm0_nd r) (nm0_nam r) hx z)
        rw [decide_eq_false e1]
        have em : mine j (l.take (k + 1)) = mine j (l.take k) := by rw [mine_take hBk, if_neg c]
        exact iteF ⟨g4, by rw [em]; exact hL⟩
    · rintro H4 ⟨g4, hL⟩
      have e0 : l.take ((0 : Int) + ((i : Nat) : Int)).toNat = l := List.take_of_length_le (by omega)
      rw [e0] at hL
      have dh4 := dh3.gw0 g4
      have he4 := he3.gw g4
      have hea4 := g4.tup _ _ hea3
      obtain ⟨ve, hve, ee, rfl, hee3⟩ := heus3.get' hee
      have hee4 := g4.tup _ _ hee3
      have apx : ApE (vis A).length (l.map Bl.e ++ [e]) := by
        rw [hle]
        refine ape.sub ?_
        have := List.take_sublist (i + 1) es
        rwa [List.take_add_one, hee] at this
      obtain ⟨fit, npos, Bn, b1, b2, b3, dd5⟩ := do_step base.past (nm0_nam r) (nm0_nd r) (by omega) dh4.dd hm apx f4e f3e f2e (by omega)
      have emore : (((mine j l).map fun B => ((B.e.2.2.length : Int) - (B.e.2.1 : Int)))).sum = moreE ((mine j l).map Bl.e) := by
        unfold moreE
        rw [List.map_map]
        rfl
      refine ⟨Lx, _, rfl, SqL.of hL, ?_⟩
      rw [emore]
      -- place, gone, come
      refine ⟨_, rfl, _, rfl, _, _, _, _, rfl, rfl, SqT.of hea4, by rw [Int.zero_add]; exact atI_nat hve, ee, _, rfl, SqT.of hee4, rfl, _, _, rfl, _, _, rfl, _, _, rfl, rfl, ?_⟩
      have hBm4 := hBm.gw0 g4
      -- the deed
      refine ⟨_, rfl, _, rfl, _, _, _, rfl, hBm4.ins, hN_do _, _, rfl, _, rfl, _, _, rfl, rfl, _, rfl, _, rfl, by rw [sizeLine_eq]; show 3 ≤ _; omega, fun tp nt => ?_⟩
      have eP : ((e.1 : Nat) : Int) + moreE ((mine j l).map Bl.e) = (((((e.1 : Nat) : Int) + moreE ((mine j l).map Bl.e)).toNat : Nat) : Int) := (Int.toNat_of_nonneg npos).symm
      have key : (HO.tup [V.int (((e.1 : Nat) : Int) + moreE ((mine j l).map Bl.e)), V.int ((e.2.1 : Nat) : Int), V.str (S e.2.2)]) = HO.tup (edV ((((e.1 : Nat) : Int) + moreE ((mine j l).map Bl.e)).toNat, e.2.1, e.2.2)) := by
        unfold edV
        show _ = HO.tup [V.int (((((e.1 : Nat) : Int) + moreE ((mine j l).map Bl.e)).toNat : Nat) : Int), _, _]
        rw [← eP]
      have gt : Gw D0 H4 (upd H4 tp (.tup [V.int (((e.1 : Nat) : Int) + moreE ((mine j l).map Bl.e)), V.int ((e.2.1 : Nat) : Int), V.str (S e.2.2)])) := Gw.refl.new nt
      have heA : EdAt (upd H4 tp (.tup [V.int (((e.1 : Nat) : Int) + moreE ((mine j l).map Bl.e)), V.int ((e.2.1 : Nat) : Int), V.str (S e.2.2)])) (.ref tp) ((((e.1 : Nat) : Int) + moreE ((mine j l).map Bl.e)).toNat, e.2.1, e.2.2) := ⟨tp, rfl, by rw [upd_same, key]⟩
      have dh5 := dh4.gw0 gt
      have he5 := he4.gw gt
      have lme : m.edits.length ≤ 100000 := by
        rw [ed3, List.length_append, List.length_map]
        have h1 := (mine_sub j l).length_le
        omega
      have hBm5 := hBm4.gw0 gt
      refine ⟨B, m, _, _, rfl, heA, hBm5, fit, lme, dh5.st.tb, fun H6 B' u ep hf hu hB' g6 => ?_⟩
      obtain ⟨ua, us, rfl, hua, hlu, aft⟩ := after_do dh5.st hB hm ep hf hu hB' g6
      refine ⟨ua, us, rfl, .inr (SqT.of hua), fun lf nlf => ?_⟩
      obtain ⟨s7, ⟨⟨ws, hws, aws⟩, sep7⟩, nH, g7, keep⟩ := aft lf nlf
      have kp := keep ml dh5.md.1.live dh5.md.2
      have kb := keep ol dh5.bs.1.live dh5.bs.2
      have ko := keep ow (by rw [dh5.ow_]; exact Option.some_ne_none _) dh5.so
      obtain ⟨bs, hbs, abs⟩ := dh5.md.1.gw g7 kp.2
      have how7 := g7.oth _ _ dh5.ow_ (fun _ z => by cases z) ko.2
      have hbs7 := dh5.bs.1.gw g7 kb.2
      have he7 := he5.gw g7
      have elw : ws = us := by
        rw [upd_same] at hws
        injection Option.some.inj hws with z
        exact z.symm
      subst elw
      refine ⟨_, _, _, _, rfl, rfl, hbs, hws, ?_, fun p np => ?_⟩
      · have h1 := abs.len
        have h2 := aws.len
        have h3 := dd5.fl
        rw [flat_app, List.length_append, flat_one, ← b3, List.length_append, List.length_singleton] at h3
        rw [sizeLine_eq]
        omega
      generalize upd H6 lf (.lst ws) = H7 at s7 hws aws sep7 g7 hbs abs how7 hbs7 he7 np ⊢
      have gp : Gw D0 H7 (upd H7 p (.lst (bs ++ ws))) := Gw.refl.new np
      have s8 := s7.gw0 gp
      have l8 : SLs (upd H7 p (.lst (bs ++ ws))) a hl (Bs.set j B') p (flat (l ++ [Bn])) := by
        rw [flat_app, flat_one, ← b3]
        exact ⟨cat_ls (a := a) (hl := hl) (Bs := Bs) (q := p) hbs abs aws np, s7.sep np⟩
      have how8 := gp.oth _ _ how7 (fun _ z => by cases z) (fun z => z)
      have hbs8 := hbs7.gw gp (fun z => z)
      have he8 := he7.gw gp
      have npow : p ≠ ow := fun z => by rw [z] at np; rw [how7] at np; cases np
      generalize upd H7 p (.lst (bs ++ ws)) = H8 at s8 l8 how8 hbs8 he8 ⊢
      -- the owner
      have hm8 : (ms.set j (doM m ((((e.1 : Nat) : Int) + moreE ((mine j l).map Bl.e)).toNat, e.2.1, e.2.2)).1)[j]? = some (doM m ((((e.1 : Nat) : Int) + moreE ((mine j l).map Bl.e)).toNat, e.2.1, e.2.2)).1 := List.getElem?_set_self (by omega)
      obtain ⟨B8, hB8, hBm8, _⟩ := s8.at_ hm8
      have eB8 : B8 = B' := by
        rw [List.getElem?_set_self (by omega)] at hB8
        exact (Option.some.inj hB8).symm
      subst eB8
      obtain ⟨x8, _, hx8, es8, _⟩ := dd5.hand j _ hm8
      have ex8 : x8 = x := Option.some.inj (hx8.symm.trans hx)
      have en8 : ((doM m ((((e.1 : Nat) : Int) + moreE ((mine j l).map Bl.e)).toNat, e.2.1, e.2.2)).1).site.name = x := by rw [es8, stOf_name, ex8]
      have hin8 := hBm8.ins
      rw [ep] at hin8
      refine ⟨_, rfl, .inl ⟨rfl, _, SqL.of how8⟩, _, rfl, _, _, _, _, _, rfl, hin8, L.cl, L.site, hF_site _, _, _, _, _, _, rfl, hBm8.site.ins, LS.cl, LS.name, sF_name _ _, ow, _, _, rfl, rfl, how8, ?_, ?_⟩
      · rw [List.length_map, hll, sizeLine_eq]
        omega
      rw [en8]
      have go : Gw (fun b => b = ow) H8 (upd H8 ow (.lst ((l.map fun B => V.str (nmOf (nm0 r) B.own)) ++ [.str x]))) := Gw.refl.put rfl how8 (fun _ z => by cases z) (fun _ z => by cases z)
      have hl9 : (l ++ [Bn]).map Bl.e = es.take (i + 1) := by
        rw [List.map_append, hle, List.take_add_one, hee, List.map_singleton, b1]
        rfl
      refine ⟨_, _, p, l ++ [Bn], _, _, _, _, _, _, rfl, he8.gw go, hl9, ⟨s8.put ko.1 go, ⟨hbs8.gw go dh5.n2, kb.1⟩, ⟨l8.1.gw go npow, l8.2⟩, ?_, ko.1, npow, dh5.n2, dd5⟩⟩
      rw [upd_same, List.map_append, List.map_singleton, b2, nmOf_at hx]
  · rintro σ H2 ⟨Bs, ms, ml, l, x9, x10, x11, x12, x13, x14, rfl, he2, hle, dh2⟩
    refine q H2 Bs ms ml l _ _ _ _ _ _ he2 ?_ dh2
    rw [hle, List.take_of_length_le]
    rw [Int.toNat_natCast]
    omega
end
end K80
namespace K80
open PySem PySem.Spec PyProof.Rows L2 Gx GxR NdefX
open PySem.SeqAt
theorem done_text {b : List Op} {ns : List Str} {ms : List Hm} {l : List Bl} (pa : Past b) (h : Do b ns ms l) (ap : ApE (vis b).length (l.map Bl.e)) : (vis (b ++ flat l)).map (sgA (b ++ flat l)) = applied (tx b) (l.map Bl.e) := by
  have rf := h.uni.self.rf h.uni
  rw [text_bls pa h.bls rf ap h.uni.nd fun o ho => ho]
  congr 1
  refine List.map_congr_left fun i hi => ?_
  obtain ⟨o, h1, h2, _⟩ := vis_mem rf.pre hi
  rw [← h2, sgA_app h.uni.nd h1]
theorem Do.nu {b : List Op} {ns : List Str} {ms : List Hm} {l : List Bl} (pa : Past b) (h : Do b ns ms l) : ∀ o ∈ b ++ flat l, o.kind ≠ .undo ∧ (o.kind = .cut → o.ref ≠ none) := fun o ho => by
  rcases List.mem_append.mp ho with z | z
  · exact ⟨pa.nu o z, pa.cn o z⟩
  · exact h.bls.kinds o z
/-- the heap behind the edits, when all have heard them -/
structure DnH (C CS CW : Addr) (t : Tbs) (H : Hp) (a hl ol ml ow : Addr) (Bs : List HA) (ms : List Hm) (A : List Op) (ns : List Str) (l : List Bl) : Prop where
  st : Stt C CS CW t H a hl Bs ms
  bs : SLs H a hl Bs ol A
  md : SLs H a hl Bs ml (flat l)
  ow_ : H ow = some (.lst (l.map fun B => V.str (nmOf ns B.own)))
  so : Sep a hl Bs ow
  tn : Tn A ns ms l [] []
  txt : ∀ (j : Nat) (m : Hm), ms[j]? = some m → textM m.site = applied (tx A) (l.map Bl.e)
theorem DnH.gw0 {C CS CW : Addr} {t : Tbs} {H H' : Hp} {a hl ol ml ow : Addr} {Bs : List HA} {ms : List Hm} {A : List Op} {ns : List Str} {l : List Bl} (h : DnH C CS CW t H a hl ol ml ow Bs ms A ns l) (g : Gw D0 H H') : DnH C CS CW t H' a hl ol ml ow Bs ms A ns l :=
  ⟨h.st.gw0 g, ⟨h.bs.1.gw g (fun z => z), h.bs.2⟩, ⟨h.md.1.gw g (fun z => z), h.md.2⟩, g.oth _ _ h.ow_ (fun _ z => by cases z) (fun z => z), h.so, h.tn, h.txt⟩
theorem str_ne (x : Str) : (!decide (V.str x = V.str x)) = false := by rw [decide_eq_true rfl]; rfl
theorem inTurn_len {k : Nat} : ∀ (es : List Ed) (m : Int), (∀ e ∈ es, e.2.2.length ≤ k) → ∀ e ∈ inTurn m es, e.2.2.length ≤ k
  | [], _, _, e, h => by cases h
  | d :: es, m, hk, e, h => by
    rcases List.mem_cons.mp h with z | z
    · rw [z]; exact hk d List.mem_cons_self
    · exact inTurn_len es _ (fun c hc => hk c (List.mem_cons_of_mem _ hc)) e z
theorem inTurn_length : ∀ (es : List Ed) (m : Int), (inTurn m es).length = es.length
  | [], _ => rfl
  | _ :: es, _ => by
    show (inTurn _ es).length + 1 = es.length + 1
    rw [inTurn_length es]
section
variable {P : Program} {w : World} {K : PySem.W.Frag} {mg : Str → Option Value} {base : Heap}
variable {C CS CW : Addr} {t : Tbs} {f : Addr} {cdv : Value} {A0 : Around} {outer : List Env} {s : Shared} {H0 : Hp} {E : XK}
theorem lawS10 (l : Lw P w K mg base C CS CW t) (hr : Room 7 (A0.deeper (envOfC "law" (defScope (top 56)) s.heap.objs.size f cdv))) : ∃ tt, PS (XLaw P w K mg base f cdv A0 outer s H0 E) (lawSt 10) tt ∧ ∀ (a hl ol ml ow : Addr) (Bs : List HA) (ms : List Hm) (A : List Op) (r : Nat) (l : List Bl) (x0 x3 x4 x5 x6 x8 x9 x10 x11 x12 x13 x14 x15 x16 x17 x18 x19 x20 x21 x22 x23 x24 : Option V) (H : Hp) (D : Ends), Base A "a" → ApE (vis A).length (l.map Bl.e) → l.length ≤ 6 → DoH C CS CW t H a hl ol ml ow Bs ms A (nm0 r) l →
  (∀ H' Bs' ms', DnH C CS CW t H' a hl ol ml ow Bs' ms' A (nm0 r) l → Gw (fun b => b = a ∨ inFp Bs b) H H' → D.nx [x0, some (.ref a), some (.ref hl), x3, x4, x5, x6, some (.ref ml), x8, x9, x10, x11, x12, x13, x14, x15, x16, x17, x18, x19, x20, x21, x22, x23, x24] H') → tt D [x0, some (.ref a), some (.ref hl), x3, x4, x5, x6, some (.ref ml), x8, x9, x10, x11, x12, x13, x14, x15, x16, x17, x18, x19, x20, x21, x22, x23, x24] H := by
  obtain ⟨T, L, LS, cr, fT, fDraws, fLong, fPut, fEdit, fEdits, fText, fHeard, fAre, fAll, fIn, mHI, mDo, mHist, mTurn, mText, mWait⟩ := l
  refine ⟨_, ps_expr (pe_fn fHeard (by first | exact hr | exact hr.mono (by decide) | exact room_gx hr hA | exact (room_gx hr hA).mono (by decide)) (pa_cons (pv 1) (pa_cons (pv 2) (pa_cons (pv 7) pa_nil)))), ?_⟩
  intro a hl ol ml ow Bs ms A r l x0 x3 x4 x5 x6 x8 x9 x10 x11 x12 x13 x14 x15 x16 x17 x18 x19 x20 x21 x22 x23 x24 H D base ap l6 dh q
  obtain ⟨⟨us, hml, hus⟩, sep⟩ := id dh.md
  obtain ⟨w, dis⟩ := dh.dd.wd base.own.ord ap
  have subl : ∀ o ∈ flat l, o ∈ A ++ flat l := fun o ho => List.mem_append_right _ ho
  have lf := dh.dd.fl
  refine ⟨_, rfl, _, rfl, _, rfl, a, hl, ml, Bs, ms, us, flat l, rfl, dh.st.dr, dh.st.hs, hml, hus, dh.st.hd, fun o ho => opS_of dh.dd.uni dh.dd.sg o (subl o ho), by omega, dh.dd.hs.fit w subl, dh.st.na, sep.a, fun b hb => ⟨(dh.st.fp b hb).1, (dh.st.fp b hb).2, fun e => sep.fp (e ▸ hb)⟩, dh.st.tb, fun H1 Bs1 ms1 hh ep ef a2 hd g => ?_⟩
  obtain ⟨s1, kp⟩ := dh.st.heard hh ep ef hd g
  obtain ⟨len, at_⟩ := dh.dd.hs.go w subl (fun j m x Km hm hx es o ho => by
    rcases List.mem_append.mp ho with z | z
    · exact .inl (List.mem_append_left _ z)
    · exact .inr z) a2
  have k1 := kp ol dh.bs.1.live dh.bs.2
  have k2 := kp ml dh.md.1.live dh.md.2
  have k3 := kp ow (by rw [dh.ow_]; exact Option.some_ne_none _) dh.so
  refine q _ _ _ ⟨s1, ⟨dh.bs.1.gw g k1.2, k1.1⟩, ⟨dh.md.1.gw g k2.2, k2.1⟩, g.oth _ _ dh.ow_ (fun _ z => by cases z) k3.2, k3.1, Tn.start dh.dd w len at_, fun j m' hj => ?_⟩ g
  obtain ⟨x, Km, m, hx, hm, em, c, p⟩ := at_ j m' hj
  rw [em]
  show textM (stOf x (A ++ Km)) = _
  rw [text_all w c p dis fun o ho => (dh.dd.nu base.past o ho).1, done_text base.past dh.dd ap]
theorem lawS11 (l : Lw P w K mg base C CS CW t) (hr : Room 7 (A0.deeper (envOfC "law" (defScope (top 56)) s.heap.objs.size f cdv))) : ∃ tt, PS (XLaw P w K mg base f cdv A0 outer s H0 E) (lawSt 11) tt ∧ ∀ (l : List Nat) (es : List Ed) (v : V) (x0 x1 x2 x3 x4 x7 x8 x9 x10 x11 x12 x13 x14 x15 x16 x17 x18 x19 x20 x21 x22 x23 x24 : Option V) (H : Hp) (D : Ends), Tb t H → EdsAt H v es → EdsFine l.length es → l.length ≤ 200 → (∀ H', Gw D0 H H' → D.nx ([x0, x1, x2, x3, x4, some (.str (S l)), some v, x7, x8, x9, x10, x11, x12, x13, x14, x15, x16, x17, x18, x19, x20, x21, x22, x23, x24].set 15 (some (.str (S (applied l es))))) H') → tt D [x0, x1, x2, x3, x4, some (.str (S l)), some v, x7, x8, x9, x10, x11, x12, x13, x14, x15, x16, x17, x18, x19, x20, x21, x22, x23, x24] H := by
  obtain ⟨T, L, LS, cr, fT, fDraws, fLong, fPut, fEdit, fEdits, fText, fHeard, fAre, fAll, fIn, mHI, mDo, mHist, mTurn, mText, mWait⟩ := l
  refine ⟨_, (ps_set (i := 15) scLaw.nd rfl (Or.inr rfl) ((pe_fn fAll (by first | exact hr | exact hr.mono (by decide) | exact room_gx hr hA | exact (room_gx hr hA).mono (by decide)) (pa_cons (pv 5) (pa_cons (pv 6) pa_nil))))), ?_⟩
  intro l es v x0 x1 x2 x3 x4 x7 x8 x9 x10 x11 x12 x13 x14 x15 x16 x17 x18 x19 x20 x21 x22 x23 x24 H D tb he fine ll q
  exact ⟨_, rfl, _, rfl, l, v, es, rfl, he, eds_ok fine ll, by omega, tb, fun H1 g1 => q H1 g1⟩
theorem lawS12 (l : Lw P w K mg base C CS CW t) (hr : Room 7 (A0.deeper (envOfC "law" (defScope (top 56)) s.heap.objs.size f cdv))) : ∃ tt, PS (XLaw P w K mg base f cdv A0 outer s H0 E) (lawSt 12) tt ∧ ∀ (a hl ol ml ow : Addr) (Bs : List HA) (ms ms0 : List Hm) (A : List Op) (r : Nat) (l : List Bl) (x0 x4 x5 x6 x8 x9 x10 x11 x12 x13 x14 x16 x17 x18 x19 x20 x21 x22 x23 x24 : Option V) (H : Hp) (D : Ends), Base A "a" → A.length ≤ 100 → ApE (vis A).length (l.map Bl.e) → l.length ≤ 6 → Do A (nm0 r) ms0 l → DnH C CS CW t H a hl ol ml ow Bs ms A (nm0 r) l →
  (∀ H', Gw D0 H H' → D.nx [x0, some (.ref a), some (.ref hl), some (.ref ol), x4, x5, x6, some (.ref ml), x8, x9, x10, x11, x12, x13, x14, some (.str (S (applied (tx A) (l.map Bl.e)))), x16, x17, x18, x19, x20, x21, x22, x23, x24] H') → tt D [x0, some (.ref a), some (.ref hl), some (.ref ol), x4, x5, x6, some (.ref ml), x8, x9, x10, x11, x12, x13, x14, some (.str (S (applied (tx A) (l.map Bl.e)))), x16, x17, x18, x19, x20, x21, x22, x23, x24] H := by
  obtain ⟨T, L, LS, cr, fT, fDraws, fLong, fPut, fEdit, fEdits, fText, fHeard, fAre, fAll, fIn, mHI, mDo, mHist, mTurn, mText, mWait⟩ := l
  refine ⟨_, ps_if (PW.pt (pw_or (pt_cmpR (op_neD hr.units) (pe_lc (own := [("hand", 10)]) (g := (gName 10)) rfl scLaw.nd (pi_list (pv 2)) (blkOk_by (own := [("hand", 10)]) (N := ["script", "draws", "hands", "base", "turn", "text", "edits", "made", "owners", "k", "hand", "more", "place", "gone", "come", "due", "here", "edit", "off", "others", "number", "name", "sign", "j", "one"]) (sc := defScope (top 56)) (by decide +kernel))
        (fun _ _ _ _ _ => (pg_name (i := 10) scLaw.nd rfl (Or.inl rfl))) (fun _ _ _ _ _ => pts_one (PW.pt (pw_or (pt_cmpR op_ne (pe_mth0 mText (by first | exact hr | exact hr.mono (by decide) | exact room_gx hr hA | exact (room_gx hr hA).mono (by decide)) ((fldK (K := K) (pv 10) rfl))) (pv 15) (nomark _)) (pw_or1 (pt_cmpR op_ne (pe_mth0 mWait (by first | exact hr | exact hr.mono (by decide) | exact room_gx hr hA | exact (room_gx hr hA).mono (by decide)) ((fldK (K := K) (pv 10) rfl))) pe_int (nomark _)))))) (fun _ _ _ _ _ => pv 10)) (pe_lst pa_nil) (nomark _)) (pw_or1 (pt_cmpR op_ne (pe_fn fText (by first | exact hr | exact hr.mono (by decide) | exact room_gx hr hA | exact (room_gx hr hA).mono (by decide)) (pa_cons (pe_op op_cat (pv 3) (pv 7)) pa_nil)) (pv 15) (nomark _))))) (pss_one (ps_ret pe_bl)) pss_nil, ?_⟩
  intro a hl ol ml ow Bs ms ms0 A r l x0 x4 x5 x6 x8 x9 x10 x11 x12 x13 x14 x16 x17 x18 x19 x20 x21 x22 x23 x24 H D base lA ap l6 d0 dh q
  have lB : (Bs.map fun B => V.ref B.p).length = Bs.length := List.length_map ..
  refine ⟨_, rfl, hl, rfl, ⟨_, SqL.of dh.st.hs⟩, fun Lx nL => ?_⟩
  refine lc_it (walk_list (xs := Bs.map fun B => V.ref B.p)) (fun i H' => Gw D0 H H' ∧ H' Lx = some (.lst [])) ⟨Gw.refl.new nL, upd_same⟩ (fun i H' _ z => SqL.of (z.1.oth _ _ dh.st.hs (fun _ z => by cases z) (fun z => z))) ?_ ?_
  · rintro i y H2 H2' hi ⟨g, hL⟩ ⟨rfl, hy⟩
    rw [lB] at hi
    obtain ⟨m, hm, hBm⟩ := dh.st.hd.at_.get (List.getElem?_eq_getElem hi)
    have hBi : Bs[i]? = some Bs[i] := List.getElem?_eq_getElem hi
    generalize Bs[i] = B at hm hBm hBi
    have ey : y = V.ref B.p := by
      rw [List.getElem?_map, hBi] at hy
      exact (Option.some.inj hy).symm
    subst ey
    obtain ⟨x, K, done, hx, es, ow1, sub, ed, ld⟩ := dh.tn.hand i m hm
    have lK : (A ++ K).length ≤ 1000 := Nat.le_trans (nd_len ow1.cl.nd ow1.cl.sub) dh.tn.uni.len
    obtain ⟨o1, o2, o3⟩ := site_ok (x := x) ow1.ord ow1.cl.nd lK
    have hB2 := hBm.gw0 g
    refine ⟨rfl, _, rfl, _, _, _, _, _, rfl, hB2.ins, L.cl, L.site, hF_site _, _, _, _, rfl, hB2.site.ins, sN_text _ _, ?_⟩
    refine ⟨B.S, m.site, rfl, hB2.site, by rw [es]; exact o1, by rw [es]; exact o2, by rw [es]; exact o3, dh.st.tb.gw g, fun H3 g3 => ?_⟩
    rw [dh.txt i m hm]
    refine ⟨_, rfl, rfl, _, rfl, ?_⟩
    rw [str_ne]
    have hB3 := hB2.gw0 g3
    refine iteF ⟨_, rfl, _, _, _, _, _, rfl, hB3.ins, L.cl, L.site, hF_site _, _, _, _, rfl, hB3.site.ins, sN_waiting _ _, B.S, m.site, rfl, hB3.site, rfl, _, rfl, ?_⟩
    have e0 : m.site.waits.length = 0 := by rw [es, stOf_waits]; rfl
    rw [e0]
    exact iteF ⟨g.trans g3, g3.oth _ _ hL (fun _ z => by cases z) (fun z => z)⟩
  · rintro H2 ⟨g, hL⟩
    refine ⟨Nat.zero_le _, fun e ne => ?_⟩
    have ge : Gw D0 H2 (upd H2 e (.lst [])) := Gw.refl.new ne
    refine ⟨.list [], .list [], .lst (SqL.of (ge.oth _ _ hL (fun _ z => by cases z) (fun z => z))) .nil, .lst (SqL.of upd_same) .nil, shaped_nil, shaped_nil, _, rfl, ?_⟩
    rw [eqv_nil]
    refine iteF ?_
    have g2 := g.trans ge
    have dh2 := dh.gw0 g2
    generalize upd H2 e (.lst []) = H3 at g2 dh2 ⊢
    obtain ⟨bs, hbs, abs⟩ := id dh2.bs.1
    obtain ⟨ws, hws, aws⟩ := id dh2.md.1
    have lfl := d0.fl
    have rf := d0.uni.self.rf d0.uni
    obtain ⟨w, dis⟩ := d0.wd base.own.ord ap
    have gr := great_all d0.uni base.one d0.high dis
    have wk := walk_all rf gr
    have lAll : (A ++ flat l).length ≤ 136 := by rw [List.length_append]; omega
    have lo : (ordD (A ++ flat l)).length ≤ 136 := by
      have h1 : (ordD (A ++ flat l)).length ≤ ((A ++ flat l).map Op.id).length := len_sub rf.mem.2 fun i hi => by
        obtain ⟨o, h1, _, h3⟩ := (rf.mem.1 i).mp hi
        rw [← h3]
        exact List.mem_map_of_mem h1
      rw [List.length_map] at h1
      omega
    have ordn := wk.ord (by omega) [] (by rw [List.length_nil]; omega)
    rw [List.nil_append] at ordn
    have ko := fun o ho => d0.nu base.past o ho
    refine ⟨_, rfl, _, rfl, _, _, _, _, rfl, rfl, hbs, hws, ?_, fun p np => ?_⟩
    · have h1 := abs.len
      have h2 := aws.len
      rw [sizeLine_eq]
      omega
    have gp : Gw D0 H3 (upd H3 p (.lst (bs ++ ws))) := Gw.refl.new np
    refine ⟨p, bs ++ ws, A ++ flat l, ordD (A ++ flat l), _, rfl, upd_same, (abs.append aws).mono fun _ _ z => z.gw gp, fun o ho => ⟨opS_of d0.uni d0.sg o ho, (ko o ho).1, (ko o ho).2⟩, by omega, ordn, by omega, fun i hi => (sg_keys _ i).mpr ((rf.mem.1 i).mp hi), fun H4 g4 => ?_⟩
    rw [law_out rf fun o ho => (ko o ho).2, done_text base.past d0 ap]
    refine ⟨_, rfl, rfl, _, rfl, ?_⟩
    rw [str_ne]
    exact iteF (q _ ((g2.trans gp).trans g4))
theorem lawS13 (l : Lw P w K mg base C CS CW t) (hr : Room 7 (A0.deeper (envOfC "law" (defScope (top 56)) s.heap.objs.size f cdv))) : ∃ tt, PS (XLaw P w K mg base f cdv A0 outer s H0 E) (lawSt 13) tt ∧ ∀ (v : V) (x0 x1 x2 x3 x4 x6 x7 x8 x9 x10 x11 x12 x13 x14 x15 x16 x17 x18 x19 x20 x21 x22 x23 x24 : Option V) (H : Hp) (D : Ends), D.nx ([x0, x1, x2, x3, x4, some v, x6, x7, x8, x9, x10, x11, x12, x13, x14, x15, x16, x17, x18, x19, x20, x21, x22, x23, x24].set 16 (some v)) H → tt D [x0, x1, x2, x3, x4, some v, x6, x7, x8, x9, x10, x11, x12, x13, x14, x15, x16, x17, x18, x19, x20, x21, x22, x23, x24] H := by
  obtain ⟨T, L, LS, cr, fT, fDraws, fLong, fPut, fEdit, fEdits, fText, fHeard, fAre, fAll, fIn, mHI, mDo, mHist, mTurn, mText, mWait⟩ := l
  refine ⟨_, (ps_set (i := 16) scLaw.nd rfl (Or.inl rfl) (pv 5)), ?_⟩
  intro v x0 x1 x2 x3 x4 x6 x7 x8 x9 x10 x11 x12 x13 x14 x15 x16 x17 x18 x19 x20 x21 x22 x23 x24 H D q
  exact ⟨_, rfl, q⟩
theorem foldPut_len (k : Nat) : ∀ (es : List Ed) (l : List Nat), (∀ e ∈ es, e.2.2.length ≤ k) → (es.foldl putIn l).length ≤ l.length + k * es.length
  | [], l, _ => by simp
  | e :: es, l, h => by
    have i1 := foldPut_len k es (putIn l e) fun d hd => h d (List.mem_cons_of_mem _ hd)
    have h1 := putIn_len l e
    have h2 := h e List.mem_cons_self
    show (es.foldl putIn (putIn l e)).length ≤ _
    rw [List.length_cons, Nat.mul_add]
    omega
theorem lawS14 (l : Lw P w K mg base C CS CW t) (hr : Room 7 (A0.deeper (envOfC "law" (defScope (top 56)) s.heap.objs.size f cdv))) : ∃ tt, PS (XLaw P w K mg base f cdv A0 outer s H0 E) (lawSt 14) tt ∧ ∀ (l : List Nat) (es : List Ed) (v : V) (x0 x1 x2 x3 x4 x7 x8 x9 x10 x11 x12 x13 x14 x15 x17 x18 x19 x20 x21 x22 x23 x24 : Option V) (H : Hp) (D : Ends), Tb t H → EdsAt H v es → EdsFine l.length es → l.length ≤ 200 → (∀ H' x17, Gw D0 H H' → D.nx [x0, x1, x2, x3, x4, some (.str (S l)), some v, x7, x8, x9, x10, x11, x12, x13, x14, x15, some (.str (S (applied l es))), x17, x18, x19, x20, x21, x22, x23, x24] H') → tt D [x0, x1, x2, x3, x4, some (.str (S l)), some v, x7, x8, x9, x10, x11, x12, x13, x14, x15, some (.str (S l)), x17, x18, x19, x20, x21, x22, x23, x24] H := by
  obtain ⟨T, L, LS, cr, fT, fDraws, fLong, fPut, fEdit, fEdits, fText, fHeard, fAre, fAll, fIn, mHI, mDo, mHist, mTurn, mText, mWait⟩ := l
  refine ⟨_, ps_for PassesOwn.never rfl (pi_tup (pe_fn fIn (by first | exact hr | exact hr.mono (by decide) | exact room_gx hr hA | exact (room_gx hr hA).mono (by decide)) (pa_cons (pv 5) (pa_cons (pv 6) pa_nil)))) (pg_name (i := 17) scLaw.nd rfl (Or.inl rfl)) (pss_one ((ps_set (i := 16) scLaw.nd rfl (Or.inl rfl) ((pe_fn fPut (by first | exact hr | exact hr.mono (by decide) | exact room_gx hr hA | exact (room_gx hr hA).mono (by decide)) (pa_cons (pv 16) (pa_cons (pv 17) pa_nil))))))), ?_⟩
  intro l es v x0 x1 x2 x3 x4 x7 x8 x9 x10 x11 x12 x13 x14 x15 x17 x18 x19 x20 x21 x22 x23 x24 H D tb he fine ll q
  have l6 := fine.len
  refine ⟨_, rfl, _, rfl, l, v, es, rfl, he, eds_ok fine ll, by omega, tb, fun v1 H1 g1 he1 => ?_⟩
  obtain ⟨ea, us, rfl, hea, hus⟩ := he1
  refine ⟨ea, rfl, ⟨us, SqT.of hea⟩, for_it (walk_tup (xs := us)) (fun i σ H' => ∃ x17, σ = [x0, x1, x2, x3, x4, some (.str (S l)), some v, x7, x8, x9, x10, x11, x12, x13, x14, x15, some (.str (S (((inTurn 0 es).take i).foldl putIn l))), x17, x18, x19, x20, x21, x22, x23, x24] ∧ Gw D0 H1 H') ⟨x17, rfl, Gw.refl⟩ (fun i σ H' _ z => by obtain ⟨_, _, z⟩ := z; exact SqT.of (z.tup _ _ hea)) ?_ ?_⟩
  · rintro i y σ H2 H2' hi ⟨x17, rfl, g⟩ ⟨rfl, hy⟩
    obtain ⟨e, he, hya⟩ := hus.get hy
    have hin : ∀ d ∈ inTurn 0 es, d.2.2.length ≤ 3 := inTurn_len es 0 fun d hd => (fine.each d hd).2.2.1
    have h1 := foldPut_len 3 ((inTurn 0 es).take i) l fun d hd => hin d (List.mem_of_mem_take hd)
    have h2 : ((inTurn 0 es).take i).length ≤ 6 := by
      rw [List.length_take, inTurn_length]
      omega
    have h3 := hin e (List.mem_of_getElem? he)
    refine ⟨_, rfl, _, rfl, ((inTurn 0 es).take i).foldl putIn l, y, e, rfl, hya.gw g, by omega, by omega, ?_⟩
    refine ⟨some y, ?_, g⟩
    rw [List.take_add_one, he, Option.toList_some, List.foldl_append]
    rfl
  · rintro σ H2 ⟨x17, rfl, g⟩
    have e1 : ((inTurn 0 es).take us.length).foldl putIn l = applied l es := by
      rw [hus.len, List.take_length, inTurn_is fine.ape, applied_is fine.ape]
    rw [e1]
    exact q H2 x17 (g1.trans g)
theorem lawS15 (l : Lw P w K mg base C CS CW t) (hr : Room 7 (A0.deeper (envOfC "law" (defScope (top 56)) s.heap.objs.size f cdv))) : ∃ tt, PS (XLaw P w K mg base f cdv A0 outer s H0 E) (lawSt 15) tt ∧ ∀ (x : Str) (x0 x1 x2 x3 x4 x5 x6 x7 x8 x9 x10 x11 x12 x13 x14 x17 x18 x19 x20 x21 x22 x23 x24 : Option V) (H : Hp) (D : Ends), D.nx [x0, x1, x2, x3, x4, x5, x6, x7, x8, x9, x10, x11, x12, x13, x14, some (.str x), some (.str x), x17, x18, x19, x20, x21, x22, x23, x24] H → tt D [x0, x1, x2, x3, x4, x5, x6, x7, x8, x9, x10, x11, x12, x13, x14, some (.str x), some (.str x), x17, x18, x19, x20, x21, x22, x23, x24] H := by
  obtain ⟨T, L, LS, cr, fT, fDraws, fLong, fPut, fEdit, fEdits, fText, fHeard, fAre, fAll, fIn, mHI, mDo, mHist, mTurn, mText, mWait⟩ := l
  refine ⟨_, ps_if (pt_cmpR op_ne (pv 16) (pv 15) (nomark _)) (pss_one (ps_ret pe_bl)) pss_nil, ?_⟩
  intro x x0 x1 x2 x3 x4 x5 x6 x7 x8 x9 x10 x11 x12 x13 x14 x17 x18 x19 x20 x21 x22 x23 x24 H D q
  refine ⟨_, rfl, _, rfl, rfl, _, rfl, ?_⟩
  rw [str_ne]
  exact iteF q
theorem lawS16 (l : Lw P w K mg base C CS CW t) (hr : Room 7 (A0.deeper (envOfC "law" (defScope (top 56)) s.heap.objs.size f cdv))) : ∃ tt, PS (XLaw P w K mg base f cdv A0 outer s H0 E) (lawSt 16) tt ∧ ∀ (x0 x1 x2 x3 x4 x5 x6 x7 x8 x9 x10 x11 x12 x13 x14 x15 x16 x17 x20 x21 x22 x23 x24 : Option V) (H : Hp) (D : Ends), (∀ H' fl ot, H fl = none → H ot = none → fl ≠ ot → Gw D0 H H' → H' fl = some (.lst []) → H' ot = some (.lst []) → D.nx [x0, x1, x2, x3, x4, x5, x6, x7, x8, x9, x10, x11, x12, x13, x14, x15, x16, x17, some (.ref fl), some (.ref ot), x20, x21, x22, x23, x24] H') → ∀ x18 x19, tt D [x0, x1, x2, x3, x4, x5, x6, x7, x8, x9, x10, x11, x12, x13, x14, x15, x16, x17, x18, x19, x20, x21, x22, x23, x24] H := by
  obtain ⟨T, L, LS, cr, fT, fDraws, fLong, fPut, fEdit, fEdits, fText, fHeard, fAre, fAll, fIn, mHI, mDo, mHist, mTurn, mText, mWait⟩ := l
  refine ⟨_, ps_par (i := 18) (j := 19) (by rfl) scLaw.nd rfl rfl (by decide) rfl rfl (pa_cons (pe_lst pa_nil) (pa_cons (pe_lst pa_nil) pa_nil)) (by rfl), ?_⟩
  intro x0 x1 x2 x3 x4 x5 x6 x7 x8 x9 x10 x11 x12 x13 x14 x15 x16 x17 x20 x21 x22 x23 x24 H D q x18 x19
  refine ⟨Nat.zero_le _, fun p np => ⟨Nat.zero_le _, fun r nr => ⟨_, _, rfl, ?_⟩⟩⟩
  have npr : p ≠ r := ne_of_none upd_same nr
  have g : Gw D0 H (upd (upd H p (.lst [])) r (.lst [])) := (Gw.refl.new np).trans (Gw.refl.new nr)
  exact q _ p r np ((Gw.refl.new np : Gw D0 H _).non _ nr) npr g (by rw [upd_ne npr]; exact upd_same) upd_same
end
end K80
namespace K80
open PySem PySem.Spec PyProof.Rows L2 Gx GxR NdefX
open PySem.SeqAt
/-- the heap while edits are turned off -/
structure TnH (C CS CW : Addr) (t : Tbs) (H : Hp) (a hl ow fl ot : Addr) (Bs : List HA) (ms : List Hm) (A : List Op) (ns : List Str) (l : List Bl) (fs : List Bool) (N : List Op) : Prop where
  st : Stt C CS CW t H a hl Bs ms
  ow_ : H ow = some (.lst (l.map fun B => V.str (nmOf ns B.own)))
  so : Sep a hl Bs ow
  of_ : SLs H a hl Bs fl N
  ot_ : ∃ us, H ot = some (.lst us) ∧ All2 (EdAt H) us ((keptB ((l.take fs.length).zip fs)).map Bl.e)
  sot : Sep a hl Bs ot
  n1 : ow ≠ ot
  n2 : fl ≠ ot
  tn : Tn A ns ms l fs N
theorem TnH.gwa {C CS CW : Addr} {t : Tbs} {H H' : Hp} {a hl ow fl ot : Addr} {Bs : List HA} {ms : List Hm} {A : List Op} {ns : List Str} {l : List Bl} {fs : List Bool} {N : List Op} (h : TnH C CS CW t H a hl ow fl ot Bs ms A ns l fs N) (g : Gw (fun b => b = a) H H') (d : DrAt H' a) : TnH C CS CW t H' a hl ow fl ot Bs ms A ns l fs N := by
  obtain ⟨us, h1, h2⟩ := h.ot_
  exact ⟨h.st.gwa g d, g.oth _ _ h.ow_ (fun _ z => by cases z) h.so.a, h.so, ⟨h.of_.1.gw g h.of_.2.a, h.of_.2⟩, ⟨us, g.oth _ _ h1 (fun _ z => by cases z) h.sot.a, h2.mono fun _ _ z => z.gw g⟩, h.sot, h.n1, h.n2, h.tn⟩
theorem TnH.gw0 {C CS CW : Addr} {t : Tbs} {H H' : Hp} {a hl ow fl ot : Addr} {Bs : List HA} {ms : List Hm} {A : List Op} {ns : List Str} {l : List Bl} {fs : List Bool} {N : List Op} (h : TnH C CS CW t H a hl ow fl ot Bs ms A ns l fs N) (g : Gw D0 H H') : TnH C CS CW t H' a hl ow fl ot Bs ms A ns l fs N := h.gwa g.of0 (h.st.dr.gw g fun z => z)
theorem cut_from (xs : List V) (i : Nat) (h : i ≤ xs.length) : cutV xs (some ((i : Nat) : Int)) none = xs.drop i := by
  unfold cutV
  rw [HT.sIx_nat, HT.sIx_none, Nat.min_eq_left h, List.take_of_length_le]
  rw [List.length_drop]
  exact Nat.le_refl _
theorem zip_allLen {l : List Bl} {fs : List Bool} : (allB ((l.take fs.length).zip fs)).length = min (min fs.length l.length) fs.length := by
  unfold allB
  rw [List.length_map, List.length_zip, List.length_take]
theorem nmOf_eq {ns : List Str} (nd : ns.Nodup) {j k : Nat} (hj : j < ns.length) (hk : k < ns.length) : decide (nmOf ns j = nmOf ns k) = decide (j = k) := by
  rw [nmOf_at (List.getElem?_eq_getElem hj), nmOf_at (List.getElem?_eq_getElem hk)]
  exact decide_eq_decide.mpr ⟨fun z => (List.getElem_inj nd).mp z, fun z => by subst z; rfl⟩
section
variable {P : Program} {w : World} {K : PySem.W.Frag} {mg : Str → Option Value} {base : Heap}
variable {C CS CW : Addr} {t : Tbs} {f : Addr} {cdv : Value} {A0 : Around} {outer : List Env} {s : Shared} {H0 : Hp} {E : XK}
theorem lawS17 (l : Lw P w K mg base C CS CW t) (hr : Room 7 (A0.deeper (envOfC "law" (defScope (top 56)) s.heap.objs.size f cdv))) : ∃ tt, PS (XLaw P w K mg base f cdv A0 outer s H0 E) (lawSt 17) tt ∧ ∀ (a hl ow fl ot : Addr) (Bs : List HA) (ms ms0 : List Hm) (A : List Op) (r : Nat) (l : List Bl) (v : V) (x0 x3 x4 x5 x7 x9 x10 x11 x12 x13 x14 x15 x16 x17 x20 x21 x22 x23 x24 : Option V) (H : Hp) (D : Ends), Base A "a" → A.length ≤ 100 → EdsAt H v (l.map Bl.e) → l.length ≤ 6 → Do A (nm0 r) ms0 l → TnH C CS CW t H a hl ow fl ot Bs ms A (nm0 r) l [] [] →
  (∀ H' Bs ms fl fs N x9 x10 x20, fs.length = l.length → TnH C CS CW t H' a hl ow fl ot Bs ms A (nm0 r) l fs N → D.nx [x0, some (.ref a), some (.ref hl), x3, x4, x5, some v, x7, some (.ref ow), x9, x10, x11, x12, x13, x14, x15, x16, x17, some (.ref fl), some (.ref ot), x20, x21, x22, x23, x24] H') → tt D [x0, some (.ref a), some (.ref hl), x3, x4, x5, some v, x7, some (.ref ow), x9, x10, x11, x12, x13, x14, x15, x16, x17, some (.ref fl), some (.ref ot), x20, x21, x22, x23, x24] H := by
  obtain ⟨T, L, LS, cr, fT, fDraws, fLong, fPut, fEdit, fEdits, fText, fHeard, fAre, fAll, fIn, mHI, mDo, mHist, mTurn, mText, mWait⟩ := l
  refine ⟨_, ps_for PassesOwn.never rfl (pi_range1 rfl T.range_ (pa_cons ((pe_callB call_len_seq (by rfl) T.len_ PySem.boot_len (pa_cons (pv 6) pa_nil))) pa_nil)) (pg_name (i := 9) scLaw.nd rfl (Or.inr rfl)) (pss_cons ((ps_set (i := 10) scLaw.nd rfl (Or.inr rfl) ((pe_ix ix_list ((pe_lc (own := [("one", 24)]) (g := (gName 24)) rfl scLaw.nd (pi_list (pv 2)) (blkOk_by (own := [("one", 24)]) (N := ["script", "draws", "hands", "base", "turn", "text", "edits", "made", "owners", "k", "hand", "more", "place", "gone", "come", "due", "here", "edit", "off", "others", "number", "name", "sign", "j", "one"]) (sc := defScope (top 56)) (by decide +kernel))
        (fun _ _ _ _ _ => (pg_name (i := 24) scLaw.nd rfl (Or.inl rfl))) (fun _ _ _ _ _ => pts_one (pt_cmpR op_eq (fldK (K := K) ((fldK (K := K) (pv 24) rfl)) rfl) (pe_ix (ixlK (K := K)) (pv 8) (pv 9) (fun _ _ => rfl)) (nomark _))) (fun _ _ _ _ _ => pv 24))) (pe_int) (fun _ _ => rfl)))))
      (pss_one (ps_if (pt_cmpR op_eq (pe_fn fT (by first | exact hr | exact hr.mono (by decide) | exact room_gx hr hA | exact (room_gx hr hA).mono (by decide)) (pa_cons (pv 1) (pa_cons (pe_int) pa_nil))) pe_int (nomark _)) (pss_cons ((ps_set (i := 20) scLaw.nd rfl (Or.inl rfl) (pe_op op_sub (pe_callB call_len_seq (by rfl) T.len_ PySem.boot_len (pa_cons ((pe_mth0 mHist (by first | exact hr | exact hr.mono (by decide) | exact room_gx hr hA | exact (room_gx hr hA).mono (by decide)) (pv 10))) pa_nil)) (pe_callB call_len_seq (by rfl) T.len_ PySem.boot_len (pa_cons ((pe_lc (own := [("one", 24)]) (g := (gName 24)) rfl scLaw.nd (pi_list (pe_slice sl_list (pv 8) (po_some (pv 9)) po_none)) (blkOk_by (own := [("one", 24)]) (N := ["script", "draws", "hands", "base", "turn", "text", "edits", "made", "owners", "k", "hand", "more", "place", "gone", "come", "due", "here", "edit", "off", "others", "number", "name", "sign", "j", "one"]) (sc := defScope (top 56)) (by decide +kernel))
        (fun _ _ _ _ _ => (pg_name (i := 24) scLaw.nd rfl (Or.inl rfl))) (fun _ _ _ _ _ => pts_one (pt_cmpR op_eq (pv 24) (pe_ix (ixlK (K := K)) (pv 8) (pv 9) (fun _ _ => rfl)) (nomark _))) (fun _ _ _ _ _ => pv 24))) pa_nil)))))
      (pss_one ((ps_set (i := 18) scLaw.nd rfl (Or.inl rfl) (pe_op op_cat (pv 18) (pe_callTy call_list_of (by rfl) T.list_ (by decide +kernel) (pa_cons ((pe_mth mTurn (by first | exact hr | exact hr.mono (by decide) | exact room_gx hr hA | exact (room_gx hr hA).mono (by decide)) (pv 10) (pa_cons (pv 20) pa_nil))) pa_nil)))))))
    (pss_one (ps_expr (pe_bm PySem.F.plainAttrs_list PySem.F.slot_list_append PySem.F.type_list_append mt_append (pv 19) (pa_cons ((pe_ix ix_tup (pv 6) (pv 9) (fun _ _ => rfl))) pa_nil))))))), ?_⟩
  intro a hl ow fl ot Bs ms ms0 A r l v x0 x3 x4 x5 x7 x9 x10 x11 x12 x13 x14 x15 x16 x17 x20 x21 x22 x23 x24 H D base lA hev l6 d0 th q
  obtain ⟨ea, eus, rfl, hea, heus⟩ := id hev
  have lus := heus.len
  rw [List.length_map] at lus
  have lfl := d0.fl
  refine ⟨_, rfl, _, _, rfl, .inr (SqT.of hea), _, rfl, by omega, by omega, for_it walk_range (fun i σ H' => ∃ Bs ms fl fs N x9 x10 x20, σ = [x0, some (.ref a), some (.ref hl), x3, x4, x5, some (.ref ea), x7, some (.ref ow), x9, x10, x11, x12, x13, x14, x15, x16, x17, some (.ref fl), some (.ref ot), x20, x21, x22, x23, x24] ∧ EdsAt H' (.ref ea) (l.map Bl.e) ∧ fs.length = i ∧ TnH C CS CW t H' a hl ow fl ot Bs ms A (nm0 r) l fs N) ⟨Bs, ms, fl, [], [], x9, x10, x20, rfl, hev, rfl, th⟩ (fun _ _ _ _ _ => trivial) ?_ ?_⟩
  · rintro i y σ H2 H2' hi ⟨Bs, ms, fl, fs, N, x9, x10, x20, rfl, he2, rfl, th2⟩ ⟨rfl, rfl⟩
    have hil : fs.length < l.length := by omega
    have hBl : l[fs.length]? = some l[fs.length] := List.getElem?_eq_getElem hil
    generalize l[fs.length] = Bk at hBl
    obtain ⟨rng, lops⟩ := d0.each Bk (List.mem_of_getElem? hBl)
    have lns := th2.tn.len
    have lB := th2.st.hd.at_.len
    obtain ⟨m, hm⟩ : ∃ m, ms[Bk.own]? = some m := ⟨_, List.getElem?_eq_getElem (by omega)⟩
    obtain ⟨B, hB, hBm, hBr⟩ := th2.st.at_ hm
    have hok : (l.map fun B => V.str (nmOf (nm0 r) B.own))[fs.length]? = some (V.str (nmOf (nm0 r) Bk.own)) := by rw [List.getElem?_map, hBl]; rfl
    obtain ⟨done, ed, ldn, fit, tn2⟩ := th2.tn.turn (nm0_nam r) (nm0_nd r) (by omega) (by omega) l6 hBl hm lops
    -- the hand
    refine ⟨_, rfl, hl, rfl, ⟨_, SqL.of th2.st.hs⟩, fun Lx nL => ?_⟩
    have lmB : (Bs.map fun B => V.ref B.p).length = Bs.length := List.length_map ..
    refine lc_it (walk_list (xs := Bs.map fun B => V.ref B.p)) (fun k H' => Gw D0 H2' H' ∧ H' Lx = some (.lst (if Bk.own < k then [V.ref B.p] else []))) ⟨Gw.refl.new nL, by rw [if_neg (by omega)]; exact upd_same⟩ (fun i H' _ z => SqL.of (z.1.oth _ _ th2.st.hs (fun _ z => by cases z) (fun z => z))) ?_ ?_
    · rintro k y H3 H3' hk ⟨g3, hL⟩ ⟨rfl, hy⟩
      rw [lmB] at hk
      obtain ⟨m3, hm3, hBm3⟩ := th2.st.hd.at_.get (List.getElem?_eq_getElem hk)
      have hB3 : Bs[k]? = some Bs[k] := List.getElem?_eq_getElem hk
      generalize Bs[k] = B3 at hm3 hBm3 hB3
      have ey : y = V.ref B3.p := by
        rw [List.getElem?_map, hB3] at hy
        exact (Option.some.inj hy).symm
      subst ey
      obtain ⟨x, _, _, hx, es, _⟩ := th2.tn.hand k m3 hm3
      have enm : m3.site.name = nmOf (nm0 r) k := by rw [es, stOf_name, nmOf_at hx]
      have hin3 := hBm3.gw0 g3
      have how3 := g3.oth _ _ th2.ow_ (fun _ z => by cases z) (fun z => z)
      refine ⟨rfl, _, rfl, _, _, _, _, _, rfl, hin3.ins, L.cl, L.site, hF_site _, _, _, _, _, _, rfl, hin3.site.ins, LS.cl, LS.name, sF_name _ _, ?_⟩
      refine ⟨_, rfl, _, rfl, _, _, _, _, rfl, rfl, SqL.of how3, by rw [Int.zero_add]; exact atI_nat hok, rfl, _, rfl, ?_⟩
      rw [enm, str_dec, nmOf_eq (nm0_nd r) (by omega) rng]
      by_cases c : k = Bk.own
      · subst c
        have eB : B3 = B := Option.some.inj (hB3.symm.trans hB)
        subst eB
        rw [decide_eq_true rfl]
        refine iteT ⟨_, rfl, _, hL, ?_, g3.fresh nL, ?_⟩
        · rw [if_neg (by omega), sizeLine_eq]
          show 0 < _
          omega
        · rw [upd_same, if_neg (by omega), if_pos (by omega)]
          rfl
      · rw [decide_eq_false c]
        refine iteF ⟨g3, ?_⟩
        rw [hL]
        congr 2
        by_cases c2 : Bk.own < k
        · rw [if_pos c2, if_pos (by omega)]
        · rw [if_neg c2, if_neg (by omega)]
    · rintro H3 ⟨g3, hL⟩
      rw [lmB, if_pos (by omega)] at hL
      have th3 := th2.gw0 g3
      have he3 := he2.gw g3
      refine ⟨_, _, _, _, rfl, rfl, SqL.of hL, rfl, ?_⟩
      -- the draw
      refine ⟨_, rfl, a, 2, rfl, th3.st.dr, by decide, fun H4 rr hrr hd4 g4 => ?_⟩
      have th4 := th3.gwa g4 hd4
      have he4 := he3.gw g4
      have hBm4 : HandAt C CS CW H4 B m := th4.st.hd.at_.at_ _ _ _ hB hm
      refine ⟨rfl, _, rfl, ?_⟩
      by_cases c : rr = 0
      · subst c
        refine iteT ?_
        -- the number
        have le0 : m.edits.length ≤ 100000 := fit.elen
        refine ⟨_, rfl, _, _, _, rfl, hBm4.ins, hN_history _, B, m, rfl, hBm4, le0, fun H5 ha hus5 hha hlen5 g5 => ?_⟩
        have th5 := th4.gw0 g5
        have he5 := he4.gw g5
        refine ⟨ha, hus5, rfl, .inr (SqT.of hha), ?_⟩
        have low : (l.map fun B => V.str (nmOf (nm0 r) B.own)).length = l.length := List.length_map ..
        refine ⟨_, rfl, _, rfl, _, rfl, ow, _, rfl, SqL.of th5.ow_, fun p np => ⟨p, rfl, ⟨_, SqL.of upd_same⟩, fun d nd => ?_⟩⟩
        rw [Int.zero_add, cut_from _ _ (by omega), ← List.map_drop] at nd ⊢
        have gp : Gw D0 H5 (upd H5 p (.lst ((l.drop fs.length).map fun B => V.str (nmOf (nm0 r) B.own)))) := Gw.refl.new np
        have hp6 : upd H5 p (.lst ((l.drop fs.length).map fun B => V.str (nmOf (nm0 r) B.own))) p = some (.lst ((l.drop fs.length).map fun B => V.str (nmOf (nm0 r) B.own))) := upd_same
        have th6 := th5.gw0 gp
        have he6 := he5.gw gp
        generalize upd H5 p (.lst ((l.drop fs.length).map fun B => V.str (nmOf (nm0 r) B.own))) = H6 at hp6 th6 he6 nd ⊢
        refine lc_it (walk_list (xs := (l.drop fs.length).map fun B => V.str (nmOf (nm0 r) B.own))) (fun k H' => Gw D0 H6 H' ∧ ∃ zs, H' d = some (.lst zs) ∧ zs.length = (mine Bk.own ((l.drop fs.length).take k)).length) ⟨Gw.refl.new nd, [], upd_same, rfl⟩ (fun k H' _ z => SqL.of (z.1.oth _ _ hp6 (fun _ z => by cases z) (fun z => z))) ?_ ?_
        · rintro k y H7 H7' hk ⟨g7, zs, hzs, hzl⟩ ⟨rfl, hy⟩
          rw [List.length_map] at hk
          have hBk : (l.drop fs.length)[k]? = some (l.drop fs.length)[k] := List.getElem?_eq_getElem hk
          generalize (l.drop fs.length)[k] = Bq at hBk
          have ey : y = V.str (nmOf (nm0 r) Bq.own) := by
            rw [List.getElem?_map, hBk] at hy
            exact (Option.some.inj hy).symm
          subst ey
          have rq := (d0.each Bq (List.mem_of_mem_drop (List.mem_of_getElem? hBk))).1
          have how7 := g7.oth _ _ th6.ow_ (fun _ z => by cases z) (fun z => z)
          refine ⟨rfl, _, rfl, _, rfl, _, rfl, _, _, _, _, rfl, rfl, SqL.of how7, by rw [Int.zero_add]; exact atI_nat hok, rfl, _, rfl, ?_⟩
          rw [str_dec, nmOf_eq (nm0_nd r) rq rng, mine_take hBk]
          by_cases c : Bq.own = Bk.own
          · rw [decide_eq_true c, if_pos c]
            refine iteT ⟨_, rfl, zs, hzs, ?_, g7.fresh nd, _, upd_same, by rw [List.length_append, List.length_append, hzl]; rfl⟩
            have h1 := (mine_sub Bk.own ((l.drop fs.length).take k)).length_le
            rw [List.length_take, List.length_drop] at h1
            rw [hzl, sizeLine_eq]
            omega
          · rw [decide_eq_false c, if_neg c]
            exact iteF ⟨g7, zs, hzs, hzl⟩
        · rintro H7 ⟨g7, zs, hzs, hzl⟩
          rw [List.length_map, List.take_length] at hzl
          refine ⟨d, zs, rfl, .inl (SqL.of hzs), _, _, rfl, rfl, ?_⟩
          have en : ((hus5.length : Nat) : Int) - ((zs.length : Nat) : Int) = ((done.length : Nat) : Int) := by
            rw [hlen5, hzl, ed, List.length_append, List.length_map]
            omega
          dsimp only
          rw [en]
          have th7 := th6.gw0 g7
          have he7 := he6.gw g7
          have hBm7 : HandAt C CS CW H7 B m := th7.st.hd.at_.at_ _ _ _ hB hm
          -- the turning
          refine ⟨_, rfl, _, rfl, _, _, _, rfl, hBm7.ins, hN_turn _, _, rfl, B, m, done.length, rowB Bk, rfl, hBm7, fit, ?_, th7.st.tb, fun H8 u hu hB8 g8 => ?_⟩
          · show (Bk.ops.map Op.id).length ≤ 100000
            rw [List.length_map]
            omega
          obtain ⟨ua, us, rfl, hua, hlu, aft⟩ := after_do th7.st hB hm rfl (fun b hb => .inl hb) hu hB8 g8
          refine ⟨ua, us, rfl, .inr (SqT.of hua), fun lf nlf => ?_⟩
          obtain ⟨s9, ⟨⟨ws, hws, aws⟩, sep9⟩, nH, g9, keep⟩ := aft lf nlf
          have kf := keep fl th7.of_.1.live th7.of_.2
          have ko := keep ow (by rw [th7.ow_]; exact Option.some_ne_none _) th7.so
          obtain ⟨uts, hot, huts⟩ := th7.ot_
          have kt := keep ot (by rw [hot]; exact Option.some_ne_none _) th7.sot
          obtain ⟨bs, hbs, abs⟩ := th7.of_.1.gw g9 kf.2
          have how9 := g9.oth _ _ th7.ow_ (fun _ z => by cases z) ko.2
          have hot9 := g9.oth _ _ hot (fun _ z => by cases z) kt.2
          have huts9 : All2 (EdAt (upd H8 lf (.lst us))) uts _ := huts.mono fun _ _ z => z.gw g9
          have he9 := he7.gw g9
          have elw : ws = us := by
            rw [upd_same] at hws
            injection Option.some.inj hws with z
            exact z.symm
          subst elw
          have lN2 := tn2.ln
          rw [List.length_append, List.length_append, List.length_singleton] at lN2
          refine ⟨_, _, _, _, rfl, rfl, hbs, hws, ?_, fun p2 np2 => ?_⟩
          · have h1 := abs.len
            have h2 := aws.len
            rw [sizeLine_eq]
            omega
          generalize upd H8 lf (.lst ws) = H9 at s9 hws aws sep9 g9 hbs abs how9 hot9 huts9 he9 np2 ⊢
          have gq : Gw D0 H9 (upd H9 p2 (.lst (bs ++ ws))) := Gw.refl.new np2
          refine ⟨_, _, p2, fs ++ [true], _, _, _, _, rfl, he9.gw gq, by rw [List.length_append, List.length_singleton], ⟨s9.gw0 gq, gq.oth _ _ how9 (fun _ z => by cases z) (fun z => z), ko.1, ⟨cat_ls (a := a) (hl := hl) (Bs := Bs) (q := p2) hbs abs aws np2, s9.sep np2⟩, ⟨uts, gq.oth _ _ hot9 (fun _ z => by cases z) (fun z => z), ?_⟩, kt.1, th7.n1, (fun z => by rw [z] at np2; rw [hot9] at np2; cases np2), tn2⟩⟩
          rw [kept_snoc hBl, if_pos rfl, List.append_nil]
          exact huts9.mono fun _ _ z => z.gw gq
      · rw [decide_eq_false (show ¬ V.int ((rr : Nat) : Int) = V.int 0 from fun z => c (by have := V.int.inj z; omega))]
        refine iteF ?_
        obtain ⟨uts, hot, huts⟩ := th4.ot_
        obtain ⟨ea', eus', e1, hea4, heus4⟩ := id he4
        cases e1
        have hek : (l.map Bl.e)[fs.length]? = some Bk.e := by rw [List.getElem?_map, hBl]; rfl
        obtain ⟨vk, hvk, hka⟩ := heus4.get' hek
        have lk : uts.length ≤ 6 := by
          rw [huts.len, List.length_map]
          have h1 := (keep_sub ((l.take fs.length).zip fs)).length_le
          rw [zip_allLen] at h1
          omega
        refine ⟨_, rfl, .inl ⟨rfl, _, SqL.of hot⟩, _, rfl, _, rfl, _, _, _, _, rfl, rfl, SqT.of hea4, by rw [Int.zero_add]; exact atI_nat hvk, ot, _, _, rfl, rfl, hot, by rw [sizeLine_eq]; omega, ?_⟩
        have g6 : Gw (fun b => b = ot) H4 (upd H4 ot (.lst (uts ++ [vk]))) := Gw.refl.put rfl hot (fun _ z => by cases z) (fun _ z => by cases z)
        refine ⟨_, _, fl, fs ++ [false], N, _, _, _, rfl, he4.gw g6, by rw [List.length_append, List.length_singleton], ⟨th4.st.put th4.sot g6, g6.oth _ _ th4.ow_ (fun _ z => by cases z) th4.n1, th4.so, ⟨th4.of_.1.gw g6 th4.n2, th4.of_.2⟩, ⟨_, upd_same, ?_⟩, th4.sot, th4.n1, th4.n2, th4.tn.keep hBl⟩⟩
        rw [kept_snoc hBl, if_neg Bool.false_ne_true]
        exact (huts.mono fun _ _ z => z.gw g6).snoc (hka.gw g6)
  · rintro σ H2 ⟨Bs, ms, fl, fs, N, x9, x10, x20, rfl, he2, hfs, th2⟩
    rw [Int.toNat_natCast] at hfs
    exact q H2 Bs ms fl fs N _ _ _ (by omega) th2
theorem lawS18 (l : Lw P w K mg base C CS CW t) (hr : Room 7 (A0.deeper (envOfC "law" (defScope (top 56)) s.heap.objs.size f cdv))) : ∃ tt, PS (XLaw P w K mg base f cdv A0 outer s H0 E) (lawSt 18) tt ∧ ∀ (a hl ow fl ot : Addr) (Bs : List HA) (ms ms0 : List Hm) (A : List Op) (r : Nat) (l : List Bl) (fs : List Bool) (N : List Op) (x0 x3 x4 x5 x6 x7 x8 x9 x10 x11 x12 x13 x14 x15 x16 x17 x20 x21 x22 x23 x24 : Option V) (H : Hp) (D : Ends), Base A "a" → A.length ≤ 100 → l.length ≤ 6 → ApE (vis A).length (l.map Bl.e) → Do A (nm0 r) ms0 l → fs.length = l.length → TnH C CS CW t H a hl ow fl ot Bs ms A (nm0 r) l fs N →
  (∀ H' Bs ms, Stt C CS CW t H' a hl Bs ms → (∃ us, H' ot = some (.lst us) ∧ All2 (EdAt H') us ((keptB ((l.take fs.length).zip fs)).map Bl.e)) →
    (∀ (j : Nat) (m : Hm), ms[j]? = some m → (∃ x K, m.site = stOf x K ∧ Ord K ∧ (K.map Op.id).Nodup ∧ K.length ≤ 1000) ∧ textM m.site = applied (tx A) ((keptB ((l.take fs.length).zip fs)).map Bl.e)) → D.nx [x0, some (.ref a), some (.ref hl), x3, x4, x5, x6, x7, x8, x9, x10, x11, x12, x13, x14, x15, x16, x17, some (.ref fl), some (.ref ot), x20, x21, x22, x23, x24] H') → tt D [x0, some (.ref a), some (.ref hl), x3, x4, x5, x6, x7, x8, x9, x10, x11, x12, x13, x14, x15, x16, x17, some (.ref fl), some (.ref ot), x20, x21, x22, x23, x24] H := by
  obtain ⟨T, L, LS, cr, fT, fDraws, fLong, fPut, fEdit, fEdits, fText, fHeard, fAre, fAll, fIn, mHI, mDo, mHist, mTurn, mText, mWait⟩ := l
  refine ⟨_, ps_expr (pe_fn fHeard (by first | exact hr | exact hr.mono (by decide) | exact room_gx hr hA | exact (room_gx hr hA).mono (by decide)) (pa_cons (pv 1) (pa_cons (pv 2) (pa_cons (pv 18) pa_nil)))), ?_⟩
  intro a hl ow fl ot Bs ms ms0 A r l fs N x0 x3 x4 x5 x6 x7 x8 x9 x10 x11 x12 x13 x14 x15 x16 x17 x20 x21 x22 x23 x24 H D base lA l6 ap d0 hfs th q
  obtain ⟨⟨us, hml, hus⟩, sep⟩ := id th.of_
  have dis := (flat_dis d0.bls (d0.uni.self.rf d0.uni) ap).1
  have w := th.tn.wd d0 base.own.ord dis
  have subl : ∀ o ∈ N, o ∈ A ++ (flat l ++ N) := fun o ho => List.mem_append_right _ (List.mem_append_right _ ho)
  have sgA : ∀ o ∈ A ++ (flat l ++ N), o.sign < 1000 := fun o ho => by
    rw [← List.append_assoc] at ho
    rcases List.mem_append.mp ho with z | z
    · exact d0.sg o z
    · exact th.tn.sg o z
  have lN := th.tn.ln
  refine ⟨_, rfl, _, rfl, _, rfl, a, hl, fl, Bs, ms, us, N, rfl, th.st.dr, th.st.hs, hml, hus, th.st.hd, fun o ho => opS_of th.tn.uni sgA o (subl o ho), by omega, th.tn.hs.fit w subl, th.st.na, sep.a, fun b hb => ⟨(th.st.fp b hb).1, (th.st.fp b hb).2, fun e => sep.fp (e ▸ hb)⟩, th.st.tb, fun H1 Bs1 ms1 hh ep ef a2 hd g => ?_⟩
  obtain ⟨s1, kp⟩ := th.st.heard hh ep ef hd g
  obtain ⟨uts, hot, huts⟩ := th.ot_
  have kt := kp ot (by rw [hot]; exact Option.some_ne_none _) th.sot
  have sub2 : ∀ (j : Nat) (m : Hm), ms[j]? = some m → ∃ x K, (nm0 r)[j]? = some x ∧ m.site = stOf x (A ++ K) ∧ Cl (A ++ (flat l ++ N)) (A ++ K) ∧ ∀ o ∈ A ++ flat l, o ∈ A ++ K := fun j m hj => by
    obtain ⟨x, K, done, h1, h2, h3, h4, _⟩ := th.tn.hand j m hj
    exact ⟨x, K, h1, h2, h3.cl, h4⟩
  have heard : ∀ (j : Nat) (m' : Hm), ms1[j]? = some m' → ∃ x Km, m'.site = stOf x (A ++ Km) ∧ Cl (A ++ (flat l ++ N)) (A ++ Km) ∧ (A ++ Km).Perm (A ++ (flat l ++ N)) := fun j m' hj => by
    obtain ⟨m, hm, hd⟩ := a2.get' hj
    obtain ⟨x, K, hx, es, c, sb⟩ := sub2 j m hm
    obtain ⟨Km', e2, c2, p2⟩ := heard_is w c es subl (fun o ho => by
      rw [← List.append_assoc] at ho
      rcases List.mem_append.mp ho with z | z
      · exact .inl (sb o z)
      · exact .inr z) hd
    exact ⟨x, Km', by rw [e2], c2, p2⟩
  refine q _ _ _ s1 ⟨uts, g.oth _ _ hot (fun _ z => by cases z) kt.2, huts.mono fun _ _ z => z.gw g⟩ fun j m hj => ?_
  obtain ⟨x, Km, es, c, p⟩ := heard j m hj
  refine ⟨⟨x, A ++ Km, es, w.ord Km c, c.nd, Nat.le_trans (nd_len c.nd c.sub) th.tn.uni.len⟩, ?_⟩
  rw [es]
  exact Tn.text base.past th.tn d0 base.own.ord ap hfs c p
theorem eds_ok2 {n : Nat} {es fs : List Ed} (h : EdsFine n es) (s : fs.Sublist es) (hn : n ≤ 200) : EdsOk n fs := by
  have l6 := h.len
  have ls := s.length_le
  have ap := h.ape.sub s
  refine ⟨by omega, fun e he => ?_, fun i e e' h1 h2 => ?_, ?_⟩
  · obtain ⟨h1, h2, h3, h4⟩ := h.each e (s.subset he)
    exact ⟨h1, h4.sg, by omega⟩
  · obtain ⟨a1, a2⟩ := List.getElem?_eq_some_iff.mp h1
    obtain ⟨b1, b2⟩ := List.getElem?_eq_some_iff.mp h2
    have := List.pairwise_iff_getElem.mp ap.apart i (i + 1) a1 b1 (Nat.lt_succ_self _)
    rwa [a2, b2] at this
  · have gen : ∀ l : List Ed, (∀ e ∈ l, e.2.2.length ≤ 3) → (l.map fun e => ((e.2.2.length : Int) - (e.2.1 : Int))).sum ≤ 3 * (l.length : Int) := by
      intro l
      induction l with
      | nil => intro _; exact Int.le_refl _
      | cons e l ih =>
        intro h
        have i1 := ih fun d hd => h d (List.mem_cons_of_mem _ hd)
        have h1 := h e List.mem_cons_self
        rw [List.map_cons, List.sum_cons, List.length_cons]
        omega
    have := gen fs fun e he => (h.each e (s.subset he)).2.2.1
    omega
theorem lawS19 (l : Lw P w K mg base C CS CW t) (hr : Room 7 (A0.deeper (envOfC "law" (defScope (top 56)) s.heap.objs.size f cdv))) : ∃ tt, PS (XLaw P w K mg base f cdv A0 outer s H0 E) (lawSt 19) tt ∧ ∀ (l : List Nat) (es fs : List Ed) (ot : Addr) (us : List V) (x0 x1 x2 x3 x4 x6 x7 x8 x9 x10 x11 x12 x13 x14 x16 x17 x18 x20 x21 x22 x23 x24 : Option V) (H : Hp) (D : Ends), Tb t H → EdsFine l.length es → fs.Sublist es → l.length ≤ 200 → H ot = some (.lst us) → All2 (EdAt H) us fs → (∀ H', Gw D0 H H' → D.nx [x0, x1, x2, x3, x4, some (.str (S l)), x6, x7, x8, x9, x10, x11, x12, x13, x14, some (.str (S (applied l fs))), x16, x17, x18, some (.ref ot), x20, x21, x22, x23, x24] H') → ∀ x15, tt D [x0, x1, x2, x3, x4, some (.str (S l)), x6, x7, x8, x9, x10, x11, x12, x13, x14, x15, x16, x17, x18, some (.ref ot), x20, x21, x22, x23, x24] H := by
  obtain ⟨T, L, LS, cr, fT, fDraws, fLong, fPut, fEdit, fEdits, fText, fHeard, fAre, fAll, fIn, mHI, mDo, mHist, mTurn, mText, mWait⟩ := l
  refine ⟨_, (ps_set (i := 15) scLaw.nd rfl (Or.inr rfl) ((pe_fn fAll (by first | exact hr | exact hr.mono (by decide) | exact room_gx hr hA | exact (room_gx hr hA).mono (by decide)) (pa_cons (pv 5) (pa_cons ((pe_callTy call_tuple_of (by rfl) T.tuple_ (by decide +kernel) (pa_cons (pv 19) pa_nil))) pa_nil))))), ?_⟩
  intro l es fs ot us x0 x1 x2 x3 x4 x6 x7 x8 x9 x10 x11 x12 x13 x14 x16 x17 x18 x20 x21 x22 x23 x24 H D tb fine sb ll hot hus q x15
  refine ⟨_, rfl, _, rfl, ot, us, rfl, .inl ⟨SqL.of hot, fun p np => ?_⟩⟩
  have gp : Gw D0 H (upd H p (.tup us)) := Gw.refl.new np
  exact ⟨l, .ref p, fs, rfl, ⟨p, us, rfl, upd_same, hus.mono fun _ _ z => z.gw gp⟩, eds_ok2 fine sb ll, by omega, tb.gw gp, fun H1 g1 => q H1 (gp.trans g1)⟩
theorem lawS20 (l : Lw P w K mg base C CS CW t) (hr : Room 7 (A0.deeper (envOfC "law" (defScope (top 56)) s.heap.objs.size f cdv))) : ∃ tt, PS (XLaw P w K mg base f cdv A0 outer s H0 E) (lawSt 20) tt ∧ ∀ (a hl : Addr) (Bs : List HA) (ms : List Hm) (d : List Nat) (x0 x3 x4 x5 x6 x7 x8 x9 x10 x11 x12 x13 x14 x16 x17 x18 x19 x20 x21 x22 x23 x24 : Option V) (H : Hp) (D : Ends), Stt C CS CW t H a hl Bs ms → (∀ (j : Nat) (m : Hm), ms[j]? = some m → (∃ x K, m.site = stOf x K ∧ Ord K ∧ (K.map Op.id).Nodup ∧ K.length ≤ 1000) ∧ textM m.site = d) →
  (∀ H', D.rt (.bl true) H') → tt D [x0, some (.ref a), some (.ref hl), x3, x4, x5, x6, x7, x8, x9, x10, x11, x12, x13, x14, some (.str (S d)), x16, x17, x18, x19, x20, x21, x22, x23, x24] H := by
  obtain ⟨T, L, LS, cr, fT, fDraws, fLong, fPut, fEdit, fEdits, fText, fHeard, fAre, fAll, fIn, mHI, mDo, mHist, mTurn, mText, mWait⟩ := l
  refine ⟨_, ps_ret (pe_cmpR (op_eqD hr.units) (pe_lc (own := [("hand", 10)]) (g := (gName 10)) rfl scLaw.nd (pi_list (pv 2)) (blkOk_by (own := [("hand", 10)]) (N := ["script", "draws", "hands", "base", "turn", "text", "edits", "made", "owners", "k", "hand", "more", "place", "gone", "come", "due", "here", "edit", "off", "others", "number", "name", "sign", "j", "one"]) (sc := defScope (top 56)) (by decide +kernel))
        (fun _ _ _ _ _ => (pg_name (i := 10) scLaw.nd rfl (Or.inl rfl))) (fun _ _ _ _ _ => pts_one (pt_cmpR op_ne (pe_mth0 mText (by first | exact hr | exact hr.mono (by decide) | exact room_gx hr hA | exact (room_gx hr hA).mono (by decide)) ((fldK (K := K) (pv 10) rfl))) (pv 15) (nomark _))) (fun _ _ _ _ _ => pv 10)) (pe_lst pa_nil) (nomark _)), ?_⟩
  intro a hl Bs ms d x0 x3 x4 x5 x6 x7 x8 x9 x10 x11 x12 x13 x14 x16 x17 x18 x19 x20 x21 x22 x23 x24 H D st hm q
  have lB : (Bs.map fun B => V.ref B.p).length = Bs.length := List.length_map ..
  refine ⟨_, rfl, hl, rfl, ⟨_, SqL.of st.hs⟩, fun Lx nL => ?_⟩
  refine lc_it (walk_list (xs := Bs.map fun B => V.ref B.p)) (fun i H' => Gw D0 H H' ∧ H' Lx = some (.lst [])) ⟨Gw.refl.new nL, upd_same⟩ (fun i H' _ z => SqL.of (z.1.oth _ _ st.hs (fun _ z => by cases z) (fun z => z))) ?_ ?_
  · rintro i y H2 H2' hi ⟨g, hL⟩ ⟨rfl, hy⟩
    rw [lB] at hi
    obtain ⟨m, hmi, hBm⟩ := st.hd.at_.get (List.getElem?_eq_getElem hi)
    have hBi : Bs[i]? = some Bs[i] := List.getElem?_eq_getElem hi
    generalize Bs[i] = B at hmi hBm hBi
    have ey : y = V.ref B.p := by
      rw [List.getElem?_map, hBi] at hy
      exact (Option.some.inj hy).symm
    subst ey
    obtain ⟨⟨x, K, es, od, nd, lK⟩, et⟩ := hm i m hmi
    obtain ⟨o1, o2, o3⟩ := site_ok (x := x) od nd lK
    have hB2 := hBm.gw0 g
    refine ⟨rfl, _, rfl, _, _, _, _, _, rfl, hB2.ins, L.cl, L.site, hF_site _, _, _, _, rfl, hB2.site.ins, sN_text _ _, ?_⟩
    refine ⟨B.S, m.site, rfl, hB2.site, by rw [es]; exact o1, by rw [es]; exact o2, by rw [es]; exact o3, st.tb.gw g, fun H3 g3 => ?_⟩
    rw [et]
    refine ⟨_, rfl, rfl, _, rfl, ?_⟩
    rw [str_ne]
    exact iteF ⟨g.trans g3, g3.oth _ _ hL (fun _ z => by cases z) (fun z => z)⟩
  · rintro H2 ⟨g, hL⟩
    refine ⟨Nat.zero_le _, fun e ne => ?_⟩
    have ge : Gw D0 H2 (upd H2 e (.lst [])) := Gw.refl.new ne
    refine ⟨.list [], .list [], .lst (SqL.of (ge.oth _ _ hL (fun _ z => by cases z) (fun z => z))) .nil, .lst (SqL.of upd_same) .nil, shaped_nil, shaped_nil, ?_⟩
    rw [eqv_nil]
    exact q _
end
end K80
namespace K80
open PySem PySem.Spec PyProof.Rows L2 Gx GxR NdefX
open PySem.SeqAt
section
variable {P : Program} {w : World} {K : PySem.W.Frag} {mg : Str → Option Value} {base : Heap}
variable {C CS CW : Addr} {t : Tbs}
def spLaw (K : PySem.W.Frag) (t : Tbs) : Sp := fun vs H Q _ => ∃ (a : Addr) (ns : List Int), vs = [.ref a] ∧ SqL K H a (ns.map V.int) ∧ ns.length ≤ 63 ∧ Tb t H ∧ ∀ H', Q (.bl true) H'
theorem law_body : defBody (top 56) = [lawSt 0, lawSt 1, lawSt 2, lawSt 3, lawSt 4, lawSt 5, lawSt 6, lawSt 7, lawSt 8, lawSt 9, lawSt 10, lawSt 11, lawSt 12, lawSt 13, lawSt 14, lawSt 15, lawSt 16, lawSt 17, lawSt 18, lawSt 19, lawSt 20] := rfl
theorem ok_law {f : Addr} {fd : FuncData} (D : Fun K "law" "law" (top 56) f fd) (l : Lw P w K mg base C CS CW t) : FnOk P w K mg base CX0 8 f fd ["script"] (spLaw K t) := by
  refine D.ok scLaw (fun vs H Q E h => ?_) (fun cdv A0 outer s H vs Q E hr h => ?_)
  · obtain ⟨a, ns, rfl, _⟩ := h
    rfl
  · obtain ⟨sa, ns, rfl, hs, hl63, tb, q⟩ := h
    obtain ⟨t0, p0, q0⟩ := lawS0 l (f := f) (cdv := cdv) (A0 := A0) (outer := outer) (s := s) (H0 := H) (E := E) hr
    obtain ⟨t1, p1, q1⟩ := lawS1 l (f := f) (cdv := cdv) (A0 := A0) (outer := outer) (s := s) (H0 := H) (E := E) hr
    obtain ⟨t2, p2, q2⟩ := lawS2 l (f := f) (cdv := cdv) (A0 := A0) (outer := outer) (s := s) (H0 := H) (E := E) hr
    obtain ⟨t3, p3, q3⟩ := lawS3 l (f := f) (cdv := cdv) (A0 := A0) (outer := outer) (s := s) (H0 := H) (E := E) hr
    obtain ⟨t4, p4, q4⟩ := lawS4 l (f := f) (cdv := cdv) (A0 := A0) (outer := outer) (s := s) (H0 := H) (E := E) hr
    obtain ⟨t5, p5, q5⟩ := lawS5 l (f := f) (cdv := cdv) (A0 := A0) (outer := outer) (s := s) (H0 := H) (E := E) hr
    obtain ⟨t6, p6, q6⟩ := lawS6 l (f := f) (cdv := cdv) (A0 := A0) (outer := outer) (s := s) (H0 := H) (E := E) hr
    obtain ⟨t7, p7, q7⟩ := lawS7 l (f := f) (cdv := cdv) (A0 := A0) (outer := outer) (s := s) (H0 := H) (E := E) hr
    obtain ⟨t8, p8, q8⟩ := lawS8 l (f := f) (cdv := cdv) (A0 := A0) (outer := outer) (s := s) (H0 := H) (E := E) hr
    obtain ⟨t9, p9, q9⟩ := lawS9 l (f := f) (cdv := cdv) (A0 := A0) (outer := outer) (s := s) (H0 := H) (E := E) hr
    obtain ⟨t10, p10, q10⟩ := lawS10 l (f := f) (cdv := cdv) (A0 := A0) (outer := outer) (s := s) (H0 := H) (E := E) hr
    obtain ⟨t11, p11, q11⟩ := lawS11 l (f := f) (cdv := cdv) (A0 := A0) (outer := outer) (s := s) (H0 := H) (E := E) hr
    obtain ⟨t12, p12, q12⟩ := lawS12 l (f := f) (cdv := cdv) (A0 := A0) (outer := outer) (s := s) (H0 := H) (E := E) hr
    obtain ⟨t13, p13, q13⟩ := lawS13 l (f := f) (cdv := cdv) (A0 := A0) (outer := outer) (s := s) (H0 := H) (E := E) hr
    obtain ⟨t14, p14, q14⟩ := lawS14 l (f := f) (cdv := cdv) (A0 := A0) (outer := outer) (s := s) (H0 := H) (E := E) hr
    obtain ⟨t15, p15, q15⟩ := lawS15 l (f := f) (cdv := cdv) (A0 := A0) (outer := outer) (s := s) (H0 := H) (E := E) hr
    obtain ⟨t16, p16, q16⟩ := lawS16 l (f := f) (cdv := cdv) (A0 := A0) (outer := outer) (s := s) (H0 := H) (E := E) hr
    obtain ⟨t17, p17, q17⟩ := lawS17 l (f := f) (cdv := cdv) (A0 := A0) (outer := outer) (s := s) (H0 := H) (E := E) hr
    obtain ⟨t18, p18, q18⟩ := lawS18 l (f := f) (cdv := cdv) (A0 := A0) (outer := outer) (s := s) (H0 := H) (E := E) hr
    obtain ⟨t19, p19, q19⟩ := lawS19 l (f := f) (cdv := cdv) (A0 := A0) (outer := outer) (s := s) (H0 := H) (E := E) hr
    obtain ⟨t20, p20, q20⟩ := lawS20 l (f := f) (cdv := cdv) (A0 := A0) (outer := outer) (s := s) (H0 := H) (E := E) hr
    rw [law_body]
    refine ⟨_, pss_cons p0 (pss_cons p1 (pss_cons p2 (pss_cons p3 (pss_cons p4 (pss_cons p5 (pss_cons p6 (pss_cons p7 (pss_cons p8 (pss_cons p9 (pss_cons p10 (pss_cons p11 (pss_cons p12 (pss_cons p13 (pss_cons p14 (pss_cons p15 (pss_cons p16 (pss_cons p17 (pss_cons p18 (pss_cons p19 (pss_one p20)))))))))))))))))))), ?_⟩
    clear p0 p1 p2 p3 p4 p5 p6 p7 p8 p9 p10 p11 p12 p13 p14 p15 p16 p17 p18 p19 p20
    refine q0 sa ns _ _ _ _ _ _ _ _ _ _ _ _ _ _ _ _ _ _ _ _ _ _ _ _ _ _ hs hl63 fun H1 a d1 g1 => ?_
    have tb1 := tb.gw g1
    refine q1 a _ _ _ _ _ _ _ _ _ _ _ _ _ _ _ _ _ _ _ _ _ _ _ _ _ _ d1 tb1 fun H2 hl Bs r hr st2 => ?_
    refine q2 a hl Bs r _ _ _ _ _ _ _ _ _ _ _ _ _ _ _ _ _ _ _ _ _ _ _ _ _ hr st2 fun H3 Bs ms ol A st3 ls3 f3 => ?_
    refine q3 a hl ol Bs ms A r _ _ _ _ _ _ _ _ _ _ _ _ _ _ _ _ _ _ _ _ _ _ _ _ hr st3 ls3 f3 fun H4 Bs ms ol A x4 st4 ls4 f4 => ?_
    refine q4 a hl ol Bs ms A r _ _ _ _ _ _ _ _ _ _ _ _ _ _ _ _ _ _ _ _ _ _ _ _ st4 ls4 f4 fun H5 Bs ms st5 ls5 f5 => ?_
    have base := f5.base
    have lA := f5.len
    have hlx : (tx A).length = (vis A).length := List.length_map ..
    have lv : (vis A).length ≤ 100 := Nat.le_trans (vis_le (base.uni.self.rf base.uni)) lA
    refine q5 a hl Bs ms A r _ _ _ _ _ _ _ _ _ _ _ _ _ _ _ _ _ _ _ _ _ _ _ _ st5 f5 (fun H6 g6 => ?_) _
    have st6 := st5.gw0 g6
    have ls6 : SLs H6 a hl Bs ol A := ⟨ls5.1.gw g6 (fun z => z), ls5.2⟩
    refine q6 a hl Bs ms (tx A) _ _ _ _ _ _ _ _ _ _ _ _ _ _ _ _ _ _ _ _ _ _ _ st6 (by omega) (fun H7 v es d7 g7 he7 fine => ?_) _
    have st7 := st6.gwa g7 d7
    have ls7 : SLs H7 a hl Bs ol A := ⟨ls6.1.gw g7 ls6.2.a, ls6.2⟩
    have fineV : EdsFine (vis A).length es := by rw [← hlx]; exact fine
    have ape := fineV.ape
    refine q7 (tx A) es v _ _ _ _ _ _ _ _ _ _ _ _ _ _ _ _ _ _ _ _ _ _ _ _ _ st7.tb he7 fine (by omega) fun H8 g8 => ?_
    have st8 := st7.gw0 g8
    have ls8 : SLs H8 a hl Bs ol A := ⟨ls7.1.gw g8 (fun z => z), ls7.2⟩
    have he8 := he7.gw g8
    refine q8 _ _ _ _ _ _ _ _ _ _ _ _ _ _ _ _ _ _ _ _ _ _ _ _ _ (fun H9 ml ow nml now nmo g9 hml how => ?_) _ _
    have dh9 : DoH C CS CW t H9 a hl ol ml ow Bs ms A (nm0 r) [] := ⟨st8.gw0 g9, ⟨ls8.1.gw g9 (fun z => z), ls8.2⟩, ⟨⟨[], hml, All2.nil⟩, st8.sep nml⟩, how, st8.sep now, nmo, fun z => ls8.1.live (z ▸ now), f5.do_⟩
    refine q9 a hl ol ml ow Bs ms A r v es _ _ _ _ _ _ _ _ _ _ _ _ _ _ _ _ _ _ _ _ _ base lA (he8.gw g9) fineV dh9 fun H10 Bs ms ml l x9 x10 x11 x12 x13 x14 he10 hle dh10 => ?_
    have ll6 : l.length ≤ 6 := by
      have h1 := congrArg List.length hle
      rw [List.length_map] at h1
      have h2 := fine.len
      omega
    have apl : ApE (vis A).length (l.map Bl.e) := by rw [hle]; exact ape
    have dd := dh10.dd
    refine q10 a hl ol ml ow Bs ms A r l _ _ _ _ _ _ _ _ _ _ _ _ _ _ _ _ _ _ _ _ _ _ _ _ base apl ll6 dh10 fun H11 Bs ms dn11 g11 => ?_
    have he11 := he10.gw g11
    refine q11 (tx A) es v _ _ _ _ _ _ _ _ _ _ _ _ _ _ _ _ _ _ _ _ _ _ _ _ _ dn11.st.tb he11 fine (by omega) fun H12 g12 => ?_
    have dn12 := dn11.gw0 g12
    have he12 := he11.gw g12
    rw [← hle]
    refine q12 a hl ol ml ow Bs ms _ A r l _ _ _ _ _ _ _ _ _ _ _ _ _ _ _ _ _ _ _ _ _ _ base lA apl ll6 dd dn12 fun H13 g13 => ?_
    have dn13 := dn12.gw0 g13
    have he13 := he12.gw g13
    refine q13 _ _ _ _ _ _ _ _ _ _ _ _ _ _ _ _ _ _ _ _ _ _ _ _ _ _ _ ?_
    refine q14 (tx A) es v _ _ _ _ _ _ _ _ _ _ _ _ _ _ _ _ _ _ _ _ _ _ _ _ dn13.st.tb he13 fine (by omega) fun H14 x17 g14 => ?_
    have dn14 := dn13.gw0 g14
    have he14 := he13.gw g14
    rw [← hle]
    refine q15 _ _ _ _ _ _ _ _ _ _ _ _ _ _ _ _ _ _ _ _ _ _ _ _ _ _ ?_
    refine q16 _ _ _ _ _ _ _ _ _ _ _ _ _ _ _ _ _ _ _ _ _ _ _ _ _ (fun H15 fl ot nfl not_ nft g15 hfl hot => ?_) _ _
    have dn15 := dn14.gw0 g15
    have he15 := he14.gw g15
    have th15 : TnH C CS CW t H15 a hl ow fl ot Bs ms A (nm0 r) l [] [] := ⟨dn15.st, dn15.ow_, dn15.so, ⟨⟨[], hfl, All2.nil⟩, dn14.st.sep nfl⟩, ⟨[], hot, All2.nil⟩, dn14.st.sep not_, (fun z => by rw [← z, dn14.ow_] at not_; cases not_), nft, dn15.tn⟩
    refine q17 a hl ow fl ot Bs ms _ A r l v _ _ _ _ _ _ _ _ _ _ _ _ _ _ _ _ _ _ _ _ _ base lA (by rw [hle]; exact he15) ll6 dd th15 fun H16 Bs ms fl fs N x9 x10 x20 hfs th16 => ?_
    refine q18 a hl ow fl ot Bs ms _ A r l fs N _ _ _ _ _ _ _ _ _ _ _ _ _ _ _ _ _ _ _ _ _ _ _ base lA ll6 apl dd hfs th16 fun H17 Bs ms st17 ot17 hm17 => ?_
    obtain ⟨uts, hot17, huts⟩ := ot17
    have sub : ((keptB ((l.take fs.length).zip fs)).map Bl.e).Sublist es := by
      rw [← hle]
      refine List.Sublist.map _ ?_
      have := keep_sub ((l.take fs.length).zip fs)
      rwa [zip_all hfs] at this
    refine q19 (tx A) es _ ot uts _ _ _ _ _ _ _ _ _ _ _ _ _ _ _ _ _ _ _ _ _ _ _ _ st17.tb fine sub (by omega) hot17 huts (fun H18 g18 => ?_) _
    exact q20 a hl Bs ms _ _ _ _ _ _ _ _ _ _ _ _ _ _ _ _ _ _ _ _ _ _ _ _ _ (st17.gw0 g18) hm17 fun H19 => q H19
end
end K80
namespace K80
open PySem PySem.Spec PyProof.Rows L2 Gx GxR NdefX
/-! ### the end: what the top has written -/
structure FF (K : PySem.W.Frag) (x : Str) (st : Stmt) : Prop where
  ex : ∃ (f : Addr) (fd : FuncData), PySem.W.nsIn K mainGlobals x = some (some (.ref f)) ∧ Fun K x x st f fd
structure FT (K : PySem.W.Frag) (x : Str) (st : Stmt) (c : Addr) : Prop where
  ex : ∃ (f : Addr) (fd : FuncData), PySem.W.nsIn K mainGlobals x = some (some (.ref f)) ∧ Fun K x x st f fd ∧ fd.code = .ref c
structure MF (K : PySem.W.Frag) (C : Addr) (x q : Str) (st : Stmt) : Prop where
  ex : ∃ (f : Addr) (fd : FuncData), Meth K C x f ∧ Fun K x q st f fd
structure MT (K : PySem.W.Frag) (C : Addr) (x q : Str) (st : Stmt) (c : Addr) : Prop where
  ex : ∃ (f : Addr) (fd : FuncData), Meth K C x f ∧ Fun K x q st f fd ∧ fd.code = .ref c
section
variable {K : PySem.W.Frag} {x q : Str} {st : Stmt} {f c C : Addr} {oc : Value} {od an : Option Addr} {osl : Array (Option Value)} {kV doc pm cdv ct : Value}
theorem FF.of (a : PySem.W.nsIn K mainGlobals x = some (some (.ref f))) (l : K.lookup f = some ⟨oc, od, .func (PySem.W.fnOf x x (defArgs st) (defBody st) (defScope st) .none kV doc pm an cdv ct), osl⟩) (cd : PySem.W.codeIn K cdv x = true) (k : PySem.W.keepIn K (.ref f) = true) : FF K x st :=
  ⟨f, _, a, fun_mk l cd k⟩
theorem FT.of (a : PySem.W.nsIn K mainGlobals x = some (some (.ref f))) (l : K.lookup f = some ⟨oc, od, .func (PySem.W.fnOf x x (defArgs st) (defBody st) (defScope st) .none kV doc pm an (.ref c) ct), osl⟩) (cd : PySem.W.codeIn K (.ref c) x = true) (k : PySem.W.keepIn K (.ref f) = true) : FT K x st c :=
  ⟨f, _, a, fun_mk l cd k, rfl⟩
theorem MF.of (a : PySem.W.findIn K (.ref C) x = some (some (.ref f))) (i : PySem.W.isFn K (.ref f) = true) (l : K.lookup f = some ⟨oc, od, .func (PySem.W.fnOf x q (defArgs st) (defBody st) (defScope st) .none kV doc pm an cdv ct), osl⟩) (cd : PySem.W.codeIn K cdv q = true) (k : PySem.W.keepIn K (.ref f) = true) : MF K C x q st :=
  ⟨f, _, ⟨a, i, k⟩, fun_mk l cd k⟩
theorem MT.of (a : PySem.W.findIn K (.ref C) x = some (some (.ref f))) (i : PySem.W.isFn K (.ref f) = true) (l : K.lookup f = some ⟨oc, od, .func (PySem.W.fnOf x q (defArgs st) (defBody st) (defScope st) .none kV doc pm an (.ref c) ct), osl⟩) (cd : PySem.W.codeIn K (.ref c) q = true) (k : PySem.W.keepIn K (.ref f) = true) : MT K C x q st c :=
  ⟨f, _, ⟨a, i, k⟩, fun_mk l cd k, rfl⟩
variable {h base : Heap} {mg : Str → Option Value} {ps : List Str} {T : Addr}
theorem FF.df (F : FF K x st) (X : K.In h) (G : h.Ns mainGlobals mg) (hb : ∀ (kV doc pm : Value) (an : Option Addr) (cdv ct : Value) (us : List Value), us.length = ps.length → bindArgs (PySem.W.fnOf x x (defArgs st) (defBody st) (defScope st) .none kV doc pm an cdv ct) ⟨us, []⟩ = pure (ps.zip us)) : Df K mg x st ps :=
  let ⟨f, fd, a, F⟩ := F.ex; ⟨f, fd, F, PySem.W.mg_of X G a, F.binds hb⟩
theorem FT.df (F : FT K x st c) (X : K.In h) (G : h.Ns mainGlobals mg) (TB : TabB base mg c T) (hb : ∀ (kV doc pm : Value) (an : Option Addr) (cdv ct : Value) (us : List Value), us.length = ps.length → bindArgs (PySem.W.fnOf x x (defArgs st) (defBody st) (defScope st) .none kV doc pm an cdv ct) ⟨us, []⟩ = pure (ps.zip us)) : DfT K mg base x st ps T :=
  let ⟨f, fd, a, F, e⟩ := F.ex; ⟨f, fd, c, F, PySem.W.mg_of X G a, F.binds hb, e, TB⟩
theorem MF.md (F : MF K C x q st) (hb : ∀ (kV doc pm : Value) (an : Option Addr) (cdv ct : Value) (us : List Value), us.length = ps.length → bindArgs (PySem.W.fnOf x q (defArgs st) (defBody st) (defScope st) .none kV doc pm an cdv ct) ⟨us, []⟩ = pure (ps.zip us)) : Md K C x q st ps :=
  let ⟨f, fd, a, F⟩ := F.ex; ⟨f, fd, F, a, F.binds hb⟩
theorem MT.md (F : MT K C x q st c) (TB : TabB base mg c T) (hb : ∀ (kV doc pm : Value) (an : Option Addr) (cdv ct : Value) (us : List Value), us.length = ps.length → bindArgs (PySem.W.fnOf x q (defArgs st) (defBody st) (defScope st) .none kV doc pm an cdv ct) ⟨us, []⟩ = pure (ps.zip us)) : MdT K mg base C x q st ps T :=
  let ⟨f, fd, a, F, e⟩ := F.ex; ⟨f, fd, c, F, a, F.binds hb, e, TB⟩
end
theorem end_mk {l : PySem.W.OpenLaw} {w : World} {K : PySem.W.Frag} {h : Heap} {mg : Str → Option Value} {fa CW CS CH LL : Addr} {les : Array DictEntry} {ln : Nat} {t0 t1 t2 t3 t4 t5 t6 t7 u0 u1 u2 : Tok} {cn cs ce cr co cd cc pn ps pe pr po pd pc : Addr} (X : K.In h) (G : h.Ns mainGlobals mg) (hfa : mg "law" = some (.ref fa))
    (aW : PySem.W.nsIn K mainGlobals "Waiting" = some (some (.ref CW)))
    (aS : PySem.W.nsIn K mainGlobals "Site" = some (some (.ref CS)))
    (aH : PySem.W.nsIn K mainGlobals "Hand" = some (some (.ref CH)))
    (pgW : PySem.W.plainGet K CW Str.empty = true)
    (hdW : PySem.W.hasDictIn K CW = true)
    (poW : PySem.W.plainOver K CW = true)
    (saW : PySem.W.findIn K (.ref CW) "__setattr__" = some (some (.builtin "object.__setattr__")))
    (mkW : PySem.W.makesIn K CW = true)
    (kcW : PySem.W.keepIn K (.ref CW) = true)
    (pgS : PySem.W.plainGet K CS Str.empty = true)
    (hdS : PySem.W.hasDictIn K CS = true)
    (poS : PySem.W.plainOver K CS = true)
    (saS : PySem.W.findIn K (.ref CS) "__setattr__" = some (some (.builtin "object.__setattr__")))
    (mkS : PySem.W.makesIn K CS = true)
    (kcS : PySem.W.keepIn K (.ref CS) = true)
    (pgH : PySem.W.plainGet K CH Str.empty = true)
    (hdH : PySem.W.hasDictIn K CH = true)
    (poH : PySem.W.plainOver K CH = true)
    (saH : PySem.W.findIn K (.ref CH) "__setattr__" = some (some (.builtin "object.__setattr__")))
    (mkH : PySem.W.makesIn K CH = true)
    (kcH : PySem.W.keepIn K (.ref CH) = true)
    (nS_name : PySem.W.findIn K (.ref CS) "name" = some none)
    (nS_known : PySem.W.findIn K (.ref CS) "known" = some none)
    (nS_undone : PySem.W.findIn K (.ref CS) "undone" = some none)
    (nS_cuts : PySem.W.findIn K (.ref CS) "cuts" = some none)
    (nS_order : PySem.W.findIn K (.ref CS) "order" = some none)
    (nS_counts : PySem.W.findIn K (.ref CS) "counts" = some none)
    (nS_clock : PySem.W.findIn K (.ref CS) "clock" = some none)
    (nS_waits : PySem.W.findIn K (.ref CS) "waits" = some none)
    (nH_site : PySem.W.findIn K (.ref CH) "site" = some none)
    (nH_edits : PySem.W.findIn K (.ref CH) "edits" = some none)
    (nH_back : PySem.W.findIn K (.ref CH) "back" = some none)
    (nH_floor : PySem.W.findIn K (.ref CH) "floor" = some none)
    (nW_rows : PySem.W.findIn K (.ref CW) "rows" = some none)
    (b_isi : PySem.W.nsIn K mainGlobals "isinstance" = some none)
    (b_int_ : PySem.W.nsIn K mainGlobals "int" = some none)
    (b_bool_ : PySem.W.nsIn K mainGlobals "bool" = some none)
    (b_str_ : PySem.W.nsIn K mainGlobals "str" = some none)
    (b_tuple_ : PySem.W.nsIn K mainGlobals "tuple" = some none)
    (b_list_ : PySem.W.nsIn K mainGlobals "list" = some none)
    (b_dict_ : PySem.W.nsIn K mainGlobals "dict" = some none)
    (b_len_ : PySem.W.nsIn K mainGlobals "len" = some none)
    (b_all_ : PySem.W.nsIn K mainGlobals "all" = some none)
    (b_any_ : PySem.W.nsIn K mainGlobals "any" = some none)
    (b_range_ : PySem.W.nsIn K mainGlobals "range" = some none)
    (b_sum_ : PySem.W.nsIn K mainGlobals "sum" = some none)
    (b_sorted_ : PySem.W.nsIn K mainGlobals "sorted" = some none)
    (b_max_ : PySem.W.nsIn K mainGlobals "max" = some none)
    (b_min_ : PySem.W.nsIn K mainGlobals "min" = some none)
    (b_abs_ : PySem.W.nsIn K mainGlobals "abs" = some none)
    (b_rev_ : PySem.W.nsIn K mainGlobals "reversed" = some none)
    (b_mSigns : PySem.W.nsIn K mainGlobals "MOST_SIGNS" = some (some (.int 2000 t0)))
    (b_mEdits : PySem.W.nsIn K mainGlobals "MOST_EDITS" = some (some (.int 200 t1)))
    (b_first : PySem.W.nsIn K mainGlobals "FIRST_SIGN" = some (some (.str " " t2)))
    (b_last : PySem.W.nsIn K mainGlobals "LAST_SIGN" = some (some (.str "~" t3)))
    (b_lend : PySem.W.nsIn K mainGlobals "LINE_END" = some (some (.str "\n" t4)))
    (b_mCount : PySem.W.nsIn K mainGlobals "MOST_COUNT" = some (some (.int 1000000 t5)))
    (b_mOps : PySem.W.nsIn K mainGlobals "MOST_OPERATIONS" = some (some (.int 6000 t6)))
    (b_mCome : PySem.W.nsIn K mainGlobals "MOST_COME" = some (some (.int 2000 t7)))
    (aL : PySem.W.nsIn K mainGlobals "LENGTHS" = some (some (.ref LL)))
    (lL : K.lookup LL = some ⟨.type "dict", none, .dict les ln, #[]⟩)
    (l_put : PySem.W.nsIn K LL "put" = some (some (.int 5 u0)))
    (l_cut : PySem.W.nsIn K LL "cut" = some (some (.int 4 u1)))
    (l_undo : PySem.W.nsIn K LL "undo" = some (some (.int 4 u2)))
    (fNum : FF K "is_number" (top 9))
    (fName : FT K "is_name" (top 10) cn)
    (fSigns : FT K "is_signs" (top 17) cs)
    (fText : FF K "is_text" (top 18))
    (fChange : FF K "is_change" (top 19))
    (fPutIn : FF K "put_in" (top 20))
    (fAreEdits : FT K "are_edits" (top 21) ce)
    (fCheck : FF K "check_edits" (top 22))
    (fApplied : FF K "all_applied" (top 23))
    (fInTurn : FF K "in_turn" (top 24))
    (fIsId : FF K "is_id" (top 28))
    (fIsSign : FF K "is_sign" (top 29))
    (fIsAhead : FF K "is_ahead" (top 30))
    (fIsOp : FF K "is_operation" (top 31))
    (fHasSeen : FF K "has_seen" (top 32))
    (fNeeds : FF K "needs_of" (top 33))
    (fReady : FT K "is_ready" (top 35) cr)
    (fSiteEdit : FF K "is_site_edit" (top 40))
    (fLDraws : FF K "_law_draws" (top 45))
    (fLTake : FF K "_law_take" (top 46))
    (fLOff : FF K "_law_off" (top 47))
    (fLOrder : FF K "_law_order" (top 48))
    (fLShowing : FF K "_law_showing" (top 49))
    (fLText : FF K "_law_text" (top 50))
    (fLEdit : FF K "_law_edit" (top 51))
    (fLPut : FF K "_law_put_in" (top 52))
    (fLLong : FF K "_law_long" (top 53))
    (fLEdits : FF K "_law_edits" (top 54))
    (fLHeard : FF K "_law_heard" (top 55))
    (fLaw : FF K "law" (top 56))
    (mWInit : MF K CW "__init__" "Waiting.__init__" (sWt 0))
    (mWPut : MF K CW "put" "Waiting.put" (sWt 1))
    (mWMany : MF K CW "many" "Waiting.many" (sWt 2))
    (mWNext : MF K CW "next_ready" "Waiting.next_ready" (sWt 3))
    (mWForget : MF K CW "forget" "Waiting.forget" (sWt 4))
    (mSInit : MF K CS "__init__" "Site.__init__" (sSt 0))
    (mSSeen : MF K CS "seen" "Site.seen" (sSt 1))
    (mSWaiting : MF K CS "waiting" "Site.waiting" (sSt 2))
    (mSOff : MT K CS "off" "Site.off" (sSt 3) co)
    (mSShow : MT K CS "does_show" "Site.does_show" (sSt 4) cd)
    (mSShowing : MF K CS "showing" "Site.showing" (sSt 5))
    (mSText : MF K CS "text" "Site.text" (sSt 6))
    (mSPlace : MF K CS "place_behind" "Site.place_behind" (sSt 7))
    (mSCarry : MF K CS "carry_out" "Site.carry_out" (sSt 8))
    (mSNext : MF K CS "next_id" "Site.next_id" (sSt 9))
    (mSMake : MF K CS "make" "Site.make" (sSt 10))
    (mSRoom : MF K CS "check_room" "Site.check_room" (sSt 11))
    (mSCheckNew : MF K CS "check_new" "Site.check_new" (sSt 12))
    (mSEdit : MF K CS "edit" "Site.edit" (sSt 13))
    (mSUndo : MF K CS "undo" "Site.undo" (sSt 14))
    (mSTake : MF K CS "take" "Site.take" (sSt 15))
    (mHInit : MF K CH "__init__" "Hand.__init__" (sHd 0))
    (mHDo : MF K CH "do" "Hand.do" (sHd 2))
    (mHHist : MF K CH "history" "Hand.history" (sHd 3))
    (mHCan : MT K CH "can_turn" "Hand.can_turn" (sHd 4) cc)
    (mHTurn : MF K CH "turn" "Hand.turn" (sHd 5))
    (t_n : h.get? pn = some { cls := .none, data := .fields #[] })
    (k_n : K.lookup pn = none)
    (q_n : PySem.W.codeHdIn K cn pn = true)
    (t_s : h.get? ps = some { cls := .none, data := .fields #[] })
    (k_s : K.lookup ps = none)
    (q_s : PySem.W.codeHdIn K cs ps = true)
    (t_e : h.get? pe = some { cls := .none, data := .fields #[] })
    (k_e : K.lookup pe = none)
    (q_e : PySem.W.codeHdIn K ce pe = true)
    (t_r : h.get? pr = some { cls := .none, data := .fields #[] })
    (k_r : K.lookup pr = none)
    (q_r : PySem.W.codeHdIn K cr pr = true)
    (t_o : h.get? po = some { cls := .none, data := .fields #[] })
    (k_o : K.lookup po = none)
    (q_o : PySem.W.codeHdIn K co po = true)
    (t_d : h.get? pd = some { cls := .none, data := .fields #[] })
    (k_d : K.lookup pd = none)
    (q_d : PySem.W.codeHdIn K cd pd = true)
    (t_c : h.get? pc = some { cls := .none, data := .fields #[] })
    (k_c : K.lookup pc = none)
    (q_c : PySem.W.codeHdIn K cc pc = true)
    (lk : PySem.W.KeysLit w.params les.toList) (sL : (LL == sysModules) = false) :
    LamX.LawAtS l w K CX0 8 63 "script" mg fa h := by
  obtain ⟨fl, fd, aLaw, Flaw⟩ := fLaw.ex
  have e := hfa.symm.trans (PySem.W.mg_of X G aLaw)
  cases e
  have bl := Flaw.binds (ps := ["script"]) (fun _ _ _ _ _ _ us hl => match us, hl with | [_], _ => rfl)
  have all7 : ∀ {Q : Addr × Addr → Prop}, Q (cn, pn) ∧ Q (cs, ps) ∧ Q (ce, pe) ∧ Q (cr, pr) ∧ Q (co, po) ∧ Q (cd, pd) ∧ Q (cc, pc) → ∀ p ∈ ([(cn, pn), (cs, ps), (ce, pe), (cr, pr), (co, po), (cd, pd), (cc, pc)] : List (Addr × Addr)), Q p := fun {Q} hq p hp => by
    simp only [List.mem_cons, List.not_mem_nil, or_false] at hp
    obtain ⟨h1, h2, h3, h4, h5, h6, h7⟩ := hq
    rcases hp with rfl | rfl | rfl | rfl | rfl | rfl | rfl <;> assumption
  refine ⟨fd, [(cn, pn), (cs, ps), (ce, pe), (cr, pr), (co, po), (cd, pd), (cc, pc)], spLaw K ⟨pn, ps, pe, pr, po, pd, pc⟩, all7 (Q := fun p => h.get? p.2 = some { cls := .none, data := .fields #[] }) ⟨t_n, t_s, t_e, t_r, t_o, t_d, t_c⟩, all7 (Q := fun p => K.lookup p.2 = none) ⟨k_n, k_s, k_e, k_r, k_o, k_d, k_c⟩, all7 (Q := fun p => PySem.W.CodeHd h p.1 p.2) ⟨PySem.W.codeHd_of_K X q_n, PySem.W.codeHd_of_K X q_s, PySem.W.codeHd_of_K X q_e, PySem.W.codeHd_of_K X q_r, PySem.W.codeHd_of_K X q_o, PySem.W.codeHd_of_K X q_d, PySem.W.codeHd_of_K X q_c⟩, fun s u => ?_, fun H a ns hl _ hT hS => ⟨a, ns, rfl, hS, hl, ?_, fun _ => rfl⟩, fun base Xb Gb hTB => ?_⟩
  · obtain ⟨oc, od, kV, doc, pm, an, cdv, ct, osl, rfl, _⟩ := Flaw.ex
    exact .of_eq rfl
  · have tg : ∀ p ∈ ([(cn, pn), (cs, ps), (ce, pe), (cr, pr), (co, po), (cd, pd), (cc, pc)] : List (Addr × Addr)), TabG H p.2 := fun p hp => ⟨#[], hT p hp, trivial⟩
    exact ⟨tg (cn, pn) (by simp), tg (cs, ps) (by simp), tg (ce, pe) (by simp), tg (cr, pr) (by simp), tg (co, po) (by simp), tg (cd, pd) (by simp), tg (cc, pc) (by simp)⟩
  have tb : ∀ p ∈ ([(cn, pn), (cs, ps), (ce, pe), (cr, pr), (co, po), (cd, pd), (cc, pc)] : List (Addr × Addr)), TabB base mg p.1 p.2 := fun p hp => ⟨(hTB p hp).code, (hTB p hp).bm, (hTB p hp).gP⟩
  have T : Bi mg := ⟨PySem.W.mg_none_of X G b_isi, PySem.W.mg_none_of X G b_int_, PySem.W.mg_none_of X G b_bool_, PySem.W.mg_none_of X G b_str_, PySem.W.mg_none_of X G b_tuple_, PySem.W.mg_none_of X G b_list_, PySem.W.mg_none_of X G b_dict_, PySem.W.mg_none_of X G b_len_, PySem.W.mg_none_of X G b_all_, PySem.W.mg_none_of X G b_any_, PySem.W.mg_none_of X G b_range_, PySem.W.mg_none_of X G b_sum_, PySem.W.mg_none_of X G b_sorted_, PySem.W.mg_none_of X G b_max_, PySem.W.mg_none_of X G b_min_, PySem.W.mg_none_of X G b_abs_, PySem.W.mg_none_of X G b_rev_, ⟨_, PySem.W.mg_of X G b_mSigns⟩, ⟨_, PySem.W.mg_of X G b_mEdits⟩, ⟨_, PySem.W.mg_of X G b_first⟩, ⟨_, PySem.W.mg_of X G b_last⟩, ⟨_, PySem.W.mg_of X G b_lend⟩, ⟨_, PySem.W.mg_of X G b_mCount⟩, ⟨_, PySem.W.mg_of X G b_mOps⟩, ⟨_, PySem.W.mg_of X G b_mCome⟩⟩
  have LN : Ln K w mg := ⟨LL, PySem.W.mg_of X G aL, sL, ⟨les, ln, _, lL, lk, l_put, ⟨_, rfl⟩⟩, ⟨les, ln, _, lL, lk, l_cut, ⟨_, rfl⟩⟩, ⟨les, ln, _, lL, lk, l_undo, ⟨_, rfl⟩⟩⟩
  have LW : Kl K mg CW "Waiting" ["rows"] := ⟨⟨pgW, hdW, poW, saW⟩, fun f hf => by rw [List.mem_singleton.mp hf]; exact nW_rows, PySem.W.mg_of X G aW⟩
  have LS : KSite K mg CS := ⟨⟨pgS, hdS, poS, saS⟩, nS_name, nS_known, nS_undone, nS_cuts, nS_order, nS_counts, nS_clock, nS_waits, PySem.W.mg_of X G aS⟩
  have LH : KHand K mg CH := ⟨⟨pgH, hdH, poH, saH⟩, nH_site, nH_edits, nH_back, nH_floor, PySem.W.mg_of X G aH⟩
  have cW : Cr K CW := ⟨mkW, kcW⟩
  have cS : Cr K CS := ⟨mkS, kcS⟩
  have cH : Cr K CH := ⟨mkH, kcH⟩
  have dNum := fNum.df (ps := ["value", "least", "most"]) X G (fun _ _ _ _ _ _ us hl => match us, hl with | [_, _, _], _ => rfl)
  have dName := fName.df (base := base) (T := pn) (ps := ["value"]) X G (tb (cn, pn) (by simp)) (fun _ _ _ _ _ _ us hl => match us, hl with | [_], _ => rfl)
  have dSigns := fSigns.df (base := base) (T := ps) (ps := ["value"]) X G (tb (cs, ps) (by simp)) (fun _ _ _ _ _ _ us hl => match us, hl with | [_], _ => rfl)
  have dText := fText.df (ps := ["value"]) X G (fun _ _ _ _ _ _ us hl => match us, hl with | [_], _ => rfl)
  have dChange := fChange.df (ps := ["text", "value"]) X G (fun _ _ _ _ _ _ us hl => match us, hl with | [_, _], _ => rfl)
  have dPutIn := fPutIn.df (ps := ["text", "edit"]) X G (fun _ _ _ _ _ _ us hl => match us, hl with | [_, _], _ => rfl)
  have dAreEdits := fAreEdits.df (base := base) (T := pe) (ps := ["text", "value"]) X G (tb (ce, pe) (by simp)) (fun _ _ _ _ _ _ us hl => match us, hl with | [_, _], _ => rfl)
  have dCheck := fCheck.df (ps := ["text", "edits"]) X G (fun _ _ _ _ _ _ us hl => match us, hl with | [_, _], _ => rfl)
  have dApplied := fApplied.df (ps := ["text", "edits"]) X G (fun _ _ _ _ _ _ us hl => match us, hl with | [_, _], _ => rfl)
  have dInTurn := fInTurn.df (ps := ["text", "edits"]) X G (fun _ _ _ _ _ _ us hl => match us, hl with | [_, _], _ => rfl)
  have dIsId := fIsId.df (ps := ["value"]) X G (fun _ _ _ _ _ _ us hl => match us, hl with | [_], _ => rfl)
  have dIsSign := fIsSign.df (ps := ["value"]) X G (fun _ _ _ _ _ _ us hl => match us, hl with | [_], _ => rfl)
  have dIsAhead := fIsAhead.df (ps := ["value", "own"]) X G (fun _ _ _ _ _ _ us hl => match us, hl with | [_, _], _ => rfl)
  have dIsOp := fIsOp.df (ps := ["value"]) X G (fun _ _ _ _ _ _ us hl => match us, hl with | [_], _ => rfl)
  have dHasSeen := fHasSeen.df (ps := ["seen", "own"]) X G (fun _ _ _ _ _ _ us hl => match us, hl with | [_, _], _ => rfl)
  have dNeeds := fNeeds.df (ps := ["operation"]) X G (fun _ _ _ _ _ _ us hl => match us, hl with | [_], _ => rfl)
  have dReady := fReady.df (base := base) (T := pr) (ps := ["seen", "operation"]) X G (tb (cr, pr) (by simp)) (fun _ _ _ _ _ _ us hl => match us, hl with | [_, _], _ => rfl)
  have dSiteEdit := fSiteEdit.df (ps := ["text", "value"]) X G (fun _ _ _ _ _ _ us hl => match us, hl with | [_, _], _ => rfl)
  have dLDraws := fLDraws.df (ps := ["script"]) X G (fun _ _ _ _ _ _ us hl => match us, hl with | [_], _ => rfl)
  have dLTake := fLTake.df (ps := ["draws", "limit"]) X G (fun _ _ _ _ _ _ us hl => match us, hl with | [_, _], _ => rfl)
  have dLOff := fLOff.df (ps := ["operations"]) X G (fun _ _ _ _ _ _ us hl => match us, hl with | [_], _ => rfl)
  have dLOrder := fLOrder.df (ps := ["operations"]) X G (fun _ _ _ _ _ _ us hl => match us, hl with | [_], _ => rfl)
  have dLShowing := fLShowing.df (ps := ["operations"]) X G (fun _ _ _ _ _ _ us hl => match us, hl with | [_], _ => rfl)
  have dLText := fLText.df (ps := ["operations"]) X G (fun _ _ _ _ _ _ us hl => match us, hl with | [_], _ => rfl)
  have dLEdit := fLEdit.df (ps := ["draws", "long"]) X G (fun _ _ _ _ _ _ us hl => match us, hl with | [_, _], _ => rfl)
  have dLPut := fLPut.df (ps := ["text", "edit"]) X G (fun _ _ _ _ _ _ us hl => match us, hl with | [_, _], _ => rfl)
  have dLLong := fLLong.df (ps := ["draws"]) X G (fun _ _ _ _ _ _ us hl => match us, hl with | [_], _ => rfl)
  have dLEdits := fLEdits.df (ps := ["draws", "text"]) X G (fun _ _ _ _ _ _ us hl => match us, hl with | [_, _], _ => rfl)
  have dLHeard := fLHeard.df (ps := ["draws", "hands", "operations"]) X G (fun _ _ _ _ _ _ us hl => match us, hl with | [_, _, _], _ => rfl)
  have dWInit := mWInit.md (ps := ["self"]) (fun _ _ _ _ _ _ us hl => match us, hl with | [_], _ => rfl)
  have dWPut := mWPut.md (ps := ["self", "operation"]) (fun _ _ _ _ _ _ us hl => match us, hl with | [_, _], _ => rfl)
  have dWMany := mWMany.md (ps := ["self"]) (fun _ _ _ _ _ _ us hl => match us, hl with | [_], _ => rfl)
  have dWNext := mWNext.md (ps := ["self", "seen"]) (fun _ _ _ _ _ _ us hl => match us, hl with | [_, _], _ => rfl)
  have dWForget := mWForget.md (ps := ["self", "seen"]) (fun _ _ _ _ _ _ us hl => match us, hl with | [_, _], _ => rfl)
  have dSInit := mSInit.md (ps := ["self", "name"]) (fun _ _ _ _ _ _ us hl => match us, hl with | [_, _], _ => rfl)
  have dSSeen := mSSeen.md (ps := ["self"]) (fun _ _ _ _ _ _ us hl => match us, hl with | [_], _ => rfl)
  have dSWaiting := mSWaiting.md (ps := ["self"]) (fun _ _ _ _ _ _ us hl => match us, hl with | [_], _ => rfl)
  have dSOff := mSOff.md (base := base) (mg := mg) (T := po) (ps := ["self"]) (tb (co, po) (by simp)) (fun _ _ _ _ _ _ us hl => match us, hl with | [_], _ => rfl)
  have dSShow := mSShow.md (base := base) (mg := mg) (T := pd) (ps := ["self", "off", "own"]) (tb (cd, pd) (by simp)) (fun _ _ _ _ _ _ us hl => match us, hl with | [_, _, _], _ => rfl)
  have dSShowing := mSShowing.md (ps := ["self"]) (fun _ _ _ _ _ _ us hl => match us, hl with | [_], _ => rfl)
  have dSText := mSText.md (ps := ["self"]) (fun _ _ _ _ _ _ us hl => match us, hl with | [_], _ => rfl)
  have dSPlace := mSPlace.md (ps := ["self", "operation"]) (fun _ _ _ _ _ _ us hl => match us, hl with | [_, _], _ => rfl)
  have dSCarry := mSCarry.md (ps := ["self", "operation"]) (fun _ _ _ _ _ _ us hl => match us, hl with | [_, _], _ => rfl)
  have dSNext := mSNext.md (ps := ["self"]) (fun _ _ _ _ _ _ us hl => match us, hl with | [_], _ => rfl)
  have dSMake := mSMake.md (ps := ["self", "kind", "rest"]) (fun _ _ _ _ _ _ us hl => match us, hl with | [_, _, _], _ => rfl)
  have dSRoom := mSRoom.md (ps := ["self", "many"]) (fun _ _ _ _ _ _ us hl => match us, hl with | [_, _], _ => rfl)
  have dSCheckNew := mSCheckNew.md (ps := ["self", "operations"]) (fun _ _ _ _ _ _ us hl => match us, hl with | [_, _], _ => rfl)
  have dSEdit := mSEdit.md (ps := ["self", "edit"]) (fun _ _ _ _ _ _ us hl => match us, hl with | [_, _], _ => rfl)
  have dSUndo := mSUndo.md (ps := ["self", "own"]) (fun _ _ _ _ _ _ us hl => match us, hl with | [_, _], _ => rfl)
  have dSTake := mSTake.md (ps := ["self", "operation"]) (fun _ _ _ _ _ _ us hl => match us, hl with | [_, _], _ => rfl)
  have dHInit := mHInit.md (ps := ["self", "name"]) (fun _ _ _ _ _ _ us hl => match us, hl with | [_, _], _ => rfl)
  have dHDo := mHDo.md (ps := ["self", "edit"]) (fun _ _ _ _ _ _ us hl => match us, hl with | [_, _], _ => rfl)
  have dHHist := mHHist.md (ps := ["self"]) (fun _ _ _ _ _ _ us hl => match us, hl with | [_], _ => rfl)
  have dHCan := mHCan.md (base := base) (mg := mg) (T := pc) (ps := ["self", "number"]) (tb (cc, pc) (by simp)) (fun _ _ _ _ _ _ us hl => match us, hl with | [_, _], _ => rfl)
  have dHTurn := mHTurn.md (ps := ["self", "number"]) (fun _ _ _ _ _ _ us hl => match us, hl with | [_, _], _ => rfl)
  have kNum := ok_num (P := l.prog) (w := w) (base := base) dNum T
  have kName := ok_name (P := l.prog) (w := w) (base := base) (t := ⟨pn, ps, pe, pr, po, pd, pc⟩) dName T
  have kSigns := ok_signs (P := l.prog) (w := w) (base := base) (t := ⟨pn, ps, pe, pr, po, pd, pc⟩) dSigns T
  have kText := ok_text (P := l.prog) (w := w) (base := base) (t := ⟨pn, ps, pe, pr, po, pd, pc⟩) dText T kSigns
  have kChange := ok_change (P := l.prog) (w := w) (base := base) dChange T kText kNum
  have kPutIn := ok_putIn (P := l.prog) (w := w) (base := base) dPutIn
  have kAre := ok_areEdits (P := l.prog) (w := w) (base := base) (t := ⟨pn, ps, pe, pr, po, pd, pc⟩) dAreEdits T kChange
  have kCheck := ok_check (P := l.prog) (w := w) (base := base) dCheck kAre
  have kApplied := ok_applied (P := l.prog) (w := w) (base := base) dApplied kCheck kPutIn
  have kInTurn := ok_inTurn (P := l.prog) (w := w) (base := base) dInTurn T kCheck
  have kIsId := ok_isId (P := l.prog) (w := w) (base := base) dIsId T kName kNum
  have kIsSign := ok_isSign (P := l.prog) (w := w) (base := base) dIsSign T
  have kIsAhead := ok_isAhead (P := l.prog) (w := w) (base := base) dIsAhead kIsId
  have kIsOp := ok_isOp (P := l.prog) (w := w) (base := base) dIsOp T LN kIsId kNum kIsSign kIsAhead
  have kHasSeen := ok_hasSeen (P := l.prog) (w := w) (base := base) dHasSeen T
  have kNeeds := ok_needs (P := l.prog) (w := w) (base := base) dNeeds
  have kReady := ok_ready (P := l.prog) (w := w) (base := base) (t := ⟨pn, ps, pe, pr, po, pd, pc⟩) dReady T kHasSeen kNeeds
  have kSiteEdit := ok_siteEdit (P := l.prog) (w := w) (base := base) dSiteEdit T kSigns kNum
  have kWInit := ok_wtInit (P := l.prog) (w := w) (base := base) dWInit LW
  have kWPut := ok_wtPut (P := l.prog) (w := w) (base := base) dWPut LW
  have kWMany := ok_wtMany (P := l.prog) (w := w) (base := base) dWMany LW T
  have kWNext := ok_wtNext (P := l.prog) (w := w) (base := base) dWNext LW T kReady
  have kWForget := ok_wtForget (P := l.prog) (w := w) (base := base) dWForget LW kHasSeen
  have kSInit := ok_siteInit (P := l.prog) (w := w) (base := base) dSInit LS LW cW kName kWInit
  have kSSeen := ok_seen (P := l.prog) (w := w) (base := base) (W := CW) dSSeen LS T
  have kSWaiting := ok_waiting (P := l.prog) (w := w) (base := base) dSWaiting LS kWMany
  have kSOff := ok_off (P := l.prog) (w := w) (base := base) (t := ⟨pn, ps, pe, pr, po, pd, pc⟩) (W := CW) dSOff LS T
  have kSShow := ok_doesShow (P := l.prog) (w := w) (base := base) (t := ⟨pn, ps, pe, pr, po, pd, pc⟩) (W := CW) dSShow LS T
  have kSShowing := ok_showing (P := l.prog) (w := w) (base := base) dSShowing LS kSOff kSShow
  have kSText := ok_textS (P := l.prog) (w := w) (base := base) dSText LS kSShowing
  have kSPlace := ok_place (P := l.prog) (w := w) (base := base) (W := CW) dSPlace LS T
  have kSCarry := ok_carry (P := l.prog) (w := w) (base := base) dSCarry LS T kSPlace
  have kSNext := ok_nextId (P := l.prog) (w := w) (base := base) (W := CW) dSNext LS
  have kSMake := ok_make (P := l.prog) (w := w) (base := base) dSMake LS kSNext kSCarry
  have kSRoom := ok_room (P := l.prog) (w := w) (base := base) dSRoom LS T kWMany
  have kSCheckNew := ok_checkNew (P := l.prog) (w := w) (base := base) dSCheckNew LS LW T kSSeen kSRoom kHasSeen
  have kSEdit := ok_editS (P := l.prog) (w := w) (base := base) dSEdit LS T kSShowing kSRoom kSMake kSiteEdit
  have kSUndo := ok_undoS (P := l.prog) (w := w) (base := base) dSUndo LS kSRoom kSMake
  have kSTake := ok_take (P := l.prog) (w := w) (base := base) dSTake LS T kIsOp kHasSeen kReady kSSeen kSCheckNew kSCarry kWPut kWNext kWForget
  have kHInit := ok_handInit (P := l.prog) (w := w) (base := base) dHInit LH LS cS kSInit
  have kHDo := ok_do (P := l.prog) (w := w) (base := base) dHDo LH T kSEdit
  have kHHist := ok_hist (P := l.prog) (w := w) (base := base) (CS := CS) (CW := CW) dHHist LH T
  have kHCan := ok_canTurn (P := l.prog) (w := w) (base := base) (t := ⟨pn, ps, pe, pr, po, pd, pc⟩) (CS := CS) (CW := CW) dHCan LH T kHasSeen
  have kHTurn := ok_turn (P := l.prog) (w := w) (base := base) dHTurn LH T kNum kHCan kSRoom kSUndo
  have kLDraws := ok_lDraws (P := l.prog) (w := w) (base := base) dLDraws T
  have kLTake := ok_lTake (P := l.prog) (w := w) (base := base) dLTake T
  have kLOff := ok_lOff (P := l.prog) (w := w) (base := base) dLOff T
  have kLOrder := ok_lOrder (P := l.prog) (w := w) (base := base) dLOrder T
  have kLShowing := ok_lShowing (P := l.prog) (w := w) (base := base) dLShowing T kLOff kLOrder
  have kLText := ok_lText (P := l.prog) (w := w) (base := base) dLText T kLShowing
  have kLEdit := ok_lEdit (P := l.prog) (w := w) (base := base) dLEdit T kLTake
  have kLPut := ok_lPut (P := l.prog) (w := w) (base := base) dLPut
  have kLLong := ok_lLong (P := l.prog) (w := w) (base := base) dLLong T
  have kLEdits := ok_lEdits (P := l.prog) (w := w) (base := base) dLEdits T kLTake
  have kLHeard := ok_heard (P := l.prog) (w := w) (base := base) dLHeard LH LS T kLTake kSTake
  exact ok_law Flaw ⟨T, LH, LS, cH, kLTake, kLDraws, kLLong, kLPut, kLEdit, kLEdits, kLText, kLHeard, kAre, kApplied, kInTurn, kHInit, kHDo, kHHist, kHTurn, kSText, kSWaiting⟩
end K80
namespace K80
open PySem PySem.W PyProof.Rows
local macro_rules | `(tactic| o_head ($f $k $a $e)) => `(tactic| o_head (PySem.W.kmHook $k $a $e [103, 110, 138, 207, 296, 303, 445]))
set_option maxHeartbeats 0 in
open_top head for PySem.Challenge.rw_editsagree_k80_whole_edits_at_once_by_se
end K80
open PySem PySem.W PyProof.Rows L2
set_option maxRecDepth 100000 in
set_option maxHeartbeats 0 in
theorem PySem.Challenge.cw_editsagree_k80_whole_edits_at_once_by_se_holds : PySem.Challenge.rw_editsagree_k80_whole_edits_at_once_by_se.Holds := by
  refine K80.head ?_
  k_fill
  refine LamX.walk_ofTs (l := PySem.Challenge.rw_editsagree_k80_whole_edits_at_once_by_se) (n := 63) (k := 8) (x := "script") (CX := fun _ => CX0) rfl (by decide) rfl ⟨rfl, by decide, by decide⟩ (fun w h Y => PySem.W.km_in_of Y) ?F (fun _ _ _ _ _ z => z)
  case F =>
    intro w mg fa h Y KX G hmg
    refine' K80.end_mk (l := PySem.Challenge.rw_editsagree_k80_whole_edits_at_once_by_se) (pn := 103) (ps := 110) (pe := 138) (pr := 207) (po := 296) (pd := 303) (pc := 445) KX G hmg ?aW ?aS ?aH ?pgW ?hdW ?poW ?saW ?mkW ?kcW ?pgS ?hdS ?poS ?saS ?mkS ?kcS ?pgH ?hdH ?poH ?saH ?mkH ?kcH ?nS_name ?nS_known ?nS_undone ?nS_cuts ?nS_order ?nS_counts ?nS_clock ?nS_waits ?nH_site ?nH_edits ?nH_back ?nH_floor ?nW_rows ?b_isi ?b_int_ ?b_bool_ ?b_str_ ?b_tuple_ ?b_list_ ?b_dict_ ?b_len_ ?b_all_ ?b_any_ ?b_range_ ?b_sum_ ?b_sorted_ ?b_max_ ?b_min_ ?b_abs_ ?b_rev_ ?b_mSigns ?b_mEdits ?b_first ?b_last ?b_lend ?b_mCount ?b_mOps ?b_mCome ?aL ?lL ?l_put ?l_cut ?l_undo ?fNum ?fName ?fSigns ?fText ?fChange ?fPutIn ?fAreEdits ?fCheck ?fApplied ?fInTurn ?fIsId ?fIsSign ?fIsAhead ?fIsOp ?fHasSeen ?fNeeds ?fReady ?fSiteEdit ?fLDraws ?fLTake ?fLOff ?fLOrder ?fLShowing ?fLText ?fLEdit ?fLPut ?fLLong ?fLEdits ?fLHeard ?fLaw ?mWInit ?mWPut ?mWMany ?mWNext ?mWForget ?mSInit ?mSSeen ?mSWaiting ?mSOff ?mSShow ?mSShowing ?mSText ?mSPlace ?mSCarry ?mSNext ?mSMake ?mSRoom ?mSCheckNew ?mSEdit ?mSUndo ?mSTake ?mHInit ?mHDo ?mHHist ?mHCan ?mHTurn ?t_n ?k_n ?q_n ?t_s ?k_s ?q_s ?t_e ?k_e ?q_e ?t_r ?k_r ?q_r ?t_o ?k_o ?q_o ?t_d ?k_d ?q_d ?t_c ?k_c ?q_c ?lk ?sL
    (case aW => k_is)
    (case aS => k_is)
    (case aH => k_is)
    (case pgW => k_is)
    (case hdW => k_is)
    (case poW => k_is)
    (case saW => k_is)
    (case mkW => k_is)
    (case kcW => k_is)
    (case pgS => k_is)
    (case hdS => k_is)
    (case poS => k_is)
    (case saS => k_is)
    (case mkS => k_is)
    (case kcS => k_is)
    (case pgH => k_is)
    (case hdH => k_is)
    (case poH => k_is)
    (case saH => k_is)
    (case mkH => k_is)
    (case kcH => k_is)
    (case nS_name => k_is)
    (case nS_known => k_is)
    (case nS_undone => k_is)
    (case nS_cuts => k_is)
    (case nS_order => k_is)
    (case nS_counts => k_is)
    (case nS_clock => k_is)
    (case nS_waits => k_is)
    (case nH_site => k_is)
    (case nH_edits => k_is)
    (case nH_back => k_is)
    (case nH_floor => k_is)
    (case nW_rows => k_is)
    (case b_isi => k_is)
    (case b_int_ => k_is)
    (case b_bool_ => k_is)
    (case b_str_ => k_is)
    (case b_tuple_ => k_is)
    (case b_list_ => k_is)
    (case b_dict_ => k_is)
    (case b_len_ => k_is)
    (case b_all_ => k_is)
    (case b_any_ => k_is)
    (case b_range_ => k_is)
    (case b_sum_ => k_is)
    (case b_sorted_ => k_is)
    (case b_max_ => k_is)
    (case b_min_ => k_is)
    (case b_abs_ => k_is)
    (case b_rev_ => k_is)
    (case b_mSigns => k_is)
    (case b_mEdits => k_is)
    (case b_first => k_is)
    (case b_last => k_is)
    (case b_lend => k_is)
    (case b_mCount => k_is)
    (case b_mOps => k_is)
    (case b_mCome => k_is)
    (case aL => k_is)
    (case lL => k_is)
    (case l_put => k_is)
    (case l_cut => k_is)
    (case l_undo => k_is)
    (case fNum => refine' K80.FF.of ?a ?l ?c ?k; (case a => k_is); (case l => k_is); (case c => k_is); (case k => k_is))
    (case fName => refine' K80.FT.of ?a ?l ?c ?k; (case a => k_is); (case l => k_is); (case c => k_is); (case k => k_is))
    (case fSigns => refine' K80.FT.of ?a ?l ?c ?k; (case a => k_is); (case l => k_is); (case c => k_is); (case k => k_is))
    (case fText => refine' K80.FF.of ?a ?l ?c ?k; (case a => k_is); (case l => k_is); (case c => k_is); (case k => k_is))
    (case fChange => refine' K80.FF.of ?a ?l ?c ?k; (case a => k_is); (case l => k_is); (case c => k_is); (case k => k_is))
    (case fPutIn => refine' K80.FF.of ?a ?l ?c ?k; (case a => k_is); (case l => k_is); (case c => k_is); (case k => k_is))
    (case fAreEdits => refine' K80.FT.of ?a ?l ?c ?k; (case a => k_is); (case l => k_is); (case c => k_is); (case k => k_is))
    (case fCheck => refine' K80.FF.of ?a ?l ?c ?k; (case a => k_is); (case l => k_is); (case c => k_is); (case k => k_is))
    (case fApplied => refine' K80.FF.of ?a ?l ?c ?k; (case a => k_is); (case l => k_is); (case c => k_is); (case k => k_is))
    (case fInTurn => refine' K80.FF.of ?a ?l ?c ?k; (case a => k_is); (case l => k_is); (case c => k_is); (case k => k_is))
    (case fIsId => refine' K80.FF.of ?a ?l ?c ?k; (case a => k_is); (case l => k_is); (case c => k_is); (case k => k_is))
    (case fIsSign => refine' K80.FF.of ?a ?l ?c ?k; (case a => k_is); (case l => k_is); (case c => k_is); (case k => k_is))
    (case fIsAhead => refine' K80.FF.of ?a ?l ?c ?k; (case a => k_is); (case l => k_is); (case c => k_is); (case k => k_is))
    (case fIsOp => refine' K80.FF.of ?a ?l ?c ?k; (case a => k_is); (case l => k_is); (case c => k_is); (case k => k_is))
    (case fHasSeen => refine' K80.FF.of ?a ?l ?c ?k; (case a => k_is); (case l => k_is); (case c => k_is); (case k => k_is))
    (case fNeeds => refine' K80.FF.of ?a ?l ?c ?k; (case a => k_is); (case l => k_is); (case c => k_is); (case k => k_is))
    (case fReady => refine' K80.FT.of ?a ?l ?c ?k; (case a => k_is); (case l => k_is); (case c => k_is); (case k => k_is))
    (case fSiteEdit => refine' K80.FF.of ?a ?l ?c ?k; (case a => k_is); (case l => k_is); (case c => k_is); (case k => k_is))
    (case fLDraws => refine' K80.FF.of ?a ?l ?c ?k; (case a => k_is); (case l => k_is); (case c => k_is); (case k => k_is))
    (case fLTake => refine' K80.FF.of ?a ?l ?c ?k; (case a => k_is); (case l => k_is); (case c => k_is); (case k => k_is))
    (case fLOff => refine' K80.FF.of ?a ?l ?c ?k; (case a => k_is); (case l => k_is); (case c => k_is); (case k => k_is))
    (case fLOrder => refine' K80.FF.of ?a ?l ?c ?k; (case a => k_is); (case l => k_is); (case c => k_is); (case k => k_is))
    (case fLShowing => refine' K80.FF.of ?a ?l ?c ?k; (case a => k_is); (case l => k_is); (case c => k_is); (case k => k_is))
    (case fLText => refine' K80.FF.of ?a ?l ?c ?k; (case a => k_is); (case l => k_is); (case c => k_is); (case k => k_is))
    (case fLEdit => refine' K80.FF.of ?a ?l ?c ?k; (case a => k_is); (case l => k_is); (case c => k_is); (case k => k_is))
    (case fLPut => refine' K80.FF.of ?a ?l ?c ?k; (case a => k_is); (case l => k_is); (case c => k_is); (case k => k_is))
    (case fLLong => refine' K80.FF.of ?a ?l ?c ?k; (case a => k_is); (case l => k_is); (case c => k_is); (case k => k_is))
    (case fLEdits => refine' K80.FF.of ?a ?l ?c ?k; (case a => k_is); (case l => k_is); (case c => k_is); (case k => k_is))
    (case fLHeard => refine' K80.FF.of ?a ?l ?c ?k; (case a => k_is); (case l => k_is); (case c => k_is); (case k => k_is))
    (case fLaw => refine' K80.FF.of ?a ?l ?c ?k; (case a => k_is); (case l => k_is); (case c => k_is); (case k => k_is))
    (case mWInit => refine' K80.MF.of ?a ?i ?l ?c ?k; (case a => k_is); (case i => k_is); (case l => k_is); (case c => k_is); (case k => k_is))
    (case mWPut => refine' K80.MF.of ?a ?i ?l ?c ?k; (case a => k_is); (case i => k_is); (case l => k_is); (case c => k_is); (case k => k_is))
    (case mWMany => refine' K80.MF.of ?a ?i ?l ?c ?k; (case a => k_is); (case i => k_is); (case l => k_is); (case c => k_is); (case k => k_is))
    (case mWNext => refine' K80.MF.of ?a ?i ?l ?c ?k; (case a => k_is); (case i => k_is); (case l => k_is); (case c => k_is); (case k => k_is))
    (case mWForget => refine' K80.MF.of ?a ?i ?l ?c ?k; (case a => k_is); (case i => k_is); (case l => k_is); (case c => k_is); (case k => k_is))
    (case mSInit => refine' K80.MF.of ?a ?i ?l ?c ?k; (case a => k_is); (case i => k_is); (case l => k_is); (case c => k_is); (case k => k_is))
    (case mSSeen => refine' K80.MF.of ?a ?i ?l ?c ?k; (case a => k_is); (case i => k_is); (case l => k_is); (case c => k_is); (case k => k_is))
    (case mSWaiting => refine' K80.MF.of ?a ?i ?l ?c ?k; (case a => k_is); (case i => k_is); (case l => k_is); (case c => k_is); (case k => k_is))
    (case mSOff => refine' K80.MT.of ?a ?i ?l ?c ?k; (case a => k_is); (case i => k_is); (case l => k_is); (case c => k_is); (case k => k_is))
    (case mSShow => refine' K80.MT.of ?a ?i ?l ?c ?k; (case a => k_is); (case i => k_is); (case l => k_is); (case c => k_is); (case k => k_is))
    (case mSShowing => refine' K80.MF.of ?a ?i ?l ?c ?k; (case a => k_is); (case i => k_is); (case l => k_is); (case c => k_is); (case k => k_is))
    (case mSText => refine' K80.MF.of ?a ?i ?l ?c ?k; (case a => k_is); (case i => k_is); (case l => k_is); (case c => k_is); (case k => k_is))
    (case mSPlace => refine' K80.MF.of ?a ?i ?l ?c ?k; (case a => k_is); (case i => k_is); (case l => k_is); (case c => k_is); (case k => k_is))
    (case mSCarry => refine' K80.MF.of ?a ?i ?l ?c ?k; (case a => k_is); (case i => k_is); (case l => k_is); (case c => k_is); (case k => k_is))
    (case mSNext => refine' K80.MF.of ?a ?i ?l ?c ?k; (case a => k_is); (case i => k_is); (case l => k_is); (case c => k_is); (case k => k_is))
    (case mSMake => refine' K80.MF.of ?a ?i ?l ?c ?k; (case a => k_is); (case i => k_is); (case l => k_is); (case c => k_is); (case k => k_is))
    (case mSRoom => refine' K80.MF.of ?a ?i ?l ?c ?k; (case a => k_is); (case i => k_is); (case l => k_is); (case c => k_is); (case k => k_is))
    (case mSCheckNew => refine' K80.MF.of ?a ?i ?l ?c ?k; (case a => k_is); (case i => k_is); (case l => k_is); (case c => k_is); (case k => k_is))
    (case mSEdit => refine' K80.MF.of ?a ?i ?l ?c ?k; (case a => k_is); (case i => k_is); (case l => k_is); (case c => k_is); (case k => k_is))
    (case mSUndo => refine' K80.MF.of ?a ?i ?l ?c ?k; (case a => k_is); (case i => k_is); (case l => k_is); (case c => k_is); (case k => k_is))
    (case mSTake => refine' K80.MF.of ?a ?i ?l ?c ?k; (case a => k_is); (case i => k_is); (case l => k_is); (case c => k_is); (case k => k_is))
    (case mHInit => refine' K80.MF.of ?a ?i ?l ?c ?k; (case a => k_is); (case i => k_is); (case l => k_is); (case c => k_is); (case k => k_is))
    (case mHDo => refine' K80.MF.of ?a ?i ?l ?c ?k; (case a => k_is); (case i => k_is); (case l => k_is); (case c => k_is); (case k => k_is))
    (case mHHist => refine' K80.MF.of ?a ?i ?l ?c ?k; (case a => k_is); (case i => k_is); (case l => k_is); (case c => k_is); (case k => k_is))
    (case mHCan => refine' K80.MT.of ?a ?i ?l ?c ?k; (case a => k_is); (case i => k_is); (case l => k_is); (case c => k_is); (case k => k_is))
    (case mHTurn => refine' K80.MF.of ?a ?i ?l ?c ?k; (case a => k_is); (case i => k_is); (case l => k_is); (case c => k_is); (case k => k_is))
    (case t_n => exact PySem.W.km_tabs_of Y _ (by simp))
    (case k_n => kernel_rfl)
    (case q_n => kernel_rfl)
    (case t_s => exact PySem.W.km_tabs_of Y _ (by simp))
    (case k_s => kernel_rfl)
    (case q_s => kernel_rfl)
    (case t_e => exact PySem.W.km_tabs_of Y _ (by simp))
    (case k_e => kernel_rfl)
    (case q_e => kernel_rfl)
    (case t_r => exact PySem.W.km_tabs_of Y _ (by simp))
    (case k_r => kernel_rfl)
    (case q_r => kernel_rfl)
    (case t_o => exact PySem.W.km_tabs_of Y _ (by simp))
    (case k_o => kernel_rfl)
    (case q_o => kernel_rfl)
    (case t_d => exact PySem.W.km_tabs_of Y _ (by simp))
    (case k_d => kernel_rfl)
    (case q_d => kernel_rfl)
    (case t_c => exact PySem.W.km_tabs_of Y _ (by simp))
    (case k_c => kernel_rfl)
    (case q_c => kernel_rfl)
    (case lk => exact ⟨⟨_, _, rfl, rfl⟩, ⟨_, _, rfl, rfl⟩, ⟨_, _, rfl, rfl⟩, trivial⟩)
    (case sL => decide)
